import PyProof.Rows.All
import Wide.All
import OpenK.AllK
import Wide.FinOn
import HandS.ForMost
import HandS.Evl
import HandS.IsInst
import HandS.ClsMeth
import HandS.Flow
import HandS.TupAny
import HandS.Walk
import HandS.Defaults
import HandS.Deep
import PyProof.ReprReads
import HandS.SlotsOwn
import HandS.MakeKw
import HandS.MakeKwOnly
import HandS.FStr
import HandS.More
import KE.KCallOwn
import PyProof.InstNe
import HandS.ExcInit
import HandS.ExcSuper
import HandS.ExcField
import HandS.ExcIs
import KE.KExcIs
import KE.KIsAll
import KE.KSuper
import KE.KExcSuper
import PyProof.EqKinds
import HandS.Dict
import HandS.SetFor
import HandS.Lambda
import HandS.EndBits
import HandS.EndTab
import HandS.WordsExc
import KE.KNestM
import OpenK.KOps
import KE.KOpsOwn
import HandS.Conv
import KE.BitLaws
import PyProof.Ascii
import PyProof.Rows.ReprOcc
import PyProof.FitsInt
import PyProof.ReprNest
import PyProof.ReprRoads
import HandS.Strs
import HandS.SortInts
import HandS.DictComp
import HandS.GenList
import HandS.Zip
import PyProof.Draws
import PyProof.EnumMake
import KE.GoesMore
import PyProof.ReprLen
import HandS.Property
import HandS.SortRule
import HandS.Style
import PyProof.StrOps2
import HandS.Star
import PyProof.ZipIter
import HandS.Wide
import HandS.TupLe
import PySem.Challenge.RW_keptbits_k20_registers_made
set_option Elab.async false
set_option linter.all false
set_option maxRecDepth 100000
set_option maxHeartbeats 4000000
/-! KB: own helpers over the hand layer: callees bundled, match, readings as steps. -/
namespace KB
open PySem PySem.Spec PyProof.Rows L2

section
variable {X : Cx}
/-! ### callees -/
structure Callee (P : Program) (w : World) (K : PySem.W.Frag) (mg : Str → Option Value) (base : Heap) (CX : CXT) (k : Nat) (x : Str) (ps : List Str) (sp : Sp) : Prop where
  ex : ∃ (f : Addr) (fd : FuncData), FnOk P w K mg base CX k f fd ps sp ∧ mg x = some (.ref f) ∧ PySem.W.keepIn K (.ref f) = true ∧ Binds K fd ps []
structure CalleeM (P : Program) (w : World) (K : PySem.W.Frag) (mg : Str → Option Value) (base : Heap) (CX : CXT) (k : Nat) (C : Addr) (m : Str) (ps : List Str) (sp : Sp) : Prop where
  ex : ∃ (f : Addr) (fd : FuncData), FnOk P w K mg base CX k f fd ps sp ∧ Meth K C m f ∧ Binds K fd ps []
  cl : Cls K C
structure CalleeI (P : Program) (w : World) (K : PySem.W.Frag) (mg : Str → Option Value) (base : Heap) (CX : CXT) (k : Nat) (C : Addr) (x : Str) (ps : List Str) (sp : Sp) : Prop where
  ex : ∃ (f : Addr) (fd : FuncData), FnOk P w K mg base CX k f fd ps sp ∧ Mk K C f ∧ mg x = some (.ref C) ∧ Binds K fd ps []
theorem pe_callC {CX : CXT} {k : Nat} {x : Str} {ps : List Str} {sp : Sp} {E : XK} {e : Expr} {es : List Expr} {p pos : Pos} {t : TA} (c : Callee X.prog X.w X.K X.mg X.base CX k x ps sp) (hr : Room k X.A) (hg : Gl X x) (hx : Passes CX X E) (ha : PA X (e :: es) t)
    (hdb : (x == ("__debug__" : Str)) = false := by decide) (he : starEach (e :: es) X.env = (false, eval e X.env) :: starEach es X.env := by rfl) (hpl : (backTo pos (starEach es X.env)).any (·.1) = false := by rfl) :
    PE X (.Call (.Name x p) (e :: es) [] pos) (tCall sp [] E t) := by
  obtain ⟨f, fd, F, hm, hk, hb⟩ := c.ex
  exact pe_call F hr hg hm hk hb .nil hx ha hdb he hpl
theorem pe_callC0 {CX : CXT} {k : Nat} {x : Str} {ps : List Str} {sp : Sp} {E : XK} {p pos : Pos} (c : Callee X.prog X.w X.K X.mg X.base CX k x ps sp) (hr : Room k X.A) (hg : Gl X x) (hx : Passes CX X E)
    (hdb : (x == ("__debug__" : Str)) = false := by decide) :
    PE X (.Call (.Name x p) [] [] pos) (tCall sp [] E tNil) := by
  obtain ⟨f, fd, F, hm, hk, hb⟩ := c.ex
  exact pe_call0 F hr hg hm hk hb .nil hx hdb
theorem pe_methC {pl : Sem Bool} {CX : CXT} {k : Nat} {C : Addr} {m : Str} {ps : List Str} {sp : Sp} {E : XK} {o e : Expr} {es : List Expr} {apos pos : Pos} {ta : TE} {t : TA} (c : CalleeM X.prog X.w X.K X.mg X.base CX k C m ps sp) (ho : PE X o ta) (hr : Room k X.A) (hx : Passes CX X E) (ha : PA X (e :: es) t)
    (hst : starEach (e :: es) X.env = (false, eval e X.env) :: starEach es X.env := by rfl) (hpl : (backTo pos (starEach es X.env)).any (·.1) = false := by rfl)
    (ht : eval (.Call (.Attribute o m apos) (e :: es) [] pos) X.env = (do
      let ov ← eval o X.env
      standAt apos.atName
      let (f, first) ← holding [ov] (getMethod ov m pl)
      callWith pos f first (backTo pos (starEach (e :: es) X.env)) (backToKw pos (keywordEach [] X.env))) := by rfl) :
    PE X (.Call (.Attribute o m apos) (e :: es) [] pos) (tMeth C m sp [] E ta t) := by
  obtain ⟨f, fd, F, hm, hb⟩ := c.ex
  exact pe_meth ho c.cl hm F hr hb .nil hx ha hst hpl ht
theorem pe_methC0 {pl : Sem Bool} {CX : CXT} {k : Nat} {C : Addr} {m : Str} {ps : List Str} {sp : Sp} {E : XK} {o : Expr} {apos pos : Pos} {ta : TE} (c : CalleeM X.prog X.w X.K X.mg X.base CX k C m ps sp) (ho : PE X o ta) (hr : Room k X.A) (hx : Passes CX X E)
    (ht : eval (.Call (.Attribute o m apos) [] [] pos) X.env = (do
      let ov ← eval o X.env
      standAt apos.atName
      let (f, first) ← holding [ov] (getMethod ov m pl)
      callWith pos f first [] (backToKw pos (keywordEach [] X.env))) := by rfl) :
    PE X (.Call (.Attribute o m apos) [] [] pos) (tMeth C m sp [] E ta tNil) := by
  obtain ⟨f, fd, F, hm, hb⟩ := c.ex
  exact pe_meth0 ho c.cl hm F hr hb .nil hx ht
theorem pe_makeC {CX : CXT} {k : Nat} {C : Addr} {x : Str} {ps : List Str} {sp : Sp} {E : XK} {e : Expr} {es : List Expr} {p pos : Pos} {t : TA} (c : CalleeI X.prog X.w X.K X.mg X.base CX k C x ps sp) (hr : Room (k + 1) X.A) (hg : Gl X x) (hx : Passes CX X E) (ha : PA X (e :: es) t)
    (hdb : (x == ("__debug__" : Str)) = false := by decide) (he : starEach (e :: es) X.env = (false, eval e X.env) :: starEach es X.env := by rfl) (hpl : (backTo pos (starEach es X.env)).any (·.1) = false := by rfl) :
    PE X (.Call (.Name x p) (e :: es) [] pos) (tMake C sp [] E t) := by
  obtain ⟨f, fd, F, M, hm, hb⟩ := c.ex
  exact pe_make M F hr hg hm hb .nil hx ha hdb he hpl

/-- a def with defaults, called without them; called by keywords -/
structure CalleeD (P : Program) (w : World) (K : PySem.W.Frag) (mg : Str → Option Value) (base : Heap) (CX : CXT) (k : Nat) (x : Str) (ps : List Str) (sp : Sp) (dvs : List V) : Prop where
  ex : ∃ (f : Addr) (fd : FuncData) (ds : List Value), FnOk P w K mg base CX k f fd ps sp ∧ mg x = some (.ref f) ∧ PySem.W.keepIn K (.ref f) = true ∧ Binds K fd ps ds ∧ Vals dvs ds
structure CalleeKw (P : Program) (w : World) (K : PySem.W.Frag) (mg : Str → Option Value) (base : Heap) (CX : CXT) (k : Nat) (x : Str) (ps : List Str) (sp : Sp) (n : Nat) (ks : List Str) (gV : List V → List V → List V) : Prop where
  ex : ∃ (f : Addr) (fd : FuncData) (g : List Value → List Value → List Value), FnOk P w K mg base CX k f fd ps sp ∧ mg x = some (.ref f) ∧ PySem.W.keepIn K (.ref f) = true ∧ KBn K fd ps n ks g gV
theorem pe_callD {CX : CXT} {k : Nat} {x : Str} {ps : List Str} {sp : Sp} {dvs : List V} {E : XK} {e : Expr} {es : List Expr} {p pos : Pos} {t : TA} (c : CalleeD X.prog X.w X.K X.mg X.base CX k x ps sp dvs) (hr : Room k X.A) (hg : Gl X x) (hx : Passes CX X E) (ha : PA X (e :: es) t)
    (hdb : (x == ("__debug__" : Str)) = false := by decide) (he : starEach (e :: es) X.env = (false, eval e X.env) :: starEach es X.env := by rfl) (hpl : (backTo pos (starEach es X.env)).any (·.1) = false := by rfl) :
    PE X (.Call (.Name x p) (e :: es) [] pos) (tCall sp dvs E t) := by
  obtain ⟨f, fd, ds, F, hm, hk, hb, hd⟩ := c.ex
  exact pe_call F hr hg hm hk hb hd hx ha hdb he hpl
theorem pe_callKw {CX : CXT} {k n : Nat} {x : Str} {ps ks : List Str} {sp : Sp} {gV : List V → List V → List V} {E : XK} {e : Expr} {es : List Expr} {kws : List Keyword} {p pos : Pos} {t tk : TA} (c : CalleeKw X.prog X.w X.K X.mg X.base CX k x ps sp n ks gV) (hr : Room k X.A) (hg : Gl X x) (hx : Passes CX X E)
    (ha : PA X (e :: es) t) (hkw : PK X kws tk) (hall : (backToKw pos (keywordEach kws X.env)).all (·.1.isSome) = true := by rfl) (hks : (backToKw pos (keywordEach kws X.env)).filterMap (·.1) = ks := by rfl)
    (hdb : (x == ("__debug__" : Str)) = false := by decide) (he : starEach (e :: es) X.env = (false, eval e X.env) :: starEach es X.env := by rfl)
    (hpl : ((backTo pos (starEach (e :: es) X.env)).any (·.1) || (backToKw pos (keywordEach kws X.env)).any (·.1.isNone)) = false := by rfl) :
    PE X (.Call (.Name x p) (e :: es) kws pos) (tCallN n ks.length sp gV E t tk) := by
  obtain ⟨f, fd, g, F, hm, hk, hb⟩ := c.ex
  exact pe_callN F hr hg hm hk hb hx ha hkw hall hks hdb he hpl
theorem hu65 {A : Around} {k : Nat} (hr : Room k A) : A.units + 65 < cLine := by have := hr.un; omega
/-! ### match over written texts -/
structure PM (X : Cx) (cs : List MatchCase) (tm : V → TS) : Prop where
  run : ∀ (pins : List (Addr × Obj)) (s : Shared) (σ : L2.St) (H : Hp) (D : Ends) (v : V) (u : Value) (first : Bool), Inv X pins σ H s → RelV v u → tm v D σ H → wpAny (model X.prog X.w) X.A (matchCases cs X.env u first) (SP X pins D) X.xe s
def tmNil : V → TS := fun _ D σ H => D.nx σ H
def tmStr (x : Str) (t : TS) (tr : V → TS) : V → TS := fun v D σ H => ∃ y, v = .str y ∧ if decide (y = x) = true then t D σ H else tr v D σ H
def tMatch (te : TE) (tm : V → TS) : TS := fun D σ H => te σ H fun x H1 => tm x D σ H1
theorem pm_nil : PM X [] tmNil := ⟨fun _ _ σ H _ _ _ _ I _ h => wpAny_matchCases_nil ⟨σ, H, I, h⟩⟩
theorem pm_str {x : Str} {j : _} {pos pos' : Pos} {body : List Stmt} {rest : List MatchCase} {t : TS} {tr : V → TS} (hb : PSs X body t) (hr : PM X rest tr) : PM X (⟨.MatchValue (.Constant (.str x) j pos) pos', none, body⟩ :: rest) (tmStr x t tr) := by
  refine ⟨fun pins s σ H D v u first I r h => ?_⟩
  obtain ⟨y, rfl, h⟩ := h
  refine wpAny_matchCases_cons (wpAny_matchPattern_Value ?_)
  refine thn (pe_str.run pins s σ H (fun v' H' => v' = .str x ∧ H' = H) I ⟨rfl, rfl⟩) fun u1 s1 ⟨v1, H1, I1, r1, e1, e2⟩ => ?_
  subst e1 e2
  refine thn (op_eq pins s1 σ H1 (.str y) (.str x) u u1 (fun v' H' => v' = .bl (decide (y = x)) ∧ H' = H1) I1 r r1 ⟨rfl, ?_, rfl⟩) fun u2 s2 ⟨v2, H2, I2, r2, e3, e4⟩ => ?_
  · congr 1
    by_cases e : y = x
    · subst e; simp
    · simp [e]
  subst e3 e4
  obtain rfl : u2 = Value.bool (decide (y = x)) := r2
  refine wpAny_truthy_bool ?_
  by_cases e : y = x
  · rw [if_pos (decide_eq_true e)]
    rw [if_pos (decide_eq_true e)] at h
    refine wpAny_assignInOrder_none ?_
    exact hb.run pins s2 σ H2 D I2 h
  · rw [if_neg (by simp [e])]
    rw [if_neg (by simp [e])] at h
    exact hr.run pins s2 σ H2 D _ u false I2 r h
theorem ps_match {e : Expr} {cs : List MatchCase} {pos : Pos} {te : TE} {tm : V → TS} (he : PE X e te) (hm : PM X cs tm) : PS X (.Match e cs pos) (tMatch te tm) := by
  refine ⟨fun pins s σ H D I h => ?_⟩
  refine wpAny_Match (thn (he.run pins s σ H _ I h) fun u s1 ⟨x, H1, I1, r1, q1⟩ => ?_)
  exact hm.run pins s1 σ H1 D x u true I1 r1 q1
end

/-! ### readings as steps -/
def ForW (J : It) (g : TG) (tb : TS) (D : Ends) (σ : L2.St) (H : Hp) : Prop := ∃ W : Nat → Nat → L2.St → Hp → Prop, (∃ m, W 0 m σ H) ∧ ∀ i m σ H, W i m σ H →
      (J.stop i H ∧ D.nx σ H) ∨ (J.go i H ∧ ∃ N : L2.St → Hp → Prop, (∀ σ' H', N σ' H' → ∃ m', m' < m ∧ W (i + 1) m' σ' H') ∧ ∀ x H', J.yld i H x H' → g x σ H' fun σ2 H2 => tb { D with nx := N, ct := N, bk := D.nx } σ2 H2)
def LcW (J : It) (g : TG) (tt : TT) (te : TE) (vs : List Nat) (σ : L2.St) (H1 : Hp) (Q : VK) : Prop := ∀ D, H1 D = none → ∃ W : Nat → Nat → Hp → Prop, (∃ m, W 0 m (upd H1 D (.lst []))) ∧ ∀ i m H, W i m H →
  (J.stop i H ∧ Q (.ref D) H) ∨ (J.go i H ∧ ∃ Nx : Hp → Prop, (∀ H', Nx H' → ∃ m', m' < m ∧ W (i + 1) m' H') ∧ ∀ x H', J.yld i H x H' → g x (wipe σ vs) H' fun σ2 H2 => wipe σ2 vs = wipe σ vs ∧ tt σ2 H2 fun b H3 =>
    if b = true then te σ2 H3 fun y H4 => ∃ acc, H4 D = some (.lst acc) ∧ acc.length < sizeLine ∧ Nx (upd H4 D (.lst (acc ++ [y]))) else Nx H3)
theorem forW {J : It} {n : Nat} {G : Hp → Prop} {Y : Nat → Hp → V → Hp → Prop} (wk : Walk J n G Y) {g : TG} {tb : TS} {D : Ends} {σ : L2.St} {H : Hp} (Pv : Nat → L2.St → Hp → Prop) (h0 : Pv 0 σ H) (hG : ∀ i σ H, i ≤ n → Pv i σ H → G H)
    (hs : ∀ i x σ H H', i < n → Pv i σ H → Y i H x H' → g x σ H' fun σ2 H2 => tb { D with nx := Pv (i + 1), ct := Pv (i + 1), bk := D.nx } σ2 H2) (hd : ∀ σ H, Pv n σ H → D.nx σ H) : ForW J g tb D σ H := for_it wk Pv h0 hG hs hd
section
variable {K : PySem.W.Frag} {σ : L2.St} {H : Hp} {D : Ends} {ta tb tc te : TE} {tA tr : TA} {t u : TT} {t1 t2 tu : TS} {x y v : V} {Q : VK} {QT : Bool → Hp → Prop} {QA : List V → Hp → Prop} {R : It → Hp → Prop} {i : Nat} {a p : Addr} {xs ys : List V}
theorem r_var (h : σ[i]? = some (some v)) (q : Q v H) : tVar i σ H Q := ⟨v, h, q⟩
theorem r_c (q : Q v H) : tC v σ H Q := q
theorem r_op {r : R2} (q : ta σ H fun x H1 => tb σ H1 fun y H2 => r x y H2 Q) : tOp r ta tb σ H Q := q
theorem r_un {r : V → Hp → VK → Prop} (q : ta σ H fun x H1 => r x H1 Q) : tUn r ta σ H Q := q
theorem r_I0 {g : Int → Int → V} {m n : Int} (q : Q (g m n) H) : rI0 g (.int m) (.int n) H Q := ⟨m, n, rfl, rfl, q⟩
theorem r_I {C : Int → Int → Prop} {g : Int → Int → V} {m n : Int} (hc : C m n) (q : Q (g m n) H) : rI C g (.int m) (.int n) H Q := ⟨m, n, rfl, rfl, hc, q⟩
theorem r_U {g : Int → V} {m : Int} (q : Q (g m) H) : rU g (.int m) H Q := ⟨m, rfl, q⟩
theorem r_eq (h : scal x y = true) (q : Q (.bl (decide (x = y))) H) : rEq x y H Q := ⟨h, q⟩
theorem r_ne (h : scal x y = true) (q : Q (.bl (!decide (x = y))) H) : rNe x y H Q := ⟨h, q⟩
theorem r_test (q : te σ H fun x H' => ∃ k, x = .bl k ∧ QT k H') : tTest te σ H QT := q
theorem r_B (q : te σ H fun x H' => ∃ k, x = .bl k ∧ QT k H') : tB te σ H QT := q
theorem r_bl {b : Bool} {q : Bool → Prop} (h : q b) : ∃ k, V.bl b = .bl k ∧ q k := ⟨b, rfl, h⟩
theorem r_and (q : t σ H fun c H1 => if c = true then u σ H1 QT else QT false H1) : tAnd t u σ H QT := q
theorem r_or (q : t σ H fun c H1 => if c = true then QT true H1 else u σ H1 QT) : tOr t u σ H QT := q
theorem r_not (q : t σ H fun c H1 => QT (!c) H1) : tNot t σ H QT := q
theorem r_andV (q : ta σ H fun x H1 => ∃ c, x = .bl c ∧ if c = true then tb σ H1 Q else Q (.bl false) H1) : tAndV ta tb σ H Q := q
theorem r_orV (q : ta σ H fun x H1 => ∃ c, x = .bl c ∧ if c = true then Q (.bl true) H1 else tb σ H1 Q) : tOrV ta tb σ H Q := q
theorem r_notV (q : ta σ H fun x H1 => ∃ c, x = .bl c ∧ Q (.bl (!c)) H1) : tNotV ta σ H Q := q
theorem r_if (q : t σ H fun c H1 => if c = true then ta σ H1 Q else tb σ H1 Q) : tIf t ta tb σ H Q := q
theorem r_nil (q : QA [] H) : tNil σ H QA := q
theorem r_cons (q : ta σ H fun x H1 => tr σ H1 fun xs H2 => QA (x :: xs) H2) : tCons ta tr σ H QA := q
theorem r_tup (q : tA σ H fun xs H1 => xs.length ≤ sizeLine ∧ ∀ p, H1 p = none → Q (.ref p) (upd H1 p (.tup xs))) : tTup tA σ H Q := q
theorem r_lst (q : tA σ H fun xs H1 => xs.length ≤ sizeLine ∧ ∀ p, H1 p = none → Q (.ref p) (upd H1 p (.lst xs))) : tLst tA σ H Q := q
theorem r_call {sp : Sp} {E : XK} (q : tA σ H fun vs H1 => sp (vs ++ []) H1 Q E) : tCall sp [] E tA σ H Q := q
theorem r_cb {r : List V → Hp → VK → Prop} (q : tA σ H fun vs H1 => r vs H1 Q) : tCB r tA σ H Q := q
theorem r_ixL {n : Int} (h : SqL K H p xs) (ha : atI xs n = some v) (q : Q v H) : rIxL K (.ref p) (.int n) H Q := ⟨p, xs, n, v, rfl, rfl, h, ha, q⟩
theorem r_ixT {n : Int} (h : SqT K H p xs) (ha : atI xs n = some v) (q : Q v H) : rIxT K (.ref p) (.int n) H Q := ⟨p, xs, n, v, rfl, rfl, h, ha, q⟩
theorem r_ixS {z : Str} {n : Int} {c : Nat} (hz : z.length ≤ sizeLine) (ha : atI z.cps.toList n = some c) (q : Q (.str ⟨#[c]⟩) H) : rIxS (.str z) (.int n) H Q := ⟨z, n, c, rfl, rfl, hz, ha, q⟩
theorem r_setL {n : Int} {j : Nat} {QH : Hp → Prop} (h : H p = some (.lst xs)) (hj : ixN xs.length n = some j) (q : QH (upd H p (.lst (xs.set j v)))) : rSetL (.ref p) (.int n) v H QH := ⟨p, xs, n, j, rfl, rfl, h, hj, q⟩
theorem r_fld {f : Str} (q : ta σ H fun x H1 => ∃ a C dx fs v, x = .ref a ∧ H1 a = some (.ins C dx fs) ∧ Cls K C ∧ NoAttr K C f ∧ fs.lookup f = some v ∧ Q v H1) : tFld K ta f σ H Q := q
theorem r_meth {C : Addr} {m : Str} {sp : Sp} {E : XK} (q : ta σ H fun x H1 => ∃ a dx fs, x = .ref a ∧ H1 a = some (.ins C dx fs) ∧ fs.lookup m = none ∧ tA σ H1 fun vs H2 => sp (x :: (vs ++ [])) H2 Q E) : tMeth C m sp [] E ta tA σ H Q := q
theorem r_cval {C : Addr} {mc : Value} {f : Str} {uu : Value} (h1 : ClX.CRead K C mc) (h2 : ClX.CVal K C mc f v uu) (q : Q v H) : ClX.tCVal K (tC (.ref C)) f σ H Q := ⟨C, mc, v, uu, rfl, h1, h2, q⟩
theorem r_fldV {C dx : Addr} {fs : List (Str × V)} {f : Str} (hp : H a = some (.ins C dx fs)) (hc : Cls K C) (hn : NoAttr K C f) (hl : fs.lookup f = some v) (hv : σ[i]? = some (some (.ref a))) (q : Q v H) : tFld K (tVar i) f σ H Q := ⟨.ref a, hv, a, C, dx, fs, v, rfl, hp, hc, hn, hl, q⟩
theorem r_sfld {f : Str} {tv : TE} (q : tv σ H fun y H1 => ta σ H1 fun x H2 => ∃ a C dx fs, x = .ref a ∧ H2 a = some (.ins C dx fs) ∧ Cls K C ∧ NoAttr K C f ∧ fs.length < 1000 ∧ D.nx σ (upd H2 a (.ins C dx (putF f y fs)))) : sFld K ta tv f D σ H := q
theorem r_itup (q : te σ H fun x H1 => ∃ a, x = .ref a ∧ (∃ xs, SqT K H1 a xs) ∧ R (Itt K a) H1) : iTup K te σ H R := q
theorem r_ilist (q : te σ H fun x H1 => ∃ a, x = .ref a ∧ (∃ xs, SqL K H1 a xs) ∧ R (Itl K a) H1) : iList K te σ H R := q
theorem r_istr (q : te σ H fun v H1 => ∃ x, v = .str x ∧ R (Its x) H1) : iStr te σ H R := q
theorem r_m1 {r : V → List V → Hp → VK → Prop} (q : ta σ H fun x H1 => (∃ a, x = .str a) ∧ te σ H1 fun y H2 => r x [y] H2 Q) : tM1 r ta te σ H Q := q
theorem r_m0 {r : V → List V → Hp → VK → Prop} (q : ta σ H fun x H1 => (∃ a, x = .str a) ∧ r x [] H1 Q) : tM0 r ta σ H Q := q
theorem r_isStr {z : Str} {B : Prop} (g : B) : (∃ a, V.str z = .str a) ∧ B := ⟨⟨z, rfl⟩, g⟩
theorem r_exStr {z : Str} {q : Str → Prop} (g : q z) : ∃ x, V.str z = .str x ∧ q x := ⟨z, rfl, g⟩
theorem r_gname {QG : L2.St → Hp → Prop} (q : QG (σ.set i (some v)) H) : gName i v σ H QG := q
theorem r_callD {sp : Sp} {dvs : List V} {E : XK} (q : tA σ H fun vs H1 => sp (vs ++ dvs) H1 Q E) : tCall sp dvs E tA σ H Q := q
theorem r_callN {n m : Nat} {sp : Sp} {gV : List V → List V → List V} {E : XK} {tk : TA} (q : tA σ H fun vs H1 => tk σ H1 fun zs H2 => vs.length = n ∧ zs.length = m ∧ sp (gV vs zs) H2 Q E) : tCallN n m sp gV E tA tk σ H Q := q
theorem r_dget1 (q : ta σ H fun x H1 => ∃ a, x = .ref a ∧ IsD H1 a ∧ tb σ H1 fun y H2 => ∃ o, DGet H2 a y o ∧ Q (o.getD .non) H2) : tDGet1 ta tb σ H Q := q
theorem r_dget (q : ta σ H fun x H1 => tb σ H1 fun y H2 => ∃ a v, x = .ref a ∧ DGet H2 a y (some v) ∧ Q v H2) : tDGet ta tb σ H Q := q
theorem r_disp {trs : List (TE × TE)} (q : ∀ p, H p = none → tPairs trs σ (upd H p (.dK [])) fun ps H2 => H2 p = some (.dK []) ∧ ∃ kvs : List (Key × V), ps = kvs.map (fun kv => (kV kv.1, kv.2)) ∧ kvs.length ≤ 15 ∧ Q (.ref p) (upd H2 p (.dK (mergeK [] kvs)))) : tDisp trs σ H Q := q
theorem r_pairs {trs : List (TE × TE)} {QP : List (V × V) → Hp → Prop} (q : ta σ H fun x H1 => tb σ H1 fun y H2 => tPairs trs σ H2 fun ps H3 => QP ((x, y) :: ps) H3) : tPairs ((ta, tb) :: trs) σ H QP := q
theorem r_pairs0 {QP : List (V × V) → Hp → Prop} (q : QP [] H) : tPairs [] σ H QP := q
theorem r_fldK {C dx : Addr} {fs : List (Str × V)} {f : Str} {G : V → Prop} (hp : H p = some (.ins C dx fs)) (hc : Cls K C) (hn : NoAttr K C f) (hl : fs.lookup f = some v) (q : G v) :
    ∃ a C dx fs v, V.ref p = .ref a ∧ H a = some (.ins C dx fs) ∧ Cls K C ∧ NoAttr K C f ∧ fs.lookup f = some v ∧ G v := ⟨p, C, dx, fs, v, rfl, hp, hc, hn, hl, q⟩
theorem r_gtup {n : Nat} {gs : TGs} {QG : L2.St → Hp → Prop} (h : SqT K H a xs) (hn : xs.length = n) (q : gs xs σ H QG) : gTup K n gs (.ref a) σ H QG := ⟨a, xs, rfl, h, hn, q⟩
theorem r_gcons {g : TG} {gs : TGs} {QG : L2.St → Hp → Prop} (q : g v σ H fun σ' H' => gs xs σ' H' QG) : gCons g gs (v :: xs) σ H QG := ⟨v, xs, rfl, q⟩
theorem r_gnil {QG : L2.St → Hp → Prop} (q : QG σ H) : gNil [] σ H QG := ⟨rfl, q⟩
theorem r_asgG {g : TG} (q : te σ H fun x H1 => g x σ H1 D.nx) : tAsg te g D σ H := q
theorem r_rng2 {m n : Int} {q : Int → Int → Prop} (h : q m n) : ∃ i j : Int, [V.int m, V.int n] = [.int i, .int j] ∧ q i j := ⟨m, n, rfl, h⟩
theorem r_irng2 (q : tA σ H fun vs H1 => ∃ i j : Int, vs = [.int i, .int j] ∧ (-(2 ^ 62) ≤ i ∧ i < 2 ^ 62 ∧ -(2 ^ 62) ≤ j ∧ j < 2 ^ 62) ∧ R (Itr i (j - i).toNat) H1) : iRng2 tA σ H R := q
theorem r_cat {p' : Addr} (h : H p = some (.lst xs)) (h' : H p' = some (.lst ys)) (hl : xs.length + ys.length ≤ sizeLine) (g : ∀ c, H c = none → Q (.ref c) (upd H c (.lst (xs ++ ys)))) : rCat (.ref p) (.ref p') H Q := ⟨p, p', xs, ys, rfl, rfl, h, h', hl, g⟩
theorem r_bm {T : String} {r : V → List V → Hp → VK → Prop} (q : ta σ H fun x H1 => tyV K T x H1 ∧ tA σ H1 fun xs H2 => r x xs H2 Q) : tBM K T r ta tA σ H Q := q
theorem r_tyL {B : Prop} (h : SqL K H p xs) (g : B) : tyV K "list" (.ref p) H ∧ B := ⟨.inl ⟨rfl, xs, h⟩, g⟩
theorem r_append (h : H p = some (.lst xs)) (hl : xs.length < sizeLine) (q : Q .non (upd H p (.lst (xs ++ [v])))) : rAppend (.ref p) [v] H Q := ⟨p, xs, v, rfl, rfl, h, hl, q⟩
theorem r_seq (q : t1 { D with nx := t2 D } σ H) : tSeq t1 t2 D σ H := q
theorem r_next (q : D.nx σ H) : tNext D σ H := q
theorem r_asg (q : te σ H fun x H1 => D.nx (σ.set i (some x)) H1) : tAsg te (gName i) D σ H := q
theorem r_asgS {s : TSet} (q : te σ H fun v H1 => ta σ H1 fun o H2 => tb σ H2 fun i H3 => s o i v H3 fun H4 => D.nx σ H4) : tAsg te (gSub ta tb s) D σ H := q
theorem r_ifS (q : t σ H fun b H1 => if b = true then t1 D σ H1 else t2 D σ H1) : tIfS t t1 t2 D σ H := q
theorem r_dput (q : tc σ H fun v H1 => ta σ H1 fun x H2 => tb σ H2 fun y H3 => ∃ a H4, x = .ref a ∧ DPut H3 a y v H4 ∧ D.nx σ H4) : sDPut ta tb tc D σ H := q
theorem r_ret (q : te σ H D.rt) : tRet te D σ H := q
theorem r_drop (q : te σ H fun _ H1 => D.nx σ H1) : tDrop te D σ H := q
theorem r_par {k j : Nat} (q : tA σ H fun vs H1 => ∃ v w, vs = [v, w] ∧ D.nx ((σ.set k (some v)).set j (some w)) H1) : tPar k j tA D σ H := q
theorem r_aug {tip : TIp} (h : σ[i]? = some (some x)) (q : te σ H fun y H1 => tip x y H1 fun z H2 => D.nx (σ.set i (some z)) H2) : tAug i te tip D σ H := ⟨x, h, q⟩
theorem r_match {tm : V → TS} (q : te σ H fun x H1 => tm x D σ H1) : tMatch te tm D σ H := q
theorem r_mstr {x y : Str} {tm : V → TS} (q : if decide (y = x) = true then t1 D σ H else tm (.str y) D σ H) : tmStr x t1 tm (.str y) D σ H := ⟨y, rfl, q⟩
theorem r_mnil (q : D.nx σ H) : tmNil v D σ H := q
theorem r_sl {r : V → Option Int → Option Int → Hp → VK → Prop} {tl th : TO} (q : te σ H fun x H1 => tl σ H1 fun l H2 => th σ H2 fun u H3 => r x l u H3 Q) : tSl r te tl th σ H Q := q
theorem r_nopart {QO : Option Int → Hp → Prop} (q : QO none H) : tNoPart σ H QO := q
theorem r_part {QO : Option Int → Hp → Prop} (q : te σ H fun x H1 => ∃ i, x = .int i ∧ QO (some i) H1) : tPart te σ H QO := q
theorem r_int {m : Int} {q : Int → Prop} (h : q m) : ∃ k, V.int m = .int k ∧ q k := ⟨m, rfl, h⟩
theorem r_int1 {m : Int} {q : Int → Prop} {B : Prop} (h : q m) : (∃ i, [V.int m] = [V.int i] ∧ q i) ∨ B := .inl ⟨m, rfl, h⟩
theorem r_bl1 {b : Bool} {q : Bool → Prop} {A : Prop} (h : q b) : A ∨ ∃ k, [V.bl b] = [V.bl k] ∧ q k := .inr ⟨b, rfl, h⟩
theorem r_ex1 {m : Int} {q : Int → Prop} (h : q m) : ∃ i, [V.int m] = [V.int i] ∧ q i := ⟨m, rfl, h⟩
theorem r_ex2 {m n : Int} {q : Int → Int → Prop} (h : q m n) : ∃ i j, [V.int m, V.int n] = [V.int i, V.int j] ∧ q i j := ⟨m, n, rfl, h⟩
theorem r_lenS {q : List V → Prop} (h : SqL K H p xs) (g : q xs) : ∃ a ys, [V.ref p] = [V.ref a] ∧ (SqL K H a ys ∨ SqT K H a ys) ∧ q ys := ⟨p, xs, rfl, .inl h, g⟩
theorem r_slL {lo hi : Option Int} (h : SqL K H p xs) (q : ∀ c, H c = none → Q (.ref c) (upd H c (.lst (cutV xs lo hi)))) : rSlL K (.ref p) lo hi H Q := ⟨p, xs, rfl, h, q⟩
theorem r_for {wi : TI} {g : TG} (q : wi σ H fun J H1 => ForW J g t1 D σ H1) : tFor wi g t1 D σ H := q
theorem r_lc {wi : TI} {g : TG} {tt : TT} {vs : List Nat} (q : wi σ H fun J H1 => LcW J g tt te vs σ H1 Q) : tLc wi g tt te vs σ H Q := q
theorem r_irng1 (q : tA σ H fun vs H1 => ∃ j : Int, vs = [.int j] ∧ -(2 ^ 62) ≤ j ∧ j < 2 ^ 62 ∧ R (Itr 0 j.toNat) H1) : iRng1 tA σ H R := q
theorem r_iteT {c : Prop} [Decidable c] {A B : Prop} (h : c) (q : A) : if decide c = true then A else B := by rw [if_pos (decide_eq_true h)]; exact q
theorem r_iteF {c : Prop} [Decidable c] {A B : Prop} (h : ¬ c) (q : B) : if decide c = true then A else B := by rw [if_neg (by simpa using h)]; exact q
theorem r_iteNT {c : Prop} [Decidable c] {A B : Prop} (h : ¬ c) (q : A) : if (!decide c) = true then A else B := by rw [if_pos (by simpa using h)]; exact q
theorem r_iteNF {c : Prop} [Decidable c] {A B : Prop} (h : c) (q : B) : if (!decide c) = true then A else B := by rw [if_neg (by simpa using h)]; exact q
theorem ite_join {c : Prop} [Decidable c] (Z : VK) (h1 : c → ∀ Q : VK, (∀ v H', Z v H' → Q v H') → ta σ H Q) (h2 : ¬ c → ∀ Q : VK, (∀ v H', Z v H' → Q v H') → tb σ H Q) (q : ∀ v H', Z v H' → Q v H') : if decide c = true then ta σ H Q else tb σ H Q := by
  by_cases h : c
  · rw [if_pos (decide_eq_true h)]; exact h1 h Q q
  · rw [if_neg (by simpa using h)]; exact h2 h Q q
theorem r_make {C : Addr} {sp : Sp} {E : XK} (q : tA σ H fun vs H1 => ∀ x dx, H1 x = none → H1 dx = none → dx ≠ x → sp (.ref x :: (vs ++ [])) (upd (upd H1 dx (.own x)) x (.ins C dx [])) (fun v H2 => v = .non ∧ Q (.ref x) H2) E) : tMake C sp [] E tA σ H Q := q
theorem r_addS {m n : Str} {q : Str → Str → Prop} (h : m.length + n.length ≤ sizeLine) (g : q m n) : ∃ i j, V.str m = .str i ∧ V.str n = .str j ∧ i.length + j.length ≤ sizeLine ∧ q i j := ⟨m, n, rfl, rfl, h, g⟩
theorem iteNt {A B : Prop} (h : B) : if (!true) = true then A else B := h
theorem iteNf {A B : Prop} (h : A) : if (!false) = true then A else B := h
theorem r_ite2 {c : Prop} [Decidable c] {A B : Prop} (h1 : c → A) (h2 : ¬ c → B) : if decide c = true then A else B := by
  by_cases h : c
  · exact r_iteT h (h1 h)
  · exact r_iteF h (h2 h)
theorem r_iteN2 {c : Prop} [Decidable c] {A B : Prop} (h1 : ¬ c → A) (h2 : c → B) : if (!decide c) = true then A else B := by
  by_cases h : c
  · exact r_iteNF h (h2 h)
  · exact r_iteNT h (h1 h)
end

theorem at_start {t : TS} {D : Ends} {σ σ0 : L2.St} {H : Hp} (h : σ0 = σ) (q : t D σ H) : t D σ0 H := h ▸ q
theorem cx_K {CX : CXT} {P : Program} {w : World} {K : PySem.W.Frag} {mg : Str → Option Value} {base : Heap} {N : List Str} {qual : Str} {sc : Scope} {f : Addr} {cd : Value} {A : Around} {outer : List Env} {s : Shared} {H : Hp} {E : XK} : (cxOf CX P w K mg base N qual sc f cd A outer s H E).nox.K = K := rfl
theorem mul_bd {x y A B : Int} (h0 : 0 ≤ x) (h1 : x ≤ A) (h2 : 0 ≤ y) (h3 : y ≤ B) : 0 ≤ x * y ∧ x * y ≤ A * B := ⟨Int.mul_nonneg h0 h2, Int.mul_le_mul h1 h3 h2 (Int.le_trans h0 h1)⟩
/-! ### flat lists compared -/
theorem dp_ints {K : PySem.W.Frag} {H : Hp} : ∀ ns : List Int, DpAll K H (ns.map V.int) (ns.map PyData.int)
  | [] => .nil
  | n :: r => .cons (.int n) (dp_ints r)
theorem lay_ints : ∀ ns : List Int, PyData.canLayAll0 (ns.map PyData.int) = true
  | [] => rfl
  | n :: r => by
    show (PyData.canLay0 (.int n) && PyData.canLayAll0 (r.map PyData.int)) = true
    rw [lay_ints r]; rfl
theorem depth_ints : ∀ ns : List Int, PyData.depthAll (ns.map PyData.int) = 0
  | [] => rfl
  | n :: r => by
    show max (PyData.depth (.int n)) (PyData.depthAll (r.map PyData.int)) = 0
    rw [depth_ints r]; rfl
theorem shaped_ints (ns : List Int) : SeqAt.shaped (.list (ns.map PyData.int)) = true := by
  show (PyData.canLayAll0 (ns.map PyData.int) && decide (PyData.depthAll (ns.map PyData.int) + 1 ≤ 64)) = true
  rw [lay_ints, depth_ints]; rfl
theorem eqv_ints : ∀ ns ms : List Int, PyData.eqvAll (ns.map PyData.int) (ms.map PyData.int) = decide (ns = ms)
  | [], [] => rfl
  | [], _ :: _ => rfl
  | _ :: _, [] => rfl
  | n :: r, m :: q => by
    show ((n == m) && PyData.eqvAll (r.map PyData.int) (q.map PyData.int)) = decide (n :: r = m :: q)
    rw [eqv_ints r q]
    by_cases h1 : n = m <;> by_cases h2 : r = q <;> simp [h1, h2]
theorem eqT_shaped (ns : List Int) : SeqAt.shaped (.tuple (ns.map PyData.int)) = true := by
  show (PyData.canLayAll0 (ns.map PyData.int) && decide (PyData.depthAll (ns.map PyData.int) + 1 ≤ 64)) = true
  rw [lay_ints, depth_ints]; rfl
theorem r_neIntsT {K : PySem.W.Frag} {H : Hp} {Q : VK} {a b : Addr} {ns ms : List Int} (h : SqT K H a (ns.map V.int)) (h' : SqT K H b (ms.map V.int)) (q : Q (.bl (!decide (ns = ms))) H) : rNeD K (.ref a) (.ref b) H Q :=
  ⟨_, _, .tup h (dp_ints ns), .tup h' (dp_ints ms), eqT_shaped ns, eqT_shaped ms, (show Q (.bl (!PyData.eqvAll (ns.map PyData.int) (ms.map PyData.int))) H by rw [eqv_ints]; exact q)⟩
theorem r_eqInts {K : PySem.W.Frag} {H : Hp} {Q : VK} {a b : Addr} {ns ms : List Int} (h : SqL K H a (ns.map V.int)) (h' : SqL K H b (ms.map V.int)) (q : Q (.bl (decide (ns = ms))) H) : rEqD K (.ref a) (.ref b) H Q :=
  ⟨_, _, .lst h (dp_ints ns), .lst h' (dp_ints ms), shaped_ints ns, shaped_ints ms, (show Q (.bl (PyData.eqvAll (ns.map PyData.int) (ms.map PyData.int))) H by rw [eqv_ints]; exact q)⟩
theorem r_neInts {K : PySem.W.Frag} {H : Hp} {Q : VK} {a b : Addr} {ns ms : List Int} (h : SqL K H a (ns.map V.int)) (h' : SqL K H b (ms.map V.int)) (q : Q (.bl (!decide (ns = ms))) H) : rNeD K (.ref a) (.ref b) H Q :=
  ⟨_, _, .lst h (dp_ints ns), .lst h' (dp_ints ms), shaped_ints ns, shaped_ints ms, (show Q (.bl (!PyData.eqvAll (ns.map PyData.int) (ms.map PyData.int))) H by rw [eqv_ints]; exact q)⟩
theorem inV_strs {z : Str} : ∀ zs : List Str, inV (.str z) (zs.map V.str) = decide (z ∈ zs)
  | [] => by simp [inV]
  | y :: r => by
    have ih := inV_strs (z := z) r
    unfold inV at ih ⊢
    rw [List.map_cons, List.any_cons, ih]
    show (decide (y = z) || decide (z ∈ r)) = decide (z ∈ y :: r)
    by_cases e : y = z
    · subst e; simp
    · have e' : ¬ z = y := fun q => e q.symm
      simp [e, e']
theorem inV_ints {z : Int} : ∀ zs : List Int, inV (.int z) (zs.map V.int) = decide (z ∈ zs)
  | [] => by simp [inV]
  | y :: r => by
    have ih := inV_ints (z := z) r
    unfold inV at ih ⊢
    rw [List.map_cons, List.any_cons, ih]
    show ((y == z) || decide (z ∈ r)) = decide (z ∈ y :: r)
    by_cases e : y = z
    · subst e; simp
    · have e' : ¬ z = y := fun q => e q.symm
      simp [e, e']
theorem flat_ints : ∀ zs : List Int, (zs.map V.int).all flatV = true
  | [] => rfl
  | y :: r => by rw [List.map_cons, List.all_cons, flat_ints r]; rfl
theorem r_notInI {K : PySem.W.Frag} {H : Hp} {Q : VK} {p : Addr} {z : Int} {zs : List Int} (h : SqL K H p (zs.map V.int) ∨ SqT K H p (zs.map V.int)) (q : Q (.bl (!decide (z ∈ zs))) H) : rIn K true (.int z) (.ref p) H Q :=
  ⟨p, _, rfl, h, rfl, flat_ints zs, (show Q (.bl (!inV (.int z) (zs.map V.int))) H by rw [inV_ints]; exact q)⟩
theorem r_inI {K : PySem.W.Frag} {H : Hp} {Q : VK} {p : Addr} {z : Int} {zs : List Int} (h : SqL K H p (zs.map V.int) ∨ SqT K H p (zs.map V.int)) (q : Q (.bl (decide (z ∈ zs))) H) : rIn K false (.int z) (.ref p) H Q :=
  ⟨p, _, rfl, h, rfl, flat_ints zs, (show Q (.bl (inV (.int z) (zs.map V.int))) H by rw [inV_ints]; exact q)⟩
theorem flat_strs : ∀ zs : List Str, (zs.map V.str).all flatV = true
  | [] => rfl
  | y :: r => by rw [List.map_cons, List.all_cons, flat_strs r]; rfl
theorem r_notInS {K : PySem.W.Frag} {H : Hp} {Q : VK} {p : Addr} {z : Str} {zs : List Str} (h : SqL K H p (zs.map V.str) ∨ SqT K H p (zs.map V.str)) (q : Q (.bl (!decide (z ∈ zs))) H) : rIn K true (.str z) (.ref p) H Q :=
  ⟨p, _, rfl, h, rfl, flat_strs zs, (show Q (.bl (!inV (.str z) (zs.map V.str))) H by rw [inV_strs]; exact q)⟩
theorem r_inS {K : PySem.W.Frag} {H : Hp} {Q : VK} {p : Addr} {z : Str} {zs : List Str} (h : SqL K H p (zs.map V.str) ∨ SqT K H p (zs.map V.str)) (q : Q (.bl (decide (z ∈ zs))) H) : rIn K false (.str z) (.ref p) H Q :=
  ⟨p, _, rfl, h, rfl, flat_strs zs, (show Q (.bl (inV (.str z) (zs.map V.str))) H by rw [inV_strs]; exact q)⟩
/-! ### heaps -/
theorem upd_new {H : Hp} {a p : Addr} {o u : HO} (hn : H p = none) (h : H a = some u) : upd H p o a = some u := by rw [upd_ne (ne_of_none h hn)]; exact h
theorem same_new {H : Hp} {p : Addr} {o : HO} (hn : H p = none) : Same H (upd H p o) := fun _ _ e => upd_new hn e
theorem Same.up {H H' : Hp} {a : Addr} {o : HO} (s : Same H H') (h : H a = some o) : H' a = some o := s a o h
theorem same_mut {H H' : Hp} {p : Addr} {o : HO} (s : Same H H') (hn : H p = none) : Same H (upd H' p o) := fun _ _ e => by rw [upd_ne (ne_of_none e hn)]; exact s _ _ e
theorem same_seqT {K : PySem.W.Frag} {H H' : Hp} {a : Addr} {xs : List V} (e : Same H H') (h : SqT K H a xs) : SqT K H' a xs := by
  rcases h with (h | ⟨o, h⟩) | h
  · exact .inl (.inl (e _ _ h))
  · exact .inl (.inr ⟨o, e _ _ h⟩)
  · exact .inr h
theorem small1000' {n : Nat} (h : n ≤ 10000) : n < sizeLine := Nat.lt_of_le_of_lt h (by decide)
/-- a comprehension whose test and element are pure -/
theorem lc_all {J : It} {n : Nat} {G : Hp → Prop} {Y : Nat → Hp → V → Hp → Prop} (wk : Walk J n G Y) {tt : TT} {te : TE} {vs : List Nat} {σ : L2.St} {H1 : Hp} {Q : VK} {j : Nat} (yv : Nat → V) (f : Nat → Bool) (v : Nat → V) (hn : n ≤ 10000)
    (hY : ∀ i H x H', i < n → Y i H x H' → H' = H ∧ x = yv i) (hG : ∀ H', Same H1 H' → G H') (hw : ∀ x, wipe ((wipe σ vs).set j (some x)) vs = wipe σ vs)
    (ht : ∀ i H', i < n → Same H1 H' → ∀ QT : Bool → Hp → Prop, (∀ H2, Same H' H2 → QT (f i) H2) → tt ((wipe σ vs).set j (some (yv i))) H' QT)
    (he : ∀ i H', i < n → f i = true → Same H1 H' → ∀ Q : VK, (∀ H2, Same H' H2 → Q (v i) H2) → te ((wipe σ vs).set j (some (yv i))) H' Q)
    (hd : ∀ D H', H1 D = none → Same H1 H' → H' D = some (.lst (Evl.given n f v)) → Q (.ref D) H') :
    LcW J (gName j) tt te vs σ H1 Q := by
  intro D hD
  refine lc_it wk (Qd := fun H => Q (.ref D) H) (fun i H => Same H1 H ∧ H D = some (.lst (Evl.given i f v))) ⟨same_new hD, upd_same⟩ (fun i H _ p => hG H p.1) (fun i x H H' hi p y => ?_) (fun H p => hd D H hD p.1 p.2)
  obtain ⟨rfl, rfl⟩ := hY i H x H' hi y
  refine ⟨hw _, ?_⟩
  refine ht i _ hi p.1 _ fun H2 s2 => ?_
  cases e : f i with
  | true =>
    refine iteT ?_
    refine he i H2 hi e (p.1.trans s2) _ fun H3 s3 => ?_
    refine ⟨_, s3 _ _ (s2 _ _ p.2), small1000' (Nat.le_trans (Evl.given_len i f v) (by omega)), same_mut ((p.1.trans s2).trans s3) hD, ?_⟩
    rw [upd_same, Evl.given_yes e]
  | false =>
    refine iteF ?_
    refine ⟨p.1.trans s2, ?_⟩
    rw [s2 _ _ p.2, Evl.given_no e]
theorem range_get {α : Type} (xs : List α) (d : α) : (List.range xs.length).map (fun i => xs.getD i d) = xs := by
  refine List.ext_getElem (by simp) fun i h1 h2 => ?_
  simp [List.getElem?_eq_getElem h2]
theorem given_filter {α : Type} (xs : List α) (d : α) (p : α → Bool) (g : α → V) : Evl.given xs.length (fun i => p (xs.getD i d)) (fun i => g (xs.getD i d)) = (xs.filter p).map g := by
  unfold Evl.given
  have e := range_get xs d
  have h2 : (List.range xs.length).filter (fun i => p (xs.getD i d)) = (List.range xs.length).filter (p ∘ fun i => xs.getD i d) := rfl
  have h3 : ((List.range xs.length).filter (p ∘ fun i => xs.getD i d)).map (g ∘ fun i => xs.getD i d) = (xs.filter p).map g := by
    rw [← List.map_map, ← List.filter_map, e]
  exact h3
theorem given_map {α : Type} (xs : List α) (d : α) (g : α → V) : Evl.given xs.length (fun _ => true) (fun i => g (xs.getD i d)) = xs.map g := by
  have h := given_filter xs d (fun _ => true) g
  rw [List.filter_eq_self.mpr (fun _ _ => rfl)] at h
  exact h
theorem atI_map {α : Type} {xs : List α} {g : α → V} {r : Int} (h0 : 0 ≤ r) (h1 : r < (xs.length : Int)) : ∃ x ∈ xs, atI (xs.map g) r = some (g x) := by
  obtain ⟨n, rfl⟩ : ∃ n : Nat, r = (n : Int) := ⟨r.toNat, by omega⟩
  have hl : n < xs.length := by omega
  refine ⟨xs[n], List.getElem_mem hl, ?_⟩
  exact atI_nat (by simp [hl])
theorem YAt_get {α : Type} {xs : List α} {d : α} {g : α → V} {i : Nat} {H : Hp} {x : V} {H' : Hp} (hi : i < (xs.map g).length) (y : YAt (xs.map g) i H x H') : H' = H ∧ x = g (xs.getD i d) := by
  obtain ⟨rfl, e⟩ := y
  refine ⟨rfl, ?_⟩
  have hl : i < xs.length := by simpa using hi
  rw [List.getElem?_map, List.getElem?_eq_getElem hl] at e
  have e' : g xs[i] = x := Option.some.inj e
  rw [← e', List.getD_eq_getElem?_getD, List.getElem?_eq_getElem hl]
  rfl
theorem r_isiS {K : PySem.W.Frag} {H : Hp} {Q : VK} {z : Str} (q : Q (.bl true) H) : rIsi K [.str z, .ty "str"] H Q := ⟨_, _, .type "str", _, _, rfl, .ty _, .base (.str z), kit_ty (by decide +kernel), q⟩
theorem cutV_take (xs : List V) (n : Nat) : cutV xs none (some (n : Int)) = xs.take n := by
  unfold cutV
  rw [HT.sIx_none, HT.sIx_nat]
  simp only [List.drop_zero, Nat.sub_zero]
  by_cases h : n ≤ xs.length
  · rw [Nat.min_eq_left h]
  · rw [Nat.min_eq_right (by omega), List.take_length, List.take_of_length_le (by omega)]
theorem decI {a b : Int} : decide (V.int a = V.int b) = decide (a = b) := by
  by_cases h : a = b
  · rw [h]; simp
  · rw [decide_eq_false h, decide_eq_false fun z => h (V.int.inj z)]
theorem decS {a b : Str} : decide (V.str a = V.str b) = decide (a = b) := by
  by_cases h : a = b
  · rw [h]; simp
  · rw [decide_eq_false h, decide_eq_false fun z => h (V.str.inj z)]
/-- a list of truths made by a comprehension -/
theorem given_bl {α : Type} (xs : List α) (d : α) (p : α → Bool) : Evl.given xs.length (fun _ => true) (fun i => V.bl (p (xs.getD i d))) = (xs.map p).map V.bl := by
  rw [given_map xs d (fun x => V.bl (p x)), List.map_map]
  rfl
theorem given_int {α : Type} (xs : List α) (d : α) (p : α → Int) : Evl.given xs.length (fun _ => true) (fun i => V.int (p (xs.getD i d))) = (xs.map p).map V.int := by
  rw [given_map xs d (fun x => V.int (p x)), List.map_map]
  rfl
theorem all_id {α : Type} (xs : List α) (p : α → Bool) : (xs.map p).all id = xs.all p := by
  rw [List.all_map]
  rfl
def optV : Option Int → V
  | none => .non
  | some i => .int i
theorem strEq {a b : Str} (h : V.str a = V.str b) : a = b := V.str.inj h
theorem strNe {a b : Str} (h : ¬ V.str a = V.str b) : ¬ a = b := fun z => h (by rw [z])
theorem intEq {a b : Int} (h : V.int a = V.int b) : a = b := V.int.inj h
theorem intNe {a b : Int} (h : ¬ V.int a = V.int b) : ¬ a = b := fun z => h (by rw [z])
theorem r_iteS2 {a b : Str} {A B : Prop} (h1 : a = b → A) (h2 : ¬ a = b → B) : if decide (V.str a = V.str b) = true then A else B := r_ite2 (fun h => h1 (strEq h)) (fun h => h2 (strNe h))
theorem r_iteI2 {a b : Int} {A B : Prop} (h1 : a = b → A) (h2 : ¬ a = b → B) : if decide (V.int a = V.int b) = true then A else B := r_ite2 (fun h => h1 (intEq h)) (fun h => h2 (intNe h))
theorem r_iteB {b : Bool} {A B : Prop} (h1 : b = true → A) (h2 : b = false → B) : if b = true then A else B := by
  cases b
  · exact iteF (h2 rfl)
  · exact iteT (h1 rfl)
theorem r_iteBN {b : Bool} {A B : Prop} (h1 : b = false → A) (h2 : b = true → B) : if (!b) = true then A else B := by
  cases b
  · exact iteT (h1 rfl)
  · exact iteF (h2 rfl)
theorem val_to {Q : VK} {v v' : V} {H : Hp} (z : Q v H) (e : v = v') : Q v' H := e ▸ z
theorem r_isiO {K : PySem.W.Frag} {H : Hp} {Q : VK} {o : Option Int} (q : Q (.bl false) H) : rIsi K [optV o, .ty "bool"] H Q := by
  cases o with
  | none => exact ⟨_, _, .type "NoneType", _, _, rfl, .ty _, .base .non, kit_ty (by decide +kernel), q⟩
  | some i => exact ⟨_, _, .type "int", _, _, rfl, .ty _, .base (.int i), kit_ty (by decide +kernel), q⟩
theorem r_neO {H : Hp} {Q : VK} {o : Option Int} (q : Q (.bl false) H) : rNe (optV o) (optV o) H Q := by
  refine ⟨by cases o <;> rfl, ?_⟩
  rw [decide_eq_true rfl]
  exact q
theorem r_isNone {B : Prop} (q : B) : V.non = V.non ∧ B := ⟨rfl, q⟩
theorem r_neB {H : Hp} {Q : VK} {b : Bool} (q : Q (.bl false) H) : rNe (.bl b) (.bl b) H Q := by
  refine ⟨rfl, ?_⟩
  rw [decide_eq_true rfl]
  exact q
theorem putF_le (f : Str) (v : V) : ∀ fs : List (Str × V), (putF f v fs).length ≤ fs.length + 1
  | [] => Nat.le_refl _
  | (g, x) :: r => by
    unfold putF
    split
    · simp
    · have := putF_le f v r
      simp only [List.length_cons]
      omega
theorem putF_lt {f : Str} {v : V} {fs : List (Str × V)} {n m : Nat} (h : fs.length + (n + 1) < m) : (putF f v fs).length + n < m := by
  have := putF_le f v fs
  omega
theorem putF_lt0 {f : Str} {v : V} {fs : List (Str × V)} {m : Nat} (h : fs.length + 1 < m) : (putF f v fs).length < m := putF_lt (n := 0) h
theorem sz_lit {n : Nat} (h : n ≤ 1000) : n ≤ sizeLine := Nat.le_of_lt (small1000 h)
end KB

/-! KG: own layer: defs called while no repr is under way (A.guards = some []); repr of data. -/
namespace KG
open PySem PySem.Spec PyProof.Rows L2 KB
abbrev Free (A : Around) : Prop := A.guards = some []
theorem free_deeper {A : Around} (g : Free A) (env : Env) : Free (A.deeper env) := g
/-- as FnOk, asked only where no repr is under way -/
structure FnG (P : Program) (w : World) (K : PySem.W.Frag) (mg : Str → Option Value) (base : Heap) (CX : CXT) (k : Nat) (f : Addr) (fd : FuncData) (ps : List Str) (sp : Sp) : Prop where
  size : ∀ xs h Z W, sp xs h Z W → xs.length = ps.length
  go : ∀ (A : Around), Free A → ∀ (out : List Env) (st : Shared) (h : Hp) (ar : Args) (ws : List Value) (xs : List V) (Z : VK) (W : XK), Room k A → Env0 P w K mg base A out st h → BindsTo st fd ar (ps.zip ws) → Vals xs ws → sp xs h Z W →
    codeAny (model P w) A (.call (.ref f) ar) (CR CX out P w h st Z W) st
theorem FnG.of {P : Program} {w : World} {K : PySem.W.Frag} {mg : Str → Option Value} {base : Heap} {CX : CXT} {k : Nat} {f : Addr} {fd : FuncData} {ps : List Str} {sp : Sp} (F : FnOk P w K mg base CX k f fd ps sp) : FnG P w K mg base CX k f fd ps sp :=
  ⟨F.len, fun A _ => F.run A⟩
section
variable {P : Program} {w : World} {K : PySem.W.Frag} {mg : Str → Option Value} {base : Heap} {CX : CXT}
theorem fnG_body {k : Nat} {f : Addr} {nm ql : Str} {pr : Arguments} {bd : List Stmt} {sc : Scope} {v1 v2 v3 v4 cv v5 v6 : Value} {a1 a2 : Option Addr} {slots : Array (Option Value)} {N ps : List Str} {sp : Sp}
    (look : K.lookup f = some ⟨v6, a2, .func (PySem.W.fnOf nm ql pr bd sc v1 v2 v3 v4 a1 cv v5), slots⟩) (code : PySem.W.codeIn K cv ql = true) (S : FnScope N ps sc) (size : ∀ xs h Z W, sp xs h Z W → xs.length = ps.length)
    (body : ∀ (A : Around) (out : List Env) (st : Shared) (h : Hp) (xs : List V) (Z : VK) (W : XK), Room k (A.deeper (envOfC ql sc st.heap.objs.size f cv)) → Free A → sp xs h Z W →
      ∃ t, PSs (cxOf CX P w K mg base N ql sc f cv A out st h W) bd t ∧ t { nx := fun _ h' => Z .non h', rt := Z } (start N xs) h) :
    FnG P w K mg base CX (k + 1) f (PySem.W.fnOf nm ql pr bd sc v1 v2 v3 v4 a1 cv v5) ps sp := by
  refine ⟨size, fun A fr out st h ar ws xs Z W room env bind vals pre => ?_⟩
  have kin : K.In st.heap := env.mod.kin.keeps fun b o q => (env.bs b o q).1
  have nolim : st.heap.NoLimit := env.mod.nolimit.keeps fun b o q => (env.bs b o q).1
  have kinds : ∀ y ∈ ps.zip ws, sc.names.lookup y.1 = some .local ∨ (sc.names.lookup y.1 = some .cell ∧ ((cellsFrom (st.heap.objs.size + 1) sc.names []).lookup y.1).isSome = true) := by
    intro y hy
    obtain ⟨n, v⟩ := y
    cases S.par n (List.of_mem_zip hy).1 with
    | inl z => exact .inl z
    | inr z => exact .inr ⟨z, PySem.W.cellsFrom_some _ _ _ (.inl z)⟩
  refine codeAny_call_function room.depth (kin _ _ look) rfl S.co S.gen rfl (PySem.W.codeRec_of kin code) (bind _ _ _ _ ?_)
  refine wpAny_newFunctionEnv_cells S.kind kinds fun en he st1 inc => ?_
  subst he
  refine ⟨nolim.keeps inc.toInCall.keep, codeAny_func ?_⟩
  obtain ⟨t, drv, rdg⟩ := body A out st h xs Z W (room.deeper _) fr pre
  have inv : Inv (cxOf CX P w K mg base N ql sc f cv A out st h W) [] (start N xs) h st1 := inv_start S room.hd env (size _ _ _ _ pre) vals inc
  refine wpAny_mono (drv.run [] st1 (start N xs) h _ inv rdg) (fun flow st2 res => ?_) fun _ _ z => z
  cases flow with
  | ret u => exact let ⟨v, _, h2, J, rel, z⟩ := res; ⟨v, h2, J.os, J.bare, J.base, J.hok, rel, z⟩
  | next => exact let ⟨_, h2, J, z⟩ := res; ⟨.non, h2, J.os, J.bare, J.base, J.hok, rfl, z⟩
  | brk => exact (let ⟨_, _, _, z⟩ := res; z : False).elim
  | cont => exact (let ⟨_, _, _, z⟩ := res; z : False).elim
/-- the rule for a def of the text, nothing raised out of it -/
theorem fun_okG {x ql : Str} {stm : Stmt} {f : Addr} {fd : FuncData} {N ps : List Str} {k : Nat} {sp : Sp} (F : Fun K x ql stm f fd) (S : FnScope N ps (defScope stm)) (size : ∀ xs h Z W, sp xs h Z W → xs.length = ps.length)
    (body : ∀ (cv : Value) (A : Around) (out : List Env) (st : Shared) (h : Hp) (xs : List V) (Z : VK) (W : XK), Room k (A.deeper (envOfC ql (defScope stm) st.heap.objs.size f cv)) → Free A → sp xs h Z W →
      ∃ t, PSs (cxOf CX0 P w K mg base N ql (defScope stm) f cv A out st h W).nox (defBody stm) t ∧ t { nx := fun _ h' => Z .non h', rt := Z } (start N xs) h) : FnG P w K mg base CX0 (k + 1) f fd ps sp := by
  obtain ⟨c1, c2, c3, c4, c5, c6, cv, c8, c9, rfl, look, code⟩ := F.ex
  refine fnG_body look code S size fun A out st h xs Z W room fr pre => ?_
  obtain ⟨t, drv, rdg⟩ := body cv A out st h xs Z W room fr pre
  exact ⟨t, drv.nox, rdg⟩
end
/-! ### calls -/
section
variable {X : Cx} {CX : CXT}
theorem runG {k : Nat} {f : Addr} {fd : FuncData} {ps : List Str} {sp : Sp} {E : XK} {dv : List V} {dw : List Value} {pins : List (Addr × Obj)} {σ : L2.St} {h : Hp} {st : Shared} {Z : VK} {ws : List Value} {xs : List V} (F : FnG X.prog X.w X.K X.mg X.base CX k f fd ps sp) (fr : Free X.A) (room : Room k X.A)
    (bind : Binds X.K fd ps dw) (dr : Vals dv dw) (pass : Passes CX X E) (inv : Inv X pins σ h st) (rel : Vals xs ws) (pre : sp (xs ++ dv) h Z E) : wpAny (model X.prog X.w) X.A (call (.ref f) ws) (EP X pins σ Z) X.xe st := by
  have rel2 := rel.append dr
  have size : (ws ++ dw).length = ps.length := rel2.length.symm.trans (F.size _ _ _ _ pre)
  refine wpAny_call (codeAny_mono (F.go X.A fr X.stack st h ⟨ws, []⟩ _ _ Z E room inv.env0 (bind st ws inv.kIn size) rel2 pre) fun res st2 z => ?_)
  match res, z with
  | .error e, z => exact pass pins σ h st e st2 inv z
  | .ok (.ret u), z => exact inv.after z
  | .ok .next, z => exact z.elim
  | .ok .brk, z => exact z.elim
  | .ok .cont, z => exact z.elim
structure CalleeG (P : Program) (w : World) (K : PySem.W.Frag) (mg : Str → Option Value) (base : Heap) (CX : CXT) (k : Nat) (x : Str) (ps : List Str) (sp : Sp) : Prop where
  ex : ∃ (f : Addr) (fd : FuncData), FnG P w K mg base CX k f fd ps sp ∧ mg x = some (.ref f) ∧ PySem.W.keepIn K (.ref f) = true ∧ Binds K fd ps []
theorem pe_callG {k : Nat} {x : Str} {ps : List Str} {sp : Sp} {E : XK} {e : Expr} {es : List Expr} {p pos : Pos} {t : TA} (c : CalleeG X.prog X.w X.K X.mg X.base CX k x ps sp) (fr : Free X.A) (room : Room k X.A) (gl : Gl X x) (pass : Passes CX X E) (ha : PA X (e :: es) t)
    (d1 : (x == ("__debug__" : Str)) = false := by decide) (d2 : starEach (e :: es) X.env = (false, eval e X.env) :: starEach es X.env := by rfl) (d3 : (backTo pos (starEach es X.env)).any (·.1) = false := by rfl) :
    PE X (.Call (.Name x p) (e :: es) [] pos) (tCall sp [] E t) := by
  obtain ⟨f, fd, F, look, keep, bind⟩ := c.ex
  refine ⟨fun pins st σ h Z inv pre => wpAny_Call_Name_kw (ld_glob inv gl look ?_ d1)⟩
  refine PySem.W.callWith_K (h₀ := X.base) inv.ok.mod.kin keep (thn (ha.run pos pins st σ h _ inv pre) fun ws st1 res => ?_) d2 d3
  obtain ⟨xs, h1, inv1, rel, z⟩ := res
  exact ⟨inv1.kIn, runG F fr room bind .nil pass inv1 rel z⟩
end
/-! ### repr of data -/
section
variable {P : Program} {w : World} {A : Around} {E : Value → Shared → Prop} {s : Shared} {Z : Value → Shared → Prop}
theorem repr_slot {v : Value} {T id : String} (hu : A.units + 2 < cLine) (ty : s.TypeIs v T) (slot : SlotG T "__repr__" id)
    (h : wpAny (model P w) A.in1 (callSpecialIfBound? v (Str.ofString "__repr__")) (fun r st => ∃ (y : Str) (u : Tok), r = some (.str y u) ∧ Z (.str y u) st) E s) : wpAny (model P w) A (call (.builtin "repr") [v]) Z E s := by
  refine (Calls.call_function_entry F.kind_repr F.plain_repr F.entry_repr (F.args_repr1 _) ?_); unfold Builtin.«repr»
  refine (wpAny_bind (m := oneArg "repr" _) (wpAny_pure ?_))
  refine (wpAny_bind (wpAny_cRoomFor (show A.units + 1 < cLine by omega) ?_))
  refine (wpAny_bind (wpAny_specialOf (name := Str.ofString "__repr__") ty slot.lookup ?_))
  refine (wpAny_bind (m := callSpecialIfBound? v (Str.ofString "__repr__")) (wpAny_mono h (fun r st z => ?_) fun _ _ z => z))
  obtain ⟨y, u, rfl, z⟩ := z
  refine (wpAny_bind (wpAny_isInstance (T := "str") (b := true) rfl isSubtype_str_str ?_))
  exact (wpAny_pure ⟨.str y u, rfl, z⟩)
theorem repr_data {v : Value} {d : PyData} {as : List Addr} (r : Reads s.heap v d as) (ok : d.showable = true) (nod : d.hasDict = false) (sz : d.shown.length ≤ sizeLine) (fr : Free A) (hu : A.units + d.depth + 3 < cLine)
    (q : ∀ h' u tk, (∀ b o, s.heap.get? b = some o → h'.get? b = some o) → Z (.str d.shown u) { s with heap := h', toks := tk }) : wpAny (model P w) A (call (.builtin "repr") [v]) Z E s := by
  have nosys : d.hasDict = true → sysModules ∉ as := fun z => by rw [nod] at z; cases z
  cases r with
  | none =>
    simp only [PyData.shown] at q
    exact PySem.P.repr_of_none (q s.heap _ _ fun _ _ e => e)
  | bool b =>
    simp only [PyData.shown] at q
    exact PySem.P.repr_of_bool (q s.heap _ _ fun _ _ e => e)
  | int i t =>
    simp only [PyData.shown] at q
    exact PySem.P.repr_of_int (by simpa [PyData.showable] using ok) (q s.heap _ _ fun _ _ e => e)
  | str x t =>
    simp only [PyData.shown] at q sz
    exact PySem.P.repr_of_str (q s.heap _ _ fun _ _ e => e) sz
  | @list a o vs n xs as1 h1 h2 h3 h4 =>
    have sz' : (listText (PyData.shownAll xs)).length ≤ sizeLine := by simpa only [PyData.shown] using sz
    have ok' : PyData.showableAll xs = true := by simpa [PyData.showable] using ok
    have whole : Reads s.heap (.ref a) (.list xs) _ := .list h1 h2 h3 h4
    obtain ⟨bs, lim, kids⟩ := ReprAllK.of_readsAll (prog := P) (w := w) h4 ok' (fun z m => nosys (by simpa [PyData.hasDict] using z) (List.mem_cons_of_mem _ m)) (fun t ht => Nat.le_trans (listText_mem_le ht) sz')
    have off : a ∉ bs := not_mem_of_deeper whole (by simp only [PyData.depth]; omega) lim
    simp only [PyData.depth] at hu
    simp only [PyData.shown] at q
    have ty : s.TypeIs (.ref a) "list" := ⟨_, h1, h2⟩
    refine repr_slot (by omega) ty F.slot_list_repr.toG ?_
    obtain ⟨l⟩ := vs
    cases l with
    | nil =>
      have h4' : ReadsAll s.heap [] xs _ := h4
      cases h4'
      simp only [PyData.shownAll, listText_nil] at q
      refine (wpAny_callSpecialIfBound?_slot (name := Str.ofString "__repr__") ty F.slot_list_repr (call_list_repr_empty ty h1 h3 ?_))
      exact ⟨_, _, rfl, q s.heap _ _ fun _ _ e => e⟩
    | cons x l =>
      refine (wpAny_callSpecialIfBound?_slot (name := Str.ofString "__repr__") ty F.slot_list_repr (call_list_reprK h1 h2 h3 off (by simpa using kids.length_eq) (fun i y e => kids.item i y (by simpa using e)) fr (fun b _ => Clear.nil b) (show A.units + 1 + _ < cLine by omega) (fun _ _ e => e) (fun h' u tk kp => ?_) sz'))
      exact ⟨_, _, rfl, q h' u tk kp⟩
  | @tuple a o vs n xs as1 h1 h2 h3 h4 =>
    have sz' : (tupleText (PyData.shownAll xs)).length ≤ sizeLine := by simpa only [PyData.shown] using sz
    have ok' : PyData.showableAll xs = true := by simpa [PyData.showable] using ok
    have whole : Reads s.heap (.ref a) (.tuple xs) _ := .tuple h1 h2 h3 h4
    obtain ⟨bs, lim, kids⟩ := ReprAllK.of_readsAll (prog := P) (w := w) h4 ok' (fun z m => nosys (by simpa [PyData.hasDict] using z) m) (fun t ht => Nat.le_trans (tupleText_mem_le ht) sz')
    have off : a ∉ bs := not_mem_of_deeper whole (by simp only [PyData.depth]; omega) lim
    simp only [PyData.depth] at hu
    simp only [PyData.shown] at q
    have ty : s.TypeIs (.ref a) "tuple" := ⟨_, h1, h2⟩
    refine repr_slot (by omega) ty F.slot_tuple_repr ?_
    refine (wpAny_callSpecialIfBound?_slotG (name := Str.ofString "__repr__") ty F.slot_tuple_repr (call_tuple_reprK h1 h2 h3 off kids fr (fun b _ => Clear.nil b) (show A.units + 1 + _ < cLine by omega) (fun _ _ e => e) (fun h' u tk kp => ?_) sz'))
    exact ⟨_, _, rfl, q h' u tk kp⟩
  | dict => simp [PyData.hasDict] at nod
end
section
variable {X : Cx}
theorem vals_one {x : V} {us : List Value} (r : Vals [x] us) : ∃ u, us = [u] ∧ RelV x u := by
  cases r with
  | cons h t => cases t; exact ⟨_, rfl, h⟩
def rRepr (K : PySem.W.Frag) : List V → Hp → VK → Prop := fun xs H Q => ∃ (v : V) (d : PyData), xs = [v] ∧ Dp K H v d ∧ d.showable = true ∧ d.hasDict = false ∧ d.depth ≤ 60 ∧ d.shown.length ≤ sizeLine ∧ Q (.str d.shown) H
theorem call_reprD {k : Nat} (fr : Free X.A) (room : Room k X.A) : CallR X (.builtin "repr") (rRepr X.K) := by
  intro pins st σ h xs us Z inv rel pre
  obtain ⟨v, d, rfl, dp, ok, nod, deep, sz, z⟩ := pre
  obtain ⟨u, rfl, rv⟩ := vals_one rel
  obtain ⟨as, rd⟩ := Dp.reads inv d v u dp rv
  refine repr_data rd ok nod sz fr (by have := room.un; omega) fun h' t tk kp => ?_
  exact ⟨.str d.shown, h, inv.kept kp, ⟨t, rfl⟩, z⟩
end
/-! ### the law's end -/
theorem law_G {P : Program} {w : World} {K : PySem.W.Frag} {mg bm : Str → Option Value} {k : Nat} {fa a : Addr} {fd : FuncData} {x : Str} {sp : Sp} {st : Shared} {us : List Value} {ns : List Int}
    (kin : K.In st.heap) (gl : st.heap.Ns mainGlobals mg) (bl : st.heap.Ns builtinsNs bm) (bb : ∀ y : Str, y ≠ "__name__" → bm y = bootBuiltins y) (nolim : st.heap.NoLimit) (nogen : st.gens = #[])
    (at_ : st.heap.get? a = some { cls := .type "list", data := .seq us.toArray }) (allInt : IntsAre us ns) (few : ns.length ≤ sizeLine) (room : Room k callerA)
    (F : ∀ base : Heap, K.In base → base.Ns mainGlobals mg → FnG P w K mg base CX0 k fa fd [x] sp) (bind : ∀ (s : Shared) (u : Value), BindsTo s fd ⟨[u], []⟩ [(x, u)])
    (pre : ∀ H : Hp, SqL K H a (ns.map V.int) → sp [.ref a] H (fun v _ => v = .bl true) fun _ _ _ => False) :
    codeAny (model P w) callerA (.call (.ref fa) ⟨[.ref a], []⟩) (fun r s2 => r = .ok (.ret (.bool true)) ∧ OldK st.heap s2.heap ∧ s2.os = st.os ∧ AllBare s2.gens) st := by
  have main : ∀ H : Hp, (∀ b, H b = none ∨ ∃ o ys, H b = some (.frz o (.lst ys))) → SqL K H a (ns.map V.int) → HOk P w H st.heap → (∀ b, H b ≠ none → b = a) → (H a ≠ none → K.lookup a = none) →
      codeAny (model P w) callerA (.call (.ref fa) ⟨[.ref a], []⟩) (fun r s2 => r = .ok (.ret (.bool true)) ∧ OldK st.heap s2.heap ∧ s2.os = st.os ∧ AllBare s2.gens) st := by
    intro H only sq hok isA noK
    have free_of : ∀ {b : Addr} {o : Obj}, st.heap.get? b = some o → (∀ ys m, o.data ≠ .seq ys m) → H b = none := by
      intro b o e nd
      cases q : H b with
      | none => rfl
      | some z =>
        have eb := isA b (by rw [q]; simp)
        rw [eb, at_] at e
        exact absurd (congrArg Obj.data (Option.some.inj e)).symm (nd _ _)
    have kb : K.In (hidT st.heap H) := by
      intro b o e
      refine hidT_get (kin b o e) ?_
      cases q : H b with
      | none => rfl
      | some z =>
        have eb := isA b (by rw [q]; simp)
        rw [eb] at e q
        rw [noK (by rw [q]; simp)] at e
        cases e
    have ns_of : ∀ {b : Addr} {m : Str → Option Value}, st.heap.Ns b m → (hidT st.heap H).Ns b m := by
      intro b m h
      obtain ⟨o, es, ep, e, d, r⟩ := h
      exact ⟨o, es, ep, hidT_get e (free_of e (fun ys n z => by rw [d] at z; cases z)), d, r⟩
    have hm : Mod K mg (hidT st.heap H) := ⟨kb, ns_of gl, ⟨bm, ns_of bl, bb⟩, by obtain ⟨mc, z1, z2⟩ := nolim; exact ⟨mc, ns_of z1, z2⟩⟩
    have env : Env0 P w K mg (hidT st.heap H) callerA [] st H := ⟨rfl, hm, fun b o e => of_hidT e, Nat.le_of_eq (hidT_size _ _), trivial, fun b z => (List.not_mem_nil z).elim, hok, .of_eq nogen⟩
    refine codeAny_mono ((F _ kb (ns_of gl)).go callerA rfl [] st H ⟨[.ref a], []⟩ [.ref a] [.ref a] _ _ room env (bind st (.ref a)) (.cons rfl .nil) (pre H sq)) fun res s2 z => ?_
    match res, z with
    | .error e, z => exact z.elim
    | .ok .next, z => exact z.elim
    | .ok .brk, z => exact z.elim
    | .ok .cont, z => exact z.elim
    | .ok (.ret u), z =>
      obtain ⟨v, H2, z1, z2, un, hok2, rel, rfl⟩ := z
      obtain rfl : u = Value.bool true := rel
      refine ⟨rfl, OldK.of_keep fun b o e => ?_, z1, z2⟩
      cases q : H b with
      | none => exact un.keep b o e q (fun y => List.not_mem_nil y) (fun y => List.not_mem_nil y)
      | some y =>
        rcases only b with y1 | ⟨o1, ys, y1⟩
        · rw [q] at y1; cases y1
        · have y2 := (hok b _ y1).1
          have y3 := (hok2 b _ (un.frzs b o1 _ y1)).1
          rw [e] at y2
          rw [Option.some.inj y2]
          exact y3
  have vals := vals_ints allInt
  have lens := allInt.length
  cases look : K.lookup a with
  | some o =>
    have e := kin a o look
    rw [at_] at e
    obtain rfl := Option.some.inj e
    exact main (fun _ => none) (fun _ => .inl rfl) (.inr ⟨_, us.toArray, _, look, rfl, rfl, rfl, by rw [List.size_toArray, lens]; exact few, by simpa using vals⟩) (fun _ _ z => nomatch z) (fun _ z => (z rfl).elim) (fun z => (z rfl).elim)
  | none =>
    refine main (upd (fun _ => none) a (.frz { cls := .type "list", data := .seq us.toArray } (.lst (ns.map V.int)))) (fun b => ?_) (.inl (.inr ⟨_, upd_same⟩)) (fun b y z => ?_) (fun b z => ?_) fun _ => look
    · by_cases eb : b = a
      · rw [eb, upd_same]; exact .inr ⟨_, _, rfl⟩
      · rw [upd_ne eb]; exact .inl rfl
    · by_cases eb : b = a
      · subst eb
        rw [upd_same] at z
        obtain rfl := Option.some.inj z
        exact ⟨at_, by rw [List.length_map]; exact few, us, _, vals, at_⟩
      · rw [upd_ne eb] at z; cases z
    · by_cases eb : b = a
      · exact eb
      · exact absurd (upd_ne eb) z
/-- the goal that the head leaves, from the law's own promise -/
theorem walkG {l : PySem.W.OpenLaw} {n k : Nat} {q : Program} {loose : List Str} {XP : (Str → Option Value) → Heap → Prop} {YP : World → Heap → Prop} {d : DefRec} {K : Params → PySem.W.Frag} {sp : World → Sp} {x : Str}
    (hn : l.most = some n) (n2 : n ≤ sizeLine) (nodef : d.params.defaults = []) (room : Room k callerA) (hY : ∀ (w : World) (h : Heap), YP w h → (K w.params).In h)
    (F : ∀ (w : World) (mg : Str → Option Value) (fa : Addr) (h : Heap), (K w.params).In h → h.Ns mainGlobals mg → mg d.name = some (.ref fa) →
      ∃ fd : FuncData, (∀ (s : Shared) (u : Value), BindsTo s fd ⟨[u], []⟩ [(x, u)]) ∧ ∀ base : Heap, (K w.params).In base → base.Ns mainGlobals mg → FnG l.prog w (K w.params) mg base CX0 k fa fd [x] (sp w))
    (pre : ∀ (w : World) (H : Hp) (a : Addr) (ns : List Int), ns.length ≤ n → SqL (K w.params) H a (ns.map V.int) → sp w [.ref a] H (fun v _ => v = .bl true) fun _ _ _ => False) :
    PySem.W.WalkO q loose XP YP l.row.toRowW d [] (fun f vs => PySem.call f vs) := by
  refine Att.attach_call hn nodef fun w s0 st mg bm fa o pm cd doc a us ns G Y ho hd hcd hmg hobj allInt size nogen => ?_
  obtain ⟨fd, bind, hF⟩ := F w mg fa _ (hY w _ Y) G.T.g hmg
  exact law_G (hY w _ Y) G.T.g G.T.b G.T.builtins G.T.nolimit nogen hobj allInt (Nat.le_trans size n2) room hF bind fun H sq => pre w H a ns size sq
end KG

/-! KO: own objects: methods called by keywords, own ==, != by own ==, str by own __str__. -/
namespace KO
open PySem PySem.Spec PyProof.Rows L2 KB
section
variable {X : Cx}
/-- a def run in another Around, nothing raised out of it -/
theorem run0 {A' : Around} {k : Nat} {f : Addr} {fd : FuncData} {ps : List Str} {sp : Sp} {pins : List (Addr × Obj)} {σ : L2.St} {h : Hp} {st : Shared} {Z : VK} {ws : List Value} {xs : List V} {E' : Value → Shared → Prop} (F : FnOk X.prog X.w X.K X.mg X.base CX0 k f fd ps sp) (room : Room k A')
    (env : Env0 X.prog X.w X.K X.mg X.base A' X.stack st h) (bind : Binds X.K fd ps []) (inv : Inv X pins σ h st) (rel : Vals xs ws) (pre : sp xs h Z E0) : wpAny (model X.prog X.w) A' (call (.ref f) ws) (EP X pins σ Z) E' st := by
  have size : (ws ++ []).length = ps.length := by rw [List.append_nil, ← rel.length]; exact F.len _ _ _ _ pre
  have bd := bind st ws inv.kIn size
  rw [List.append_nil] at bd
  refine wpAny_call (codeAny_mono (F.run A' X.stack st h ⟨ws, []⟩ _ _ Z E0 room env bd rel pre) fun res st2 z => ?_)
  match res, z with
  | .error e, z => exact z.elim
  | .ok (.ret u), z => exact inv.after z
  | .ok .next, z => exact z.elim
  | .ok .brk, z => exact z.elim
  | .ok .cont, z => exact z.elim
theorem inst_of {pins : List (Addr × Obj)} {σ : L2.St} {h : Hp} {st : Shared} {a C dx : Addr} {fs : List (Str × V)} (inv : Inv X pins σ h st) (e : h a = some (.ins C dx fs)) : ∃ od, PySem.W.InstAt st.heap a (PySem.W.instObj C dx) C (some od) := by
  obtain ⟨mA, O, _⟩ := ins_get inv.hok e
  obtain ⟨od, J, _⟩ := O.look
  exact ⟨od, J⟩
/-! ### own == -/
def rEqOwn (K : PySem.W.Frag) (C : Addr) (sp : Sp) : R2 := fun x y H Q => ∃ a dx fs b C' dy gs, x = .ref a ∧ y = .ref b ∧ H a = some (.ins C dx fs) ∧ H b = some (.ins C' dy gs) ∧ PySem.W.notFirst K C (.ref C') = true ∧ sp [x, y] H Q E0
theorem op_eqOwn {C g : Addr} {fd : FuncData} {ps : List Str} {sp : Sp} {n : Nat} (hs : PySem.W.findIn X.K (.ref C) "__eq__" = some (some (.ref g))) (hf : PySem.W.isFn X.K (.ref g) = true) (F : FnOk X.prog X.w X.K X.mg X.base CX0 n g fd ps sp) (bind : Binds X.K fd ps [])
    (room : Room n X.A) : OpR X (compareOp .Eq) (rEqOwn X.K C sp) := by
  intro pins st σ h x y v u Z inv rx ry pre
  obtain ⟨a, dx, fs, b, C', dy, gs, rfl, rfl, ha, hb, nf, z⟩ := pre
  obtain rfl : v = Value.ref a := rx
  obtain rfl : u = Value.ref b := ry
  obtain ⟨od, J⟩ := inst_of inv ha
  obtain ⟨od', J'⟩ := inst_of inv hb
  obtain ⟨m, hF⟩ := inv.fr
  rw [show compareOp .Eq (.ref a) (.ref b) = richCompare .Eq (.ref a) (.ref b) from rfl]
  refine PySem.W.cmp_K (op := .Eq) (tb := .ref C') room.units0 hF inv.ok.mod.kin J J'.type nf hs hf ?_
  refine wpAny_mono (run0 (E' := X.xe) (xs := [.ref a, .ref b]) F room inv.env0 bind inv (.cons rfl (.cons rfl .nil)) z) (fun w s2 r => ?_) fun _ _ z => z
  obtain ⟨z', h2, inv2, rz, qz⟩ := r
  exact SlX.cmpback rz ⟨z', h2, inv2, rz, qz⟩
/-! ### != by own == -/
/-- what the text's class must be for it -/
structure NeCls (K : PySem.W.Frag) (C g : Addr) : Prop where
  ex : ∃ (nm q : Str) (N : Addr) (bs : List Value) (hd : Bool) (sn : List Str) (sub : List Value) (ab : Bool) (col : Option Bool) (dd : Option Addr) (k0 k1 k2 k3 k5 : Option Value) (nid : String),
    K.lookup C = some (excClassObj nm q C N bs [.type "object"] hd sn sub ab col dd k0 k1 k2 k3 k5 nid) ∧ PySem.W.nsOkIn K N = true ∧ PySem.W.nsIn K N "__eq__" = some (some (.ref g)) ∧ PySem.W.nsIn K N "__ne__" = some none
  fn : ∃ o : Obj, K.lookup g = some o ∧ o.cls = .type "function"
theorem ns_val {K : PySem.W.Frag} {h : Heap} {N : Addr} {m : Str → Option Value} {x : Str} {v : Value} (kin : K.In h) (G : h.Ns N m) (e : PySem.W.nsIn K N x = some (some v)) : m x = some v := by
  obtain ⟨o, es, ep, e1, e2, _, e3⟩ := G
  unfold PySem.W.nsIn at e
  split at e
  · rename_i q
    have z := kin _ _ q
    rw [e1] at z
    cases z
    cases e2
    split at e
    · rename_i w
      rw [← e3]
      unfold nsFind findBy
      rw [← Array.find?_toList, w]
      simpa using e
    · split at e <;> cases e
  · cases e
theorem NeCls.at {K : PySem.W.Frag} {C g a dx : Addr} {h : Heap} (c : NeCls K C g) (kin : K.In h) (ha : h.get? a = some (PySem.W.instObj C dx)) : h.OwnEqNoNe a C g "object" [.type "object"] := by
  obtain ⟨nm, q, N, bs, hd, sn, sub, ab, col, dd, k0, k1, k2, k3, k5, nid, e1, e2, e3, e4⟩ := c.ex
  obtain ⟨o, e5, e6⟩ := c.fn
  have hN : h.Ns N (h.nsMap N) := .of_isNs (PySem.W.isNs_of_in kin e2)
  exact ⟨_, o, nm, q, N, bs, hd, sn, sub, ab, col, dd, k0, k1, k2, k3, k5, nid, h.nsMap N, _, ha, rfl, kin _ _ e1, hN, ns_val kin hN e3, kin _ _ e5, e6, F.cmp_object.mro, F.cmp_object.eq.lookup, PySem.W.ns_none_of kin hN e4⟩
def rNeOwn (C : Addr) (sp : Sp) : R2 := fun x y H Q => ∃ a dx fs b dy gs, x = .ref a ∧ y = .ref b ∧ H a = some (.ins C dx fs) ∧ H b = some (.ins C dy gs) ∧ sp [x, y] H (fun v H' => ∃ c, v = .bl c ∧ Q (.bl (!c)) H') E0
theorem op_neOwn {C g : Addr} {fd : FuncData} {ps : List Str} {sp : Sp} {n : Nat} (c : NeCls X.K C g) (F : FnOk X.prog X.w X.K X.mg X.base CX0 n g fd ps sp) (bind : Binds X.K fd ps []) (room : Room (n + 1) X.A) : OpR X (compareOp .NotEq) (rNeOwn C sp) := by
  intro pins st σ h x y v u Z inv rx ry pre
  obtain ⟨a, dx, fs, b, dy, gs, rfl, rfl, ha, hb, z⟩ := pre
  obtain rfl : v = Value.ref a := rx
  obtain rfl : u = Value.ref b := ry
  obtain ⟨_, _, _, ga, _⟩ := inv.hok a _ ha
  obtain ⟨_, _, _, gb, _⟩ := inv.hok b _ hb
  have un := room.un
  refine compareOp_ne_ownEq (h := st.heap) (g := st.gens) (d := st.drawn) (t := st.toks) (os := st.os) PySem.F.cmp_object (c.at inv.kIn ga) gb rfl (by omega) ?_
  refine wpAny_mono (run0 (E' := X.xe) (xs := [.ref a, .ref b]) F room.in1 inv.env0.in1 bind inv (.cons rfl (.cons rfl .nil)) z) (fun w s2 r => ?_) fun _ _ z => z
  obtain ⟨v', h2, inv2, rz, cc, rfl, q2⟩ := r
  obtain rfl : w = Value.bool cc := rz
  exact ⟨cc, rfl, ⟨.bl (!cc), h2, inv2, rfl, q2⟩⟩
/-! ### str(o) by own __str__ -/
def rStrOwn (C : Addr) (sp : Sp) : List V → Hp → VK → Prop := fun xs H Q => ∃ a dx fs, xs = [.ref a] ∧ H a = some (.ins C dx fs) ∧ sp [.ref a] H (fun v H' => ∃ t, v = .str t ∧ Q (.str t) H') E0
theorem call_strOwn {C g : Addr} {fd : FuncData} {ps : List Str} {sp : Sp} {n : Nat} (hs : PySem.W.findIn X.K (.ref C) "__str__" = some (some (.ref g))) (hf : PySem.W.isFn X.K (.ref g) = true) (F : FnOk X.prog X.w X.K X.mg X.base CX0 n g fd ps sp) (bind : Binds X.K fd ps [])
    (room : Room (n + 2) X.A) : CallR X (.type "str") (rStrOwn C sp) := by
  intro pins st σ h xs us Z inv rel pre
  obtain ⟨a, dx, fs, rfl, ha, z⟩ := pre
  obtain ⟨u, rfl, ru⟩ : ∃ u, us = [u] ∧ RelV (.ref a) u := by
    cases rel with
    | cons e t => cases t; exact ⟨_, rfl, e⟩
  obtain rfl : u = Value.ref a := ru
  obtain ⟨od, J⟩ := inst_of inv ha
  have un := room.un
  refine PySem.W.kso_call (show X.A.units + 1 + 1 < cLine by omega) inv.kIn J hs hf ?_
  refine wpAny_mono (run0 (E' := X.xe) (xs := [.ref a]) F room.in1.in1 inv.env0.in1.in1 bind inv (.cons rfl .nil) z) (fun w s2 r => ?_) fun _ _ z => z
  obtain ⟨v', h2, inv2, rz, t, rfl, q2⟩ := r
  obtain ⟨tk, rfl⟩ : ∃ tk, w = Value.str t tk := rz
  exact ⟨.str t, h2, inv2, ⟨tk, rfl⟩, q2⟩
/-! ### o.m(.., k = v, ..) -/
structure CalleeMK (P : Program) (w : World) (K : PySem.W.Frag) (mg : Str → Option Value) (base : Heap) (k : Nat) (C : Addr) (m : Str) (ps : List Str) (sp : Sp) (n : Nat) (ks : List Str) (gV : List V → List V → List V) : Prop where
  ex : ∃ (f : Addr) (fd : FuncData) (g : List Value → List Value → List Value), FnOk P w K mg base CX0 k f fd ps sp ∧ Meth K C m f ∧ KBn K fd ps (n + 1) ks g gV
  cl : Cls K C
def tMethK0 (C : Addr) (m : Str) (n : Nat) (sp : Sp) (gV : List V → List V → List V) (ta : TE) (tk : TA) : TE := fun σ H Q => ta σ H fun x H1 => ∃ a dx fs, x = .ref a ∧ H1 a = some (.ins C dx fs) ∧ fs.lookup m = none ∧ tk σ H1 fun zs H2 => zs.length = n ∧ sp (gV [.ref a] zs) H2 Q E0
theorem pe_methK0 {pl : Sem Bool} {k : Nat} {C : Addr} {m : Str} {ps ks : List Str} {sp : Sp} {gV : List V → List V → List V} {o : Expr} {kws : List Keyword} {apos pos : Pos} {ta : TE} {tk : TA} (c : CalleeMK X.prog X.w X.K X.mg X.base k C m ps sp 0 ks gV) (ho : PE X o ta) (room : Room k X.A) (hkw : PK X kws tk)
    (d1 : (backToKw pos (keywordEach kws X.env)).all (·.1.isSome) = true := by rfl) (d2 : (backToKw pos (keywordEach kws X.env)).filterMap (·.1) = ks := by rfl) (d3 : ((backTo pos (starEach [] X.env)).any (·.1) || (backToKw pos (keywordEach kws X.env)).any (·.1.isNone)) = false := by rfl)
    (d4 : eval (.Call (.Attribute o m apos) [] kws pos) X.env = (do
      let ov ← eval o X.env
      standAt apos.atName
      let (f, first) ← holding [ov] (getMethod ov m pl)
      callWith pos f first (backTo pos (starEach [] X.env)) (backToKw pos (keywordEach kws X.env))) := by rfl) :
    PE X (.Call (.Attribute o m apos) [] kws pos) (tMethK0 C m ks.length sp gV ta tk) := by
  obtain ⟨f, fd, g, F, hm, hb⟩ := c.ex
  refine ⟨fun pins st σ h Z inv pre => PySem.W.methodCall_KW (pl := pl) (thn (ho.run pins st σ h _ inv pre) fun u s1 r => ?_) d4⟩
  obtain ⟨x, h1, inv1, rx, a, dx, fs, rfl, ea, no, z⟩ := r
  obtain rfl : u = Value.ref a := rx
  refine getmeth_ok inv1 ea c.cl hm no (PySem.W.callWith_KW0 (first := [.ref a]) (h₀ := X.base) inv.ok.mod.kin hm.kp d1 (thn (hkw.run pos pins s1 σ h1 _ inv1 z) fun ws s2 r => ?_) d3)
  obtain ⟨zs, h2, inv2, rel, l2, z2⟩ := r
  refine ⟨inv2.kIn, ?_⟩
  rw [d2]
  exact run_fnN (us := [.ref a]) (vs := [.ref a]) F room hb pass0 inv2 (.cons rfl .nil) rel rfl l2 z2
theorem r_methK0 {σ : L2.St} {H : Hp} {Q : VK} {C : Addr} {m : Str} {n : Nat} {sp : Sp} {gV : List V → List V → List V} {ta : TE} {tk : TA}
    (q : ta σ H fun x H1 => ∃ a dx fs, x = .ref a ∧ H1 a = some (.ins C dx fs) ∧ fs.lookup m = none ∧ tk σ H1 fun zs H2 => zs.length = n ∧ sp (gV [.ref a] zs) H2 Q E0) : tMethK0 C m n sp gV ta tk σ H Q := q
/-! ### an item of a dict of the text -/
theorem ix_kd {d : Addr} {es : Array DictEntry} {n : Nat} (D : KDict X.K X.w d es n) : IxR X (fun x y H Q => ∃ (z : Str) (u0 : Value) (v0 : V), x = .ref d ∧ y = .str z ∧ PySem.W.nsIn X.K d z = some (some u0) ∧ RelV v0 u0 ∧ Q v0 H) := by
  intro value slice pins st σ h x y v u Z inv rx ry pre hs
  have pre' := pre
  obtain ⟨z, u0, v0, rfl, rfl, e, r, q⟩ := pre'
  obtain rfl : v = Value.ref d := rx
  have ty : st.TypeIs (.ref d) "dict" := ⟨_, inv.kIn _ _ D.at_, rfl⟩
  exact tail_any ty PySem.F.slot_dict_getitem.lookup (op_item_kd D pins st σ h (.ref d) (.str z) _ u Z inv rfl ry pre) hs
theorem r_joined {σ : L2.St} {H : Hp} {te : TE} {ts : List TE} {acc : Str} {QJ : Str → Hp → Prop} (q : te σ H fun x H1 => ∃ y : Str, x = .str y ∧ (acc ++ y).length ≤ sizeLine ∧ tJs ts (acc ++ y) σ H1 QJ) : tJs (te :: ts) acc σ H QJ := q
theorem r_joined0 {σ : L2.St} {H : Hp} {acc : Str} {QJ : Str → Hp → Prop} (q : QJ acc H) : tJs [] acc σ H QJ := q
theorem r_fmt {σ : L2.St} {H : Hp} {te : TE} {Q : VK} (q : te σ H fun x H1 => (∃ y : Str, x = .str y ∧ y.length ≤ sizeLine ∧ Q (.str y) H1) ∨ ∃ i : Int, x = .int i ∧ i.natAbs.log2 < 1920 ∧ Q (.str (toString i)) H1) : tFmt te σ H Q := q
theorem r_fmtS {H : Hp} {Q : VK} {z : Str} {B : Prop} (h : z.length ≤ sizeLine) (q : Q (.str z) H) : (∃ y : Str, V.str z = .str y ∧ y.length ≤ sizeLine ∧ Q (.str y) H) ∨ B := .inl ⟨z, rfl, h, q⟩
/-- C(k = v, ..) -/
structure CalleeIK (P : Program) (w : World) (K : PySem.W.Frag) (mg : Str → Option Value) (base : Heap) (CX : CXT) (k : Nat) (C : Addr) (x : Str) (ps : List Str) (sp : Sp) (ks : List Str) (gV : List V → List V → List V) : Prop where
  ex : ∃ (f : Addr) (fd : FuncData) (g : List Value → List Value → List Value), FnOk P w K mg base CX k f fd ps sp ∧ Mk K C f ∧ mg x = some (.ref C) ∧ KBn K fd ps 1 ks g gV
theorem pe_makeKC {CX : CXT} {k : Nat} {C : Addr} {x : Str} {ps ks : List Str} {sp : Sp} {gV : List V → List V → List V} {E : XK} {kws : List Keyword} {p pos : Pos} {tk : TA} (c : CalleeIK X.prog X.w X.K X.mg X.base CX k C x ps sp ks gV) (room : Room (k + 1) X.A) (gl : Gl X x) (pass : Passes CX X E) (hkw : PK X kws tk)
    (d1 : (backToKw pos (keywordEach kws X.env)).all (·.1.isSome) = true := by rfl) (d2 : (backToKw pos (keywordEach kws X.env)).filterMap (·.1) = ks := by rfl) (d3 : (x == ("__debug__" : Str)) = false := by decide)
    (d4 : ((backTo pos (starEach [] X.env)).any (·.1) || (backToKw pos (keywordEach kws X.env)).any (·.1.isNone)) = false := by rfl) :
    PE X (.Call (.Name x p) [] kws pos) (tMakeK C 0 ks.length sp gV E tNil tk) := by
  obtain ⟨f, fd, g, F, M, hm, hb⟩ := c.ex
  exact pe_makeK0 M F room gl hm hb pass hkw d1 d2 d3 d4
theorem r_makeK {σ : L2.St} {H : Hp} {Q : VK} {C : Addr} {n m : Nat} {sp : Sp} {gV : List V → List V → List V} {E : XK} {t tk : TA} (q : t σ H fun vs H1 => tk σ H1 fun zs H2 => vs.length = n ∧ zs.length = m ∧ ∀ x dx, H2 x = none → H2 dx = none → dx ≠ x →
    sp (gV (.ref x :: vs) zs) (upd (upd H2 dx (.own x)) x (.ins C dx [])) (fun v H3 => v = .non ∧ Q (.ref x) H3) E) : tMakeK C n m sp gV E t tk σ H Q := q
/-- a special method of the text's class; the class for != -/
structure OwnM (P : Program) (w : World) (K : PySem.W.Frag) (mg : Str → Option Value) (base : Heap) (k : Nat) (C : Addr) (m : Str) (ps : List Str) (sp : Sp) : Prop where
  ex : ∃ (g : Addr) (fd : FuncData), PySem.W.findIn K (.ref C) m = some (some (.ref g)) ∧ PySem.W.isFn K (.ref g) = true ∧ FnOk P w K mg base CX0 k g fd ps sp ∧ Binds K fd ps []
structure OwnNe (P : Program) (w : World) (K : PySem.W.Frag) (mg : Str → Option Value) (base : Heap) (k : Nat) (C : Addr) (ps : List Str) (sp : Sp) : Prop where
  ex : ∃ (g : Addr) (fd : FuncData), NeCls K C g ∧ FnOk P w K mg base CX0 k g fd ps sp ∧ Binds K fd ps []
theorem call_strO {C : Addr} {ps : List Str} {sp : Sp} {n : Nat} (c : OwnM X.prog X.w X.K X.mg X.base n C "__str__" ps sp) (room : Room (n + 2) X.A) : CallR X (.type "str") (rStrOwn C sp) := by
  obtain ⟨g, fd, h1, h2, F, b⟩ := c.ex
  exact call_strOwn h1 h2 F b room
theorem op_eqO {C : Addr} {ps : List Str} {sp : Sp} {n : Nat} (c : OwnM X.prog X.w X.K X.mg X.base n C "__eq__" ps sp) (room : Room n X.A) : OpR X (compareOp .Eq) (rEqOwn X.K C sp) := by
  obtain ⟨g, fd, h1, h2, F, b⟩ := c.ex
  exact op_eqOwn h1 h2 F b room
theorem op_neO {C : Addr} {ps : List Str} {sp : Sp} {n : Nat} (c : OwnNe X.prog X.w X.K X.mg X.base n C ps sp) (room : Room (n + 1) X.A) : OpR X (compareOp .NotEq) (rNeOwn C sp) := by
  obtain ⟨g, fd, h1, F, b⟩ := c.ex
  exact op_neOwn h1 F b room
end
end KO

/-! KX: own error classes over ValueError whose __init__ says super().__init__(text) and sets one field. -/
namespace KX
open PySem PySem.Spec PyProof.Rows L2 KB
/-- the frame of such an __init__ -/
def supCx (CXx : CXT) (P : Program) (w : World) (K : PySem.W.Frag) (mg : Str → Option Value) (base : Heap) (N : List Str) (ql : Str) (sc : Scope) (f cda cc : Addr) (A : Around) (out : List Env) (st : Shared) (h : Hp) (W : XK) : Cx where
  prog := P
  w := w
  K := K
  mg := mg
  base := base
  A := A.deeper (PySem.W.ksEnv ql sc st.heap.objs.size f (.ref cda) cc)
  N := N
  s_0 := st
  H_0 := h
  env := PySem.W.ksEnv ql sc st.heap.objs.size f (.ref cda) cc
  outer := out
  stack := PySem.W.ksEnv ql sc st.heap.objs.size f (.ref cda) cc :: out
  ex := []
  fn := fun _ => false
  calm := true
  pn := []
  xe := fun e s' => wpAny (model P w) (A.deeper (PySem.W.ksEnv ql sc st.heap.objs.size f (.ref cda) cc)) (leaving (PySem.W.ksEnv ql sc st.heap.objs.size f (.ref cda) cc) e) (fun _ s'' => CXx out h st W e s'') (fun e' s'' => CXx out h st W e' s'') s'
theorem cls_only {y : Str} {cc c : Addr} (e : ([(("__class__" : Str), cc)] : List (Str × Addr)).lookup y = some c) : y = "__class__" ∧ c = cc := by
  simp only [List.lookup] at e
  split at e
  · rename_i z
    exact ⟨by simpa using z, (Option.some.inj e).symm⟩
  · cases e
theorem inv_sup {CXx : CXT} {P : Program} {w : World} {K : PySem.W.Frag} {mg : Str → Option Value} {base : Heap} {vn ql : Str} {sc : Scope} {f cda cc : Addr} {A : Around} {out : List Env} {st : Shared} {h : Hp} {W : XK} {u1 u2 : Value} {v1 v2 : V} {h1 : Heap} {tk : Nat} {cl : Value} {cld : Option Addr} {csl : Array (Option Value)} {cv : Option Value}
    (e0 : Env0 P w K mg base A out st h) (hd : A.handled = none) (kind : sc.kind = .function) (nocell : ∀ y ∈ sc.names, y.2 ≠ .cell) (nofree : ∀ y, sc.names.lookup y = some .free → y = "__class__") (l1 : sc.names.lookup ("self" : Str) = some .local) (l2 : sc.names.lookup vn = some .local) (nv : vn ≠ "self")
    (hc : K.lookup cc = some ⟨cl, cld, .cell cv, csl⟩) (hns : h1.Ns st.heap.objs.size (fun y => ([(("self" : Str), u1), (vn, u2)] : List (Str × Value)).reverse.lookup y)) (kp : ∀ b o, st.heap.get? b = some o → h1.get? b = some o) (r1 : RelV v1 u1) (r2 : RelV v2 u2) :
    Inv (supCx CXx P w K mg base ["self", vn] ql sc f cda cc A out st h W) [] [some v1, some v2] h { st with heap := h1, toks := tk } := by
  have noA : ∀ b : Addr, b ∉ (supCx CXx P w K mg base ["self", vn] ql sc f cda cc A out st h W).ex := fun b z => absurd (show b ∈ ([] : List Addr) from z) (by simp)
  have ccb := e0.bs _ _ (e0.mod.kin _ _ hc)
  refine ⟨⟨e0.mod, kind, rfl, rfl, Nat.le_refl _, fun y z c a b => (cls_only a).1.trans (cls_only b).1.symm, fun y hy => ?_, fun y c z _ => ?_, fun _ => hd, Around.frames_deeper e0.frames, .inr ⟨rfl, rfl⟩, fun b z => absurd z (noA b), e0.bs, e0.bsz, fun b _ _ => noA b, fun b z => absurd z (noA b), e0.funs, e0.frf⟩,
    rfl, e0.bare, Un.kept kp, ⟨_, hns, fun i y v a b c => ?_⟩, fun y c e => ?_, e0.hok.fresh (Nat.le_refl _), fun y c e => ?_, fun p hp => absurd (show p ∈ ([] : List (Addr × Obj)) from hp) (by simp), e0.hok.kept kp, rfl⟩
  · have hy : sc.names.lookup y = some .cell ∨ sc.names.lookup y = some .free := hy
    rcases hy with hy | hy
    · exact absurd rfl (nocell _ (PySem.mem_of_lookup hy))
    · rw [nofree y hy]
      exact ⟨cc, rfl⟩
  · have z : false = true := z
    cases z
  · match i, a, b with
    | 0, a, b =>
      obtain rfl : ("self" : Str) = y := Option.some.inj a
      obtain rfl : v1 = v := Option.some.inj (Option.some.inj b)
      refine ⟨u1, r1, .inl ⟨l1, ?_⟩⟩
      have nv' : ¬ (("self" : Str) == vn) = true := by simpa using fun z : ("self" : Str) = vn => nv z.symm
      simp [List.lookup, nv']
    | 1, a, b =>
      obtain rfl : vn = y := Option.some.inj a
      obtain rfl : v2 = v := Option.some.inj (Option.some.inj b)
      exact ⟨u2, r2, .inl ⟨l2, by simp [List.lookup]⟩⟩
    | i + 2, a, b => cases a
  · obtain ⟨rfl, rfl⟩ := cls_only e
    exact ⟨cv, _, kp _ _ ccb.1, rfl⟩
  · obtain ⟨rfl, rfl⟩ := cls_only e
    exact ccb.2
section
variable {prog : Program} {w : World} {A : Around} {E : Value → Shared → Prop} {h : Heap} {g : Array GenState} {d : Drawn} {t : Nat} {os : OsState}
variable {nm q : Str} {C N : Addr} {bs bm : List Value} {hdct : Bool} {sn : List Str} {sub : List Value} {ab : Bool} {col : Option Bool} {dd : Option Addr} {k0 k1 k2 k3 k5 : Option Value}
theorem call_mw {u e t0 : Addr} {rest : List Value} {Q : Value → Shared → Prop}
    (hC : h.get? C = some (excClassObj nm q C N bs bm hdct sn sub ab col dd k0 k1 k2 k3 k5 "ValueError.__new__")) (he : h.get? e = some (HandSPX.excO C t0)) (hu : h.get? u = some (PySem.W.kxs_mw "ValueError.__init__" e)) (hrest : rest.length ≤ sizeLine)
    (hq : ∀ h' t1, (∀ b o, b ≠ e → h.get? b = some o → h'.get? b = some o) → h'.get? e = some (HandSPX.excO C t1) → Q .none ⟨h', g, d, t, os⟩) :
    wpAny (model prog w) A (call (.ref u) rest) Q E ⟨h, g, d, t, os⟩ := by
  refine (wpAny_call (codeAny_of_tree ?_)); show wpAny _ A.in1 (callAny (.ref u) ⟨rest, []⟩) _ _ _; simp only [callAny]
  refine (wpAny_bind (wpAny_load hu ?_))
  simp only [PySem.W.kxs_mw, show (Value.type "method-wrapper" == Value.type "method" || Value.type "method-wrapper" == Value.type "builtin_function_or_method" || Value.type "method-wrapper" == Value.type "method-wrapper") = true by decide, if_true]
  refine (W.KFB.if_so (by decide) ?_)
  refine (wpAny_bind (ESX.check_bound F.excBase_ValueError hC he rfl ?_))
  refine (wpAny_bind (wpAny_pure (wpAny_pure ?_)))
  refine (⟨Code.quiet_builtin _ (by decide +kernel), codeAny_builtin F.excBase_ValueError.initEntry ?_⟩)
  rw [Around.under_plainId F.excBase_ValueError.init.plain _]; wp_walk
  refine hq _ h.objs.size (fun b o n e1 => ?_) ?_
  · exact (Heap.get?_update_other _ _ (Ne.symm n)).trans (Heap.get?_push_of_some _ e1)
  · exact Heap.get?_update_self _ (Heap.get?_push_of_some _ he) rfl
end
/-- what the text says of such an __init__ of the class at C -/
structure SupFn (K : PySem.W.Frag) (P : Program) (f : Addr) (fd : FuncData) (C : Addr) (vn fld : Str) : Prop where
  ex : ∃ (ql : Str) (pr : Arguments) (sc : Scope) (dV kV doc pm ct oc ccl cl : Value) (an od cdd cld : Option Addr) (osl ccs csl : Array (Option Value)) (cda cc : Addr) (vs : Array Value) (file : Str) (tf : Tok) (p0 p1 p2 p3 p4 p5 q1 q2 q3 q4 : Pos) (msg : Str) (j : Nat) (ar : Arg) (pl : Sem Bool),
    fd = PySem.W.ksFn "__init__" ql pr [.Expr (.Call (.Attribute (.Call (.Name "super" p0) [] [] p1) "__init__" p2) [.Constant (.str msg) j p3] [] p4) p5, .Assign [.Attribute (.Name "self" q1) fld q2] (.Name vn q3) q4] sc dV kV doc pm an (.ref cda) ct cc ∧
    K.lookup f = some ⟨oc, od, .func fd, osl⟩ ∧ PySem.W.codeIn K (.ref cda) ql = true ∧ K.lookup cda = some ⟨ccl, cdd, .fields vs, ccs⟩ ∧ vs[2]? = some (.str file tf) ∧ ((P.main.file : Str) == file) = true ∧
    K.lookup cc = some ⟨cl, cld, .cell (some (.ref C)), csl⟩ ∧ (pr.posonlyargs ++ pr.args).head? = some ar ∧ ar.arg = "self" ∧
    sc.kind = .function ∧ sc.isCoroutine = false ∧ sc.isGenerator = false ∧ (∀ y ∈ sc.names, y.2 ≠ .cell) ∧ (∀ y, sc.names.lookup y = some .free → y = "__class__") ∧ sc.names.lookup ("super" : Str) = some .globalImplicit ∧ sc.names.lookup ("__class__" : Str) = some .free ∧
    sc.names.lookup ("self" : Str) = some .local ∧ sc.names.lookup vn = some .local ∧
    (∀ en : Env, eval (.Call (.Attribute (.Call (.Name "super" p0) [] [] p1) "__init__" p2) [.Constant (.str msg) j p3] [] p4) en = (do
      let ov ← attributeBase (.Call (.Name "super" p0) [] [] p1) "__init__" en (eval (.Call (.Name "super" p0) [] [] p1) en)
      standAt p2.atName
      let (g, first) ← holding [ov] (getMethod ov "__init__" pl)
      callWith p4 g first (backTo p4 (starEach [.Constant (.str msg) j p3] en)) []))
  top : (P.main.scope.names.lookup ("super" : Str)).isSome = false
  nv : vn ≠ "self" ∧ (vn == ("__debug__" : Str)) = false ∧ (vn == ("__classdict__" : Str)) = false
  opq : PySem.W.nsIn K cStatics "thirdparty.any" = some none
  sub : PySem.W.mroIn K C (.ref C) = some true
  ve : PySem.W.mroIn K C (.type "ValueError") = some true
  sup : PySem.W.ks_superIn K C C "__init__" = some (some (.builtin "ValueError.__init__"))
  nof : PySem.W.findIn K (.ref C) fld = some none
def spXI (C : Addr) (fld : Str) : Sp := fun vs H Q _ => ∃ (a : Addr) (v : V), vs = [.ref a, v] ∧ H a = some (exo a C none) ∧ ∀ dx, H dx = none → dx ≠ a → Q .non (upd (upd H dx (exd dx [(fld, v)])) a (exo a C (some dx)))
theorem sup_ok {P : Program} {w : World} {K : PySem.W.Frag} {mg : Str → Option Value} {base : Heap} {k : Nat} {f C : Addr} {fd : FuncData} {vn fld : Str} (S : SupFn K P f fd C vn fld) (T : OexC K C) (hm : mg "super" = none) (hboot : bootBuiltins "super" = some (.type "super")) : FnOk P w K mg base CX0 (k + 1) f fd ["self", vn] (spXI C fld) := by
  refine ⟨fun xs h Z W z => ?_, fun A out st h ar0 ws xs Z W room env bind vals pre => ?_⟩
  · obtain ⟨a, v, rfl, _⟩ := z
    rfl
  obtain ⟨a, v, rfl, ha, q⟩ := pre
  obtain ⟨u1, u2, rfl, r1, r2⟩ := vals2 vals
  obtain ⟨ql, pr, sc, dV, kV, doc, pm, ct, oc, ccl, cl, an, od, cdd, cld, osl, ccs, csl, cda, cc, vs, file, tf, p0, p1, p2, p3, p4, p5, q1, q2, q3, q4, msg, j, ar, pl, rfl, lf, cdf, lcd, hvs, hfile, lcc, hp, har, kind, nco, ngen, nocell, nofree, ks, kc, kself, kvn, hev⟩ := S.ex
  have kin : K.In st.heap := env.mod.kin.keeps fun b o e => (env.bs b o e).1
  have nolim : st.heap.NoLimit := env.mod.nolimit.keeps fun b o e => (env.bs b o e).1
  refine ks_codeAny_call_defAt (binds := [("self", u1), (vn, u2)]) room.depth (kin _ _ lf) rfl nolim (PySem.W.codeRec_of kin cdf) rfl bind nocell (fun y hy => ?_) (fun h1 hns kp => ?_) nco ngen kind
  · simp only [List.mem_cons, List.not_mem_nil, or_false] at hy
    rcases hy with rfl | rfl
    · exact kself
    · exact kvn
  obtain rfl : u1 = Value.ref a := r1
  have I : Inv (supCx CX0 P w K mg base ["self", vn] ql sc f cda cc A out st h W) [] [some (.ref a), some v] h { st with heap := h1, toks := st.toks + 2 } := inv_sup env room.hd kind nocell nofree kself kvn S.nv.1 lcc hns kp rfl r2
  have hi : interactive (PySem.W.ksEnv ql sc st.heap.objs.size f (.ref cda) cc) = false := by
    unfold interactive
    simp [kind]
  refine ks_wpAt_execs_cons (ks_wpAt_Expr_any (env := PySem.W.ksEnv ql sc st.heap.objs.size f (.ref cda) cc) ?_ hi)
  refine ks_wpAt_MethodCall (pl := pl) (env := PySem.W.ksEnv ql sc st.heap.objs.size f (.ref cda) cc) ?_ (hev _)
  have bk := I.bk
  have kin1 : K.In h1 := I.kIn
  obtain ⟨t1, ga⟩ := exo_at I.hok ha
  obtain ⟨nm, qn, N, bs, bm, sn, sub, ab, col, dd, k0, k1, k2, k3, k5, hC, hbm⟩ := T.cls
  have hcl : PySem.W.clsIn K C = some { name := nm, bases := bs, mro := .ref C :: bm, ns := N, qualname := qn, hasDict := true, slotNames := sn, subclasses := sub, abstract := ab, collection := col, hasDel := false } := by unfold PySem.W.clsIn; rw [hC] <;> rfl
  obtain ⟨mb, b1, b2⟩ := env.mod.blt
  have kb : ∀ b o, base.get? b = some o → h1.get? b = some o := fun b o e => kp b o (env.bs b o e).1
  refine ks_wpAt_super_base (env := PySem.W.ksEnv ql sc st.heap.objs.size f (.ref cda) cc) ks kc (by decide) rfl (kin1 _ _ lf) rfl hp rfl (kin1 _ _ lcd) rfl hvs hfile S.top ?_
  refine PySem.W.ks_loadName_global kind ks (Calls.loadGlobal_builtin (env := PySem.W.ksEnv ql sc st.heap.objs.size f (.ref cda) cc) (env.mod.glob.keeps kb) hm (b1.keeps kb) ((b2 "super" (by decide)).trans hboot) ⟨rfl, ?_⟩)
  refine wpAny_loadName_free kind kc rfl ⟨_, kin1 _ _ lcc, rfl⟩ ?_
  rw [har]
  refine wpAny_loadName_local kind kself hns (v := .ref a) ?_ ?_
  · have nv' : ¬ (("self" : Str) == vn) = true := by simpa using fun z : ("self" : Str) = vn => S.nv.1 z.symm
    simp [List.lookup, nv']
  refine ks_wpAny_isType_cls (kin1 _ _ hC) rfl ⟨rfl, ?_⟩
  refine ks_wpAny_call_super (kin1 _ _ hC) rfl ga rfl (fun c z => by cases z) (PySem.W.looks_mroIn kin1 S.sub) (fun h2 e2 kp2 => ?_)
  have kin2 : K.In h2 := kin1.keeps kp2
  have J2 : PySem.W.InstAt h2 a _ C none := ⟨kp2 _ _ ga, rfl, rfl, trivial⟩
  have hsup : PySem.W.alongIn K "__init__" (((Value.ref C :: bm).dropWhile (· != .ref C)).drop 1) = some (some (.builtin "ValueError.__init__")) := by
    have z := S.sup
    unfold PySem.W.ks_superIn at z
    rw [hcl] at z
    exact z
  refine PySem.W.kxs_getMethod PySem.W.kxs_ValueError e2 (PySem.W.looks_opaque kin2 S.opq) (l₀ := Value.ref C :: bm) (fun A Q E s k q => wpAny_bind ((PySem.W.looks_clsIn kin2 hcl) A _ E s k (wpAny_pure q))) rfl kin2 hsup (J2.type.andThen (PySem.W.looks_mroIn kin2 S.ve)) (PySem.W.ks_ne kin2 J2 hcl) (by decide) ?_
  have gu : (h2.push (PySem.W.kxs_mw "ValueError.__init__" a)).get? h2.objs.size = some (PySem.W.kxs_mw "ValueError.__init__" a) := Heap.get?_push_at rfl rfl
  have kp3 : ∀ b o, h1.get? b = some o → (h2.push (PySem.W.kxs_mw "ValueError.__init__" a)).get? b = some o := fun b o e => Heap.get?_push_of_some _ (kp2 _ _ e)
  refine PySem.W.kxs_callWith (i := "ValueError.__init__") (x := a) rfl ?_
  refine Calls.evalArgs_plain (x := eval (.Constant (.str msg) j p3) (PySem.W.ksEnv ql sc st.heap.objs.size f (.ref cda) cc)) (rest := []) ?_
  refine Calls.spliced_cons (Calls.Constant_str (Calls.spliced_nil ?_))
  refine ⟨gu, ?_⟩
  refine call_mw (kp3 _ _ (kin1 _ _ hC)) (kp3 _ _ ga) gu (show 1 ≤ sizeLine by decide) (fun h4 t4 kp4 ga4 => ?_)
  have J0 := (I.kept (t' := 0) kp3).write (t' := st.toks + 2 + 1 + 1) (x := a) (e := a) (o := exo a C none) (by rw [ha]; exact True.intro) (.inl rfl) kp4 ⟨_, ga4⟩ (exo_ok ga4)
  have eu : upd h a (exo a C none) = h := by
    funext b
    by_cases hb : b = a
    · rw [hb, upd_same, ha]
    · rw [upd_ne hb]
  rw [eu] at J0
  have ps : PSs (supCx CX0 P w K mg base ["self", vn] ql sc f cda cc A out st h W) [.Assign [.Attribute (.Name "self" q1) fld q2] (.Name vn q3) q4] _ := pss_one (ps_ost (pv 0 rfl (.inl kself)) (pv 1 rfl (.inl kvn) S.nv.2.1 S.nv.2.2))
  refine wpAt_of_wpAny (wpAny_mono (ps.run [] _ [some (.ref a), some v] h { nx := fun _ h' => Z .non h', rt := Z } J0 ?_) (fun flow s2 res => ?_) fun _ _ z => z)
  · refine ⟨v, rfl, .ref a, rfl, a, C, rfl, T, S.nof, .inl ⟨ha, fun dx ndx nda => ?_⟩⟩
    exact q dx ndx nda
  · cases flow with
    | ret u => exact let ⟨v, _, h2, J, rel, z⟩ := res; ⟨v, h2, J.os, J.bare, J.base, J.hok, rel, z⟩
    | next => exact let ⟨_, h2, J, z⟩ := res; ⟨.non, h2, J.os, J.bare, J.base, J.hok, rfl, z⟩
    | brk => exact (let ⟨_, _, _, z⟩ := res; z : False).elim
    | cont => exact (let ⟨_, _, _, z⟩ := res; z : False).elim
/-! ### an exception kept behind its suite -/
/-- at a: an exception of the class cls, its dict at d -/
def exh (a : Addr) (cls : Value) (d : Option Addr) : HO := .ext fun h => ∃ (o : Obj) (vs : Array Value), h.get? a = some o ∧ Zc cls d o ∧ o.data = .fields vs
theorem exh_at {P : Program} {w : World} {H : Hp} {h : Heap} {a : Addr} {cls : Value} {d : Option Addr} (ok : HOk P w H h) (e : H a = some (exh a cls d)) : ∃ (o : Obj) (vs : Array Value), h.get? a = some o ∧ Zc cls d o ∧ o.data = .fields vs := by
  have z := ok a _ e
  exact z.1
theorem exh_ok {P : Program} {w : World} {H : Hp} {h : Heap} {a : Addr} {cls : Value} {d : Option Addr} {o : Obj} {vs : Array Value} (e : h.get? a = some o) (z : Zc cls d o) (hd : o.data = .fields vs) : ObjOk P w H h a (exh a cls d) :=
  ⟨⟨o, vs, e, z, hd⟩, ⟨o, e⟩, fun h1 h2 ⟨o1, vs1, e1, z1, d1⟩ k => ⟨o1, vs1, k _ e1, z1, d1⟩⟩
/-- an object that was not there at the def's start is followed from now on -/
theorem track {X : Cx} {pins : List (Addr × Obj)} {σ : L2.St} {H : Hp} {s : Shared} {a : Addr} {o : Obj} {vs : Array Value} {cls : Value} {d : Option Addr} (I : Inv X ((a, o) :: pins) σ H s) (z : Zc cls d o) (hd : o.data = .fields vs) (new : X.s_0.heap.get? a = none)
    (nop : ∀ p ∈ X.pn ++ pins, p.1 ≠ a) : Inv X pins σ (upd H a (exh a cls d)) s := by
  obtain ⟨ea, na, nl, nf, _⟩ := I.pin (a, o) (List.mem_append_right _ List.mem_cons_self)
  refine ⟨I.ok, I.os, I.bare, ⟨I.base.keep, I.base.slot, fun b ob e n x => ?_, I.base.there, fun b xs e => ?_, fun b ob u e => ?_, fun b ps e => ?_⟩, I.loc, I.cell, ?_, fun y c e => ?_, fun p hp => ?_, fun b u e => ?_, I.len⟩
  · rw [upd_ne (fun z => by rw [z, new] at e; cases e)]
    exact I.base.free b ob e n x
  · have z := I.base.tups b xs e
    rw [upd_ne (ne_of_none z na)]
    exact z
  · have z := I.base.frzs b ob u e
    rw [upd_ne (ne_of_none z na)]
    exact z
  · obtain ⟨m, z⟩ := I.base.tbls b ps e
    exact ⟨m, by rw [upd_ne (ne_of_none z na)]; exact z⟩
  · rw [upd_ne (Ne.symm nl)]
    exact I.free
  · obtain ⟨v, oc, ec, dc⟩ := I.cell y c e
    rw [upd_ne (fun z => by rw [z, ea] at ec; cases ec; rw [hd] at dc; cases dc)]
    exact I.freeC y c e
  · have hp' : p ∈ X.pn ++ ((a, o) :: pins) := by
      rcases List.mem_append.mp hp with z | z
      · exact List.mem_append_left _ z
      · exact List.mem_append_right _ (List.mem_cons_of_mem _ z)
    obtain ⟨g1, g2, g3, g4, g5⟩ := I.pin p hp'
    exact ⟨g1, by rw [upd_ne (nop p hp)]; exact g2, g3, g4, g5⟩
  · by_cases hb : b = a
    · subst hb
      rw [upd_same] at e
      cases e
      exact exh_ok ea z hd
    · rw [upd_ne hb] at e
      exact (I.hok b u e).stay (fun c v _ k => k) (fun c k => by rw [upd_ne (ne_of_none k na)]; exact k) fun c xs k => by rw [upd_ne (ne_of_none k na)]; exact k
/-- what 'except x as n: ..' wishes, n's object followed behind the suite -/
def wKeep (K : PySem.W.Frag) (c : Value) (i : Nat) (ts : Addr → Value → Option Addr → TS) (Wout : WX) (D : Ends) : WX := fun cls d σ H =>
  ∃ yes, PySem.W.exmOne K cls c = some yes ∧ (yes = true → ∀ a, H a = none → ts a cls d { nx := fun σ' H' => D.nx (σ'.set i none) (upd H' a (exh a cls d)), rt := D.rt, bk := fun _ _ => False, ct := fun _ _ => False } (σ.set i (some (.ref a))) H) ∧ (yes = false → Wout cls d σ H)
section
variable {X : Cx} {x n : Str} {c : Value} {i : Nat} {body suite : List Stmt} {b₀ : Stmt} {np pos pos' : Pos} {tb : WX → TS} {ts : Addr → Value → Option Addr → TS} {Wout : WX}
theorem ps_try_keep (hst : X.stack = X.env :: X.outer) (hfm : X.env.frame = some X.env.locals) (nd : X.N.Nodup) (hix : X.N[i]? = some n) (loc : X.env.kindOf n = some .local) (nam : Names X x c) (tks : Takes X Wout) (hex : X.ex = [])
    (bodyOk : ∀ (W : WX) (pn : List (Addr × Obj)) (xe : Value → Shared → Prop), Takes (X.tr pn xe) W → PassesOwn (model X.prog X.w) X.A X.env xe → PSs (X.tr pn xe) body (tb W))
    (suiteOk : ∀ (a : Addr) (oe : Obj) (cls : Value) (d : Option Addr) (pn : List (Addr × Obj)), Zc cls d oe → (∃ vs, oe.data = .fields vs) → PSs (X.suite a ((a, oe) :: pn)) (b₀ :: suite) (ts a cls d)) :
    PS X (.Try body [.ExceptHandler (some (.Name x np)) (some n) (b₀ :: suite) pos'] [] [] pos) (fun D σ H => tb (wKeep X.K c i ts Wout D) D σ H) := by
  refine ⟨fun pins st σ h D inv rdg => ?_⟩
  have okX := inv.ok
  have fr := okX.frames; rw [hst] at fr
  refine (wpAny_Try_except ?_)
  refine wpAny_mono ((bodyOk (wKeep X.K c i ts Wout D) (X.pn ++ pins) (fun e t1 => wpAny (model X.prog X.w) X.A (noteFrame e X.env) (fun _ t2 => wpAny (model X.prog X.w) X.A (setFlight e none) (fun _ t3 =>
    wpAny (model X.prog X.w) X.A (handleBy e X.env [.ExceptHandler (some (.Name x np)) (some n) (b₀ :: suite) pos']) (SP X pins D) X.xe t3) X.xe t2) X.xe t1) (fun u st' xx => ?_) PassesOwn.looking).run [] st σ h D (inv.toTry _) rdg) (fun flow t1 res => ?_) (fun _ _ z => z)
  · obtain ⟨a, G, tI, pins', σ1, h1, cls, d, rfl, K1, ground, up, sky, na, eos, ags, yes, q1, qy, qn⟩ := xx
    have I1 : Inv X pins σ1 h1 tI := K1.ofTry okX
    have sky1 : Sky G (X.env :: X.outer) a (Zc cls d) X.env.locals st'.heap := hst ▸ sky
    show wpAny (model X.prog X.w) X.A (noteFrame (.ref a) X.env) _ _ _
    refine Sky.land Zc.steady fr hfm sky1 fun hp3 fly3 up3 => ?_
    have I3 : Inv X pins σ1 h1 { st' with heap := hp3 } := I1.landed ground fly3.1 (up.trans up3) eos ags
    obtain ⟨o3, vs3, g3, z3, d3⟩ := fly3.there
    have nfr : a ∉ frs (X.env :: X.outer) := fun m => by
      obtain ⟨_, o', e', no⟩ := fly3.2.2.1.mem m
      rw [g3] at e'
      cases e'
      exact no _ d3
    have nl : a ≠ X.env.locals := fun z => nfr (List.mem_filterMap.mpr ⟨X.env, List.mem_cons_self, by rw [hfm, z]⟩)
    have nf : a ∉ X.fs := fun m => by
      obtain ⟨e, he, e2⟩ := List.mem_filterMap.mp m
      exact nfr (List.mem_filterMap.mpr ⟨e, List.mem_cons_of_mem _ he, e2⟩)
    have freshI : tI.heap.get? a = none := by
      cases e : tI.heap.get? a with
      | none => rfl
      | some o =>
        have := ground a o e (by rw [hst]; exact nfr)
        rw [fly3.2.1] at this
        cases this
    have fresh0 : X.s_0.heap.get? a = none := by
      cases e : X.s_0.heap.get? a with
      | none => rfl
      | some o =>
        obtain ⟨o', e'⟩ := I1.base.there a o e (by rw [hex]; exact List.not_mem_nil)
        rw [freshI] at e'
        cases e'
    have nop : ∀ p ∈ X.pn ++ pins, p.1 ≠ a := fun p hp z => by
      have := (I1.pin p hp).1
      rw [z, freshI] at this
      cases this
    have S3 := I3.suite g3 d3 na nl nf
    refine wpAny_handleBy_cons (codeAny_handlers_test ?_) (by intro z; cases z)
    have ty3 : PySem.W.Looks (model X.prog X.w) hp3 (typeOf (.ref a)) cls := fun A Q E s k z => wpAny_typeOf_ref (k _ _ g3) (by rw [z3.1]; exact z)
    have mt3 := PySem.W.exm_one (M := model X.prog X.w) (I3.kIn) ty3 q1
    have named : ∀ {Q : Value → Shared → Prop} {E : Value → Shared → Prop}, Q c { st' with heap := hp3 } → wpAny (model X.prog X.w) (X.A.mark (some (.ref a))) (eval (.Name x np) X.env) Q E { st' with heap := hp3 } := fun {Q E} z => by
      obtain ⟨n1, n2, n3 | ⟨n3, n4, n5⟩⟩ := nam
      · exact ld_glob (X := X.suite a ((a, o3) :: (X.pn ++ pins))) S3 n1 n3 z n2
      · exact ld_blt (X := X.suite a ((a, o3) :: (X.pn ++ pins))) S3 n1 n3 n4 z n5 n2
    refine named (mt3.here ?_)
    cases yes with
    | true =>
      refine (codeAny_handlers_suite_as ?_)
      refine HandSPX.lands_againZ fly3 fun hp4 fly4 up4 => ?_
      have I4 : Inv X pins σ1 h1 { st' with heap := hp4 } := I1.landed ground fly4.1 ((up.trans up3).trans up4) eos ags
      obtain ⟨o4, vs4, g4, z4, d4⟩ := fly4.there
      have S4 := I4.suite g4 d4 na nl nf
      refine store_ok (X := X.suite a ((a, o4) :: (X.pn ++ pins))) (v := .ref a) S4 nd hix (.inl loc) rfl (fun t5 S5 => ?_) (.inr loc)
      refine wpAny_mono ((suiteOk a o4 cls d (X.pn ++ pins) z4 ⟨_, d4⟩).run [] t5 _ h1 _ S5 (qy rfl a na)) (fun flow t6 res => ?_) (fun _ _ z => z.elim)
      have back : ∀ {σ6 : L2.St} {h6 : Hp}, Inv (X.suite a ((a, o4) :: (X.pn ++ pins))) [] σ6 h6 t6 → Inv X ((a, o4) :: pins) σ6 h6 t6 := fun {σ6 h6} S6 =>
        (S6.unsuite okX : Inv X pins σ6 h6 t6).pins_of fun p hp => by
          rcases List.mem_cons.mp hp with z | z
          · rw [z]; exact S6.pin (a, o4) (List.mem_append_left _ List.mem_cons_self)
          · exact S6.pin p (List.mem_append_left _ (List.mem_cons_of_mem _ (List.mem_append_right _ z)))
      cases flow with
      | next =>
        obtain ⟨σ6, h6, S6, q6⟩ := res
        exact gone_ok (back S6) nd hix loc fun t7 J7 => ⟨_, _, track J7 z4 d4 fresh0 nop, q6⟩
      | brk => exact (let ⟨_, _, _, z⟩ := res; z : False).elim
      | cont => exact (let ⟨_, _, _, z⟩ := res; z : False).elim
      | ret u =>
        obtain ⟨v6, σ6, h6, S6, r6, q6⟩ := res
        exact gone_ok (S6.unsuite okX) nd hix loc fun t7 J7 => ⟨_, _, _, J7, r6, q6⟩
    | false =>
      show wpAny _ X.A (handleBy (.ref a) X.env []) _ _ _
      refine (wpAny_handleBy_nil ?_)
      obtain ⟨j1, j2, j3, oe, vs, T, oT, ts', he, hz, hd, hv1, hr⟩ := id fly3
      unfold PySem.passOn
      refine (wpAny_bind (wpAny_field he hd hv1 ?_)); rw [if_neg (show ¬ ((Value.ref T == Value.none) = true) from by simp)]
      have last : wpAny (model X.prog X.w) X.A (setFlight (.ref a) X.env.frame) (fun _ t4 => wpAny (model X.prog X.w) X.A (throw (.ref a) : Sem Flow) (SP X pins D) X.xe t4) X.xe { st' with heap := hp3 } := by
        rw [hfm]
        refine HandSPX.setFlight_upZ fly3 fun hp4 held4 up4 => wpAny_throw (tks _ _ ?_)
        exact ⟨a, G, tI, pins, σ1, h1, cls, d, rfl, I1, ground, (up.trans up3).trans up4, .inr (.inr (by rw [hst]; exact held4)), na, eos, ags, qn rfl⟩
      first | exact wpAny_bind (wpAny_pure (wpAny_bind last)) | exact wpAny_bind last
  · cases flow with
    | next => exact let ⟨σ2, h2, J, q⟩ := res; wpAny_execs_nil ⟨σ2, h2, J.ofTry okX, q⟩
    | brk => exact let ⟨σ2, h2, J, q⟩ := res; ⟨σ2, h2, J.ofTry okX, q⟩
    | cont => exact let ⟨σ2, h2, J, q⟩ := res; ⟨σ2, h2, J.ofTry okX, q⟩
    | ret u => exact let ⟨v, σ2, h2, J, r, q⟩ := res; ⟨v, σ2, h2, J.ofTry okX, r, q⟩
end
/-! ### what is asked of a kept exception -/
def tXh (K : PySem.W.Frag) (f : Str) (te : TE) : TE := fun σ H Q => te σ H fun x H1 => ∃ (a C dd : Addr) (fs : List (Str × V)) (v : V), x = .ref a ∧ H1 a = some (exh a (.ref C) (some dd)) ∧ H1 dd = some (.xd fs) ∧ XfC K C ∧ PySem.W.findIn K (.ref C) f = some none ∧ fs.lookup f = some v ∧ Q v H1
theorem pe_xh {X : Cx} {e : Expr} {te : TE} {pos : Pos} {n : Str} (he : PE X e te) (hb : attributeBase e n X.env (eval e X.env) = eval e X.env := by rfl) : PE X (.Attribute e n pos) (tXh X.K n te) := by
  refine ⟨fun pins st σ h Q inv rdg => attr_of hb (thn (he.run pins st σ h _ inv rdg) fun u s1 res => ?_)⟩
  obtain ⟨x, h1, I1, rx, a, C, dd, fs, v, rfl, ea, ed, T, no, look, q⟩ := res
  obtain rfl : u = Value.ref a := rx
  obtain ⟨o, vs, g, z, hd⟩ := exh_at I1.hok ea
  obtain ⟨mA, ns, rel⟩ := (I1.hok dd _ ed : ObjOk X.prog X.w h1 s1.heap dd (.xd fs))
  obtain ⟨od, ho, hl⟩ := lookIn_ns ns
  obtain ⟨u, hu, ru⟩ := RelO.some_of (v := v) (o := mA n) (look ▸ rel n)
  have J : PySem.W.InstAt s1.heap a o C (some od) := ⟨g, z.1, by unfold PySem.W.notCls; rw [hd] <;> rfl, z.2.symm ▸ ho⟩
  exact HandSPX.exc_get I1.kIn J T.ga T.gg T.exC (PySem.W.findObj_own T.hdC no rfl (by rw [hl, hu])) (handed_of ru) ⟨v, h1, I1.tok _, ru, q⟩
/-- isinstance(y, c), y a kept exception with a dict -/
def rIsH (K : PySem.W.Frag) : List V → Hp → VK → Prop := fun xs H Q => ∃ (a C dd : Addr) (fs : List (Str × V)) (c : V) (u : Value) (b : Bool), xs = [.ref a, c] ∧ H a = some (exh a (.ref C) (some dd)) ∧ H dd = some (.xd fs) ∧ ExcC K C ∧ ClsV c u ∧ PySem.W.kitOne K (.ref C) u = some b ∧ Q (.bl b) H
theorem call_isH {X : Cx} : CallR X (.builtin "isinstance") (rIsH X.K) := by
  intro pins st σ h xs us Q inv rel pre
  obtain ⟨a, C, dd, fs, c, u, b, rfl, ea, ed, T, k, e, q⟩ := pre
  obtain ⟨w1, w2, rfl, r1, r2⟩ := vals2 rel
  obtain rfl : w1 = Value.ref a := r1
  obtain rfl := k.eq r2
  obtain ⟨o, vs, g, z, hd⟩ := exh_at inv.hok ea
  obtain ⟨mA, ns, rl⟩ := (inv.hok dd _ ed : ObjOk X.prog X.w h st.heap dd (.xd fs))
  obtain ⟨od, ho, hl⟩ := lookIn_ns ns
  have J : PySem.W.InstAt st.heap a o C (some od) := ⟨g, z.1, by unfold PySem.W.notCls; rw [hd] <;> rfl, z.2.symm ▸ ho⟩
  have hcl : (PySem.W.clsIn X.K C).isSome = true := by
    have z := T.hd
    unfold PySem.W.hasDictIn at z
    cases e : PySem.W.clsIn X.K C with
    | none => rw [e] at z; cases z
    | some _ => rfl
  exact PySem.W.kia_one (PySem.W.kitx_exc hcl T.hg T.hk T.hs T.ha T.hn T.ht T.hm) inv.kIn J e (fun z => nomatch z) fun tk => ⟨.bl b, h, inv.tok tk, rfl, q⟩
/-! ### raise C(e) -/
structure ErrMk (P : Program) (w : World) (K : PySem.W.Frag) (mg : Str → Option Value) (base : Heap) (C : Addr) (x fld : Str) : Prop where
  ex : ∃ (fI : Addr) (fd : FuncData) (vn : Str), OexC K C ∧ PySem.W.findIn K (.ref C) "__init__" = some (some (.ref fI)) ∧ PySem.W.typeIn K (.ref fI) = some (.type "function") ∧ FnOk P w K mg base CX0 1 fI fd ["self", vn] (spXI C fld) ∧ Binds K fd ["self", vn] [] ∧ mg x = some (.ref C)
theorem pmkC {X : Cx} {C : Addr} {x fld : Str} {e : Expr} {es : List Expr} {p pos : Pos} {ta : TA} (c : ErrMk X.prog X.w X.K X.mg X.base C x fld) (room : Room 2 X.A) (gl : Gl X x) (ha : PA X (e :: es) ta)
    (d1 : (x == ("__debug__" : Str)) = false := by decide) (d2 : starEach (e :: es) X.env = (false, eval e X.env) :: starEach es X.env := by rfl) (d3 : (backTo pos (starEach es X.env)).any (·.1) = false := by rfl) :
    PMk X (.Call (.Name x p) (e :: es) [] pos) (tMkO C (spXI C fld) [] ta) := by
  obtain ⟨fI, fd, vn, T, i1, i2, F, b, hm⟩ := c.ex
  exact pmk_oex T i1 i2 F room b .nil pass0 gl hm ha d1 d2 d3
theorem r_raiseO {σ : L2.St} {H : Hp} {te : TE} {C : Addr} {fld : Str} {W : XK} (q : te σ H fun v H1 => ∀ (d : Addr) (H' : Hp), Same H1 H' → H' d = some (.xd [(fld, v)]) → W (.ref C) (some d) H') (mono : ∀ (Q1 Q2 : VK), (∀ v H1, Q1 v H1 → Q2 v H1) → te σ H Q1 → te σ H Q2) :
    tMkO C (spXI C fld) [] (tCons te tNil) σ H W := by
  refine mono _ _ (fun v H1 g => ?_) q
  refine ⟨(show 1 ≤ 1000 by decide), fun a na => ⟨a, v, rfl, upd_same, fun dx ndx nda => ?_⟩⟩
  have n1 : H1 dx = none := by
    rw [upd_ne nda] at ndx
    exact ndx
  refine ⟨rfl, dx, [(fld, v)], upd_same, by rw [upd_ne nda]; exact upd_same, n1, g dx _ (fun b o e => ?_) upd_same⟩
  have b1 := ne_of_none e n1
  have b2 := ne_of_none e na
  rw [upd_ne b1, del_ne b2, upd_ne b2, upd_ne b1, upd_ne b2]
  exact e
theorem mono_var {i : Nat} {σ : L2.St} {H : Hp} (Q1 Q2 : VK) (h : ∀ v H1, Q1 v H1 → Q2 v H1) : tVar i σ H Q1 → tVar i σ H Q2 := fun ⟨v, e, q⟩ => ⟨v, e, h _ _ q⟩
end KX

/-! KY: values of many kinds: none, truths, numbers, texts, tuples, lists and dicts of such; repr of a pair, in, isinstance. -/
namespace KY
open PySem PySem.Spec PyProof.Rows L2 KB KG
inductive Sc where
  | non | bl (b : Bool) | int (i : Int) | str (x : Str)
  deriving DecidableEq
def Sc.v : Sc → V
  | .non => .non
  | .bl b => .bl b
  | .int i => .int i
  | .str x => .str x
def Sc.d : Sc → PyData
  | .non => .none
  | .bl b => .bool b
  | .int i => .int i
  | .str x => .str x
inductive Dt where
  | sc (s : Sc) | tup (l : List Sc) | lst (l : List Sc) | dct (l : List (Key × Sc))
def keyD : Key → PyData
  | .inl i => .int i
  | .inr x => .str x
def Dt.d : Dt → PyData
  | .sc s => s.d
  | .tup l => .tuple (l.map Sc.d)
  | .lst l => .list (l.map Sc.d)
  | .dct l => .dict (l.map fun p => (keyD p.1, p.2.d))
def OdAt (H : Hp) (v : V) : Dt → Prop
  | .sc s => v = s.v
  | .tup l => ∃ a, v = .ref a ∧ H a = some (.tup (l.map Sc.v))
  | .lst l => ∃ a, v = .ref a ∧ H a = some (.lst (l.map Sc.v))
  | .dct l => ∃ a, v = .ref a ∧ H a = some (.dK (l.map fun p => (p.1, p.2.v)))
theorem OdAt.to {H H' : Hp} {v : V} {t : Dt} (h : OdAt H v t) (k : ∀ a o, v = .ref a → H a = some o → H' a = some o) : OdAt H' v t := by
  cases t with
  | sc s => exact h
  | tup l => obtain ⟨a, e, g⟩ := h; exact ⟨a, e, k a _ e g⟩
  | lst l => obtain ⟨a, e, g⟩ := h; exact ⟨a, e, k a _ e g⟩
  | dct l => obtain ⟨a, e, g⟩ := h; exact ⟨a, e, k a _ e g⟩
theorem OdAt.same {H H' : Hp} {v : V} {t : Dt} (h : OdAt H v t) (s : Same H H') : OdAt H' v t := h.to fun a o _ e => s a o e
/-- it is no object of a class -/
theorem OdAt.notIns {H : Hp} {t : Dt} {a C dx : Addr} {fs : List (Str × V)} (h : OdAt H (.ref a) t) : H a ≠ some (.ins C dx fs) := by
  intro z
  cases t with
  | sc s => cases s <;> cases (show V.ref a = _ from h)
  | tup l => obtain ⟨b, e, g⟩ := h; cases e; rw [z] at g; cases g
  | lst l => obtain ⟨b, e, g⟩ := h; cases e; rw [z] at g; cases g
  | dct l => obtain ⟨b, e, g⟩ := h; cases e; rw [z] at g; cases g
section
variable {X : Cx} {pins : List (Addr × Obj)} {σ : L2.St} {H : Hp} {st : Shared}
theorem sc_reads {h : Heap} {u : Value} : ∀ s : Sc, RelV s.v u → Reads h u s.d []
  | .non, r => by cases (show u = Value.none from r); exact .none
  | .bl b, r => by cases (show u = Value.bool b from r); exact .bool b
  | .int i, r => by obtain ⟨t, rfl⟩ := (show ∃ t, u = Value.int i t from r); exact .int i t
  | .str x, r => by obtain ⟨t, rfl⟩ := (show ∃ t, u = Value.str x t from r); exact .str x t
theorem scs_reads {h : Heap} : ∀ (l : List Sc) (us : List Value), Vals (l.map Sc.v) us → ReadsAll h us (l.map Sc.d) []
  | [], us, r => by cases r; exact .nil
  | s :: l, us, r => by
    cases r with
    | cons r1 r2 => exact .cons (sc_reads s r1) (scs_reads l _ r2)
theorem dict_reads {P : Program} {w : World} {h : Heap} : ∀ (l : List (Key × Sc)) (vs : List (Key × Value)) (es : List DictEntry), KV (l.map fun p => (p.1, p.2.v)) vs → Pairs (mixKind P w) es vs →
    ReadsAll h (es.map (·.key)) ((l.map fun p => (keyD p.1, p.2.d)).map (·.1)) [] ∧ ReadsAll h (es.map (·.val)) ((l.map fun p => (keyD p.1, p.2.d)).map (·.2)) []
  | [], vs, es, k, p => by
    cases k
    cases p
    exact ⟨.nil, .nil⟩
  | (ky, s) :: l, vs, es, k, p => by
    cases k with
    | cons k1 k2 =>
      cases p with
      | cons p1 p2 p3 =>
        rename_i e es
        obtain ⟨g1, g2⟩ := dict_reads l _ _ k2 p3
        have r2 := k1.2
        rw [← p2] at r2
        refine ⟨?_, .cons (sc_reads s r2) g2⟩
        have e1 := k1.1
        have hk : keyIs ky e.key = true := by
          have z := p1
          rw [← e1] at z
          exact z
        have hr : Reads h e.key (keyD ky) [] := by
          rcases keyIs_shape hk with ⟨i, t, rfl, q⟩ | ⟨x, t, rfl, q⟩
          · rw [q]
            exact .int i t
          · rw [q]
            exact .str x t
        exact .cons hr g1
theorem noD_sc : ∀ s : Sc, s.d.hasDict = false
  | .non => rfl
  | .bl _ => rfl
  | .int _ => rfl
  | .str _ => rfl
theorem noD_scs : ∀ l : List Sc, PyData.hasDictAll (l.map Sc.d) = false
  | [] => by simp only [List.map_nil, PyData.hasDictAll]
  | s :: l => by simp only [List.map_cons, PyData.hasDictAll, noD_sc s, noD_scs l, Bool.or_false]
theorem od_reads {v : V} {u : Value} {t : Dt} (inv : Inv X pins σ H st) (o : OdAt H v t) (r : RelV v u) : ∃ as, Reads st.heap u t.d as ∧ (t.d.hasDict = true → sysModules ∉ as) := by
  cases t with
  | sc s =>
    obtain rfl : v = s.v := o
    exact ⟨_, sc_reads s r, fun _ => List.not_mem_nil⟩
  | tup l =>
    obtain ⟨a, rfl, e⟩ := o
    obtain rfl : u = Value.ref a := r
    obtain ⟨its, rv, ⟨ob, ho, hc, n, hd⟩, _⟩ := inv.tuple (SqT.of e)
    exact ⟨_, .tuple ho hc hd (scs_reads l _ rv), fun _ => List.not_mem_nil⟩
  | lst l =>
    obtain ⟨a, rfl, e⟩ := o
    obtain rfl : u = Value.ref a := r
    obtain ⟨its, rv, ⟨ob, n, ho, hc, _, hd⟩, _⟩ := inv.list (SqL.of e)
    refine ⟨_, .list ho hc hd (scs_reads l _ rv), fun z => ?_⟩
    simp only [Dt.d, PyData.hasDict, noD_scs l] at z
    cases z
  | dct l =>
    obtain ⟨a, rfl, e⟩ := o
    obtain rfl : u = Value.ref a := r
    obtain ⟨_, ns, vs, kv, ob, es, ep, ho, hex, hd, _, prs, _⟩ := dk_of inv.hok e
    obtain ⟨g1, g2⟩ := dict_reads (h := st.heap) l _ _ kv prs
    refine ⟨_, .dict ho hex.1 hd g1 g2, fun _ m => ?_⟩
    have m' : sysModules ∈ [a] := m
    rw [List.mem_singleton] at m'
    rw [← m'] at ns
    simp at ns
end
/-! ### repr of [tag, v] -/
section
variable {P : Program} {w : World} {A : Around} {E : Value → Shared → Prop} {s : Shared} {Z : Value → Shared → Prop}
theorem repr_items {a : Addr} {xs : List PyData} {o : Obj} {vs : Array Value} {n : Nat} {as1 : List Addr} (h1 : s.heap.get? a = some o) (h2 : o.cls = .type "list") (h3 : o.data = .seq vs n) (h4 : ReadsAll s.heap vs.toList xs as1) (ne : vs.toList ≠ []) (ok : PyData.showableAll xs = true) (nosys : PyData.hasDictAll xs = true → sysModules ∉ as1)
    (sz : (PyData.list xs).shown.length ≤ sizeLine) (fr : Free A) (hu : A.units + (PyData.list xs).depth + 3 < cLine)
    (q : ∀ h' u tk, (∀ b o, s.heap.get? b = some o → h'.get? b = some o) → Z (.str (PyData.list xs).shown u) { s with heap := h', toks := tk }) : wpAny (model P w) A (call (.builtin "repr") [.ref a]) Z E s := by
  have sz' : (listText (PyData.shownAll xs)).length ≤ sizeLine := by simpa only [PyData.shown] using sz
  have whole : Reads s.heap (.ref a) (.list xs) _ := .list h1 h2 h3 h4
  obtain ⟨bs, lim, kids⟩ := ReprAllK.of_readsAll (prog := P) (w := w) h4 ok nosys (fun t ht => Nat.le_trans (listText_mem_le ht) sz')
  have off : a ∉ bs := not_mem_of_deeper whole (by simp only [PyData.depth]; omega) lim
  simp only [PyData.depth] at hu
  simp only [PyData.shown] at q
  have ty : s.TypeIs (.ref a) "list" := ⟨_, h1, h2⟩
  refine repr_slot (by omega) ty F.slot_list_repr.toG ?_
  obtain ⟨l⟩ := vs
  cases l with
  | nil => exact absurd rfl ne
  | cons x l =>
    refine (wpAny_callSpecialIfBound?_slot (name := Str.ofString "__repr__") ty F.slot_list_repr (call_list_reprK h1 h2 h3 off (by simpa using kids.length_eq) (fun i y e => kids.item i y (by simpa using e)) fr (fun b _ => Clear.nil b) (show A.units + 1 + _ < cLine by omega) (fun _ _ e => e) (fun h' u tk kp => ?_) sz'))
    exact ⟨_, _, rfl, q h' u tk kp⟩
end
/-- the pair [tag, v] as data -/
def pairD (tag : Str) (t : Dt) : PyData := .list [.str tag, t.d]
structure Fit (tag : Str) (t : Dt) : Prop where
  ok : PyData.showable t.d = true
  deep : (pairD tag t).depth ≤ 60
  sz : (pairD tag t).shown.length ≤ sizeLine
section
variable {X : Cx}
def rReprT : List V → Hp → VK → Prop := fun xs H Q => ∃ (p : Addr) (tag : Str) (v : V) (t : Dt), xs = [.ref p] ∧ H p = some (.lst [.str tag, v]) ∧ OdAt H v t ∧ Fit tag t ∧ Q (.str (pairD tag t).shown) H
theorem call_reprT {k : Nat} (fr : Free X.A) (room : Room k X.A) : CallR X (.builtin "repr") rReprT := by
  intro pins st σ h xs us Z inv rel pre
  obtain ⟨p, tag, v, t, rfl, hp, od, fit, z⟩ := pre
  obtain ⟨u, rfl, rv⟩ := vals_one rel
  obtain rfl : u = Value.ref p := rv
  obtain ⟨its, rl, ⟨ob, n, ho, hc, _, hd⟩, _⟩ := inv.list (SqL.of hp)
  cases rl with
  | cons r1 rl =>
    cases rl with
    | cons r2 rl =>
      cases rl
      obtain ⟨tk, rfl⟩ := (show ∃ tk, _ = Value.str tag tk from r1)
      obtain ⟨as, rd, ns⟩ := od_reads inv od r2
      refine repr_items (xs := [.str tag, t.d]) ho hc hd (.cons (.str tag tk) (.cons rd .nil)) (by simp) ?_ (fun y m => ?_) fit.sz fr (by have := room.un; have := fit.deep; unfold pairD at this; omega) fun h' t1 tk' kp => ?_
      · simp only [PyData.showableAll, PyData.showable, fit.ok, Bool.and_true, Bool.true_and]
      · simp only [PyData.hasDictAll, PyData.hasDict, Bool.or_false, Bool.false_or] at y
        exact ns y (by simpa using m)
      · exact ⟨.str (pairD tag t).shown, h, inv.kept kp, ⟨t1, rfl⟩, z⟩
end
/-! ### a text beside a dict -/
section
open PySem.SeqAt PySem.MeetsSeq PySem.AutoSeq1
theorem str_eq_no_dict (b : Str) (u : Tok) (l : Addr) (c : Value) (es : Array DictEntry) (n : Nat) (dd : Option Addr) (sl : Array (Option Value)) :
    Meets (Builtin.«str.__eq__» ⟨[.str b u, .ref l], []⟩) (fun _ R s => s.heap.get? l = some { cls := c, dict := dd, data := .dict es n, slots := sl } ∧ R (.ok (.ret .notImplemented)) s) :=
  .of_wp fun prog w A R s h => by obtain ⟨hp, g, d, tk, os⟩ := s; obtain ⟨hl, h⟩ := h; wp_walk using wpAny_loadPart' hl, wpAny_load hl; exact ⟨_, rfl, h⟩
theorem dict_eq_no_str (l : Addr) (es : Array DictEntry) (n : Nat) (dd : Option Addr) (sl : Array (Option Value)) (b : Str) (u : Tok) :
    Meets (Builtin.«dict.__eq__» ⟨[.ref l, .str b u], []⟩) (fun _ R s => s.heap.get? l = some { cls := .type "dict", dict := dd, data := .dict es n, slots := sl } ∧ R (.ok (.ret .notImplemented)) s) :=
  .of_wp fun prog w A R s h => by obtain ⟨hp, g, d, tk, os⟩ := s; obtain ⟨hl, h⟩ := h; have f1 := F.sub_str_dict; wp_walk using wpAny_loadPart' hl; exact ⟨_, rfl, h⟩
variable {A : Around} {s : Shared}
theorem eqAt_str_dict {l : Addr} {es : Array DictEntry} {n : Nat} {ob : Obj} (b : Str) (u : Tok) (ho : s.heap.get? l = some ob) (hc : ob.cls = .type "dict") (hd : ob.data = .dict es n) (hu : A.units < cLine) : EqAt A s (.str b u) (.ref l) false := fun prog w E Q h => by
  obtain ⟨cls, dd, data, sl⟩ := ob
  simp only at hc hd
  subst hc hd
  unfold eqBool
  refine wpAny_holding ?_
  refine wpAny_ite_split (fun hab => absurd (eq_of_beq hab) nofun) (fun _ => ?_)
  refine wpAny_bind ?_
  exact rc_eq_decline_or (k := false) (typeIs_str s b u) ⟨_, ho, rfl⟩ (by decide) F.sub_dict_str F.slot_str_eq F.slot_dict_eq_refl
    (fun _ hq => call_meets F.slot_str_eq (typeIs_str s b u) F.entry_str_eq (F.args_str_eq_2 _ _) (str_eq_no_dict b u l (.type "dict") es n dd sl) ⟨ho, hq⟩)
    (fun _ hq => call_meets F.slot_dict_eq_refl ⟨_, ho, rfl⟩ F.entry_dict_eq (F.args_dict_eq_2 _ _) (dict_eq_no_str l es n dd sl b u) ⟨ho, hq⟩)
    (fun _ hq => wpAny_of_eq (rfl : isSame (.str b u) (.ref l) = pure false) hq) (.inr hu) (wpAny_truthy_bool h)
end
/-! ### v in a tuple of texts -/
def Dt.isIn (zs : List Str) : Dt → Bool
  | .sc (.str x) => decide (x ∈ zs)
  | _ => false
theorem strs_of : ∀ (zs : List Str) (us : List Value), Vals (zs.map V.str) us → ∀ u ∈ us, ∃ z tk, u = Value.str z tk
  | [], us, r => by cases r; exact fun u m => absurd m List.not_mem_nil
  | z :: zs, us, r => by
    cases r with
    | cons r1 r2 =>
      intro u m
      rcases List.mem_cons.mp m with rfl | m
      · obtain ⟨t, e⟩ := r1
        exact ⟨z, t, e⟩
      · exact strs_of zs _ r2 u m
theorem inV_no {x : V} (h : ∀ y, eqV (.str y) x = false) : ∀ zs : List Str, inV x (zs.map V.str) = false
  | [] => rfl
  | z :: zs => by
    have := inV_no h zs
    unfold inV at this ⊢
    rw [List.map_cons, List.any_cons, h z, this]
    rfl
section
variable {X : Cx}
def rNotInO (K : PySem.W.Frag) : R2 := fun x y H Q => ∃ (p : Addr) (zs : List Str) (t : Dt), y = .ref p ∧ SqT K H p (zs.map V.str) ∧ OdAt H x t ∧ Q (.bl (!t.isIn zs)) H
theorem op_notInO {k : Nat} (room : Room k X.A) : OpR X (compareOp .NotIn) (rNotInO X.K) := by
  intro pins st σ h x y v u Z inv rx ry pre
  obtain ⟨p, zs, t, rfl, sq, od, z⟩ := pre
  have un := room.un
  have flat : ∀ sc : Sc, x = sc.v → inV x (zs.map V.str) = (Dt.sc sc).isIn zs → t = .sc sc → wpAny (model X.prog X.w) X.A (compareOp .NotIn v u) (EP X pins σ Z) X.xe st := by
    intro sc e1 e2 e3
    subst e3
    refine op_notIn_seq pins st σ h x (.ref p) v u Z inv rx ry ⟨p, _, rfl, .inr sq, ?_, KB.flat_strs zs, ?_⟩
    · rw [e1]
      cases sc <;> rfl
    · show Z (.bl (!inV x (zs.map V.str))) h
      rw [e2]
      exact z
  have far : t.isIn zs = false → (∀ b tk A', A'.units ≤ X.A.units + 1 → SeqAt.EqAt A' st (.str b tk) v false) → wpAny (model X.prog X.w) X.A (compareOp .NotIn v u) (EP X pins σ Z) X.xe st := by
    intro e1 e2
    obtain rfl : u = Value.ref p := ry
    obtain ⟨its, r, pl, hz⟩ := inv.tuple sq
    refine SeqAt.notIn_tupleAt (fun _ => false) pl (fun w hw => ?_) ⟨.bl true, h, inv, ?_, ?_⟩
    · obtain ⟨b, tk, rfl⟩ := strs_of zs its r w (by simpa using hw)
      exact e2 b tk _ (Nat.le_refl _)
    · show Value.bool _ = Value.bool true
      simp
    · rw [e1] at z
      exact z
  cases t with
  | sc s =>
    have e : x = s.v := od
    refine flat s e ?_ rfl
    rw [e]
    cases s with
    | non => exact inV_no (fun _ => rfl) zs
    | bl b => exact inV_no (fun _ => rfl) zs
    | int i => exact inV_no (fun _ => rfl) zs
    | str x => exact inV_strs zs
  | tup l =>
    obtain ⟨a, rfl, e⟩ := od
    obtain rfl : v = Value.ref a := rx
    obtain ⟨its, rv, tp, _⟩ := inv.tuple (SqT.of e)
    exact far rfl fun b tk A' hA => SeqAt.EqAt.str_tuple b tk tp (by omega)
  | lst l =>
    obtain ⟨a, rfl, e⟩ := od
    obtain rfl : v = Value.ref a := rx
    obtain ⟨its, rv, tp, _⟩ := inv.list (SqL.of e)
    exact far rfl fun b tk A' hA => SeqAt.EqAt.str_list b tk tp.isList (by omega)
  | dct l =>
    obtain ⟨a, rfl, e⟩ := od
    obtain rfl : v = Value.ref a := rx
    obtain ⟨_, ns, vs, kv, ob, es, ep, ho, hex, hd, _, prs, _⟩ := dk_of inv.hok e
    exact far rfl fun b tk A' hA => eqAt_str_dict b tk ho hex.1 hd (by omega)
end
/-! ### its type -/
def Dt.ty : Dt → String
  | .sc .non => "NoneType"
  | .sc (.bl _) => "bool"
  | .sc (.int _) => "int"
  | .sc (.str _) => "str"
  | .tup _ => "tuple"
  | .lst _ => "list"
  | .dct _ => "dict"
theorem OdAt.tyX {K : PySem.W.Frag} {H : Hp} {v : V} {t : Dt} (h : OdAt H v t) : TyX K H v (.type t.ty) := by
  cases t with
  | sc s =>
    obtain rfl : v = s.v := h
    cases s with
    | non => exact .base .non
    | bl b => exact .base (.bl b)
    | int i => exact .base (.int i)
    | str x => exact .base (.str x)
  | tup l => obtain ⟨a, rfl, e⟩ := h; exact .base (.tup e)
  | lst l => obtain ⟨a, rfl, e⟩ := h; exact .base (.lst e)
  | dct l => obtain ⟨a, rfl, e⟩ := h; exact .base (.dK e)
def Dt.isStr : Dt → Bool
  | .sc (.str _) => true
  | _ => false
theorem r_isStr {K : PySem.W.Frag} {H : Hp} {Q : VK} {v : V} {t : Dt} (h : OdAt H v t) (q : Q (.bl t.isStr) H) : rIsi K [v, .ty "str"] H Q := by
  refine ⟨v, .ty "str", _, .type "str", t.isStr, rfl, .ty _, h.tyX, ?_, q⟩
  have h1 : kitB "NoneType" "str" = some false ∧ kitB "bool" "str" = some false ∧ kitB "int" "str" = some false ∧ kitB "str" "str" = some true ∧ kitB "tuple" "str" = some false ∧ kitB "list" "str" = some false ∧ kitB "dict" "str" = some false := by decide +kernel
  cases t with
  | sc s =>
    cases s with
    | non => exact kit_ty h1.1
    | bl b => exact kit_ty h1.2.1
    | int i => exact kit_ty h1.2.2.1
    | str x => exact kit_ty h1.2.2.2.1
  | tup l => exact kit_ty h1.2.2.2.2.1
  | lst l => exact kit_ty h1.2.2.2.2.2.1
  | dct l => exact kit_ty h1.2.2.2.2.2.2
/-! ### list.count of truths -/
section
variable {X : Cx}
def rCntB (K : PySem.W.Frag) : V → List V → Hp → VK → Prop := fun x xs H Q => ∃ (p : Addr) (bs : List Bool) (b : Bool), x = .ref p ∧ xs = [.bl b] ∧ SqL K H p (bs.map V.bl) ∧ Q (.int (bs.count b : Nat)) H
theorem bls_of : ∀ (bs : List Bool) (us : List Value), Vals (bs.map V.bl) us → us = bs.map Value.bool
  | [], us, r => by cases r; rfl
  | b :: bs, us, r => by
    cases r with
    | cons r1 r2 =>
      rw [bls_of bs _ r2, show _ = Value.bool b from r1]
      rfl
theorem mt_countB : MtR X "list.count" (rCntB X.K) := by
  intro pins s σ H x xs v us Q I rx rxs h
  obtain ⟨p, bs, b, rfl, rfl, hs, q⟩ := h
  cases rx
  obtain ⟨u, rfl, ru⟩ := rxs.one
  obtain rfl : u = Value.bool b := ru
  obtain ⟨its, rv, ⟨⟨cls, dd, data, sl⟩, n, ho, hc, hdn, hd⟩, hlen⟩ := I.list hs
  simp only at hc hd
  subst hc hd
  have hi := bls_of bs its rv
  subst hi
  refine call_meets PySem.F.slot_list_count ⟨_, ho, rfl⟩ PySem.F.entry_list_count (PySem.F.args_list_count_2 _ _)
    (SeqAt.list_countAt p (bs.map Value.bool).toArray n dd sl (.bool b) (fun y => match y with | .bool c => c == b | _ => false)) ⟨ho, fun y hy => ?_, ?_⟩
  · have hy' : y ∈ bs.map Value.bool := by simpa using hy
    obtain ⟨c, _, rfl⟩ := List.mem_map.mp hy'
    exact SeqAt.EqAt.bool_bool c b
  · have ec : (bs.map Value.bool).toArray.toList.countP (fun y => match y with | .bool c => c == b | _ => false) = bs.count b := by
      show (bs.map Value.bool).countP _ = _
      rw [List.countP_map]
      rfl
    refine ⟨.int (bs.count b : Nat), H, I.tok _, ⟨s.toks, ?_⟩, q⟩
    show Value.int ((_ : Nat) : Int) s.toks = Value.int ((bs.count b : Nat) : Int) s.toks
    rw [ec]
end
end KY

/-! KL: lambdas handed to a def that asks them; the law's end with tables of code objects, no repr under way; own == beside other types. -/
namespace KL
open PySem PySem.Spec PyProof.Rows L2 KB KG LamX
/-! ### the law's end -/
section
variable {P : Program} {w : World} {K : PySem.W.Frag} {mg bm : Str → Option Value} {k : Nat} {fa a : Addr} {cs : List (Addr × Addr)} {fd : FuncData} {x : Str} {sp : Sp} {st : Shared} {us : List Value} {ns : List Int}
def TabIs (cs : List (Addr × Addr)) (b : Addr) : Prop := ∃ p ∈ cs, p.2 = b
theorem law_GT (kin : K.In st.heap) (gl : st.heap.Ns mainGlobals mg) (bl : st.heap.Ns builtinsNs bm) (bb : ∀ y : Str, y ≠ "__name__" → bm y = bootBuiltins y) (nolim : st.heap.NoLimit) (nogen : st.gens = #[])
    (empty : ∀ p ∈ cs, st.heap.get? p.2 = some (PySem.W.tabObj #[])) (off : ∀ p ∈ cs, K.lookup p.2 = none) (codes : ∀ p ∈ cs, PySem.W.CodeHd st.heap p.1 p.2)
    (bmain : ∃ (m : Addr) (ob : Obj), mg "__builtins__" = some (.ref m) ∧ m ≠ builtinsNs ∧ st.heap.get? m = some ob ∧ ob.cls = .type "module" ∧ ob.dict = some builtinsNs ∧ ob.data = .plain)
    (at_ : st.heap.get? a = some { cls := .type "list", data := .seq us.toArray }) (allInt : IntsAre us ns) (few : ns.length ≤ sizeLine) (room : Room k callerA)
    (F : ∀ base : Heap, K.In base → base.Ns mainGlobals mg → (∀ p ∈ cs, TabB base mg p.1 p.2) → FnG P w K mg base CX0 k fa fd [x] sp) (bind : ∀ (s : Shared) (u : Value), BindsTo s fd ⟨[u], []⟩ [(x, u)])
    (pre : ∀ H : Hp, (∀ p ∈ cs, H p.2 = some (.tbl #[])) → SqL K H a (ns.map V.int) → sp [.ref a] H (fun v _ => v = .bl true) fun _ _ _ => False) :
    codeAny (model P w) callerA (.call (.ref fa) ⟨[.ref a], []⟩) (fun r s2 => r = .ok (.ret (.bool true)) ∧ OldK st.heap s2.heap ∧ s2.os = st.os ∧ AllBare s2.gens) st := by
  classical
  have isT : ∀ {b : Addr}, TabIs cs b → st.heap.get? b = some (PySem.W.tabObj #[]) := fun {b} ⟨p, hp, e⟩ => e ▸ empty p hp
  have aT : ¬ TabIs cs a := fun z => by
    have y := isT z
    rw [at_] at y
    have y2 : Data.seq us.toArray _ = Data.fields #[] := congrArg Obj.data (Option.some.inj y)
    cases y2
  have main : ∀ H : Hp, (∀ b, TabIs cs b → H b = some (.tbl #[])) → (∀ b, H b = none ∨ TabIs cs b ∨ ∃ o ys, H b = some (.frz o (.lst ys))) → SqL K H a (ns.map V.int) → HOk P w H st.heap → (∀ b, H b ≠ none → b = a ∨ TabIs cs b) → (H a ≠ none → K.lookup a = none) →
      codeAny (model P w) callerA (.call (.ref fa) ⟨[.ref a], []⟩) (fun r s2 => r = .ok (.ret (.bool true)) ∧ OldK st.heap s2.heap ∧ s2.os = st.os ∧ AllBare s2.gens) st := by
    intro H tabs only sq hok isA noK
    have free_of : ∀ {b : Addr} {o : Obj}, st.heap.get? b = some o → (∀ ys m, o.data ≠ .seq ys m) → o.data ≠ .fields #[] → H b = none := by
      intro b o e nd nf
      cases q : H b with
      | none => rfl
      | some z =>
        rcases isA b (by rw [q]; simp) with eb | eb
        · rw [eb, at_] at e
          exact absurd (congrArg Obj.data (Option.some.inj e)).symm (nd _ _)
        · rw [isT eb] at e
          exact absurd (congrArg Obj.data (Option.some.inj e)).symm nf
    have kb : K.In (hidT st.heap H) := by
      intro b o e
      refine hidT_get (kin b o e) ?_
      cases q : H b with
      | none => rfl
      | some z =>
        rcases isA b (by rw [q]; simp) with eb | ⟨p, hp, eb⟩
        · rw [eb] at e q
          rw [noK (by rw [q]; simp)] at e
          cases e
        · rw [← eb, off p hp] at e
          cases e
    have ns_of : ∀ {b : Addr} {m : Str → Option Value}, st.heap.Ns b m → (hidT st.heap H).Ns b m := by
      intro b m h
      obtain ⟨o, es, ep, e, d, r⟩ := h
      exact ⟨o, es, ep, hidT_get e (free_of e (fun ys n z => by rw [d] at z; cases z) (fun z => by rw [d] at z; cases z)), d, r⟩
    have hm : Mod K mg (hidT st.heap H) := ⟨kb, ns_of gl, ⟨bm, ns_of bl, bb⟩, by obtain ⟨mc, z1, z2⟩ := nolim; exact ⟨mc, ns_of z1, z2⟩⟩
    have tb : ∀ p ∈ cs, TabB (hidT st.heap H) mg p.1 p.2 := by
      intro p hp
      have hTp := empty p hp
      refine ⟨?_, ?_, fun z => ?_⟩
      · obtain ⟨o, ws, file, tf, flags, tg, inF, text, tt, e1, r1, r2, r3, rest⟩ := codes p hp
        refine ⟨o, ws, file, tf, flags, tg, inF, text, tt, hidT_get e1 (free_of e1 (fun ys n z => by rw [r2] at z; cases z) (fun z => ?_)), r1, r2, r3, rest⟩
        rw [r2] at z
        cases z
        simp at r3
      · obtain ⟨m, ob, b1, b2, b3, b4, b5, b6⟩ := bmain
        refine ⟨m, ob, b1, b2, fun q => ?_, fun q => ?_, hidT_get b3 (free_of b3 (fun ys n z => by rw [b6] at z; cases z) (fun z => by rw [b6] at z; cases z)), b4, b5, b6⟩
        · obtain ⟨o, es, ep, e, hd, _⟩ := gl
          rw [q, e] at b3
          cases b3
          rw [hd] at b6
          cases b6
        · rw [q, hTp] at b3
          cases b3
          cases b6
      · obtain ⟨o, es, ep, e, hd, _⟩ := gl
        rw [z, hTp] at e
        cases e
        cases hd
    have env : Env0 P w K mg (hidT st.heap H) callerA [] st H := ⟨rfl, hm, fun b o e => of_hidT e, Nat.le_of_eq (hidT_size _ _), trivial, fun b z => (List.not_mem_nil z).elim, hok, .of_eq nogen⟩
    refine codeAny_mono ((F _ kb (ns_of gl) tb).go callerA rfl [] st H ⟨[.ref a], []⟩ [.ref a] [.ref a] _ _ room env (bind st (.ref a)) (.cons rfl .nil) (pre H (fun p hp => tabs _ ⟨p, hp, rfl⟩) sq)) fun res s2 z => ?_
    match res, z with
    | .error e, z => exact z.elim
    | .ok .next, z => exact z.elim
    | .ok .brk, z => exact z.elim
    | .ok .cont, z => exact z.elim
    | .ok (.ret u), z =>
      obtain ⟨v, H2, z1, z2, un, hok2, rel, rfl⟩ := z
      obtain rfl : u = Value.bool true := rel
      have stay : ∀ b o, ¬ TabIs cs b → st.heap.get? b = some o → s2.heap.get? b = some o := by
        intro b o nb e
        cases q : H b with
        | none => exact un.keep b o e q (fun y => List.not_mem_nil y) (fun y => List.not_mem_nil y)
        | some y =>
          rcases only b with y1 | y1 | ⟨o1, ys, y1⟩
          · rw [q] at y1; cases y1
          · exact absurd y1 nb
          · have y2 := (hok b _ y1).1
            have y3 := (hok2 b _ (un.frzs b o1 _ y1)).1
            rw [e] at y2
            rw [Option.some.inj y2]
            exact y3
      have grown : ∀ p ∈ cs, ∃ more : Array Value, s2.heap.get? p.2 = some { cls := .none, data := .fields more } := by
        intro p hp
        obtain ⟨more, y⟩ := un.tbls p.2 #[] (tabs _ ⟨p, hp, rfl⟩)
        exact ⟨_, hok2 p.2 _ y⟩
      refine ⟨rfl, ⟨fun b o e => ?_, fun b o e => ?_⟩, z1, z2⟩
      · by_cases hb : TabIs cs b
        · obtain ⟨p, hp, rfl⟩ := hb
          obtain ⟨more, g⟩ := grown p hp
          rw [empty p hp] at e
          cases e
          exact .inr (.inl ⟨((codes p hp).tab (empty p hp)).isCodeTable, rfl, #[], more, rfl, by rw [Array.empty_append]; exact g⟩)
        · exact .inl (stay b o hb e)
      · by_cases hb : TabIs cs b
        · obtain ⟨p, hp, rfl⟩ := hb
          obtain ⟨more, g⟩ := grown p hp
          exact ⟨_, g⟩
        · exact ⟨o, stay b o hb e⟩
  have vals := vals_ints allInt
  have lens := allInt.length
  cases look : K.lookup a with
  | some o =>
    have e := kin a o look
    rw [at_] at e
    obtain rfl := Option.some.inj e
    refine main (fun b => if TabIs cs b then some (.tbl #[]) else none) (fun b hb => if_pos hb) (fun b => ?_) (.inr ⟨_, us.toArray, _, look, rfl, rfl, rfl, by rw [List.size_toArray, lens]; exact few, by simpa using vals⟩) (fun b u z => ?_) (fun b z => ?_) (fun z => absurd (if_neg aT) z)
    · by_cases hb : TabIs cs b
      · exact .inr (.inl hb)
      · exact .inl (if_neg hb)
    · by_cases hb : TabIs cs b
      · have y := (if_pos hb).symm.trans z
        cases y
        exact isT hb
      · have y := (if_neg hb).symm.trans z
        cases y
    · by_cases hb : TabIs cs b
      · exact .inr hb
      · exact absurd (if_neg hb) z
  | none =>
    refine main (upd (fun b => if TabIs cs b then some (.tbl #[]) else none) a (.frz { cls := .type "list", data := .seq us.toArray } (.lst (ns.map V.int)))) (fun b hb => ?_) (fun b => ?_) (.inl (.inr ⟨_, upd_same⟩)) (fun b y z => ?_) (fun b z => ?_) fun _ => look
    · rw [upd_ne (show b ≠ a from fun z => aT (by rw [← z]; exact hb))]
      exact if_pos hb
    · by_cases eb : b = a
      · rw [eb, upd_same]; exact .inr (.inr ⟨_, _, rfl⟩)
      · rw [upd_ne eb]
        by_cases hb : TabIs cs b
        · exact .inr (.inl hb)
        · exact .inl (if_neg hb)
    · by_cases eb : b = a
      · subst eb
        rw [upd_same] at z
        obtain rfl := Option.some.inj z
        exact ⟨at_, by rw [List.length_map]; exact few, us, _, vals, at_⟩
      · rw [upd_ne eb] at z
        by_cases hb : TabIs cs b
        · have y := (if_pos hb).symm.trans z
          cases y
          exact isT hb
        · have y := (if_neg hb).symm.trans z
          cases y
    · by_cases eb : b = a
      · exact .inl eb
      · by_cases hb : TabIs cs b
        · exact .inr hb
        · exact absurd ((upd_ne eb).trans (if_neg hb)) z
end
/-- the goal that the head leaves, from the law's own promise; names: the defs whose tables are wanted -/
theorem walkGT {l : PySem.W.OpenLaw} {n k : Nat} {q : Program} {loose : List Str} {XP : (Str → Option Value) → Heap → Prop} {YP : World → Heap → Prop} {d : DefRec} {K : Params → PySem.W.Frag} {sp : World → List (Addr × Addr) → Sp} {x : Str} {names : List Str}
    (hn : l.most = some n) (n2 : n ≤ sizeLine) (nodef : d.params.defaults = []) (room : Room k callerA) (recs : (names.all fun y => (recsOf q).any fun e => e.name == y) = true) (hY : ∀ (w : World) (h : Heap), YP w h → (K w.params).In h)
    (F : ∀ (w : World) (mg : Str → Option Value) (fa : Addr) (h : Heap), (K w.params).In h → h.Ns mainGlobals mg → mg d.name = some (.ref fa) →
      ∃ (fd : FuncData) (cs : List (Addr × Addr)), cs.length = names.length ∧ (∀ p ∈ names.zip cs, PySem.W.tabIn (K w.params) p.1 = some p.2) ∧ (∀ p ∈ cs, (K w.params).lookup p.2 = none) ∧ (∀ (s : Shared) (u : Value), BindsTo s fd ⟨[u], []⟩ [(x, u)]) ∧
        ∀ base : Heap, (K w.params).In base → base.Ns mainGlobals mg → (∀ p ∈ cs, TabB base mg p.1 p.2) → FnG l.prog w (K w.params) mg base CX0 k fa fd [x] (sp w cs))
    (pre : ∀ (w : World) (H : Hp) (a : Addr) (cs : List (Addr × Addr)) (ns : List Int), ns.length ≤ n → (∀ p ∈ cs, H p.2 = some (.tbl #[])) → SqL (K w.params) H a (ns.map V.int) → sp w cs [.ref a] H (fun v _ => v = .bl true) fun _ _ _ => False) :
    PySem.W.WalkO q loose XP YP l.row.toRowW d [] (fun f vs => PySem.call f vs) := by
  refine Att.attach_callB hn nodef fun w s0 st mg bm fa o pm cd doc a us ns G Y ho hd hcd hmg hobj allInt size _ nogen => ?_
  have kin := hY w _ Y
  obtain ⟨fd, cs, len, tabs, off, bind, hF⟩ := F w mg fa _ kin G.T.g hmg
  have each : ∀ p ∈ cs, PySem.W.CodeHd st.heap p.1 p.2 ∧ st.heap.get? p.2 = some (PySem.W.tabObj #[]) := by
    intro p hp
    obtain ⟨i, hi, e⟩ := List.getElem_of_mem hp
    have hi2 : i < names.length := by omega
    have m : (names[i], p) ∈ names.zip cs := by
      rw [← e]
      have hz : i < (names.zip cs).length := by rw [List.length_zip]; omega
      have := List.getElem_mem hz
      rwa [List.getElem_zip] at this
    have t := tabs _ m
    have r := List.all_eq_true.mp recs names[i] (List.getElem_mem hi2)
    have s : ((recsOf q).find? fun e => e.name == names[i]).isSome = true := by
      rw [List.find?_isSome]
      obtain ⟨y, y1, y2⟩ := List.any_eq_true.mp r
      exact ⟨y, y1, y2⟩
    obtain ⟨dL, hL⟩ := Option.isSome_iff_exists.mp s
    exact PySem.W.tab_of G.T kin hL t
  exact law_GT kin G.T.g G.T.b G.T.builtins G.T.nolimit nogen (fun p hp => (each p hp).2) off (fun p hp => (each p hp).1) G.T.bmain hobj allInt (Nat.le_trans size n2) room hF bind fun H hH sq => pre w H a cs ns size hH sq
/-! ### tables kept -/
theorem tabs_to {T : List (Addr × Str)} {H H' : Hp} (t : Tabs T H) (k : ∀ b o, H b = some o → (∀ xs, o ≠ .lst xs) → H' b = some o) : Tabs T H' := by
  intro p hp
  obtain ⟨ps, h1, h2, h3⟩ := t p hp
  refine ⟨ps, k _ _ h1 (fun xs z => by cases z), h2, fun pos cv hc => ?_⟩
  obtain ⟨c, e1, e2⟩ := h3 pos cv hc
  exact ⟨c, e1, k _ _ e2 (fun xs z => by unfold CodeO at z; cases z)⟩
theorem tabs_same {T : List (Addr × Str)} {H H' : Hp} (t : Tabs T H) (s : Same H H') : Tabs T H' := tabs_to t fun b o e _ => s b o e
/-- an exception taken knows how many names there are -/
theorem takes_len {X : Cx} {W : WX} (tk : Takes X W) : Takes X (fun cls d σ H => σ.length = X.N.length → W cls d σ H) := fun u s' ⟨a, B, sI, pins, σ, H, cls, d, e, I, nb, up, sky, na, os, ag, w⟩ =>
  tk u s' ⟨a, B, sI, pins, σ, H, cls, d, e, I, nb, up, sky, na, os, ag, w I.len⟩
/-- what the lambda's body lets out -/
theorem lam_takes {X : Cx} {A : Around} {outer : List Env} {s : Shared} {H : Hp} {E : XK} {scope : Scope} {f c' : Addr} : Takes (lamCx X A outer s H E scope f c') (fun cls d _ H' => E cls d H') := takes_of rfl rfl rfl rfl
theorem lam_pass {X : Cx} {A : Around} {outer : List Env} {s : Shared} {H : Hp} {E : XK} {scope : Scope} {f c' : Addr} : Passes (L2.CX X.prog X.w) (lamCx X A outer s H E scope f c') E := passes_call lam_takes fun _ _ _ _ h => h
/-- what a def that may raise lets out -/
theorem def_takes {P : Program} {w : World} {K : PySem.W.Frag} {mg : Str → Option Value} {base : Heap} {N : List Str} {ql : Str} {sc : Scope} {f : Addr} {cv : Value} {A : Around} {out : List Env} {st : Shared} {h : Hp} {E : XK} : Takes (cxOf (L2.CX P w) P w K mg base N ql sc f cv A out st h E) (fun cls d _ H' => E cls d H') := takes_of rfl rfl rfl rfl
/-! ### own == beside a value of another type -/
section
variable {X : Cx}
def rEqOth (K : PySem.W.Frag) (C : Addr) (sp : Sp) : R2 := fun x y H Q => ∃ (a dx : Addr) (fs : List (Str × V)) (T : String), x = .ref a ∧ H a = some (.ins C dx fs) ∧ TyB K H y T ∧ (T = "str" ∨ T = "list" ∨ T = "tuple") ∧ PySem.W.notFirst K C (.type T) = true ∧ sp [x, y] H Q E0
theorem ty_looks {M : Model} {s : Shared} {u : Value} {T : String} (h : s.TypeIs u T) (hT : T = "str" ∨ T = "list" ∨ T = "tuple") (hu : (∃ z t, u = .str z t) ∨ ∃ b, u = .ref b) : PySem.W.Looks M s.heap (typeOf u) (.type T) := by
  rcases hu with ⟨z, t, rfl⟩ | ⟨b, rfl⟩
  · intro A Q E s' k q
    have e : typeOf (.str z t) = pure (.type "str") := rfl
    have e2 : typeOf (.str z t) = pure (.type T) := h
    rw [e2]
    exact wpAny_pure q
  · obtain ⟨o, g, c⟩ := h
    exact fun A Q E s' k q => wpAny_typeOf_ref (k _ _ g) (by rw [c]; exact q)
theorem op_eqOth {C : Addr} {ps : List Str} {sp : Sp} {n : Nat} (c : KO.OwnM X.prog X.w X.K X.mg X.base n C "__eq__" ps sp) (room : Room n X.A) : OpR X (compareOp .Eq) (rEqOth X.K C sp) := by
  obtain ⟨g, fd, hs, hf, F, bind⟩ := c.ex
  intro pins st σ h x y v u Z inv rx ry pre
  obtain ⟨a, dx, fs, T, rfl, ha, ty, hT, nf, z⟩ := pre
  obtain rfl : v = Value.ref a := rx
  obtain ⟨od, J⟩ := KO.inst_of inv ha
  obtain ⟨m, hF⟩ := inv.fr
  have hu : (∃ z t, u = .str z t) ∨ ∃ b, u = .ref b := by
    cases ty with
    | str x => obtain ⟨t, rfl⟩ := (show ∃ t, u = Value.str x t from ry); exact .inl ⟨_, _, rfl⟩
    | @lst b => exact .inr ⟨b, ry⟩
    | @tup b => exact .inr ⟨b, ry⟩
    | non => exact absurd hT (by decide)
    | bl => exact absurd hT (by decide)
    | int => exact absurd hT (by decide)
    | byt => exact absurd hT (by decide)
    | dK => exact absurd hT (by decide)
  have lk := ty_looks (M := model X.prog X.w) (ty.is inv ry) hT hu
  rw [show compareOp .Eq (.ref a) u = richCompare .Eq (.ref a) u from rfl]
  refine PySem.W.cmp_K (op := .Eq) (tb := .type T) room.units0 hF inv.ok.mod.kin J lk nf hs hf ?_
  refine wpAny_mono (KO.run0 (E' := X.xe) (xs := [.ref a, y]) F room inv.env0 bind inv (.cons rfl (.cons ry .nil)) z) (fun w s2 r => ?_) fun _ _ z => z
  obtain ⟨z', h2, inv2, rz, qz⟩ := r
  exact SlX.cmpback rz ⟨z', h2, inv2, rz, qz⟩
end
end KL

/-! KC: own objects called, shown by repr, compared with data of any type; classes made with defaults. -/
namespace KC
open PySem PySem.Spec PyProof.Rows L2 KB KG KO
theorem cx_KX {CX : CXT} {P : Program} {w : World} {K : PySem.W.Frag} {mg : Str → Option Value} {base : Heap} {N : List Str} {qual : Str} {sc : Scope} {f : Addr} {cd : Value} {A : Around} {outer : List Env} {s : Shared} {H : Hp} {E : XK} : (cxOf CX P w K mg base N qual sc f cd A outer s H E).K = K := rfl
/-! ### b(e, ..), b an own object -/
section
variable {M : Model} {A : Around} {E : Value → Shared → Prop} {s : Shared} {C dx x : Addr} {pos : Pos} {Q : Value → Shared → Prop}
theorem callWith_own {args : List (Bool × Sem Value)} {kws : List (Option Str × Sem Value)} (plain : (args.any (·.1) || kws.any (·.1.isNone)) = false)
    (h : wpAny M A (evalArgs (.ref x) true args kws) (fun a t => (∃ od, PySem.W.InstAt t.heap x (PySem.W.instObj C dx) C od) ∧ wpAny M A (call (.ref x) a.pos a.kw) Q E t) E s) : wpAny M A (callWith pos (.ref x) [] args kws) Q E s := by
  unfold callWith
  refine wpAny_bind (wpAny_holding (wpAny_mono h (fun a t g => wpAny_bind (wpAny_standAt ?_)) fun _ _ y => y))
  obtain ⟨od, J⟩ := g.1
  have L := PySem.W.kco_keeper (M := M) J rfl
  simp only [plain]
  refine wpAny_bind (L.here ?_)
  have tail : ∀ {m : Sem Value}, wpAny M A m Q E t → wpAny M A (m >>= fun r => holding [r] point >>= fun _ => pure r) Q E t :=
    fun hm => wpAny_bind (wpAny_mono hm (fun r u hr => wpAny_bind (wpAny_holding (wpAny_point (wpAny_pure hr)))) fun _ _ y => y)
  exact tail (wpAny_operateT g.2)
end
section
variable {X : Cx}
structure OwnC (P : Program) (w : World) (K : PySem.W.Frag) (mg : Str → Option Value) (base : Heap) (CX : CXT) (k : Nat) (C : Addr) (ps : List Str) (sp : Sp) : Prop where
  ex : ∃ (g : Addr) (fd : FuncData), PySem.W.findIn K (.ref C) "__call__" = some (some (.ref g)) ∧ PySem.W.isFn K (.ref g) = true ∧ PySem.W.fnIn K g = true ∧ FnOk P w K mg base CX k g fd ps sp ∧ Binds K fd ps []
def tCallO (C : Addr) (sp : Sp) (E : XK) (tf : TE) (t : TA) : TE := fun σ H Q => tf σ H fun x H1 => ∃ (a dx : Addr) (fs : List (Str × V)), x = .ref a ∧ H1 a = some (.ins C dx fs) ∧ t σ H1 fun vs H2 => H2 a = some (.ins C dx fs) ∧ sp (x :: vs) H2 Q E
theorem pe_callO {CX : CXT} {k : Nat} {C : Addr} {x : Str} {ps : List Str} {sp : Sp} {E : XK} {e : Expr} {es : List Expr} {p pos : Pos} {tf : TE} {t : TA} (c : OwnC X.prog X.w X.K X.mg X.base CX k C ps sp) (room : Room k X.A) (pass : Passes CX X E) (hf : PE X (.Name x p) tf) (ha : PA X (e :: es) t)
    (d2 : starEach (e :: es) X.env = (false, eval e X.env) :: starEach es X.env := by rfl) (d3 : (backTo pos (starEach es X.env)).any (·.1) = false := by rfl) :
    PE X (.Call (.Name x p) (e :: es) [] pos) (tCallO C sp E tf t) := by
  obtain ⟨g, fd, hs, hfn, hfi, F, bind⟩ := c.ex
  refine ⟨fun pins st σ h Z inv pre => wpAny_Call_Name_kw (thn (hf.run pins st σ h _ inv pre) fun u s1 r => ?_)⟩
  obtain ⟨v, h1, inv1, rv, a, dx, fs, rfl, ea, z⟩ := r
  obtain rfl : u = Value.ref a := rv
  refine callWith_own (C := C) (dx := dx) (by rw [d2]; show ((false || (backTo pos (starEach es X.env)).any (·.1)) || false) = false; rw [d3]; rfl) ?_
  have main := thn (Q' := fun (ws : List Value) (s2 : Shared) => (∃ od, PySem.W.InstAt s2.heap a (PySem.W.instObj C dx) C od) ∧ wpAny (model X.prog X.w) X.A (call (.ref a) ws) (EP X pins σ Z) X.xe s2) (ha.run pos pins s1 σ h1 _ inv1 z) fun ws s2 r => ?_
  · rw [d2] at main ⊢
    exact Calls.evalArgs_plain main
  · obtain ⟨xs, h2, inv2, rel, ea2, z2⟩ := r
    obtain ⟨od, J⟩ := inst_of inv2 ea2
    refine ⟨⟨_, J⟩, ?_⟩
    have rel2 : Vals (V.ref a :: xs) (Value.ref a :: ws) := .cons rfl rel
    have size : ((Value.ref a :: ws) ++ []).length = ps.length := by rw [List.append_nil, ← rel2.length]; exact F.len _ _ _ _ z2
    have bd := bind s2 (Value.ref a :: ws) inv2.kIn size
    rw [List.append_nil] at bd
    refine wpAny_call (codeAny_mono (PySem.W.kco_code inv2.kIn J rfl hs hfn hfi (F.run X.A X.stack s2 h2 ⟨Value.ref a :: ws, []⟩ _ _ Z E room inv2.env0 bd rel2 z2)) fun res s3 y => ?_)
    match res, y with
    | .error e, y => exact pass pins σ h2 s2 e s3 inv2 y
    | .ok (.ret u), y => exact inv2.after y
    | .ok .next, y => exact y.elim
    | .ok .brk, y => exact y.elim
    | .ok .cont, y => exact y.elim
/-! ### repr(o) by own __repr__ -/
def rReprOwn (C : Addr) (sp : Sp) : List V → Hp → VK → Prop := fun xs H Q => ∃ a dx fs, xs = [.ref a] ∧ H a = some (.ins C dx fs) ∧ sp [.ref a] H (fun v H' => ∃ t, v = .str t ∧ Q (.str t) H') E0
theorem call_reprO {C : Addr} {ps : List Str} {sp : Sp} {n : Nat} (c : OwnM X.prog X.w X.K X.mg X.base n C "__repr__" ps sp) (room : Room (n + 1) X.A) : CallR X (.builtin "repr") (rReprOwn C sp) := by
  obtain ⟨g, fd, hs, hf, F, bind⟩ := c.ex
  intro pins st σ h xs us Z inv rel pre
  obtain ⟨a, dx, fs, rfl, ha, z⟩ := pre
  obtain ⟨u, rfl, ru⟩ := vals_one rel
  obtain rfl : u = Value.ref a := ru
  obtain ⟨od, J⟩ := inst_of inv ha
  obtain ⟨m, hF⟩ := inv.fr
  have un := room.un
  refine PySem.W.repr_K (show X.A.units + 1 < cLine by omega) hF inv.ok.mod.kin J hs hf ?_
  refine wpAny_mono (run0 (E' := X.xe) (xs := [.ref a]) F room.in1 inv.env0.in1 bind inv (.cons rfl .nil) z) (fun w s2 r => ?_) fun _ _ z => z
  obtain ⟨v', h2, inv2, rz, t, rfl, q2⟩ := r
  obtain ⟨tk, rfl⟩ : ∃ tk, w = Value.str t tk := rz
  exact ⟨.str t, h2, inv2, ⟨tk, rfl⟩, q2⟩
/-! ### own == beside data -/
def rEqAny (K : PySem.W.Frag) (C : Addr) (sp : Sp) : R2 := fun x y H Q => ∃ (a dx : Addr) (fs : List (Str × V)) (T : String), x = .ref a ∧ H a = some (.ins C dx fs) ∧ TyB K H y T ∧ T ≠ "bytes" ∧ PySem.W.notFirst K C (.type T) = true ∧ sp [x, y] H Q E0
theorem op_eqAny {C : Addr} {ps : List Str} {sp : Sp} {n : Nat} (c : OwnM X.prog X.w X.K X.mg X.base n C "__eq__" ps sp) (room : Room n X.A) : OpR X (compareOp .Eq) (rEqAny X.K C sp) := by
  obtain ⟨g, fd, hs, hf, F, bind⟩ := c.ex
  intro pins st σ h x y v u Z inv rx ry pre
  obtain ⟨a, dx, fs, T, rfl, ha, ty, hT, nf, z⟩ := pre
  obtain rfl : v = Value.ref a := rx
  obtain ⟨od, J⟩ := inst_of inv ha
  obtain ⟨m, hF⟩ := inv.fr
  have lk : PySem.W.Looks (model X.prog X.w) st.heap (typeOf u) (.type T) := by
    have ti := ty.is inv ry
    have flat : typeOf u = pure (.type T) → PySem.W.Looks (model X.prog X.w) st.heap (typeOf u) (.type T) := fun e A Q E s' k q => by rw [e]; exact wpAny_pure q
    have far : ∀ b, u = .ref b → PySem.W.Looks (model X.prog X.w) st.heap (typeOf u) (.type T) := by
      intro b e
      subst e
      obtain ⟨o, g1, g2⟩ := ti
      exact fun A Q E s' k q => wpAny_typeOf_ref (k _ _ g1) (by rw [g2]; exact q)
    cases ty with
    | non => cases (show u = Value.none from ry); exact flat ti
    | bl b => cases (show u = Value.bool b from ry); exact flat ti
    | int i => obtain ⟨t, rfl⟩ := (show ∃ t, u = Value.int i t from ry); exact flat ti
    | str x => obtain ⟨t, rfl⟩ := (show ∃ t, u = Value.str x t from ry); exact flat ti
    | byt b => exact absurd rfl hT
    | @lst b => exact far b ry
    | @tup b => exact far b ry
    | @dK b => exact far b ry
  rw [show compareOp .Eq (.ref a) u = richCompare .Eq (.ref a) u from rfl]
  refine PySem.W.cmp_K (op := .Eq) (tb := .type T) room.units0 hF inv.ok.mod.kin J lk nf hs hf ?_
  refine wpAny_mono (run0 (E' := X.xe) (xs := [.ref a, y]) F room inv.env0 bind inv (.cons rfl (.cons ry .nil)) z) (fun w s2 r => ?_) fun _ _ z => z
  obtain ⟨z', h2, inv2, rz, qz⟩ := r
  exact SlX.cmpback rz ⟨z', h2, inv2, rz, qz⟩
/-! ### C(e, ..) with defaults -/
structure CalleeID (P : Program) (w : World) (K : PySem.W.Frag) (mg : Str → Option Value) (base : Heap) (CX : CXT) (k : Nat) (C : Addr) (x : Str) (ps : List Str) (sp : Sp) (dvs : List V) : Prop where
  ex : ∃ (f : Addr) (fd : FuncData) (ds : List Value), FnOk P w K mg base CX k f fd ps sp ∧ Mk K C f ∧ mg x = some (.ref C) ∧ Binds K fd ps ds ∧ Vals dvs ds
theorem pe_makeD {CX : CXT} {k : Nat} {C : Addr} {x : Str} {ps : List Str} {sp : Sp} {dvs : List V} {E : XK} {e : Expr} {es : List Expr} {p pos : Pos} {t : TA} (c : CalleeID X.prog X.w X.K X.mg X.base CX k C x ps sp dvs) (room : Room (k + 1) X.A) (gl : Gl X x) (pass : Passes CX X E) (ha : PA X (e :: es) t)
    (d1 : (x == ("__debug__" : Str)) = false := by decide) (d2 : starEach (e :: es) X.env = (false, eval e X.env) :: starEach es X.env := by rfl) (d3 : (backTo pos (starEach es X.env)).any (·.1) = false := by rfl) :
    PE X (.Call (.Name x p) (e :: es) [] pos) (tMake C sp dvs E t) := by
  obtain ⟨f, fd, ds, F, M, hm, hb, hd⟩ := c.ex
  exact pe_make M F room gl hm hb hd pass ha d1 d2 d3
/-! ### f(k = v, ..) -/
theorem pe_callK0 {CX : CXT} {k : Nat} {x : Str} {ps ks : List Str} {sp : Sp} {gV : List V → List V → List V} {E : XK} {kws : List Keyword} {p pos : Pos} {tk : TA} (c : CalleeKw X.prog X.w X.K X.mg X.base CX k x ps sp 0 ks gV) (room : Room k X.A) (gl : Gl X x) (pass : Passes CX X E) (hkw : PK X kws tk)
    (d1 : (backToKw pos (keywordEach kws X.env)).all (·.1.isSome) = true := by rfl) (d2 : (backToKw pos (keywordEach kws X.env)).filterMap (·.1) = ks := by rfl) (d3 : (x == ("__debug__" : Str)) = false := by decide)
    (d4 : ((backTo pos (starEach [] X.env)).any (·.1) || (backToKw pos (keywordEach kws X.env)).any (·.1.isNone)) = false := by rfl) :
    PE X (.Call (.Name x p) [] kws pos) (fun σ H Q => tk σ H fun zs H2 => zs.length = ks.length ∧ sp (gV [] zs) H2 Q E) := by
  obtain ⟨f, fd, g, F, hm, hk, hb⟩ := c.ex
  refine ⟨fun pins st σ h Z inv pre => wpAny_Call_Name_kw (ld_glob inv gl hm ?_ d3)⟩
  refine PySem.W.callWith_KW0 (first := []) (h₀ := X.base) inv.ok.mod.kin hk d1 (thn (hkw.run pos pins st σ h _ inv pre) fun ws s2 r => ?_) d4
  obtain ⟨zs, h2, inv2, rel, l2, z2⟩ := r
  refine ⟨inv2.kIn, ?_⟩
  rw [d2]
  exact run_fnN (us := []) (vs := []) F room hb pass inv2 .nil rel rfl l2 z2
end
theorem r_callO {σ : L2.St} {H : Hp} {Q : VK} {C : Addr} {sp : Sp} {E : XK} {tf : TE} {t : TA} (q : tf σ H fun x H1 => ∃ (a dx : Addr) (fs : List (Str × V)), x = .ref a ∧ H1 a = some (.ins C dx fs) ∧ t σ H1 fun vs H2 => H2 a = some (.ins C dx fs) ∧ sp (x :: vs) H2 Q E) : tCallO C sp E tf t σ H Q := q
theorem r_chain {σ : L2.St} {H : Hp} {Q : VK} {r r' : R2} {ta tb tc : TE} (q : ta σ H fun x H1 => tb σ H1 fun y H2 => r x y H2 fun z H3 => ∃ k, z = .bl k ∧ if k = true then tc σ H3 fun w' H4 => r' y w' H4 Q else Q (.bl false) H3) : tChain r r' ta tb tc σ H Q := q
end KC
/-! ### own object op number -/
namespace KC
open PySem PySem.Spec PyProof.Rows L2 KB KG KO
section
variable {X : Cx}
structure OwnB (P : Program) (w : World) (K : PySem.W.Frag) (mg : Str → Option Value) (base : Heap) (CX : CXT) (k : Nat) (C : Addr) (op : Operator) (ps : List Str) (sp : Sp) : Prop where
  ex : ∃ (g : Addr) (fd : FuncData) (rc fo ro : Option Value), PySem.W.selfFirst K C = true ∧ PySem.W.findIn K (.ref C) (PySem.dunder op.info.2) = some (some (.ref g)) ∧ PySem.W.isFn K (.ref g) = true ∧ PySem.W.findIn K (.ref C) (dunderR op.info.2) = some rc ∧ (rc = none ∨ ∃ g : Addr, rc = some (.ref g)) ∧
    PySem.W.findIn K (.type "int") (PySem.dunder op.info.2) = some fo ∧ PySem.W.findIn K (.type "int") (dunderR op.info.2) = some ro ∧ PySem.W.subIn K (.type "int") (.ref C) = some false ∧ FnOk P w K mg base CX k g fd ps sp ∧ Binds K fd ps []
def rBinO (C : Addr) (sp : Sp) (E : XK) : R2 := fun x y H Q => ∃ (a dx : Addr) (fs : List (Str × V)) (i : Int), x = .ref a ∧ H a = some (.ins C dx fs) ∧ y = .int i ∧ sp [x, y] H Q E
theorem op_bin {CX : CXT} {E : XK} {C : Addr} {op : Operator} {ps : List Str} {sp : Sp} {n : Nat} (c : OwnB X.prog X.w X.K X.mg X.base CX n C op ps sp) (room : Room n X.A) (pass : Passes CX X E) : OpR X (binaryOp op) (rBinO C sp E) := by
  obtain ⟨g, fd, rc, fo, ro, c1, c2, c3, c4, c5, c6, c7, c8, F, bind⟩ := c.ex
  intro pins st σ h x y v u Z inv rx ry pre
  obtain ⟨a, dx, fs, i, rfl, ha, rfl, z⟩ := pre
  obtain rfl : v = Value.ref a := rx
  obtain ⟨tk, rfl⟩ := (show ∃ t, u = Value.int i t from ry)
  obtain ⟨od, J⟩ := inst_of inv ha
  obtain ⟨m, hF⟩ := inv.fr
  refine PySem.W.ksp_binT (T := "int") hF inv.ok.mod.kin J rfl c1 c2 c3 c4 c5 c6 c7 c8 ?_
  refine wpAny_mono (run_fn (us := [.ref a, .int i tk]) (vs := [.ref a, .int i]) F room bind .nil pass inv (.cons rfl (.cons ⟨tk, rfl⟩ .nil)) z) (fun w s2 r => ?_) fun _ _ z => z
  obtain ⟨z', h2, inv2, rz, qz⟩ := r
  exact SlX.cmpback rz ⟨z', h2, inv2, rz, qz⟩
end
end KC

/-! KBL: blends: the mathematics (natural numbers, bit by bit). -/
namespace KBL
/-- the word moved by s -/
def shN (w v : Nat) (s : Int) : Nat := if s < 0 then v / 2 ^ (0 - s).toNat else v * 2 ^ s.toNat % 2 ^ w
theorem bit_sh {w v : Nat} {s : Int} (hv : v < 2 ^ w) (p : Nat) : (shN w v s).testBit p = (decide (p < w) && (decide (s ≤ (p : Int)) && v.testBit ((p : Int) - s).toNat)) := by
  unfold shN
  by_cases h : s < 0
  · rw [if_pos h, Nat.testBit_div_two_pow, show p + (0 - s).toNat = ((p : Int) - s).toNat by omega, decide_eq_true (show s ≤ (p : Int) by omega), Bool.true_and]
    by_cases hp : p < w
    · rw [decide_eq_true hp, Bool.true_and]
    · rw [decide_eq_false hp, Bool.false_and]
      exact Nat.testBit_lt_two_pow (Nat.lt_of_lt_of_le hv (Nat.pow_le_pow_right (by decide) (by omega)))
  · rw [if_neg h, Nat.testBit_mod_two_pow, Nat.testBit_mul_two_pow]
    by_cases hs : s ≤ (p : Int)
    · rw [decide_eq_true (show s.toNat ≤ p by omega), decide_eq_true hs, show p - s.toNat = ((p : Int) - s).toNat by omega]
    · rw [decide_eq_false (show ¬ s.toNat ≤ p by omega), decide_eq_false hs]
      simp
theorem sh_lt {w v : Nat} {s : Int} (hv : v < 2 ^ w) : shN w v s < 2 ^ w := by
  unfold shN
  split
  · exact Nat.lt_of_le_of_lt (Nat.div_le_self _ _) hv
  · exact Nat.mod_lt _ (Nat.two_pow_pos w)
def onesN (w : Nat) : Nat := 2 ^ w - 1
theorem ones_lt (w : Nat) : onesN w < 2 ^ w := by
  have := Nat.two_pow_pos w
  unfold onesN
  omega
def keepN (w : Nat) (s : Int) (k : Nat) : Nat := shN w (onesN w) s &&& k
def shiftN (w : Nat) (s : Int) (k : Nat) : Int := if keepN w s k = 0 then 0 else s
/-- the place p has a source -/
def src (w : Nat) (s : Int) (k p : Nat) : Bool := decide (p < w) && (decide (s ≤ (p : Int)) && (decide ((p : Int) - s < w) && k.testBit p))
theorem bit_keep (w : Nat) (s : Int) (k p : Nat) : (keepN w s k).testBit p = src w s k p := by
  unfold keepN src
  rw [Nat.testBit_and, bit_sh (ones_lt w)]
  unfold onesN
  rw [Nat.testBit_two_pow_sub_one]
  by_cases h : s ≤ (p : Int)
  · rw [decide_eq_true h, show decide (((p : Int) - s).toNat < w) = decide ((p : Int) - s < w) from by
      by_cases q : (p : Int) - s < w
      · rw [decide_eq_true q, decide_eq_true (by omega)]
      · rw [decide_eq_false q, decide_eq_false (by omega)]]
    simp only [Bool.true_and, Bool.and_assoc]
  · rw [decide_eq_false h]
    simp
theorem keep_lt (w : Nat) (s : Int) (k : Nat) : keepN w s k < 2 ^ w := by
  unfold keepN
  rw [Nat.and_comm]
  exact Nat.and_lt_two_pow _ (sh_lt (ones_lt w))
/-- what a blend makes of a word -/
def ap (w : Nat) (s : Int) (k f v : Nat) : Nat := f ^^^ (keepN w s k &&& shN w v s)
theorem ap_lt {w : Nat} {s : Int} {k f v : Nat} (hf : f < 2 ^ w) (hv : v < 2 ^ w) : ap w s k f v < 2 ^ w := Nat.xor_lt_two_pow hf (Nat.and_lt_two_pow _ (sh_lt hv))
theorem bit_ap {w : Nat} {s : Int} {k f v : Nat} (hv : v < 2 ^ w) (p : Nat) : (ap w s k f v).testBit p = (f.testBit p ^^ (src w s k p && v.testBit ((p : Int) - s).toNat)) := by
  unfold ap
  rw [Nat.testBit_xor, Nat.testBit_and, bit_keep, bit_sh hv]
  unfold src
  by_cases h1 : p < w <;> by_cases h2 : s ≤ (p : Int) <;> by_cases h3 : (p : Int) - s < w <;> simp [h1, h2, h3]
/-- the same by the numbers that are kept -/
theorem ap_norm (w : Nat) (s : Int) (k f v : Nat) : f ^^^ (keepN w s k &&& shN w v (shiftN w s k)) = ap w s k f v := by
  unfold ap shiftN
  by_cases h : keepN w s k = 0
  · rw [if_pos h, h, Nat.zero_and, Nat.zero_and]
  · rw [if_neg h]
theorem ap_zero (w : Nat) (s : Int) (k f : Nat) : ap w s k f 0 = f := by
  refine Nat.eq_of_testBit_eq fun p => ?_
  rw [bit_ap (Nat.two_pow_pos w), Nat.zero_testBit, Bool.and_false, Bool.xor_false]
theorem two_lt {j w : Nat} (h : j < w) : 2 ^ j < 2 ^ w := Nat.pow_lt_pow_right (by decide) h
theorem bit_two {w : Nat} {s : Int} {k f j : Nat} (h : j < w) (p : Nat) : (ap w s k f (2 ^ j)).testBit p = (f.testBit p ^^ (src w s k p && decide ((p : Int) - s = j))) := by
  rw [bit_ap (two_lt h), Nat.testBit_two_pow]
  unfold src
  by_cases h2 : s ≤ (p : Int)
  · have e : decide (j = ((p : Int) - s).toNat) = decide ((p : Int) - s = j) := by
      by_cases q : (p : Int) - s = j
      · rw [decide_eq_true q, decide_eq_true (by omega)]
      · rw [decide_eq_false q, decide_eq_false (by omega)]
    rw [e]
  · simp [h2]
theorem src_of {w : Nat} {s : Int} {k p : Nat} (h : src w s k p = true) : p < w ∧ s ≤ (p : Int) ∧ (p : Int) - s < w := by
  unfold src at h
  simp only [Bool.and_eq_true, decide_eq_true_eq] at h
  exact ⟨h.1, h.2.1, h.2.2.1⟩
/-- where two agree at the single bits below n, a source of the one is that of the other -/
theorem src_same {w n : Nat} {s s' : Int} {k k' f f' : Nat} (hf : f = f') (h : ∀ j, j < n → ap w s k f (2 ^ j) = ap w s' k' f' (2 ^ j)) (hn : n ≤ w) {p : Nat} (hp : src w s k p = true) (hj : (p : Int) - s < n) : src w s' k' p = true ∧ (p : Int) - s' = (p : Int) - s := by
  obtain ⟨h1, h2, h3⟩ := src_of hp
  obtain ⟨j, ej⟩ : ∃ j : Nat, (p : Int) - s = j := ⟨((p : Int) - s).toNat, by omega⟩
  have hjn : j < n := by omega
  have e := congrArg (fun x => Nat.testBit x p) (h j hjn)
  simp only [bit_two (show j < w by omega), hp, hf] at e
  rw [decide_eq_true ej] at e
  cases hq : src w s' k' p with
  | false => rw [hq] at e; simp at e
  | true =>
    rw [hq] at e
    by_cases z : (p : Int) - s' = j
    · exact ⟨rfl, by omega⟩
    · rw [decide_eq_false z] at e
      simp at e
theorem bits_below {v n i : Nat} (hv : v < 2 ^ n) (h : v.testBit i = true) : i < n := by
  rcases Nat.lt_or_ge i n with z | z
  · exact z
  · rw [Nat.testBit_lt_two_pow (Nat.lt_of_lt_of_le hv (Nat.pow_le_pow_right (by decide) z))] at h
    cases h
/-- .. then they agree at all words below 2 ^ n -/
theorem agree {w n : Nat} {s s' : Int} {k k' f f' : Nat} (hf : f = f') (h : ∀ j, j < n → ap w s k f (2 ^ j) = ap w s' k' f' (2 ^ j)) (hn : n ≤ w) {v : Nat} (hv : v < 2 ^ n) : ap w s k f v = ap w s' k' f' v := by
  have hvw : v < 2 ^ w := Nat.lt_of_lt_of_le hv (Nat.pow_le_pow_right (by decide) hn)
  have one : ∀ {s s' : Int} {k k' f f' : Nat}, f = f' → (∀ j, j < n → ap w s k f (2 ^ j) = ap w s' k' f' (2 ^ j)) → ∀ p, (src w s k p && v.testBit ((p : Int) - s).toNat) = true → (src w s' k' p && v.testBit ((p : Int) - s').toNat) = true := by
    intro s s' k k' f f' hf h p hp
    obtain ⟨h1, h2⟩ := Bool.and_eq_true_iff.mp hp
    have h3 := bits_below hv h2
    obtain ⟨g1, g2⟩ := src_same hf h hn h1 (by have := (src_of h1).2.1; omega)
    rw [g1, g2, h2]
    rfl
  refine Nat.eq_of_testBit_eq fun p => ?_
  rw [bit_ap hvw, bit_ap hvw, hf]
  congr 1
  cases e : (src w s k p && v.testBit ((p : Int) - s).toNat) with
  | true => exact (one hf h p e).symm
  | false =>
    cases e' : (src w s' k' p && v.testBit ((p : Int) - s').toNat) with
    | false => rfl
    | true =>
      have := one hf.symm (fun j hj => (h j hj).symm) p e'
      rw [e] at this
      cases this
/-- equal at 0 and at the single bits: the numbers are equal -/
theorem norm_eq {w : Nat} {s s' : Int} {k k' f f' : Nat} (hf : f = f') (h : ∀ j, j < w → ap w s k f (2 ^ j) = ap w s' k' f' (2 ^ j)) : keepN w s k = keepN w s' k' ∧ shiftN w s k = shiftN w s' k' := by
  have up : ∀ {p}, src w s k p = true → src w s' k' p = true ∧ (p : Int) - s' = (p : Int) - s := fun {p} hp => src_same hf h (Nat.le_refl _) hp (src_of hp).2.2
  have dn : ∀ {p}, src w s' k' p = true → src w s k p = true ∧ (p : Int) - s = (p : Int) - s' := fun {p} hp => src_same hf.symm (fun j hj => (h j hj).symm) (Nat.le_refl _) hp (src_of hp).2.2
  have ek : keepN w s k = keepN w s' k' := by
    refine Nat.eq_of_testBit_eq fun p => ?_
    rw [bit_keep, bit_keep]
    cases e : src w s k p with
    | true => exact (up e).1.symm
    | false =>
      cases e' : src w s' k' p with
      | false => rfl
      | true => have := (dn e').1; rw [e] at this; cases this
  refine ⟨ek, ?_⟩
  unfold shiftN
  rw [← ek]
  by_cases z : keepN w s k = 0
  · rw [if_pos z, if_pos z]
  · rw [if_neg z, if_neg z]
    have : ∃ p, (keepN w s k).testBit p = true := by
      rcases Classical.em (∃ p, (keepN w s k).testBit p = true) with g | g
      · exact g
      · refine absurd (Nat.eq_of_testBit_eq fun p => ?_) z
        rw [Nat.zero_testBit]
        cases e : (keepN w s k).testBit p with
        | false => rfl
        | true => exact absurd ⟨p, e⟩ g
    obtain ⟨p, hp⟩ := this
    rw [bit_keep] at hp
    have := (up hp).2
    omega
theorem norm_ap {w : Nat} {s s' : Int} {k k' f f' : Nat} (hk : keepN w s k = keepN w s' k') (hs : shiftN w s k = shiftN w s' k') (hf : f = f') (v : Nat) : ap w s k f v = ap w s' k' f' v := by
  rw [← ap_norm w s k f v, ← ap_norm w s' k' f' v, hk, hs, hf]
/-! ### where two part -/
def parts (F G : Nat → Nat) (v : Nat) : Bool := decide (F v ≠ G v)
def bits (w : Nat) : List Nat := (List.range w).map (2 ^ ·)
/-- the least word of 0 and the single bits at which F and G part -/
def parting (w : Nat) (F G : Nat → Nat) : Option Nat := (0 :: bits w).find? (parts F G)
theorem parting_none {w : Nat} {F G : Nat → Nat} : parting w F G = none ↔ F 0 = G 0 ∧ ∀ j, j < w → F (2 ^ j) = G (2 ^ j) := by
  unfold parting bits parts
  rw [List.find?_eq_none]
  constructor
  · intro h
    refine ⟨?_, fun j hj => ?_⟩
    · have := h 0 (List.mem_cons_self ..)
      simpa using this
    · have := h (2 ^ j) (List.mem_cons_of_mem _ (List.mem_map.mpr ⟨j, List.mem_range.mpr hj, rfl⟩))
      simpa using this
  · rintro ⟨h0, h⟩ x hx
    rcases List.mem_cons.mp hx with rfl | hx
    · simp [h0]
    · obtain ⟨j, hj, rfl⟩ := List.mem_map.mp hx
      simp [h j (List.mem_range.mp hj)]
theorem find_range {q : Nat → Bool} : ∀ (n : Nat) (m : Nat), m < n → q m = true → (∀ i, i < m → q i = false) → (List.range n).find? q = some m := by
  intro n m hm h1 h2
  induction n with
  | zero => omega
  | succ n ih =>
    rw [List.range_succ, List.find?_append]
    by_cases e : m < n
    · rw [ih e]
      rfl
    · have e' : m = n := by omega
      subst e'
      have no : (List.range m).find? q = none := by
        rw [List.find?_eq_none]
        intro x hx
        rw [h2 x (List.mem_range.mp hx)]
        decide
      rw [no]
      simp [List.find?, h1]
theorem parting_some {w : Nat} {F G : Nat → Nat} {d : Nat} (h : parting w F G = some d) : F d ≠ G d ∧ (d = 0 ∨ ∃ j, j < w ∧ d = 2 ^ j ∧ F 0 = G 0 ∧ ∀ i, i < j → F (2 ^ i) = G (2 ^ i)) := by
  have hp : parts F G d = true := List.find?_some h
  refine ⟨by simpa [parts] using hp, ?_⟩
  unfold parting at h
  rw [List.find?_cons] at h
  cases e : parts F G 0 with
  | true => rw [e] at h; exact .inl (Option.some.inj h).symm
  | false =>
    rw [e] at h
    have h0 : F 0 = G 0 := by simpa [parts] using e
    have h' : (bits w).find? (parts F G) = some d := h
    unfold bits at h'
    rw [List.find?_map] at h'
    cases e2 : (List.range w).find? (parts F G ∘ fun x => 2 ^ x) with
    | none => rw [e2] at h'; cases h'
    | some j =>
      rw [e2] at h'
      have hd : 2 ^ j = d := Option.some.inj h'
      obtain ⟨as, bs, e3, e4⟩ := List.find?_eq_some_iff_append.mp e2 |>.2
      refine .inr ⟨j, List.mem_range.mp (List.mem_of_find?_eq_some e2), hd.symm, h0, fun i hi => ?_⟩
      have : i ∈ as := by
        have hl : as.length = j := by
          have := congrArg (fun l => l[as.length]?) e3
          simp at this
          have h5 : as.length < w := by
            have := congrArg List.length e3
            simp at this
            omega
          simp [h5] at this
          exact this
        have hi2 : i < as.length := by omega
        have q := congrArg (fun l => l[i]?) e3
        have hiw : i < w := by
          have := congrArg List.length e3
          simp at this
          omega
        rw [show (as ++ j :: bs)[i]? = as[i]? from List.getElem?_append_left hi2, List.getElem?_range hiw] at q
        exact List.mem_of_getElem? q.symm
      have := e4 i this
      simpa [parts] using this
/-- two blends: all words below the parting word agree -/
theorem below {w : Nat} {s s' : Int} {k k' f f' d v : Nat} (h : parting w (ap w s k f) (ap w s' k' f') = some d) (hv : v < d) : ap w s k f v = ap w s' k' f' v := by
  rcases (parting_some h).2 with rfl | ⟨j, hj, rfl, h0, h1⟩
  · omega
  · rw [ap_zero, ap_zero] at h0
    exact agree h0 h1 (Nat.le_of_lt hj) hv
/-- found among all words -/
theorem parting_all {w : Nat} {s s' : Int} {k k' f f' : Nat} : (List.range (2 ^ w)).find? (parts (ap w s k f) (ap w s' k' f')) = parting w (ap w s k f) (ap w s' k' f') := by
  cases e : parting w (ap w s k f) (ap w s' k' f') with
  | none =>
    obtain ⟨h0, h1⟩ := parting_none.mp e
    rw [ap_zero, ap_zero] at h0
    rw [List.find?_eq_none]
    intro x hx
    simp [parts, agree h0 h1 (Nat.le_refl w) (List.mem_range.mp hx)]
  | some d =>
    have hd := parting_some e
    have dl : d < 2 ^ w := by
      rcases hd.2 with rfl | ⟨j, hj, rfl, _⟩
      · exact Nat.two_pow_pos w
      · exact two_lt hj
    refine find_range _ d dl (by simpa [parts] using hd.1) fun i hi => ?_
    simp [parts, below e hi]
/-- the numbers are equal just where there is no such word -/
theorem same_iff {w : Nat} {s s' : Int} {k k' f f' : Nat} : parting w (ap w s k f) (ap w s' k' f') = none ↔ (shiftN w s k = shiftN w s' k' ∧ keepN w s k = keepN w s' k' ∧ f = f') := by
  rw [parting_none, ap_zero, ap_zero]
  constructor
  · rintro ⟨h0, h1⟩
    obtain ⟨g1, g2⟩ := norm_eq h0 h1
    exact ⟨g2, g1, h0⟩
  · rintro ⟨h1, h2, h3⟩
    exact ⟨h3, fun j _ => norm_ap h2 h1 h3 _⟩
end KBL
/-! ### numbers of the model -/
namespace KBL
open PySem
theorem bAnd (a b : Nat) : Builtin.bitAnd (a : Int) (b : Int) = ((a &&& b : Nat) : Int) := by
  rw [PyProof.Rows.bitAnd_pp (by omega) (by omega)]
  rfl
theorem xor_and_add (a : Nat) : ∀ b : Nat, (a ^^^ b) + 2 * (a &&& b) = a + b := by
  induction a using Nat.strongRecOn with
  | _ a ih =>
    intro b
    by_cases h : a = 0
    · subst h; simp
    · have e := ih (a / 2) (by omega) (b / 2)
      have x1 := Nat.xor_mod_two_pow (a := a) (b := b) (n := 1)
      have x2 := Nat.and_mod_two_pow (a := a) (b := b) (n := 1)
      have x3 := Nat.xor_div_two_pow (a := a) (b := b) (n := 1)
      have x4 := Nat.and_div_two_pow (a := a) (b := b) (n := 1)
      simp only [Nat.pow_one] at x1 x2 x3 x4
      have da := Nat.div_add_mod a 2
      have db := Nat.div_add_mod b 2
      have dx := Nat.div_add_mod (a ^^^ b) 2
      have dy := Nat.div_add_mod (a &&& b) 2
      rw [x1, x3] at dx
      rw [x2, x4] at dy
      rcases Nat.mod_two_eq_zero_or_one a with ha | ha <;> rcases Nat.mod_two_eq_zero_or_one b with hb | hb <;> rw [ha, hb] at dx dy <;> rw [ha] at da <;> rw [hb] at db <;> simp at dx dy <;> omega
theorem bXor (a b : Nat) : Builtin.bitXor (a : Int) (b : Int) = ((a ^^^ b : Nat) : Int) := by
  rw [PyProof.Rows.bitXor_and, bAnd]
  have := xor_and_add a b
  omega
theorem ofShr (v : Nat) (j : Int) : (v : Int) / 2 ^ j.toNat = ((v / 2 ^ j.toNat : Nat) : Int) := by
  rw [Int.natCast_ediv, Int.natCast_pow]
  rfl
theorem ofShl (v : Nat) (j : Int) : (v : Int) * 2 ^ j.toNat = ((v * 2 ^ j.toNat : Nat) : Int) := by
  rw [Int.natCast_mul, Int.natCast_pow]
  rfl
theorem shl_and (w v : Nat) (j : Int) : Builtin.bitAnd ((v : Int) * 2 ^ j.toNat) ((onesN w : Nat) : Int) = ((v * 2 ^ j.toNat % 2 ^ w : Nat) : Int) := by
  rw [ofShl, bAnd]
  unfold onesN
  rw [Nat.and_two_pow_sub_one_eq_mod]
end KBL
/-! ### texts of numbers -/
namespace KBL
open PySem
def dg (i : Int) : List Nat := (Str.ofString (toString i)).cps.toList
theorem dg_is (i : Int) : dg i = (toString i).toList.map Char.toNat := PyProof.Rows.signs_ofString _
theorem map_char : ∀ {a b : List Char}, a.map Char.toNat = b.map Char.toNat → a = b
  | [], [], _ => rfl
  | [], _ :: _, h => by cases h
  | _ :: _, [], h => by cases h
  | x :: a, y :: b, h => by
    rw [List.map_cons, List.map_cons] at h
    injection h with h1 h2
    have e : x = y := Char.toNat_inj.mp h1
    rw [e, map_char h2]
theorem dg_inj {i j : Int} (h : dg i = dg j) : i = j := by
  rw [dg_is, dg_is] at h
  have e := map_char h
  rw [String.toList_inj] at e
  rw [Int.toString_eq_repr, Int.toString_eq_repr] at e
  exact Int.repr_inj.mp e
theorem nat_no (n : Nat) : ∀ c ∈ (Nat.repr n).toList, c.toNat ≠ 44 := by
  intro c hc
  rw [Nat.toList_repr] at hc
  have h := Nat.isDigit_of_mem_toDigits (by decide) (by decide) hc
  simp only [Char.isDigit, Bool.and_eq_true, decide_eq_true_eq] at h
  have h2 : 48 ≤ c.val.toNat := by simpa using UInt32.le_iff_toNat_le.mp h.1
  have e : c.val.toNat = c.toNat := rfl
  omega
theorem dg_no (i : Int) : 44 ∉ dg i := by
  rw [dg_is]
  intro hc
  obtain ⟨c, hc, e⟩ := List.mem_map.mp hc
  rw [Int.toString_eq_repr, Int.repr_eq_if] at hc
  split at hc
  · exact nat_no _ c hc e
  · rw [String.toList_append, List.mem_append] at hc
    rcases hc with hc | hc
    · have : c = '-' := by simpa using hc
      subst this
      exact absurd e (by decide)
    · exact nat_no _ c hc e
theorem cut44 : ∀ {a b x y : List Nat}, 44 ∉ a → 44 ∉ b → a ++ 44 :: x = b ++ 44 :: y → a = b ∧ x = y
  | [], [], _, _, _, _, h => by
    injection h with _ h
    exact ⟨rfl, h⟩
  | [], c :: b, _, _, _, hb, h => by
    injection h with h1 _
    exact absurd (by rw [← h1]; exact List.mem_cons_self ..) hb
  | c :: a, [], _, _, ha, _, h => by
    injection h with h1 _
    exact absurd (by rw [h1]; exact List.mem_cons_self ..) ha
  | c :: a, d :: b, x, y, ha, hb, h => by
    injection h with h1 h2
    obtain ⟨g1, g2⟩ := cut44 (fun z => ha (List.mem_cons_of_mem _ z)) (fun z => hb (List.mem_cons_of_mem _ z)) h2
    exact ⟨by rw [h1, g1], g2⟩
def bText (w s k f : Int) : Str := Str.empty ++ "Blend(" ++ toString w ++ ", " ++ toString s ++ ", " ++ toString k ++ ", " ++ toString f ++ ")"
theorem bText_list (w s k f : Int) : (bText w s k f).cps.toList = [66, 108, 101, 110, 100, 40] ++ (dg w ++ 44 :: (32 :: dg s ++ 44 :: (32 :: dg k ++ 44 :: (32 :: dg f ++ [41])))) := by
  unfold bText dg
  simp only [Str.cps_append, Array.toList_append, List.append_assoc]
  rfl
theorem no32 {l : List Nat} (h : 44 ∉ l) : 44 ∉ (32 :: l) := fun z => (List.mem_cons.mp z).elim (fun e => by cases e) h
theorem bText_inj {w s k f w' s' k' f' : Int} (h : bText w s k f = bText w' s' k' f') : w = w' ∧ s = s' ∧ k = k' ∧ f = f' := by
  have e := congrArg (fun x : Str => x.cps.toList) h
  simp only [bText_list] at e
  have e := List.append_cancel_left e
  obtain ⟨e1, e⟩ := cut44 (dg_no w) (dg_no w') e
  obtain ⟨e2, e⟩ := cut44 (a := 32 :: dg s) (b := 32 :: dg s') (no32 (dg_no s)) (no32 (dg_no s')) e
  obtain ⟨e3, e⟩ := cut44 (a := 32 :: dg k) (b := 32 :: dg k') (no32 (dg_no k)) (no32 (dg_no k')) e
  have e4 := List.append_cancel_right e
  injection e2 with _ e2
  injection e3 with _ e3
  injection e4 with _ e4
  exact ⟨dg_inj e1, dg_inj e2, dg_inj e3, dg_inj e4⟩
theorem num_len {i : Int} (h : i.natAbs.log2 < 1920) : (Str.ofString (toString i)).length ≤ 1921 := PyProof.Rows.int_text_len_1921 h
end KBL
namespace KBL
open PySem
def b2n (b : Bool) : Nat := if b then 1 else 0
theorem bit_one (n p : Nat) : Builtin.bitAnd ((n : Int) / 2 ^ p) 1 = ((b2n (n.testBit p) : Nat) : Int) := by
  rw [show ((n : Int) / 2 ^ p) = ((n / 2 ^ p : Nat) : Int) by rw [Int.natCast_ediv, Int.natCast_pow]; rfl]
  rw [show (1 : Int) = ((1 : Nat) : Int) from rfl, bAnd, Nat.and_one_is_mod, Nat.testBit_eq_decide_div_mod_eq]
  unfold b2n
  have := Nat.mod_two_eq_zero_or_one (n / 2 ^ p)
  rcases this with h | h <;> rw [h] <;> rfl
theorem b2n_one (b : Bool) : (((b2n b : Nat) : Int) = 1) ↔ b = true := by
  cases b <;> decide
theorem b2n_xor (a b : Bool) : Builtin.bitXor ((b2n a : Nat) : Int) ((b2n b : Nat) : Int) = ((b2n (a ^^ b) : Nat) : Int) := by
  rw [bXor]
  cases a <;> cases b <;> rfl
theorem mod_next (x i : Nat) : x % 2 ^ (i + 1) = x % 2 ^ i + b2n (x.testBit i) * 2 ^ i := by
  rw [Nat.mod_pow_succ, Nat.testBit_eq_decide_div_mod_eq]
  unfold b2n
  have := Nat.mod_two_eq_zero_or_one (x / 2 ^ i)
  rcases this with h | h <;> rw [h] <;> simp
end KBL

/-! KD: comprehensions whose elements are made. -/
namespace KD
open PySem PySem.Spec PyProof.Rows L2 KB KG KO
/-- all but lists is kept -/
def SameN (H H' : Hp) : Prop := ∀ a o, H a = some o → (∀ xs, o ≠ .lst xs) → H' a = some o
theorem SameN.of {H H' : Hp} (s : Same H H') : SameN H H' := fun a o e _ => s a o e
theorem SameN.trans {H H' H2 : Hp} (s : SameN H H') (t : SameN H' H2) : SameN H H2 := fun a o e n => t a o (s a o e n) n
theorem SameN.tup {H H' : Hp} {a : Addr} {xs : List V} (s : SameN H H') (h : H a = some (.tup xs)) : H' a = some (.tup xs) := s a _ h (fun _ z => by cases z)
theorem SameN.ins {H H' : Hp} {a C dx : Addr} {fs : List (Str × V)} (s : SameN H H') (h : H a = some (.ins C dx fs)) : H' a = some (.ins C dx fs) := s a _ h (fun _ z => by cases z)
/-- a comprehension without a test; R i v H: what the i-th element is -/
theorem lc_made {J : It} {n : Nat} {G : Hp → Prop} {Y : Nat → Hp → V → Hp → Prop} (wk : Walk J n G Y) {g : TG} {tt : TT} {te : TE} {vs : List Nat} {σ : L2.St} {H1 : Hp} {Q : VK} (R : Nat → V → Hp → Prop) (hn : n ≤ 10000)
    (up : ∀ i v H H', R i v H → SameN H H' → R i v H') (hG : ∀ H', Same H1 H' → G H')
    (hs : ∀ i x H H' (N : V → Hp → Prop) (B : Hp → Prop), i < n → Same H1 H → Y i H x H' → (∀ v H2, Same H H2 → R i v H2 → N v H2) → g x (wipe σ vs) H' fun σ2 H2 => wipe σ2 vs = wipe σ vs ∧ tt σ2 H2 fun b H3 => if b = true then te σ2 H3 N else B H3)
    (hd : ∀ D H' (ys : List V), H1 D = none → Same H1 H' → H' D = some (.lst ys) → ys.length = n → (∀ i v, ys[i]? = some v → R i v H') → Q (.ref D) H') :
    LcW J g tt te vs σ H1 Q := by
  intro D hD
  refine lc_it wk (Qd := fun H => Q (.ref D) H) (fun i H => Same H1 H ∧ ∃ ys : List V, H D = some (.lst ys) ∧ ys.length = i ∧ ∀ j v, ys[j]? = some v → R j v H) ⟨same_new hD, [], upd_same, rfl, fun j v e => by simp at e⟩ (fun i H _ p => hG H p.1) (fun i x H H' hi p y => ?_) (fun H p => ?_)
  · obtain ⟨sm, ys, hy, hl, hR⟩ := p
    refine hs i x H H' _ _ hi sm y (fun v H2 s2 r => ?_)
    have kp : ∀ zs, SameN H2 (upd H2 D (.lst zs)) := fun zs a o e no => by
      rw [upd_ne (fun z => no ys (by rw [z, s2 _ _ hy] at e; exact (Option.some.inj e).symm))]
      exact e
    refine ⟨ys, s2 _ _ hy, small1000' (by omega), same_mut (sm.trans s2) hD, ys ++ [v], upd_same, by simp [hl], fun j w e => ?_⟩
    by_cases hj : j < ys.length
    · rw [List.getElem?_append_left hj] at e
      exact up _ _ _ _ (hR j w e) ((SameN.of s2).trans (kp _))
    · rw [List.getElem?_append_right (by omega)] at e
      have h0 : j - ys.length = 0 := by
        cases z : j - ys.length with
        | zero => rfl
        | succ m => rw [z] at e; simp at e
      rw [h0] at e
      have ew : v = w := Option.some.inj e
      subst ew
      have ej : j = i := by omega
      subst ej
      exact up _ _ _ _ r (kp _)
  · obtain ⟨sm, ys, hy, hl, hR⟩ := p
    exact hd D H ys hD sm hy hl hR
/-- a comprehension whose test is never true -/
theorem lc_none {J : It} {n : Nat} {G : Hp → Prop} {Y : Nat → Hp → V → Hp → Prop} (wk : Walk J n G Y) {g : TG} {tt : TT} {te : TE} {vs : List Nat} {σ : L2.St} {H1 : Hp} {Q : VK}
    (hG : ∀ H', Same H1 H' → G H')
    (hs : ∀ i x H H' (B : Hp → Prop) (N : V → Hp → Prop), i < n → Same H1 H → Y i H x H' → (∀ H2, Same H H2 → B H2) → g x (wipe σ vs) H' fun σ2 H2 => wipe σ2 vs = wipe σ vs ∧ tt σ2 H2 fun b H3 => if b = true then te σ2 H3 N else B H3)
    (hd : ∀ D H', H1 D = none → Same H1 H' → H' D = some (.lst []) → Q (.ref D) H') :
    LcW J g tt te vs σ H1 Q := by
  intro D hD
  refine lc_it wk (Qd := fun H => Q (.ref D) H) (fun i H => Same H1 H ∧ H D = some (.lst [])) ⟨same_new hD, upd_same⟩ (fun i H _ p => hG H p.1) (fun i x H H' hi p y => ?_) (fun H p => hd D H hD p.1 p.2)
  exact hs i x H H' _ _ hi p.1 y (fun H2 s2 => ⟨p.1.trans s2, s2 _ _ p.2⟩)
theorem r_yes {σ : L2.St} {H : Hp} {QT : Bool → Hp → Prop} (q : QT true H) : tYes σ H QT := q
/-! ### what repr shows -/
open KY
theorem fit_int {tag : Str} (ht : (reprText tag).length ≤ 100) {i : Int} (h : i.natAbs.log2 < 1920) : Fit tag (.sc (.int i)) := by
  have l := KBL.num_len h
  have sl2 : 10000 ≤ sizeLine := by decide
  refine ⟨?_, ?_, ?_⟩
  · simp only [Dt.d, Sc.d, PyData.showable]
    exact decide_eq_true h
  · simp [KY.pairD, PyData.depth, PyData.depthAll, Dt.d, Sc.d]
  · simp only [KY.pairD, PyData.shown, PyData.shownAll, Dt.d, Sc.d, listText, textFrom, Str.length_append]
    have c1 : (Str.ofString "[").length = 1 := by decide +kernel
    have c2 : (Str.ofString "]").length = 1 := by decide +kernel
    have c3 : (Str.ofString (if 0 > 0 then ", " else "")).length = 0 := by decide +kernel
    have c4 : (Str.ofString (if 0 + 1 > 0 then ", " else "")).length = 2 := by decide +kernel
    omega
def fitB (tag : Str) (t : Dt) : Bool := PyData.showable t.d && decide ((KY.pairD tag t).depth ≤ 60) && decide ((KY.pairD tag t).shown.length ≤ 1000)
theorem fit_of {tag : Str} {t : Dt} (h : fitB tag t = true) : Fit tag t := by
  unfold fitB at h
  simp only [Bool.and_eq_true, decide_eq_true_eq] at h
  exact ⟨h.1.1, h.1.2, Nat.le_trans h.2 (by decide)⟩
theorem strOk_of (s : String) : PyData.strOk (Str.ofString s) = true := by
  unfold PyData.strOk
  rw [Str.ofString_eq_toList]
  rw [List.all_toArray, List.all_eq_true]
  intro x hx
  obtain ⟨c, _, rfl⟩ := List.mem_map.mp hx
  have h := c.valid
  have e : c.toNat = c.val.toNat := rfl
  refine decide_eq_true ?_
  rw [e]
  rcases h with h | h
  · have : c.val.toNat < 0xd800 := h
    omega
  · have : c.val.toNat < 0x110000 := h.2
    omega
theorem strOk_app (a b : Str) : PyData.strOk (a ++ b) = (PyData.strOk a && PyData.strOk b) := by
  unfold PyData.strOk
  show (a.cps ++ b.cps).all _ = _
  rw [Array.all_append]
theorem ok_intText {tag : Str} (ht : PyData.strOk (reprText tag) = true) (i : Int) : PyData.strOk (KY.pairD tag (.sc (.int i))).shown = true := by
  simp only [KY.pairD, PyData.shown, PyData.shownAll, Dt.d, Sc.d, listText, textFrom, strOk_app, strOk_of, ht, Bool.and_self]
/-! ### f(k = v, ..), its reading named -/
section
variable {X : Cx}
def tCK (ks : List Str) (sp : Sp) (gV : List V → List V → List V) (E : XK) (tk : TA) : TE := fun σ H Q => tk σ H fun zs H2 => zs.length = ks.length ∧ sp (gV [] zs) H2 Q E
theorem pe_callK {CX : CXT} {k : Nat} {x : Str} {ps ks : List Str} {sp : Sp} {gV : List V → List V → List V} {E : XK} {kws : List Keyword} {p pos : Pos} {tk : TA} (c : CalleeKw X.prog X.w X.K X.mg X.base CX k x ps sp 0 ks gV) (room : Room k X.A) (gl : Gl X x) (pass : Passes CX X E) (hkw : PK X kws tk)
    (d1 : (backToKw pos (keywordEach kws X.env)).all (·.1.isSome) = true := by rfl) (d2 : (backToKw pos (keywordEach kws X.env)).filterMap (·.1) = ks := by rfl) (d3 : (x == ("__debug__" : Str)) = false := by decide)
    (d4 : ((backTo pos (starEach [] X.env)).any (·.1) || (backToKw pos (keywordEach kws X.env)).any (·.1.isNone)) = false := by rfl) :
    PE X (.Call (.Name x p) [] kws pos) (tCK ks sp gV E tk) := KC.pe_callK0 c room gl pass hkw d1 d2 d3 d4
theorem r_ck {σ : L2.St} {H : Hp} {Q : VK} {ks : List Str} {sp : Sp} {gV : List V → List V → List V} {E : XK} {tk : TA} (q : tk σ H fun zs H2 => zs.length = ks.length ∧ sp (gV [] zs) H2 Q E) : tCK ks sp gV E tk σ H Q := q
end
end KD

/-! KR: own object beside data of any type under &, |, ^, <<, >>, on either side. -/
namespace KR
open PySem PySem.Spec PyProof.Rows L2 KB KG KO KY
section
variable {prog : Program} {w : World} {A : Around} {E : Value → Shared → Prop} {s : Shared} {K : PySem.W.Frag} {x C L g g2 : Addr} {hb : Heap} {m : Str → Option Value} {ox : Obj} {od : Option Obj} {T : String}
open PySem.W in
/-- o op v -/
theorem bin_left {op : Operator} {v : Value} {fo ro rc : Option Value} {Z : Value → Shared → Prop} (F : Fr hb L s.heap m) (X0 : K.In hb) (I : InstAt s.heap x ox C od) (lv : Looks (model prog w) s.heap (typeOf v) (.type T)) (c1 : selfFirst K C = true)
    (c2 : findIn K (.ref C) (PySem.dunder op.info.2) = some (some (.ref g))) (c3 : isFn K (.ref g) = true) (c4 : findIn K (.ref C) (dunderR op.info.2) = some rc) (c5 : rc = none ∨ ∃ z : Addr, rc = some (.ref z))
    (c6 : findIn K (.type T) (PySem.dunder op.info.2) = some fo) (c7 : findIn K (.type T) (dunderR op.info.2) = some ro) (c8 : subIn K (.type T) (.ref C) = some false)
    (go : wpAny (model prog w) A (call (.ref g) [.ref x, v]) (PySem.W.CmpBack Z) E s) : wpAny (model prog w) A (binaryOp op (.ref x) v) Z E s := by
  have XK := X0.keeps F.keep
  obtain ⟨cd, rest, hcd, hmro⟩ := ksp_first c1
  rcases oi : op.info with ⟨sy, n1⟩
  rw [oi] at c2 c4 c6 c7
  dsimp only at c2 c4 c6 c7
  have once := ksp_try XK I c2 c3 go
  obtain ⟨sh, sg, sd, stk, sos⟩ := s
  have k1 : Looks (model prog w) sh (typeOf (.ref x)) (.ref C) := I.type
  have k2 : Looks (model prog w) sh (typeOf v) (.type T) := lv
  have k3 : Looks (model prog w) sh (fillsNumberSlot (.ref C) n1) true := fills_K XK hcd hmro c2
  have k4 : Looks (model prog w) sh (fillsNumberSlot (.type T) n1) _ := ksp_fillsT XK c6 c7
  have k5 : Looks (model prog w) sh (isSubtype (.type T) (.ref C)) false := looks_subIn XK c8
  have k6 : Looks (model prog w) sh (numberSlotInPython (.ref C) n1) true := ksp_inPy XK c2 c4 c5
  have k7 : Looks (model prog w) sh (numberSlotInPython (.type T) n1) false := Looks.of_pure rfl
  have k8 : Looks (model prog w) sh (typeLookup (.type T) (dunderR n1)) ro := looks_findIn XK c7
  revert k4
  generalize ((fo.isSome && !isSeqSlot fo) || (ro.isSome && !isSeqSlot ro)) = rt
  intro k4
  have nq : (Value.ref C == Value.type T) = false := Bool.eq_false_iff.mpr fun q => by cases beq_iff_eq.mp q
  simp only [binaryOp, oi]
  refine wpAny_holding (wpAny_bind ?_)
  unfold binaryOp1
  refine wpAny_bind (k1.at (wpAny_bind (k2.at (wpAny_bind (k3.at ?_)))))
  simp only [nq, Bool.false_eq_true, if_false]
  cases rt
  all_goals
    ksp_lk
    refine wpAny_mono once (fun r s' y => ?_) fun _ _ e => e
    obtain ⟨v', rfl, hq⟩ := y
    ksp_lk
    exact hq
open PySem.W in
/-- v op o -/
theorem bin_right {op : Operator} {v : Value} {fo ro : Option Value} {fl : Bool} {Z : Value → Shared → Prop} (F : Fr hb L s.heap m) (X0 : K.In hb) (I : InstAt s.heap x ox C od) (lv : Looks (model prog w) s.heap (typeOf v) (.type T)) (c1 : selfFirst K C = true)
    (c2 : findIn K (.ref C) (PySem.dunder op.info.2) = some (some (.ref g2))) (c3 : isFn K (.ref g) = true) (c4 : findIn K (.ref C) (dunderR op.info.2) = some (some (.ref g)))
    (c6 : findIn K (.type T) (PySem.dunder op.info.2) = some fo) (c7 : findIn K (.type T) (dunderR op.info.2) = some ro) (c9 : ((fo.isSome && !isSeqSlot fo) || (ro.isSome && !isSeqSlot ro)) = fl) (c8 : fl = true → subIn K (.ref C) (.type T) = some false)
    (no : fl = true → Looks (model prog w) s.heap (tryMethod v (PySem.dunder op.info.2) (.ref x)) none)
    (go : wpAny (model prog w) A (call (.ref g) [.ref x, v]) (PySem.W.CmpBack Z) E s) : wpAny (model prog w) A (binaryOp op v (.ref x)) Z E s := by
  have XK := X0.keeps F.keep
  obtain ⟨cd, rest, hcd, hmro⟩ := ksp_first c1
  rcases oi : op.info with ⟨sy, n1⟩
  rw [oi] at c2 c4 c6 c7 no
  dsimp only at c2 c4 c6 c7 no
  have once := ksp_try XK I c4 c3 go
  obtain ⟨sh, sg, sd, stk, sos⟩ := s
  have k1 : Looks (model prog w) sh (typeOf (.ref x)) (.ref C) := I.type
  have k2 : Looks (model prog w) sh (typeOf v) (.type T) := lv
  have k3 : Looks (model prog w) sh (fillsNumberSlot (.ref C) n1) true := fills_K XK hcd hmro c2
  have k4 : Looks (model prog w) sh (fillsNumberSlot (.type T) n1) fl := c9 ▸ ksp_fillsT XK c6 c7
  have k7 : Looks (model prog w) sh (numberSlotInPython (.type T) n1) false := Looks.of_pure rfl
  have nq : (Value.type T == Value.ref C) = false := Bool.eq_false_iff.mpr fun q => by cases beq_iff_eq.mp q
  simp only [binaryOp, oi]
  refine wpAny_holding (wpAny_bind ?_)
  unfold binaryOp1
  refine wpAny_bind (k2.at (wpAny_bind (k1.at (wpAny_bind (k4.at ?_)))))
  simp only [nq, Bool.false_eq_true, if_false]
  cases fl with
  | false =>
    ksp_lk
    refine wpAny_mono once (fun r s' y => ?_) fun _ _ e => e
    obtain ⟨v', rfl, hq⟩ := y
    ksp_lk
    exact hq
  | true =>
    have k5 : Looks (model prog w) sh (isSubtype (.ref C) (.type T)) false := looks_subIn XK (c8 rfl)
    have k9 := no rfl
    ksp_lk
    refine Looks.at k9 ?_
    ksp_lk
    refine wpAny_mono once (fun r s' y => ?_) fun _ _ e => e
    obtain ⟨v', rfl, hq⟩ := y
    ksp_lk
    exact hq
end
section
variable {X : Cx} {pins : List (Addr × Obj)} {σ : L2.St} {H : Hp} {st : Shared}
theorem od_type {v : V} {u : Value} {t : Dt} (inv : Inv X pins σ H st) (o : OdAt H v t) (r : RelV v u) : st.TypeIs u t.ty := by
  cases t with
  | sc s =>
    obtain rfl : v = s.v := o
    cases s with
    | non => cases (show u = Value.none from r); exact rfl
    | bl b => cases (show u = Value.bool b from r); exact rfl
    | int i => obtain ⟨t, rfl⟩ := (show ∃ t, u = Value.int i t from r); exact rfl
    | str x => obtain ⟨t, rfl⟩ := (show ∃ t, u = Value.str x t from r); exact rfl
  | tup l =>
    obtain ⟨a, rfl, e⟩ := o
    obtain rfl : u = Value.ref a := r
    obtain ⟨its, rv, ⟨ob, ho, hc, n, hd⟩, _⟩ := inv.tuple (SqT.of e)
    exact ⟨_, ho, hc⟩
  | lst l =>
    obtain ⟨a, rfl, e⟩ := o
    obtain rfl : u = Value.ref a := r
    obtain ⟨its, rv, ⟨ob, n, ho, hc, _, hd⟩, _⟩ := inv.list (SqL.of e)
    exact ⟨_, ho, hc⟩
  | dct l =>
    obtain ⟨a, rfl, e⟩ := o
    obtain rfl : u = Value.ref a := r
    obtain ⟨_, ns, vs, kv, ob, es, ep, ho, hex, hd, _, prs, _⟩ := dk_of inv.hok e
    exact ⟨_, ho, hex.1⟩
theorem type_looks {M : Model} {s : Shared} {u : Value} {T : String} (h : s.TypeIs u T) : PySem.W.Looks M s.heap (typeOf u) (.type T) := by
  intro A Q E s' k q
  refine wpAny_typeOf (T := T) ?_ q
  cases u with
  | ref b =>
    obtain ⟨o, e, c⟩ := h
    exact ⟨o, k _ _ e, c⟩
  | _ => exact h
end
section
variable {M : Model} {s : Shared} {x C dx : Addr}
open PySem.SeqAt PySem.MeetsSeq PySem.AutoSeq1
theorem int_and_no (i : Int) (t : Tok) : Meets (Builtin.«int.__and__» ⟨[.int i t, .ref x], []⟩) (fun _ R s => s.heap.get? x = some (PySem.W.instObj C dx) ∧ R (.ok (.ret .notImplemented)) s) :=
  .of_wp fun prog w A R s h => by obtain ⟨hp, g, d, tk, os⟩ := s; obtain ⟨hl, h⟩ := h; wp_walk using wpAny_loadPart' hl, wpAny_load hl; exact ⟨_, rfl, h⟩
theorem int_or_no (i : Int) (t : Tok) : Meets (Builtin.«int.__or__» ⟨[.int i t, .ref x], []⟩) (fun _ R s => s.heap.get? x = some (PySem.W.instObj C dx) ∧ R (.ok (.ret .notImplemented)) s) :=
  .of_wp fun prog w A R s h => by obtain ⟨hp, g, d, tk, os⟩ := s; obtain ⟨hl, h⟩ := h; wp_walk using wpAny_loadPart' hl, wpAny_load hl; exact ⟨_, rfl, h⟩
theorem int_xor_no (i : Int) (t : Tok) : Meets (Builtin.«int.__xor__» ⟨[.int i t, .ref x], []⟩) (fun _ R s => s.heap.get? x = some (PySem.W.instObj C dx) ∧ R (.ok (.ret .notImplemented)) s) :=
  .of_wp fun prog w A R s h => by obtain ⟨hp, g, d, tk, os⟩ := s; obtain ⟨hl, h⟩ := h; wp_walk using wpAny_loadPart' hl, wpAny_load hl; exact ⟨_, rfl, h⟩
theorem bool_and_no (b : Bool) : Meets (Builtin.«bool.__and__» ⟨[.bool b, .ref x], []⟩) (fun _ R s => s.heap.get? x = some (PySem.W.instObj C dx) ∧ R (.ok (.ret .notImplemented)) s) :=
  .of_wp fun prog w A R s h => by obtain ⟨hp, g, d, tk, os⟩ := s; obtain ⟨hl, h⟩ := h; wp_walk using wpAny_loadPart' hl, wpAny_load hl; exact ⟨_, rfl, h⟩
theorem bool_or_no (b : Bool) : Meets (Builtin.«bool.__or__» ⟨[.bool b, .ref x], []⟩) (fun _ R s => s.heap.get? x = some (PySem.W.instObj C dx) ∧ R (.ok (.ret .notImplemented)) s) :=
  .of_wp fun prog w A R s h => by obtain ⟨hp, g, d, tk, os⟩ := s; obtain ⟨hl, h⟩ := h; wp_walk using wpAny_loadPart' hl, wpAny_load hl; exact ⟨_, rfl, h⟩
theorem bool_xor_no (b : Bool) : Meets (Builtin.«bool.__xor__» ⟨[.bool b, .ref x], []⟩) (fun _ R s => s.heap.get? x = some (PySem.W.instObj C dx) ∧ R (.ok (.ret .notImplemented)) s) :=
  .of_wp fun prog w A R s h => by obtain ⟨hp, g, d, tk, os⟩ := s; obtain ⟨hl, h⟩ := h; wp_walk using wpAny_loadPart' hl, wpAny_load hl; exact ⟨_, rfl, h⟩
end
section
variable {prog : Program} {w : World} {M : Model} {s : Shared} {x l C dx : Addr}
open PySem.SeqAt PySem.MeetsSeq PySem.AutoSeq1
theorem dict_or_no (es : Array DictEntry) (n : Nat) (dd : Option Addr) (sl : Array (Option Value)) : MeetsIn prog w (Builtin.«dict.__or__» ⟨[.ref l, .ref x], []⟩) (fun _ R s => s.heap.get? l = some { cls := .type "dict", dict := dd, data := .dict es n, slots := sl } ∧ s.heap.get? x = some (PySem.W.instObj C dx) ∧ PySem.W.Looks (model prog w) s.heap (isSubtype (.ref C) (.type "dict")) false ∧ R (.ok (.ret .notImplemented)) s) :=
  .of_wp fun A R s h => by
    obtain ⟨hp, g, d, tk, os⟩ := s
    obtain ⟨hl, hx, hs, h⟩ := h
    have f1 : isSubtype (.type "dict") (.type "dict") = pure true := by rw [isSubtype_type]; kernel_rfl
    wp_walk using wpAny_loadPart' hl, wpAny_load hl, wpAny_loadPart' hx, wpAny_load hx, hs.here
    exact ⟨_, rfl, h⟩
end
section
variable {prog : Program} {w : World} {A : Around} {E : Value → Shared → Prop} {s : Shared} {x C dx : Addr} {Q : Option Value → Shared → Prop}
theorem try_no {u : Value} {nm T id : String} (slot : Slot T (PySem.dunder nm) id) (ty : s.TypeIs u T) (c : ∀ Z : Value → Shared → Prop, Z .notImplemented s → wpAny (model prog w) A (call (.builtin id) [u, .ref x]) Z E s) (q : Q none s) : wpAny (model prog w) A (tryMethod u (PySem.dunder nm) (.ref x)) Q E s :=
  wpAny_tryMethod_declines (T := T) (name := PySem.dunder nm) (id := id) ty slot (c _ ⟨rfl, q⟩)
theorem try_int {i : Int} {t : Tok} {nm : String} (hn : nm = "and" ∨ nm = "or" ∨ nm = "xor") (h : s.heap.get? x = some (PySem.W.instObj C dx)) (q : Q none s) : wpAny (model prog w) A (tryMethod (.int i t) (PySem.dunder nm) (.ref x)) Q E s := by
  rcases hn with rfl | rfl | rfl
  · exact try_no (nm := "and") (T := "int") (id := "int.__and__") F.slot_int_and (typeIs_int s i t) (fun Z z => call_meets F.slot_int_and (typeIs_int s i t) F.entry_int_and (F.args_int_and_2 _ _) (int_and_no i t) ⟨h, z⟩) q
  · exact try_no (nm := "or") (T := "int") (id := "int.__or__") F.slot_int_or (typeIs_int s i t) (fun Z z => call_meets F.slot_int_or (typeIs_int s i t) F.entry_int_or (F.args_int_or_2 _ _) (int_or_no i t) ⟨h, z⟩) q
  · exact try_no (nm := "xor") (T := "int") (id := "int.__xor__") F.slot_int_xor (typeIs_int s i t) (fun Z z => call_meets F.slot_int_xor (typeIs_int s i t) F.entry_int_xor (F.args_int_xor_2 _ _) (int_xor_no i t) ⟨h, z⟩) q
theorem try_bool {b : Bool} {nm : String} (hn : nm = "and" ∨ nm = "or" ∨ nm = "xor") (h : s.heap.get? x = some (PySem.W.instObj C dx)) (q : Q none s) : wpAny (model prog w) A (tryMethod (.bool b) (PySem.dunder nm) (.ref x)) Q E s := by
  have ty : s.TypeIs (.bool b) "bool" := rfl
  rcases hn with rfl | rfl | rfl
  · exact try_no (nm := "and") (T := "bool") (id := "bool.__and__") F.slot_bool_and ty (fun Z z => call_meets F.slot_bool_and ty F.entry_bool_and (F.args_bool_and_2 _ _) (bool_and_no b) ⟨h, z⟩) q
  · exact try_no (nm := "or") (T := "bool") (id := "bool.__or__") F.slot_bool_or ty (fun Z z => call_meets F.slot_bool_or ty F.entry_bool_or (F.args_bool_or_2 _ _) (bool_or_no b) ⟨h, z⟩) q
  · exact try_no (nm := "xor") (T := "bool") (id := "bool.__xor__") F.slot_bool_xor ty (fun Z z => call_meets F.slot_bool_xor ty F.entry_bool_xor (F.args_bool_xor_2 _ _) (bool_xor_no b) ⟨h, z⟩) q
theorem try_dict {l : Addr} {es : Array DictEntry} {n : Nat} {dd : Option Addr} {sl : Array (Option Value)} (hl : s.heap.get? l = some { cls := .type "dict", dict := dd, data := .dict es n, slots := sl }) (h : s.heap.get? x = some (PySem.W.instObj C dx)) (ls : PySem.W.Looks (model prog w) s.heap (isSubtype (.ref C) (.type "dict")) false) (q : Q none s) :
    wpAny (model prog w) A (tryMethod (.ref l) (PySem.dunder "or") (.ref x)) Q E s := by
  have ty : s.TypeIs (.ref l) "dict" := ⟨_, hl, rfl⟩
  exact try_no (nm := "or") (T := "dict") (id := "dict.__or__") F.slot_dict_or ty (fun Z z => call_meetsIn F.slot_dict_or ty F.entry_dict_or (F.args_dict_or_2 _ _) (dict_or_no es n dd sl) ⟨hl, h, ls, z⟩) q
end
/-! ### the rules -/
theorem ty_in (t : Dt) : t.ty ∈ ["NoneType", "bool", "int", "str", "tuple", "list", "dict"] := by
  cases t with
  | sc s => cases s <;> simp [Dt.ty]
  | tup => simp [Dt.ty]
  | lst => simp [Dt.ty]
  | dct => simp [Dt.ty]
theorem find_ty (K : PySem.W.Frag) {T : String} (h : T ∈ ["NoneType", "bool", "int", "str", "tuple", "list", "dict"]) (n : Str) (hn : n ∈ (["__and__", "__rand__", "__or__", "__ror__", "__xor__", "__rxor__", "__lshift__", "__rlshift__", "__rshift__", "__rrshift__"] : List Str)) : ∃ r, PySem.W.findIn K (.type T) n = some r := by
  have z : ∀ T ∈ ["NoneType", "bool", "int", "str", "tuple", "list", "dict"], ∀ n ∈ (["__and__", "__rand__", "__or__", "__ror__", "__xor__", "__rxor__", "__lshift__", "__rlshift__", "__rshift__", "__rrshift__"] : List Str), (PySem.fastLookup T n).isSome = true := by decide +kernel
  exact Option.isSome_iff_exists.mp (z T h n hn)
theorem sub_ty (K : PySem.W.Frag) {T : String} (h : T ∈ ["NoneType", "bool", "int", "str", "tuple", "list", "dict"]) (C : Addr) : PySem.W.subIn K (.type T) (.ref C) = some false := by
  simp only [List.mem_cons, List.not_mem_nil, or_false] at h
  rcases h with rfl | rfl | rfl | rfl | rfl | rfl | rfl <;> rfl
section
variable {X : Cx}
def ops3 : List Operator := [.BitAnd, .BitOr, .BitXor]
def ops5 : List Operator := [.BitAnd, .BitOr, .BitXor, .LShift, .RShift]
structure OwnBD (P : Program) (w : World) (K : PySem.W.Frag) (mg : Str → Option Value) (base : Heap) (CX : CXT) (k : Nat) (C : Addr) (op : Operator) (ps : List Str) (sp : Sp) : Prop where
  ex : ∃ (g : Addr) (fd : FuncData) (rc : Option Value), op ∈ ops5 ∧ PySem.W.selfFirst K C = true ∧ PySem.W.findIn K (.ref C) (PySem.dunder op.info.2) = some (some (.ref g)) ∧ PySem.W.isFn K (.ref g) = true ∧ PySem.W.findIn K (.ref C) (dunderR op.info.2) = some rc ∧ (rc = none ∨ ∃ g : Addr, rc = some (.ref g)) ∧ FnOk P w K mg base CX k g fd ps sp ∧ Binds K fd ps []
structure OwnBR (P : Program) (w : World) (K : PySem.W.Frag) (mg : Str → Option Value) (base : Heap) (CX : CXT) (k : Nat) (C : Addr) (op : Operator) (ps : List Str) (sp : Sp) : Prop where
  ex : ∃ (g g2 : Addr) (fd : FuncData), op ∈ ops3 ∧ PySem.W.selfFirst K C = true ∧ PySem.W.findIn K (.ref C) (PySem.dunder op.info.2) = some (some (.ref g2)) ∧ PySem.W.isFn K (.ref g) = true ∧ PySem.W.findIn K (.ref C) (dunderR op.info.2) = some (some (.ref g)) ∧
    PySem.W.subIn K (.ref C) (.type "int") = some false ∧ PySem.W.subIn K (.ref C) (.type "bool") = some false ∧ PySem.W.subIn K (.ref C) (.type "dict") = some false ∧ FnOk P w K mg base CX k g fd ps sp ∧ Binds K fd ps []
theorem find5 (K : PySem.W.Frag) {T : String} (h : T ∈ ["NoneType", "bool", "int", "str", "tuple", "list", "dict"]) {op : Operator} (ho : op ∈ ops5) : (∃ r, PySem.W.findIn K (.type T) (PySem.dunder op.info.2) = some r) ∧ ∃ r, PySem.W.findIn K (.type T) (dunderR op.info.2) = some r := by
  have m : ∀ op ∈ ops5, PySem.dunder op.info.2 ∈ (["__and__", "__rand__", "__or__", "__ror__", "__xor__", "__rxor__", "__lshift__", "__rlshift__", "__rshift__", "__rrshift__"] : List Str) ∧ dunderR op.info.2 ∈ (["__and__", "__rand__", "__or__", "__ror__", "__xor__", "__rxor__", "__lshift__", "__rlshift__", "__rshift__", "__rrshift__"] : List Str) := by
    intro op ho
    simp only [ops5, List.mem_cons, List.not_mem_nil, or_false] at ho
    rcases ho with rfl | rfl | rfl | rfl | rfl <;> decide +kernel
  exact ⟨find_ty K h _ (m op ho).1, find_ty K h _ (m op ho).2⟩
def rBinD (C : Addr) (sp : Sp) (E : XK) : R2 := fun x y H Q => ∃ (a dx : Addr) (fs : List (Str × V)) (t : Dt), x = .ref a ∧ H a = some (.ins C dx fs) ∧ OdAt H y t ∧ sp [x, y] H Q E
def rBinR (C : Addr) (sp : Sp) (E : XK) : R2 := fun x y H Q => ∃ (a dx : Addr) (fs : List (Str × V)) (t : Dt), y = .ref a ∧ H a = some (.ins C dx fs) ∧ OdAt H x t ∧ sp [y, x] H Q E
theorem op_binD {CX : CXT} {E : XK} {C : Addr} {op : Operator} {ps : List Str} {sp : Sp} {n : Nat} (c : OwnBD X.prog X.w X.K X.mg X.base CX n C op ps sp) (room : Room n X.A) (pass : Passes CX X E) : OpR X (binaryOp op) (rBinD C sp E) := by
  obtain ⟨g, fd, rc, ho, c1, c2, c3, c4, c5, F, bind⟩ := c.ex
  intro pins st σ h x y v u Z inv rx ry pre
  obtain ⟨a, dx, fs, t, rfl, ha, od, z⟩ := pre
  obtain rfl : v = Value.ref a := rx
  obtain ⟨oo, J⟩ := inst_of inv ha
  obtain ⟨m, hF⟩ := inv.fr
  obtain ⟨⟨fo, e1⟩, ro, e2⟩ := find5 X.K (ty_in t) ho
  refine bin_left hF inv.ok.mod.kin J (type_looks (od_type inv od ry)) c1 c2 c3 c4 c5 e1 e2 (sub_ty X.K (ty_in t) C) ?_
  refine wpAny_mono (run_fn (us := [.ref a, u]) (vs := [.ref a, y]) F room bind .nil pass inv (.cons rfl (.cons ry .nil)) z) (fun w s2 r => ?_) fun _ _ z => z
  obtain ⟨z', h2, inv2, rz, qz⟩ := r
  exact SlX.cmpback rz ⟨z', h2, inv2, rz, qz⟩
theorem on3 {op : Operator} (ho : op ∈ ops3) : op.info.2 = "and" ∨ op.info.2 = "or" ∨ op.info.2 = "xor" := by
  simp only [ops3, List.mem_cons, List.not_mem_nil, or_false] at ho
  rcases ho with rfl | rfl | rfl
  · exact .inl rfl
  · exact .inr (.inl rfl)
  · exact .inr (.inr rfl)
/-- the three operations, by types of data that know none of them, or decline -/
theorem declines {P : Program} {w : World} {pins : List (Addr × Obj)} {σ : L2.St} {H : Hp} {st : Shared} {K : PySem.W.Frag} {v : V} {u : Value} {t : Dt} {a C dx : Addr} {oo : Option Obj} {op : Operator} {fo ro : Option Value} (ho : op ∈ ops3) (inv : Inv X pins σ H st) (XK : K.In st.heap) (od : OdAt H v t) (r : RelV v u) (J : PySem.W.InstAt st.heap a (PySem.W.instObj C dx) C oo)
    (s3 : PySem.W.subIn K (.ref C) (.type "dict") = some false)
    (e1 : PySem.W.findIn K (.type t.ty) (PySem.dunder op.info.2) = some fo) (e2 : PySem.W.findIn K (.type t.ty) (dunderR op.info.2) = some ro) (fl : ((fo.isSome && !isSeqSlot fo) || (ro.isSome && !isSeqSlot ro)) = true) :
    (t.ty = "int" ∨ t.ty = "bool" ∨ t.ty = "dict") ∧ PySem.W.Looks (model P w) st.heap (tryMethod u (PySem.dunder op.info.2) (.ref a)) none := by
  have hx : st.heap.get? a = some (PySem.W.instObj C dx) := J.at_
  have none4 : ∀ T ∈ ["NoneType", "str", "tuple", "list"], ∀ n ∈ (["__and__", "__rand__", "__or__", "__ror__", "__xor__", "__rxor__"] : List Str), (PySem.fastLookup T n).map Option.isNone = some true := by decide +kernel
  have noneD : ∀ n ∈ (["__and__", "__rand__", "__xor__", "__rxor__"] : List Str), (PySem.fastLookup "dict" n).map Option.isNone = some true := by decide +kernel
  have d1 : PySem.dunder Operator.BitAnd.info.2 = "__and__" ∧ dunderR Operator.BitAnd.info.2 = "__rand__" := by decide +kernel
  have d2 : PySem.dunder Operator.BitOr.info.2 = "__or__" ∧ dunderR Operator.BitOr.info.2 = "__ror__" := by decide +kernel
  have d3 : PySem.dunder Operator.BitXor.info.2 = "__xor__" ∧ dunderR Operator.BitXor.info.2 = "__rxor__" := by decide +kernel
  have lk : ∀ (T : String) (n : Str) (r : Option Value), PySem.W.findIn K (.type T) n = some r → PySem.fastLookup T n = some r := fun _ _ _ e => e
  replace e1 := lk _ _ _ e1
  replace e2 := lk _ _ _ e2
  have clash : ∀ (T : String) (n1 n2 : Str), (PySem.fastLookup T n1).map Option.isNone = some true → (PySem.fastLookup T n2).map Option.isNone = some true → PySem.fastLookup T n1 = some fo → PySem.fastLookup T n2 = some ro → False := by
    intro T n1 n2 y1 y2 z1 z2
    rw [z1] at y1
    rw [z2] at y2
    cases fo with
    | some _ => cases y1
    | none =>
      cases ro with
      | some _ => cases y2
      | none => cases fl
  have four : t.ty ∈ ["NoneType", "str", "tuple", "list"] → False := by
    intro ht
    simp only [ops3, List.mem_cons, List.not_mem_nil, or_false] at ho
    rcases ho with rfl | rfl | rfl
    · rw [d1.1] at e1
      rw [d1.2] at e2
      exact clash _ _ _ (none4 _ ht "__and__" (by simp)) (none4 _ ht "__rand__" (by simp)) e1 e2
    · rw [d2.1] at e1
      rw [d2.2] at e2
      exact clash _ _ _ (none4 _ ht "__or__" (by simp)) (none4 _ ht "__ror__" (by simp)) e1 e2
    · rw [d3.1] at e1
      rw [d3.2] at e2
      exact clash _ _ _ (none4 _ ht "__xor__" (by simp)) (none4 _ ht "__rxor__" (by simp)) e1 e2
  cases t with
  | sc sc0 =>
    obtain rfl : v = sc0.v := od
    cases sc0 with
    | non => exact (four (by simp [Dt.ty])).elim
    | str => exact (four (by simp [Dt.ty])).elim
    | int i =>
      obtain ⟨tk, rfl⟩ := (show ∃ t, u = Value.int i t from r)
      refine ⟨.inl rfl, fun A Q E s' k q => ?_⟩
      exact try_int (C := C) (dx := dx) (on3 ho) (k _ _ hx) q
    | bl b =>
      obtain rfl := (show u = Value.bool b from r)
      refine ⟨.inr (.inl rfl), fun A Q E s' k q => ?_⟩
      exact try_bool (C := C) (dx := dx) (on3 ho) (k _ _ hx) q
  | tup l => exact (four (by simp [Dt.ty])).elim
  | lst l => exact (four (by simp [Dt.ty])).elim
  | dct l =>
    obtain ⟨b, rfl, e⟩ := od
    obtain rfl : u = Value.ref b := r
    obtain ⟨_, ns, vs, kv, ob, es, ep, hb, hex, hd, _, prs, _⟩ := dk_of inv.hok e
    refine ⟨.inr (.inr rfl), fun A Q E s' k q => ?_⟩
    simp only [ops3, List.mem_cons, List.not_mem_nil, or_false] at ho
    rcases ho with rfl | rfl | rfl
    · rw [d1.1] at e1
      rw [d1.2] at e2
      exact (clash "dict" _ _ (noneD "__and__" (by simp)) (noneD "__rand__" (by simp)) e1 e2).elim
    · obtain ⟨cls, dd, data, sl⟩ := ob
      have hc := hex.1
      simp only at hc hd
      subst hc hd
      exact try_dict (C := C) (dx := dx) (k _ _ hb) (k _ _ hx) ((PySem.W.looks_subIn XK s3).keeps k) q
    · rw [d3.1] at e1
      rw [d3.2] at e2
      exact (clash "dict" _ _ (noneD "__xor__" (by simp)) (noneD "__rxor__" (by simp)) e1 e2).elim
theorem op_binR {CX : CXT} {E : XK} {C : Addr} {op : Operator} {ps : List Str} {sp : Sp} {n : Nat} (c : OwnBR X.prog X.w X.K X.mg X.base CX n C op ps sp) (room : Room n X.A) (pass : Passes CX X E) : OpR X (binaryOp op) (rBinR C sp E) := by
  obtain ⟨g, g2, fd, ho, c1, c2, c3, c4, s1, s2, s3, F, bind⟩ := c.ex
  intro pins st σ h x y v u Z inv rx ry pre
  obtain ⟨a, dx, fs, t, rfl, ha, od, z⟩ := pre
  obtain rfl : u = Value.ref a := ry
  obtain ⟨oo, J⟩ := inst_of inv ha
  obtain ⟨m, hF⟩ := inv.fr
  have ho5 : op ∈ ops5 := by
    simp only [ops3, ops5, List.mem_cons, List.not_mem_nil, or_false] at ho ⊢
    rcases ho with h | h | h <;> simp [h]
  obtain ⟨⟨fo, e1⟩, ro, e2⟩ := find5 X.K (ty_in t) ho5
  have dc := declines (P := X.prog) (w := X.w) ho inv inv.kIn od rx J s3 e1 e2
  refine bin_right hF inv.ok.mod.kin J (type_looks (od_type inv od rx)) c1 c2 c3 c4 e1 e2 rfl (fun y => ?_) (fun y => (dc y).2) ?_
  · rcases (dc y).1 with e | e | e <;> rw [e] <;> assumption
  refine wpAny_mono (run_fn (us := [.ref a, v]) (vs := [.ref a, x]) F room bind .nil pass inv (.cons rfl (.cons rx .nil)) z) (fun w s2 r => ?_) fun _ _ z => z
  obtain ⟨z', h2, inv2, rz, qz⟩ := r
  exact SlX.cmpback rz ⟨z', h2, inv2, rz, qz⟩
end
end KR

/-! KP: repr of a list of scalars and of own objects that have a __repr__ of their own. -/
namespace KP
open PySem PySem.Spec PyProof.Rows L2 KB KG KO KY
section
variable {prog : Program} {w : World} {A : Around} {E : Value → Shared → Prop} {s : Shared} {K : PySem.W.Frag} {x C L f : Addr} {hb : Heap} {m : Str → Option Value} {ox : Obj} {od : Option Obj}
open PySem.W in
theorem boundBy_K {M : Model} {last : Value → List Value → Sem Value} {name : Str} {Z : Option Value → Shared → Prop} (XK : K.In s.heap) (J : InstAt s.heap x ox C od) (c1 : findIn K (.ref C) name = some (some (.ref f))) (c2 : isFn K (.ref f) = true)
    (go : wpAny M A (last (.ref f) [.ref x]) (fun v => Z (some v)) E s) : wpAny M A (callSpecialIfBoundBy? last (.ref x) name) Z E s := by
  simp only [callSpecialIfBoundBy?, bindSpecialIfBound?]
  refine wpAny_holding (wpAny_bind (wpAny_bind (wpAny_bind (J.type.here ((looks_findIn XK c1).here ?_)))))
  refine wpAny_bind (wpAny_askSetting (wpAny_ite ?_))
  have last1 : wpAny M A (last (.ref f) [.ref x] >>= fun v => pure (some v)) Z E s := wpAny_bind (wpAny_mono go (fun _ _ y => wpAny_pure y) fun _ _ y => y)
  split
  · exact wpAny_bind ((bind_fn XK _ (beq_iff_eq.mp c2)).here (wpAny_pure (by exact last1)))
  · exact wpAny_tryCatch (wpAny_bind ((bind_fn XK _ (beq_iff_eq.mp c2)).here (wpAny_pure (by exact last1))))
open PySem.W in
theorem reprUnder_K {b : Nat} {Z : Str → Shared → Prop} (hz : b ≤ sizeLine) (hu : A.units < cLine) (XK : K.In s.heap) (J : InstAt s.heap x ox C od) (c1 : findIn K (.ref C) "__repr__" = some (some (.ref f))) (c2 : isFn K (.ref f) = true)
    (go : wpAny (model prog w) A (call (.ref f) [.ref x]) (fun v s' => ∃ t u, v = .str t u ∧ Z t s') E s) : wpAny (model prog w) A (pyReprUnder b (.ref x)) Z E s := by
  refine wpAny_pyReprUnder_ref hz ?_
  unfold pyReprObjUnder pyReprObjBy
  refine wpAny_bind (wpAny_cRoomFor hu ?_)
  refine wpAny_bind (wpAny_bind (J.type.here ((looks_findIn XK c1).here ?_)))
  show wpAny _ _ (if (some (Value.ref f)).isNone = true then _ else _) _ _ _
  rw [if_neg (by simp)]
  refine wpAny_bind (m := callSpecialIfBoundBy? _ (.ref x) (Str.ofString "__repr__")) (boundBy_K XK J c1 c2 ?_)
  refine wpAny_mono go (fun v s' y => ?_) fun _ _ y => y
  obtain ⟨t, u, rfl, q⟩ := y
  exact wpAny_bind (wpAny_isInstance (T := "str") (b := true) rfl isSubtype_str_str (wpAny_pure ⟨_, _, rfl, q⟩))
end
/-- an item and its text -/
def ItOk (P : Program) (w : World) (C : Addr) (sp : Sp) (H : Hp) (v : V) (t : Str) : Prop :=
  (∀ u, RelV v u → ReprIs P w u t) ∨ ∃ (a dx : Addr) (fs : List (Str × V)), v = .ref a ∧ H a = some (.ins C dx fs) ∧ ∀ H', Same H H' → ∀ Q : VK, Q (.str t) H' → sp [.ref a] H' Q E0
section
variable {X : Cx}
theorem frames_loop (A : Around) (args : Args) : (A.under (.builtin "list.__repr__.loop" args)).frames = A.frames ∧ (A.under (.builtin "list.__repr__.loop" args)).handled = A.handled ∧ (A.under (.builtin "list.__repr__.loop" args)).depth ≤ A.depth + 1 := by
  refine ⟨?_, ?_, ?_⟩ <;> first | rfl | simp [Around.under, Code.weight, Code.isCreation, Code.isGuard, Code.isCaller, Code.frames, Code.isFrame, guardIds]
theorem strs_done : ∀ (ts : List Str) (us : List Value), Vals (ts.map V.str) us → ∃ dn : List (Str × Tok), us = strValues dn ∧ dn.map (·.1) = ts
  | [], us, r => by cases r; exact ⟨[], rfl, rfl⟩
  | t :: ts, us, r => by
    cases r with
    | cons r1 r2 =>
      obtain ⟨tk, rfl⟩ := r1
      obtain ⟨dn, rfl, e⟩ := strs_done ts _ r2
      exact ⟨(t, tk) :: dn, rfl, by rw [List.map_cons, e]⟩
theorem vals_at : ∀ {xs : List V} {us : List Value}, Vals xs us → ∀ (i : Nat) (v : V), xs[i]? = some v → ∃ u, us[i]? = some u ∧ RelV v u
  | _, _, .nil, i, v, e => by simp at e
  | _, _, .cons r1 r2, 0, v, e => ⟨_, rfl, by cases e; exact r1⟩
  | _, _, .cons r1 r2, i + 1, v, e => vals_at r2 i v e
theorem loop {C : Addr} {sp : Sp} {ps : List Str} {n : Nat} (c : OwnM X.prog X.w X.K X.mg X.base n C "__repr__" ps sp) {A : Around} (hfr : A.frames = X.A.frames) (hh : A.handled = none) (hd : A.depth + 1 + 3 * n + 5 < recursionLimit) (hu : A.units + 1 + 16 * n + 200 < cLine)
    {p P : Addr} {vs : List V} {ts : List Str} {H0 : Hp} (len : ts.length = vs.length) (sz : (listText ts).length ≤ sizeLine) (its : ∀ (i : Nat) (v : V) (t : Str), vs[i]? = some v → ts[i]? = some t → ItOk X.prog X.w C sp H0 v t) (nP : H0 P = none) (hp : H0 p = some (.lst vs)) {pins : List (Addr × Obj)} {σ : L2.St} {R : Result → Shared → Prop}
    (last : ∀ H' s' u, Same H0 H' → Inv X pins σ H' s' → R (.ok (.ret (.str (listText ts) u))) s') :
    ∀ (k i : Nat) (s : Shared) (H : Hp), vs.length - i = k → i ≤ vs.length → Same H0 H → Inv X pins σ H s → H P = some (.lst ((ts.take i).map V.str)) →
      codeAny (model X.prog X.w) A (.builtin "list.__repr__.loop" ⟨[.ref p, rawInt i, .ref P, rawInt ((piled (ts.take i) : Nat) : Int)], []⟩) R s := by
  obtain ⟨g, fd, hs, hf, F, bind⟩ := c.ex
  have tl := textFrom_len ts 0 "["
  have sl : (listText ts).length = (textFrom 0 "[" ts).length + 1 := by
    show (textFrom 0 "[" ts ++ "]").length = _
    rw [strLen_append]; rfl
  have s2 : ∀ t ∈ ts, t.length ≤ sizeLine := fun t ht => by
    have := tl.2.1 t ht
    omega
  have pl := piled_le_listText ts
  intro k
  induction k with
  | zero =>
    intro i s H hk hi sm inv eP
    have hin : i = vs.length := by omega
    obtain ⟨us, rv, ⟨ob, nb, ho, hc, _, hdt⟩, _⟩ := inv.list (SqL.of (sm _ _ hp))
    obtain ⟨z2, us2, n2, r2, l2, e2⟩ := inv.lstM eP
    have lu := rv.length
    refine codeAny_builtin PySem.F.entry_list_repr_loop ?_
    show wpAny _ _ (Builtin.«list.__repr__.loop» ⟨[.ref p, .int i 0, .ref P, .int ((piled (ts.take i) : Nat) : Int) 0], []⟩) _ _ s
    rw [repr_loop_tree]
    refine wpAny_bind (wpAny_listItems ho hdt ?_)
    have hno : us.toArray[(i : Int).toNat]? = none := by simp [hin, lu]
    simp only [hno]
    unfold reprEnd
    refine wpAny_bind (wpAny_listItems e2 rfl ?_)
    rw [hin, ← len, List.take_length] at r2
    obtain ⟨dn, rfl, ed⟩ := strs_done ts us2 r2
    rw [repr_fold, ed]
    refine wpAny_bind (wpAny_pure ?_)
    refine wpAny_bind (wpAny_mkStr (wpAny_pure ?_) sz)
    exact last H _ _ sm (inv.tok _)
  | succ k ih =>
    intro i s H hk hi sm inv eP
    have hlt : i < vs.length := by omega
    obtain ⟨us, rv, ⟨ob, nb, ho, hc, _, hdt⟩, _⟩ := inv.list (SqL.of (sm _ _ hp))
    have lu := rv.length
    have ev : vs[i]? = some vs[i] := List.getElem?_eq_getElem hlt
    have et : ts[i]? = some (ts[i]'(by omega)) := List.getElem?_eq_getElem (by omega)
    obtain ⟨u, eu, ru⟩ := vals_at rv i _ ev
    have it := its i _ _ ev et
    generalize ts[i]'(by omega) = t at et it
    generalize vs[i] = v at ev ru it
    have p1 := piled_take_succ et
    have p2 := piled_take_le ts (i + 1)
    refine codeAny_builtin PySem.F.entry_list_repr_loop ?_
    show wpAny _ _ (Builtin.«list.__repr__.loop» ⟨[.ref p, .int i 0, .ref P, .int ((piled (ts.take i) : Nat) : Int) 0], []⟩) _ _ s
    rw [repr_loop_tree]
    refine wpAny_bind (wpAny_listItems ho hdt ?_)
    have hso : us.toArray[(i : Int).toNat]? = some u := by simpa using eu
    simp only [hso]
    rw [Int.toNat_natCast]
    have rest : ∀ s', Inv X pins σ H s' → wpAny (model X.prog X.w) (A.under (.builtin "list.__repr__.loop" ⟨[.ref p, rawInt i, .ref P, rawInt ((piled (ts.take i) : Nat) : Int)], []⟩)) (do
        let r ← mkStr t
        Builtin.List.listUpdate (.ref P) (·.push r)
        again (.builtin "list.__repr__.loop" ⟨[.ref p, rawInt (i + 1), .ref P, rawInt ((piled (ts.take i) + (t.length + 2) : Nat) : Int)], []⟩))
        (fun fin s' => match fin with | .done f => R (.ok f) s' | .again c' => c'.quiet = true ∧ codeAny (model X.prog X.w) A c' R s') (fun e s' => R (.error e) s') s' := by
      intro s' inv'
      obtain ⟨z2, us2, n2, r2, l2, e2⟩ := inv'.lstM eP
      have l3 := r2.length
      have l4 : ((ts.take i).map V.str).length ≤ i := by simp; omega
      have l5 : i < sizeLine := by
        have := tl.1
        rw [if_neg (Nat.lt_irrefl 0)] at this
        omega
      refine wpAny_bind (wpAny_mkStr ?_ (s2 t (List.mem_of_getElem? et)))
      refine wpAny_bind ?_
      show wpAny _ _ (updateSeq P _) _ _ _
      refine wpAny_updateSeq e2 rfl (wpAny_pure ⟨PySem.F.quiet_list_repr_loop _, ?_⟩) (by rw [List.size_toArray]; omega)
      have a1 : ((i : Int) + 1) = ((i + 1 : Nat) : Int) := by omega
      have a2 : piled (ts.take i) + (t.length + 2) = piled (ts.take (i + 1)) := by omega
      rw [a1, a2]
      refine ih (i + 1) _ (upd H P (.lst ((ts.take (i + 1)).map V.str))) (by omega) hlt (same_mut sm nP) ?_ upd_same
      refine inv'.lset (its' := us2 ++ [.str t s'.toks]) eP e2 (by simp) ?_ (by simp; omega)
      rw [List.take_add_one, et, List.map_append]
      exact r2.append (.cons ⟨_, rfl⟩ .nil)
    rcases it with it | ⟨a, dx, fs, rfl, ha, it⟩
    · refine wpAny_bind (wpAny_holding (it u ru (piled (ts.take i) + 1) (by omega) _ _ _ _ fun tk => ?_))
      exact rest _ (inv.tok _)
    · obtain rfl : u = Value.ref a := ru
      obtain ⟨oo, J⟩ := inst_of inv (sm _ _ ha)
      have fl := frames_loop A ⟨[.ref p, rawInt i, .ref P, rawInt ((piled (ts.take i) : Nat) : Int)], []⟩
      have ul := units_under_list_loop A ⟨[.ref p, rawInt i, .ref P, rawInt ((piled (ts.take i) : Nat) : Int)], []⟩
      refine wpAny_bind (wpAny_holding (reprUnder_K (by omega) (by rw [ul]; omega) inv.kIn J hs hf ?_))
      have e0 := inv.env0
      refine wpAny_mono (run0 (E' := fun e s' => R (.error e) s') (xs := [.ref a]) F ⟨by rw [fl.2.1]; exact hh, by have := fl.2.2; omega, by rw [ul]; omega⟩ ⟨by rw [fl.1, hfr]; exact e0.frames, e0.mod, e0.bs, e0.bsz, e0.funs, e0.frf, e0.hok, e0.bare⟩ bind inv (.cons rfl .nil) (it H sm (fun v' H' => v' = .str t ∧ H' = H) ⟨rfl, rfl⟩)) (fun v' st y => ?_) fun _ _ y => y
      obtain ⟨w', H', inv2, rw', e1, e2⟩ := y
      subst e1 e2
      obtain ⟨tk, rfl⟩ := (show ∃ tk, v' = Value.str t tk from rw')
      exact ⟨t, tk, rfl, rest _ inv2⟩
def rReprL (P : Program) (w : World) (C : Addr) (sp : Sp) : List V → Hp → VK → Prop := fun xs H Q => ∃ (p : Addr) (vs : List V) (ts : List Str), xs = [.ref p] ∧ H p = some (.lst vs) ∧ vs ≠ [] ∧ ts.length = vs.length ∧ (listText ts).length ≤ sizeLine ∧
  (∀ (i : Nat) (v : V) (t : Str), vs[i]? = some v → ts[i]? = some t → ItOk P w C sp H v t) ∧ ∀ H', Same H H' → Q (.str (listText ts)) H'
theorem call_reprL {C : Addr} {sp : Sp} {ps : List Str} {n : Nat} (c : OwnM X.prog X.w X.K X.mg X.base n C "__repr__" ps sp) (fr : Free X.A) (room : Room (n + 1) X.A) : CallR X (.builtin "repr") (rReprL X.prog X.w C sp) := by
  intro pins st σ h xs us Z inv rel pre
  obtain ⟨p, vs, ts, rfl, hp, ne, len, sz, its, z⟩ := pre
  obtain ⟨u, rfl, rv⟩ := vals_one rel
  obtain rfl : u = Value.ref p := rv
  obtain ⟨us, rl, ⟨ob, nb, ho, hc, hsl, hd⟩, _⟩ := inv.list (SqL.of hp)
  have ty : st.TypeIs (.ref p) "list" := ⟨_, ho, hc⟩
  have un := room.un
  have dp := room.dp
  refine KG.repr_slot (by omega) ty PySem.F.slot_list_repr.toG ?_
  refine wpAny_callSpecialIfBound?_slot (name := Str.ofString "__repr__") ty PySem.F.slot_list_repr ?_
  cases us with
  | nil =>
    cases rl
    exact absurd rfl ne
  | cons u1 us =>
    refine wpAny_call (codeAny_call_builtin PySem.F.slot_list_repr.plain PySem.F.entry_list_repr (PySem.F.slot_list_repr.check _ _ _ _ _ _ _ _ ty (PySem.F.args_list_repr_1 _) ?_))
    refine wpAny_list_repr_head (A := X.A.in1.in1) (g := []) fr (fun v rest kw m => absurd m List.not_mem_nil) ho hd ?_
    refine wpAny_bind (m := newList []) (wpAny_newObj_type ?_)
    refine wpAny_pure ⟨PySem.F.quiet_list_repr_loop _, ?_⟩
    have fresh : h st.heap.objs.size = none := inv.hok.fresh (Nat.le_refl _)
    refine loop c (A := X.A.in1) (pins := pins) (σ := σ) rfl room.hd (show X.A.depth + 1 + 3 * n + 5 < _ by omega) (show X.A.units + 1 + 1 + 16 * n + 200 < _ by omega) (P := st.heap.objs.size) len sz its fresh hp (fun H' s' u sm inv' => ?_) _ 0 _ (upd h st.heap.objs.size (.lst [])) rfl (Nat.zero_le _) (same_new fresh) ?_ upd_same
    · exact ⟨_, _, rfl, .str (listText ts), H', inv', ⟨u, rfl⟩, z H' sm⟩
    · exact inv.lnew (its := []) .nil (Nat.zero_le _)
/-- one of two ways -/
theorem call_or {f : Value} {r1 r2 : List V → Hp → VK → Prop} (c1 : CallR X f r1) (c2 : CallR X f r2) : CallR X f (fun xs H Q => r1 xs H Q ∨ r2 xs H Q) := by
  intro pins st σ h xs us Z inv rel pre
  rcases pre with pre | pre
  · exact c1 pins st σ h xs us Z inv rel pre
  · exact c2 pins st σ h xs us Z inv rel pre
end
end KP
/-! ### classmethods; cls(..) -/
namespace KP
open PySem PySem.Spec PyProof.Rows L2 KB KG KO KY
section
variable {X : Cx}
structure CalleeC (P : Program) (w : World) (K : PySem.W.Frag) (mg : Str → Option Value) (base : Heap) (CX : CXT) (k : Nat) (C : Addr) (m : Str) (sp : Sp) : Prop where
  ex : ∃ (mc : Value) (p g : Addr), ClX.CRead K C mc ∧ ClX.CMet K C mc m p g ∧ FnR P w K mg base CX k g sp
theorem pe_cmethC {pl : Sem Bool} {CX : CXT} {k : Nat} {C : Addr} {m : Str} {sp : Sp} {E : XK} {o e : Expr} {es : List Expr} {apos pos : Pos} {ta : TE} {t : TA} (c : CalleeC X.prog X.w X.K X.mg X.base CX k C m sp) (ho : PE X o ta) (room : Room k X.A) (pass : Passes CX X E) (ha : PA X (e :: es) t)
    (d1 : starEach (e :: es) X.env = (false, eval e X.env) :: starEach es X.env := by rfl) (d2 : (backTo pos (starEach es X.env)).any (·.1) = false := by rfl)
    (d3 : eval (.Call (.Attribute o m apos) (e :: es) [] pos) X.env = (do
      let ov ← eval o X.env
      standAt apos.atName
      let (f, first) ← holding [ov] (getMethod ov m pl)
      callWith pos f first (backTo pos (starEach (e :: es) X.env)) (backToKw pos (keywordEach [] X.env))) := by rfl) :
    PE X (.Call (.Attribute o m apos) (e :: es) [] pos) (ClX.tCMeth C sp E ta t) := by
  obtain ⟨mc, p, g, r, cm, F⟩ := c.ex
  exact ClX.pe_cmeth ho r cm F room pass ha d1 d2 d3
def tMakeL (C : Addr) (sp : Sp) (E : XK) (tf : TE) (t : TA) : TE := fun σ H Q => tf σ H fun v H1 => v = .ref C ∧ tMake C sp [] E t σ H1 Q
theorem pe_makeL {CX : CXT} {k : Nat} {C : Addr} {x y : Str} {ps : List Str} {sp : Sp} {E : XK} {e : Expr} {es : List Expr} {p pos : Pos} {tf : TE} {t : TA} (c : CalleeI X.prog X.w X.K X.mg X.base CX k C y ps sp) (room : Room (k + 1) X.A) (pass : Passes CX X E) (hn : PE X (.Name x p) tf) (ha : PA X (e :: es) t)
    (d1 : starEach (e :: es) X.env = (false, eval e X.env) :: starEach es X.env := by rfl) (d2 : (backTo pos (starEach es X.env)).any (·.1) = false := by rfl) :
    PE X (.Call (.Name x p) (e :: es) [] pos) (tMakeL C sp E tf t) := by
  obtain ⟨f, fd, F, M, hm, hb⟩ := c.ex
  refine ⟨fun pins s σ H Q I h => wpAny_Call_Name_kw (thn (hn.run pins s σ H _ I h) fun u s1 r => ?_)⟩
  obtain ⟨v, H1, I1, rv, rfl, z⟩ := r
  obtain rfl : u = Value.ref C := rv
  refine PySem.W.callWith_K (h₀ := X.base) I1.ok.mod.kin M.kp (thn (ha.run pos pins s1 σ H1 _ I1 z) fun us s2 y => ?_) d1 d2
  obtain ⟨vs, H2, I2, r2, q2⟩ := y
  exact ⟨I2.kIn, run_make M F room hb .nil pass I2 r2 q2⟩
end
theorem r_cmeth {σ : L2.St} {H : Hp} {Q : VK} {C : Addr} {sp : Sp} {E : XK} {ta : TE} {t : TA} (q : ta σ H fun x H1 => x = .ref C ∧ t σ H1 fun vs H2 => sp (.ref C :: vs) H2 Q E) : ClX.tCMeth C sp E ta t σ H Q := q
theorem r_makeL {σ : L2.St} {H : Hp} {Q : VK} {C : Addr} {sp : Sp} {E : XK} {tf : TE} {t : TA} (q : tf σ H fun v H1 => v = .ref C ∧ tMake C sp [] E t σ H1 Q) : tMakeL C sp E tf t σ H Q := q
end KP

/-! KS: lists of texts compared; small helpers. -/
namespace KS
open PySem PySem.Spec PyProof.Rows L2 KB KG KO KY
theorem dp_strs {K : PySem.W.Frag} {H : Hp} : ∀ zs : List Str, DpAll K H (zs.map V.str) (zs.map PyData.str)
  | [] => .nil
  | z :: r => .cons (.str z) (dp_strs r)
theorem lay_strs : ∀ zs : List Str, (∀ z ∈ zs, PyData.strOk z = true) → PyData.canLayAll0 (zs.map PyData.str) = true
  | [], _ => rfl
  | n :: r, h => by
    show (PyData.canLay0 (.str n) && PyData.canLayAll0 (r.map PyData.str)) = true
    rw [lay_strs r fun z m => h z (List.mem_cons_of_mem _ m)]
    simp [PyData.canLay0, h n (List.mem_cons_self ..)]
theorem depth_strs : ∀ zs : List Str, PyData.depthAll (zs.map PyData.str) = 0
  | [] => rfl
  | n :: r => by
    show max (PyData.depth (.str n)) (PyData.depthAll (r.map PyData.str)) = 0
    rw [depth_strs r]; rfl
theorem shaped_strs {zs : List Str} (h : ∀ z ∈ zs, PyData.strOk z = true) : SeqAt.shaped (.list (zs.map PyData.str)) = true := by
  show (PyData.canLayAll0 (zs.map PyData.str) && decide (PyData.depthAll (zs.map PyData.str) + 1 ≤ 64)) = true
  rw [lay_strs zs h, depth_strs]; rfl
theorem eqv_strs : ∀ ns ms : List Str, PyData.eqvAll (ns.map PyData.str) (ms.map PyData.str) = decide (ns = ms)
  | [], [] => rfl
  | [], _ :: _ => rfl
  | _ :: _, [] => rfl
  | n :: r, m :: q => by
    show (PyData.eqv (.str n) (.str m) && PyData.eqvAll (r.map PyData.str) (q.map PyData.str)) = decide (n :: r = m :: q)
    rw [eqv_strs r q]
    have e : PyData.eqv (.str n) (.str m) = decide (n = m) := by
      simp only [PyData.eqv]
      by_cases h : n = m <;> simp [h]
    rw [e]
    by_cases h1 : n = m <;> by_cases h2 : r = q <;> simp [h1, h2]
theorem r_eqStrs {K : PySem.W.Frag} {H : Hp} {Q : VK} {a b : Addr} {ns ms : List Str} (h : SqL K H a (ns.map V.str)) (h' : SqL K H b (ms.map V.str)) (o1 : ∀ z ∈ ns, PyData.strOk z = true) (o2 : ∀ z ∈ ms, PyData.strOk z = true) (q : Q (.bl (decide (ns = ms))) H) : rEqD K (.ref a) (.ref b) H Q :=
  ⟨_, _, .lst h (dp_strs ns), .lst h' (dp_strs ms), shaped_strs o1, shaped_strs o2, (show Q (.bl (PyData.eqvAll (ns.map PyData.str) (ms.map PyData.str))) H by rw [eqv_strs]; exact q)⟩
theorem r_neStrs {K : PySem.W.Frag} {H : Hp} {Q : VK} {a b : Addr} {ns ms : List Str} (h : SqL K H a (ns.map V.str)) (h' : SqL K H b (ms.map V.str)) (o1 : ∀ z ∈ ns, PyData.strOk z = true) (o2 : ∀ z ∈ ms, PyData.strOk z = true) (q : Q (.bl (!decide (ns = ms))) H) : rNeD K (.ref a) (.ref b) H Q :=
  ⟨_, _, .lst h (dp_strs ns), .lst h' (dp_strs ms), shaped_strs o1, shaped_strs o2, (show Q (.bl (!PyData.eqvAll (ns.map PyData.str) (ms.map PyData.str))) H by rw [eqv_strs]; exact q)⟩
theorem r_sls {H : Hp} {Q : VK} {z : Str} {lo hi : Option Int} (h : z.length ≤ sizeLine) (q : Q (.str (cutS z lo hi)) H) : rSlS (.str z) lo hi H Q := ⟨z, rfl, h, q⟩
theorem rep_map {n : Nat} (z : Str) : (List.replicate ((n : Nat) : Int).toNat [V.str z]).flatten = (List.replicate n z).map V.str := by
  rw [Int.toNat_natCast]
  induction n with
  | zero => rfl
  | succ n ih => rw [List.replicate_succ, List.flatten_cons, ih, List.replicate_succ]; rfl
theorem all_rep {zs : List Str} {z : Str} (h : ∀ y ∈ zs, y = z) : zs = List.replicate zs.length z := List.eq_replicate_of_mem h
/-! ### repr of a value of a kind -/
section
variable {X : Cx}
def rReprOd : List V → Hp → VK → Prop := fun xs H Q => ∃ (v : V) (t : Dt), xs = [v] ∧ OdAt H v t ∧ t.d.showable = true ∧ t.d.depth ≤ 60 ∧ t.d.shown.length ≤ sizeLine ∧ Q (.str t.d.shown) H
theorem call_reprOd {k : Nat} (fr : Free X.A) (room : Room k X.A) : CallR X (.builtin "repr") rReprOd := by
  intro pins st σ h xs us Z inv rel pre
  obtain ⟨v, t, rfl, od, ok, deep, sz, z⟩ := pre
  obtain ⟨u, rfl, rv⟩ := vals_one rel
  obtain ⟨as, rd, ns⟩ := od_reads inv od rv
  by_cases nod : t.d.hasDict = false
  · exact KG.repr_data rd ok nod sz fr (by have := room.un; omega) fun h' t1 tk kp => ⟨.str t.d.shown, h, inv.kept kp, ⟨t1, rfl⟩, z⟩
  · cases t with
    | dct l =>
      obtain ⟨a, rfl, e⟩ := id od
      obtain rfl : u = Value.ref a := rv
      exact repr_of_reads' rd ok ns fr (by have := room.un; omega) (fun _ _ e => e) (fun h' t1 tk kp => ⟨.str _, h, inv.kept kp, ⟨t1, rfl⟩, z⟩) sz
    | sc s => exact absurd (noD_sc s) nod
    | tup l => exact absurd (show PyData.hasDictAll _ = false from noD_scs l) nod
    | lst l => exact absurd (show PyData.hasDictAll _ = false from noD_scs l) nod
end
end KS

/-! KT: sets of ints made of lists; enumerate over texts and tuples; keywords at own objects and classmethods. -/
namespace KT
open PySem PySem.Spec PyProof.Rows L2 KB KG KO KY
/-! ### set(l) of a list of ints -/
def freshSet (w : World) : Obj := { cls := .type "set", dict := none, data := .set #[] 0 (.fresh 0 0 (!w.params.followText "set-order")) }
section
variable {P : Program} {w : World} {A : Around} {E : Value → Shared → Prop} {s : Shared}
theorem set_ofL {l : Addr} {items : Array Value} (ns : List Int) {Z : Value → Shared → Prop} (calm : A.handled = none) (isL : s.heap.IsList l items) (allI : IntsAre items.toList ns) (few : ns.length + 1 < scanBound)
    (fin : ∀ (h' : Heap) (tk c : Nat), SetR w h' s.heap.objs.size (fun j => decide (j ∈ ns)) c → c ≤ ns.length → (∀ b o, s.heap.get? b = some o → h'.get? b = some o) → Z (.ref s.heap.objs.size) { s with heap := h', toks := tk }) :
    wpAny (model P w) A (call (.type "set") [.ref l]) Z E s := by
  have size : items.size = ns.length := (Array.length_toList ▸ allI.length : items.size = ns.length)
  obtain ⟨c0, tl0, mro0⟩ := F.called_set.mro
  have made0 := F.called_set.made
  have sub0 := F.called_set.sub
  refine wpAny_call (codeAny_of_tree ?_)
  show wpAny _ _ (callAny (.type "set") _) _ _ _
  refine wpAny_pure ⟨Code.quiet_builtin _ (by decide +kernel), codeAny_builtin F.entry_type_call ?_⟩
  rw [Around.under_plain (weight_type_call_type "set" [.ref l] []) rfl]
  have nt0 := F.called_set.notType
  have cc0 := F.called_set.canCreate
  have tc0 := F.typeCall_set_1 (.ref l)
  repeat (any_goals (first | assumption | wp_step))
  refine codeAny_mono (code_set_led1 (.ref l) (E := E) (Q₁ := fun ob s1 => ob = .ref s.heap.objs.size ∧ s1 = { s with heap := s.heap.push (freshSet w) }) ⟨rfl, rfl⟩) fun res s1 hres => ?_
  match res, hres with
  | .error e, hres => exact hres
  | .ok .next, hres => exact hres.elim
  | .ok .brk, hres => exact hres.elim
  | .ok .cont, hres => exact hres.elim
  | .ok (.ret ob), hres =>
    obtain ⟨rfl, rfl⟩ := hres
    have atS : (s.heap.push (freshSet w)).get? s.heap.objs.size = some (freshSet w) := Heap.get?_push_size _ rfl
    have tyS : Shared.TypeIs { s with heap := s.heap.push (freshSet w) } (.ref s.heap.objs.size) "set" := ⟨_, atS, rfl⟩
    have li0 := F.called_set.init.lookup
    have bi0 := F.called_set.init.bind (.ref s.heap.objs.size)
    repeat (any_goals (first | assumption | wp_step))
    refine codeAny_mono (codeAny_call_builtin (R := wants (fun u s2 => u = .none ∧ ∃ h' tk c, s2 = { s with heap := h', toks := tk } ∧ SetR w h' s.heap.objs.size (fun j => decide (j ∈ ns)) c ∧ c ≤ ns.length ∧ ∀ b o, s.heap.get? b = some o → h'.get? b = some o) E) F.called_set.init.plain F.entry_set_init (check_set_init_1 tyS ?_)) fun res2 s2 hres2 => ?_
    · obtain ⟨⟨lc, ld, lda, lsl⟩, lat, lcl, ln, ldd⟩ := isL
      simp only at lcl ldd
      subst lcl ldd
      have lat2 : (s.heap.push (freshSet w)).get? l = some { cls := .type "list", dict := ld, data := .seq items ln, slots := lsl } := Heap.get?_push_of_some _ lat
      have sls := F.sub_list_set
      have slf := F.sub_list_frozenset
      have lnd : (Value.type "list" == Value.type "dict") = false := by decide
      have isL2 : (s.heap.push (freshSet w)).IsList l items := ⟨_, lat2, rfl, ln, rfl⟩
      unfold Builtin.«set.__init__» noKeywords Builtin.Frozenset.updateFrom
      generalize hPI : pyIter = PI
      wp_walk
      subst hPI
      refine wpAny_pyIter_list isL2 ?_
      refine wpAny_bind (wpAny_runValue ?_)
      have lt0 : l < s.heap.objs.size := Heap.lt_size lat
      have calm3 : A.in1.in1.in1.handled = none := by simp [calm]
      have sz1 : (s.heap.push (freshSet w)).objs.size = s.heap.objs.size + 1 := Heap.size_push ..
      have ne1 : l ≠ (s.heap.push (freshSet w)).objs.size := by rw [sz1]; exact Nat.ne_of_lt (Nat.lt_succ_of_lt lt0)
      have off1 : s.heap.objs.size ∉ [(s.heap.push (freshSet w)).objs.size, l] := by
        rw [sz1]
        simp only [List.mem_cons, List.not_mem_nil, or_false, not_or]
        exact ⟨Nat.ne_of_lt (Nat.lt_succ_self _), Nat.ne_of_gt lt0⟩
      have vals1 : ∀ (i : Nat) (v : Value), items[i]? = some v → ∃ k t, ns[i]? = some k ∧ v = .int k t := fun i v hv => by
        have hi : i < ns.length := size ▸ (Array.getElem?_eq_some_iff.mp hv).1
        obtain ⟨t, e⟩ := PyProof.Rows.IntsAre.int_at allI i v ((Array.getElem?_toList ..).trans hv)
        refine ⟨ns[i], t, List.getElem?_eq_getElem hi, e.trans ?_⟩
        rw [List.getD_eq_getElem?_getD, List.getElem?_eq_getElem hi]
        rfl
      refine set_update_ints ((Walks.list calm3 _ l ne1 items).toS) s.heap.objs.size off1 ns size few vals1 (items.size - 0) 0 _ (by omega) (Nat.zero_le _) ⟨⟨_, Heap.get?_push_size _ rfl, rfl, rfl⟩, isL2.at fun o e => Heap.get?_push_of_some _ e⟩ ?S0 ?SR
      case S0 => exact ⟨0, Nat.le_refl 0, setR_new_at (Heap.get?_push_of_some _ atS)⟩
      case SR =>
        intro s3 c3 mv le3 R3
        obtain ⟨h3, g3, d3, tk3, os3⟩ := s3
        obtain rfl : g3 = s.gens := mv.gens
        obtain rfl : d3 = s.drawn := mv.drawn
        obtain rfl : os3 = s.os := mv.os
        show wpAny _ _ _ _ _ _
        refine wpAny_pure ?_
        show wpAny _ _ (ret Value.none) _ _ _
        refine wpAny_pure ⟨rfl, h3, tk3, c3, rfl, R3, size ▸ le3, fun b o e => ?_⟩
        have lb : b < s.heap.objs.size := Heap.lt_size e
        refine mv.heap b o ?_ (Heap.get?_push_of_some _ (Heap.get?_push_of_some _ e))
        simp only [List.mem_cons, List.not_mem_nil, or_false, not_or]
        exact ⟨Nat.ne_of_lt lb, fun z => absurd (z.trans sz1) (Nat.ne_of_lt (Nat.lt_succ_of_lt lb))⟩
    · match res2, hres2 with
      | .error e, hres2 => exact hres2
      | .ok .next, hres2 => exact hres2.elim
      | .ok .brk, hres2 => exact hres2.elim
      | .ok .cont, hres2 => exact hres2.elim
      | .ok (.ret u), hres2 =>
        obtain ⟨rfl, h3, tk3, c3, rfl, R3, le3, kp3⟩ := hres2
        repeat (any_goals (first | assumption | wp_step))
        exact fin _ _ _ R3 le3 kp3
end
section
variable {X : Cx}
def rSetOfI (K : PySem.W.Frag) (w : World) : List V → Hp → VK → Prop := fun xs H Q => ∃ (l : Addr) (ns : List Int), xs = [.ref l] ∧ (SqL K H l (ns.map V.int) ∨ SqT K H l (ns.map V.int)) ∧ ns.length ≤ 1000 ∧ ∀ p n, H p = none → n ≤ ns.length → Q (.ref p) (upd H p (SetO w p (fun j => decide (j ∈ ns)) n))
theorem cr_setOfI (calm : X.calm = true) : CallR X (.type "set") (rSetOfI X.K X.w) := by
  intro pins st σ h xs us Z inv rel pre
  obtain ⟨l, ns, rfl, sq, few, q⟩ := pre
  obtain ⟨u, rfl, rv⟩ := vals_one rel
  obtain rfl : u = Value.ref l := rv
  have hd := inv.ok.hd calm
  have fin : ∀ (h' : Heap) (tk c : Nat), SetR X.w h' st.heap.objs.size (fun j => decide (j ∈ ns)) c → c ≤ ns.length → (∀ b o, st.heap.get? b = some o → h'.get? b = some o) → EP X pins σ Z (.ref st.heap.objs.size) { st with heap := h', toks := tk } := fun h' tk c R le kp =>
    ⟨.ref _, upd h st.heap.objs.size (SetO X.w st.heap.objs.size (fun j => decide (j ∈ ns)) c), inv.laid (t' := tk) kp (Nat.le_refl _) (setO_new R), rfl, q _ c (inv.hok.fresh (Nat.le_refl _)) le⟩
  rcases sq with sq | sq
  · obtain ⟨its, r, pl, _⟩ := inv.list sq
    exact set_ofL ns hd pl.isList (by simpa using RZ.intsAre_vals r) (by unfold scanBound; omega) fin
  · obtain ⟨its, r, pt, _⟩ := inv.tuple sq
    exact call_set_tupI ns hd (show st.heap.IsTuple l its.toArray from pt) (by simpa using RZ.intsAre_vals r) (by unfold scanBound; omega) fin
/-- the ints of a list, each once, ascending -/
theorem sorted_unique {a b : List Int} (ha : a.Pairwise (· < ·)) (hb : b.Pairwise (· < ·)) (h : ∀ k, k ∈ a ↔ k ∈ b) : a = b := by
  induction a generalizing b with
  | nil =>
    cases b with
    | nil => rfl
    | cons y b => exact absurd ((h y).mpr (List.mem_cons_self ..)) List.not_mem_nil
  | cons x a ih =>
    cases b with
    | nil => exact absurd ((h x).mp (List.mem_cons_self ..)) List.not_mem_nil
    | cons y b =>
      have hx := List.pairwise_cons.mp ha
      have hy := List.pairwise_cons.mp hb
      have e : x = y := by
        rcases List.mem_cons.mp ((h x).mp (List.mem_cons_self ..)) with e | m
        · exact e
        · rcases List.mem_cons.mp ((h y).mpr (List.mem_cons_self ..)) with e | m2
          · exact e.symm
          · have := hy.1 x m; have := hx.1 y m2; omega
      subst e
      congr 1
      refine ih hx.2 hy.2 fun k => ?_
      constructor
      · intro m
        rcases List.mem_cons.mp ((h k).mp (List.mem_cons_of_mem _ m)) with e | m2
        · have := hx.1 k m; omega
        · exact m2
      · intro m
        rcases List.mem_cons.mp ((h k).mpr (List.mem_cons_of_mem _ m)) with e | m2
        · have := hy.1 k m; omega
        · exact m2
end
/-! ### enumerate over a text, over a tuple -/
def ItES (z : Str) : It := ⟨fun i _ => i < z.cps.size, fun i H v H' => ∃ T c, v = .ref T ∧ H T = none ∧ H' = upd H T (.tup [.int (i : Nat), .str ⟨#[c]⟩]) ∧ z.cps[i]? = some c, fun i _ => i = z.cps.size⟩
def ItET (K : PySem.W.Frag) (a : Addr) : It :=
  ⟨fun i H => ∃ (xs : List V) (x : V), SqT K H a xs ∧ xs[i]? = some x, fun i H v H' => ∃ T x, v = .ref T ∧ H T = none ∧ H' = upd H T (.tup [.int (i : Nat), x]) ∧ ∀ xs, SqT K H a xs → xs[i]? = some x, fun i H => ∃ xs : List V, SqT K H a xs ∧ xs.length = i⟩
section
variable {P : Program} {w : World} {K : PySem.W.Frag}
theorem two_obj {h : Heap} {e it : Addr} {oe oi : Obj} (h1 : h.get? e = some oe) (h2 : h.get? it = some oi) (n1 : ∀ v, oe.data ≠ .cell v) (n2 : ∀ v, oi.data ≠ .cell v) : ∀ b ∈ [e, it], ∃ o, h.get? b = some o ∧ ∀ v, o.data ≠ .cell v := fun b hb => by
  rcases List.mem_cons.mp hb with rfl | hb
  · exact ⟨_, h1, n1⟩
  · rw [List.mem_singleton.mp hb]; exact ⟨_, h2, n2⟩
/-- a new pair has come -/
theorem pair_new {X : Cx} {pins : List (Addr × Obj)} {σ : L2.St} {H : Hp} {s : Shared} {e it : Addr} {x : V} {u : Value} {i tk : Nat} {h1 h2 : Heap} (I : Inv X pins σ H s) (fp : ∀ b ∈ [e, it], FpOk X pins H b) (le : e < s.heap.objs.size) (li : it < s.heap.objs.size) (ru : RelV x u)
    (pr : h1.get? s.heap.objs.size = some { cls := .type "tuple", data := .seq #[.int i tk, u] }) (kp : ∀ b o, b ≠ e → b ≠ it → s.heap.get? b = some o → h1.get? b = some o) (sb : Heap.SameBut e h1 h2) :
    Inv X pins σ (upd H s.heap.objs.size (.tup [.int (i : Nat), x])) { s with heap := h2, toks := tk + 1 } ∧ H s.heap.objs.size = none ∧ ∀ b ∈ [e, it], upd H s.heap.objs.size (.tup [.int (i : Nat), x]) b = none := by
  have pr2 := (sb.2 _ (Nat.ne_of_gt le)).trans pr
  have ok : ObjOk X.prog X.w (upd H s.heap.objs.size (.tup [.int (i : Nat), x])) h2 s.heap.objs.size (.tup [.int (i : Nat), x]) := ⟨(by show 2 ≤ sizeLine; decide), [.int i tk, u], .cons ⟨_, rfl⟩ (.cons ru .nil), ⟨_, pr2, rfl, _, rfl⟩⟩
  refine ⟨I.turnedNew (ch := [e, it]) (fun b ob hb q => (sb.2 b (fun z => hb (by simp [z]))).trans (kp b ob (fun z => hb (by simp [z])) (fun z => hb (by simp [z])) q)) fp (Nat.le_refl _) ok, I.hok.fresh (Nat.le_refl _), fun b hb => ?_⟩
  have lb : b < s.heap.objs.size := by
    rcases List.mem_cons.mp hb with rfl | hb
    · exact le
    · rw [List.mem_singleton.mp hb]; exact li
  rw [upd_ne (Nat.ne_of_lt lb)]
  exact (fp b hb).1
theorem turn_enumS {elts : List Expr} {kk : Nat} {tpos : Pos} (z : Str) (t : Tok) (e it : Addr) :
    Turn P w K (.Tuple elts kk tpos) (ItES z) [e, it] e (fun i h => (∃ old, IsEnum h e it ((i : Nat) : Int) old) ∧ h.IsStrIter it (strIterType z) z t i ∧ e ≠ it) where
  mem := List.mem_cons_self
  obj := fun i h st => by
    obtain ⟨⟨old, he⟩, ⟨o, ho, _, hd⟩, _⟩ := st
    exact two_obj he ho (fun v q => nomatch q) (fun v q => by rw [hd] at q; cases q)
  keep := fun i h h' st k => by
    obtain ⟨⟨old, he⟩, ⟨o, ho, r⟩, ne⟩ := st
    exact ⟨⟨old, k e (by simp) _ he⟩, ⟨o, k it (by simp) o ho, r⟩, ne⟩
  item := by
    intro X e1 e2 e3 calm i pins s σ H E I fp st go
    subst e1 e2 e3
    obtain ⟨⟨old, he⟩, hit, ne⟩ := st
    have li : it < s.heap.objs.size := by obtain ⟨_, q, _⟩ := hit; exact Heap.lt_size q
    have hd : X.A.in1.handled = none := I.ok.hd calm
    refine wpAny_pyNext_enum_itemD (Draws.text hd it z t) he hit go ne (by simpa using ne) fun x h1 tk hx out hit1 pr _ kp => ?_
    obtain ⟨c, u, hc, rfl⟩ := hx
    refine ⟨_, rfl, wpAny_letOwnedTupleGo_enum (s := { s with heap := h1, toks := tk + 1 }) out fun h2 he2 sb => ?_⟩
    obtain ⟨I2, fr, no⟩ := pair_new (x := .str ⟨#[c]⟩) I fp (Heap.lt_size he) li ⟨u, rfl⟩ pr kp sb
    refine ⟨.ref s.heap.objs.size, _, I2, rfl, ⟨_, c, rfl, fr, rfl, hc⟩, ⟨⟨_, he2⟩, ?_, ne⟩, no⟩
    obtain ⟨o, ho, r⟩ := hit1
    exact ⟨o, (sb.2 it (Ne.symm ne)).trans ho, r⟩
  done := by
    intro X e1 e2 e3 calm i pins s σ H E I fp st stop
    subst e1 e2 e3
    obtain ⟨⟨old, he⟩, hit, ne⟩ := st
    obtain ⟨f0, f1, f2, f3, f4, f5⟩ := fp it (by simp)
    have hd : X.A.in1.handled = none := I.ok.hd calm
    refine wpAny_pyNext_enum_endD (Draws.text hd it z t) he (stop ▸ hit) fun h' eb => ⟨rfl, I.turned (t' := s.toks) (fun b o hb q => eb b o hb q) f0 f1 f3 f4 f5⟩
  self := fun A i s Q E st h => by
    obtain ⟨⟨_, he⟩, _⟩ := st
    exact wpAny_pyIter_enum he h
theorem turn_enumT {elts : List Expr} {kk : Nat} {tpos : Pos} (a e it : Addr) :
    Turn P w K (.Tuple elts kk tpos) (ItET K a) [e, it] e (fun i h => (∃ old, IsEnum h e it ((i : Nat) : Int) old) ∧ h.IsTupleIter it a i ∧ e ≠ it ∧ e ≠ a ∧ a ≠ it) where
  mem := List.mem_cons_self
  obj := fun i h st => by
    obtain ⟨⟨old, he⟩, ⟨o, ho, _, hd⟩, _⟩ := st
    exact two_obj he ho (fun v q => nomatch q) (fun v q => by rw [hd] at q; cases q)
  keep := fun i h h' st k => by
    obtain ⟨⟨old, he⟩, ⟨o, ho, r⟩, ne⟩ := st
    exact ⟨⟨old, k e (by simp) _ he⟩, ⟨o, k it (by simp) o ho, r⟩, ne⟩
  item := by
    intro X e1 e2 e3 calm i pins s σ H E I fp st go
    subst e1 e2 e3
    obtain ⟨⟨old, he⟩, hit, ne, nea, nai⟩ := st
    obtain ⟨xs, x, sq, hx⟩ := go
    obtain ⟨its, rv, pt, _⟩ := I.tuple sq
    obtain ⟨u, hu, ru⟩ := rv.get hx
    have li : it < s.heap.objs.size := by obtain ⟨_, q, _⟩ := hit; exact Heap.lt_size q
    have hd : X.A.in1.handled = none := I.ok.hd calm
    have lt : i < its.toArray.size := by
      rw [List.size_toArray]
      exact (List.getElem?_eq_some_iff.mp hu).1
    refine wpAny_pyNext_enum_itemD (Draws.tuple hd it a nai its.toArray) he ⟨hit, (show s.heap.IsTuple a its.toArray from pt)⟩ lt ne (by simp [ne, nea]) fun y h1 tk hy out hit1 pr _ kp => ?_
    obtain rfl : y = u := by
      have hy' : its.toArray[i]? = some y := hy
      rw [List.getElem?_toArray, hu] at hy'
      exact (Option.some.inj hy').symm
    refine ⟨_, rfl, wpAny_letOwnedTupleGo_enum (s := { s with heap := h1, toks := tk + 1 }) out fun h2 he2 sb => ?_⟩
    obtain ⟨I2, fr, no⟩ := pair_new (x := x) I fp (Heap.lt_size he) li ru pr kp sb
    refine ⟨.ref s.heap.objs.size, _, I2, rfl, ⟨_, x, rfl, fr, rfl, fun ys hy2 => ?_⟩, ⟨⟨_, he2⟩, ?_, ne, nea, nai⟩, no⟩
    · rw [I.tuple_inj hy2 sq]; exact hx
    · obtain ⟨o, ho, r⟩ := hit1.1
      exact ⟨o, (sb.2 it (Ne.symm ne)).trans ho, r⟩
  done := by
    intro X e1 e2 e3 calm i pins s σ H E I fp st stop
    subst e1 e2 e3
    obtain ⟨⟨old, he⟩, hit, ne, nea, nai⟩ := st
    obtain ⟨xs, sq, hl⟩ := stop
    obtain ⟨its, rv, pt, _⟩ := I.tuple sq
    obtain ⟨f0, f1, f2, f3, f4, f5⟩ := fp it (by simp)
    have hd : X.A.in1.handled = none := I.ok.hd calm
    have sz : its.toArray.size = i := by rw [List.size_toArray, ← rv.length, hl]
    refine wpAny_pyNext_enum_endD (Draws.tuple hd it a nai its.toArray) he ⟨sz ▸ hit, (show s.heap.IsTuple a its.toArray from pt)⟩ fun h' eb => ⟨rfl, I.turned (t' := s.toks) (fun b o hb q => eb b o hb q) f0 f1 f3 f4 f5⟩
  self := fun A i s Q E st h => by
    obtain ⟨⟨_, he⟩, _⟩ := st
    exact wpAny_pyIter_enum he h
end
section
abbrev iterT (l : Addr) : Obj := { cls := .type "tuple_iterator", data := .fields #[.ref l, .int 0 0] }
abbrev enumO (n : Addr) : Obj := { cls := .type "enumerate", data := .fields #[.none, .bool false, .ref n, rawInt 0, .none, .none] }
open AutoSeq1 (wpAny_loadPart') in
theorem enum_newT (l : Addr) (items : Array Value) (n : Nat) (dct : Option Addr) (sl : Array (Option Value)) :
    Meets (Builtin.«enumerate.__new__» ⟨[.type "enumerate", .ref l], []⟩) (fun _ R s => s.heap.get? l = some { cls := .type "tuple", dict := dct, data := .seq items n, slots := sl } ∧
      R (.ok (.ret (.ref (s.heap.push (iterT l)).objs.size))) { s with heap := (s.heap.push (iterT l)).push (enumO s.heap.objs.size) }) :=
  .of_wp fun prog w A R s pre => by
    obtain ⟨hp, g, d, tk, os⟩ := s
    obtain ⟨at0, fin⟩ := pre
    have sub0 := sub_enumerate
    have isT : Heap.IsTuple (Shared.heap ⟨hp, g, d, tk, os⟩) l items := ⟨_, at0, rfl, n, rfl⟩
    wp_walk using wpAny_loadPart' at0
    refine wpAny_stack_any fun stk => wpAny_pure ?_
    split
    · rename_i cl _ _ _ _ _
      cases (cl == Value.type "enumerate")
      · wp_walk using wpAny_loadPart' at0, wpAny_pyIter_tuple isT
        exact ⟨_, rfl, fin⟩
      · wp_walk using wpAny_loadPart' at0, wpAny_pyIter_tuple isT
        exact ⟨_, rfl, fin⟩
    · wp_walk using wpAny_loadPart' at0, wpAny_pyIter_tuple isT
      exact ⟨_, rfl, fin⟩
theorem enum_tuple {prog : Program} {w : World} {A : Around} {E : Value → Shared → Prop} {s : Shared} {l : Addr} {items : Array Value} {Z : Value → Shared → Prop} (isT : s.heap.IsTuple l items)
    (fin : ∀ h', IsEnum h' (s.heap.objs.size + 1) s.heap.objs.size 0 .none → h'.IsTupleIter s.heap.objs.size l 0 → (∀ b o, s.heap.get? b = some o → h'.get? b = some o) → Z (.ref (s.heap.objs.size + 1)) { s with heap := h' }) :
    wpAny (model prog w) A (call (.type "enumerate") [.ref l]) Z E s := by
  obtain ⟨⟨oc, od, oda, osl⟩, at0, oc1, n, od1⟩ := isT
  simp only at oc1 od1
  subst oc1 od1
  refine callType_new F.called_enumerate (by decide) (F.typeCall_enumerate_1 _) (F.newCall_enumerate_1 _) (fun ob => F.args_object_init_2 ob _) F.entry_enumerate_new (enum_newT l items n od osl) ⟨at0, ?_⟩
  have sz : (s.heap.push (iterT l)).objs.size = s.heap.objs.size + 1 := Heap.size_push ..
  show _ ∧ _
  rw [sz]
  have en : IsEnum ((s.heap.push (iterT l)).push (enumO s.heap.objs.size)) (s.heap.objs.size + 1) s.heap.objs.size 0 .none := by
    have z := Heap.get?_push_size (s.heap.push (iterT l)) (o := enumO s.heap.objs.size) rfl
    rw [sz] at z
    exact z
  exact ⟨⟨_, en, rfl⟩, fin _ en ⟨_, Heap.get?_push_of_some _ (Heap.get?_push_size _ rfl), rfl, rfl⟩ fun b o x => Heap.get?_push_of_some _ (Heap.get?_push_of_some _ x)⟩
end
section
variable {X : Cx} {e : Expr} {ta : TA} {p pos tpos : Pos} {elts : List Expr} {kk : Nat}
def iEnumS (ta : TA) : TI := fun σ H R => ta σ H fun vs H1 => ∃ z, vs = [.str z] ∧ R (ItES z) H1
def iEnumT (K : PySem.W.Frag) (ta : TA) : TI := fun σ H R => ta σ H fun vs H1 => ∃ a xs, vs = [.ref a] ∧ SqT K H1 a xs ∧ R (ItET K a) H1
theorem two_new {pins : List (Addr × Obj)} {σ : L2.St} {H : Hp} {s : Shared} (I : Inv X pins σ H s) : ∀ b ∈ [s.heap.objs.size + 1, s.heap.objs.size], FpOk X pins H b := fun b hb => by
  have le : s.heap.objs.size ≤ b := by
    rcases List.mem_cons.mp hb with rfl | hb
    · exact Nat.le_add_right _ _
    · rw [List.mem_singleton.mp hb]; exact Nat.le_refl _
  exact I.fpOk le (I.hok.fresh le)
theorem pi_enumS (hg : Gl X "enumerate") (hm : X.mg "enumerate" = none) (ha : PA X [e] ta) (hs : starEach [e] X.env = [(false, eval e X.env)] := by rfl) : PI X (.Tuple elts kk tpos) (.Call (.Name "enumerate" p) [e] [] pos) (iEnumS ta) := by
  refine ⟨fun pins s σ H R I h => ?_⟩
  refine Call_ (ld_blt I hg hm boot_enumerate (PyProof.Rows.callWith_type1 (thn (ha.run pos pins s σ H _ I h) fun us s1 res => ?_) hs rfl))
  obtain ⟨vs, H1, I1, r1, z, rfl, q⟩ := res
  obtain ⟨u, rfl, ru⟩ := vals_one r1
  obtain ⟨t, rfl⟩ := (show ∃ t, u = Value.str z t from ru)
  refine call_enumerate_str fun h' en hit _ kp => wpAny_pyIter_enum en ?_
  exact ⟨s1.heap.objs.size + 1, [s1.heap.objs.size + 1, s1.heap.objs.size], _, _, H1, rfl, I1.kept (t' := s1.toks) kp, turn_enumS z t (s1.heap.objs.size + 1) s1.heap.objs.size, ⟨⟨.none, en⟩, hit, Nat.succ_ne_self _⟩, two_new I1, q⟩
theorem pi_enumT (hg : Gl X "enumerate") (hm : X.mg "enumerate" = none) (ha : PA X [e] ta) (hs : starEach [e] X.env = [(false, eval e X.env)] := by rfl) : PI X (.Tuple elts kk tpos) (.Call (.Name "enumerate" p) [e] [] pos) (iEnumT X.K ta) := by
  refine ⟨fun pins s σ H R I h => ?_⟩
  refine Call_ (ld_blt I hg hm boot_enumerate (PyProof.Rows.callWith_type1 (thn (ha.run pos pins s σ H _ I h) fun us s1 res => ?_) hs rfl))
  obtain ⟨vs, H1, I1, r1, a, xs, rfl, sq, q⟩ := res
  obtain ⟨u, rfl, ru⟩ := vals_one r1
  obtain rfl : u = Value.ref a := ru
  obtain ⟨its, rv, pt, _⟩ := I1.tuple sq
  have isT : s1.heap.IsTuple a its.toArray := pt
  have la : a < s1.heap.objs.size := by obtain ⟨o, ho, _⟩ := isT; exact Heap.lt_size ho
  refine enum_tuple isT fun h' en hit kp => wpAny_pyIter_enum en ?_
  exact ⟨s1.heap.objs.size + 1, [s1.heap.objs.size + 1, s1.heap.objs.size], _, _, H1, rfl, I1.kept (t' := s1.toks) kp, turn_enumT a (s1.heap.objs.size + 1) s1.heap.objs.size, ⟨⟨.none, en⟩, hit, Nat.succ_ne_self _, Nat.ne_of_gt (Nat.lt_succ_of_lt la), Nat.ne_of_lt la⟩, two_new I1, q⟩
end
/-! ### walks -/
theorem walk_enumS {z : Str} : Walk (ItES z) z.cps.size (fun _ => True) (fun i H v H' => ∃ T c, v = .ref T ∧ H T = none ∧ H' = upd H T (.tup [.int (i : Nat), .str ⟨#[c]⟩]) ∧ z.cps[i]? = some c) := ⟨fun _ _ hi _ => hi, fun _ _ => rfl, fun _ _ _ _ _ _ y => y⟩
theorem walk_enumT {K : PySem.W.Frag} {a : Addr} {xs : List V} : Walk (ItET K a) xs.length (fun H => SqT K H a xs) (fun i H v H' => ∃ T x, v = .ref T ∧ H T = none ∧ H' = upd H T (.tup [.int (i : Nat), x]) ∧ xs[i]? = some x) :=
  ⟨fun i _ hi q => ⟨xs, xs[i], q, by simp [hi]⟩, fun _ q => ⟨xs, q, rfl⟩, fun _ _ _ _ _ q y => by obtain ⟨T, x, h1, h2, h3, h4⟩ := y; exact ⟨T, x, h1, h2, h3, h4 xs q⟩⟩
/-- a loop of a generator, by the walk -/
theorem gforW {J : It} {n : Nat} {G : Hp → Prop} {Y : Nat → Hp → V → Hp → Prop} (wk : Walk J n G Y) {g : TG} {tb : TGn} {D : GEnds} {ys : List V} {σ : L2.St} {H : Hp} (Pv : Nat → List V → L2.St → Hp → Prop) (h0 : Pv 0 ys σ H) (hG : ∀ i ys σ H, i ≤ n → Pv i ys σ H → G H)
    (hs : ∀ i x ys σ H H', i < n → Pv i ys σ H → Y i H x H' → g x σ H' fun σ2 H2 => tb { D with nx := Pv (i + 1), ct := Pv (i + 1), bk := D.nx } ys σ2 H2) (hd : ∀ ys σ H, Pv n ys σ H → D.nx ys σ H) :
    ∃ W : Nat → Nat → List V → L2.St → Hp → Prop, (∃ m, W 0 m ys σ H) ∧ ∀ i m ys σ H, W i m ys σ H → (J.stop i H ∧ D.nx ys σ H) ∨ (J.go i H ∧ ∃ N : List V → L2.St → Hp → Prop, (∀ ys' σ' H', N ys' σ' H' → ∃ m', m' < m ∧ W (i + 1) m' ys' σ' H') ∧ ∀ x H', J.yld i H x H' → g x σ H' fun σ2 H2 => tb { D with nx := N, ct := N, bk := D.nx } ys σ2 H2) := by
  refine ⟨fun i m ys σ H => m = n - i ∧ i ≤ n ∧ Pv i ys σ H, ⟨n, by simp, Nat.zero_le _, h0⟩, ?_⟩
  rintro i m ys σ H ⟨rfl, hi, p⟩
  have q := hG i ys σ H hi p
  by_cases lt : i < n
  · exact .inr ⟨wk.goes i H lt q, Pv (i + 1), fun ys' σ' H' p' => ⟨n - (i + 1), by omega, rfl, lt, p'⟩, fun x H' y => hs i x ys σ H H' lt p (wk.yields i H x H' lt q y)⟩
  · obtain rfl : i = n := by omega
    exact .inl ⟨wk.stops H q, hd ys σ H p⟩
end KT

/-! KGen: if and for within a generator def. -/
namespace KGen
open PySem PySem.Spec PyProof.Rows L2 GenW
section
variable {X : Cx}
/-! ### if -/
def tGIf (tc : TT) (t1 t2 : TGn) : TGn := fun D ys σ H => tc σ H fun b H1 => if b = true then t1 D ys σ H1 else t2 D ys σ H1
theorem gs_if {test : Expr} {b1 b2 : List Stmt} {pos : Pos} {tc : TT} {t1 t2 : TGn} (hc : PT X test tc) (h1 : GSs X b1 t1) (h2 : GSs X b2 t2) : GS X (.If test b1 b2 pos) (tGIf tc t1 t2) := by
  refine ⟨fun A S ip R n ys s₀ c fs K J gd lv s σ H D g hn k hI ht => ?_⟩
  obtain ⟨acc, cc, r, I⟩ := hI
  rw [exec_If]
  refine seg_bind_wrap (wpAny_standAt ?_)
  refine seg_bind_wrap ?_
  rw [g.over]
  refine wpAny_mono (hc.run _ s σ H _ I ht) (fun b s' hb => ?_) fun x s' hx => k.exc n s₀ x s' hx
  obtain ⟨H2, I2, q2⟩ := hb
  cases b with
  | true =>
    rw [if_pos rfl] at q2 ⊢
    exact h1.run A S ip R n ys s₀ c fs K J gd lv s' σ H2 D g hn k ⟨acc, cc, r, I2⟩ q2
  | false =>
    rw [if_neg Bool.false_ne_true] at q2 ⊢
    exact h2.run A S ip R n ys s₀ c fs K J gd lv s' σ H2 D g hn k ⟨acc, cc, r, I2⟩ q2
/-! ### for -/
def tGFor (wi : TI) (g : TG) (tb : TGn) : TGn := fun D ys σ H => wi σ H fun J H1 => ∃ W : Nat → Nat → List V → L2.St → Hp → Prop, (∃ m, W 0 m ys σ H1) ∧ ∀ i m ys σ H, W i m ys σ H →
  (J.stop i H ∧ D.nx ys σ H) ∨ (J.go i H ∧ ∃ N : List V → L2.St → Hp → Prop, (∀ ys' σ' H', N ys' σ' H' → ∃ m', m' < m ∧ W (i + 1) m' ys' σ' H') ∧ ∀ x H', J.yld i H x H' → g x σ H' fun σ2 H2 => tb { D with nx := N, ct := N, bk := D.nx } ys σ2 H2)
/-- what a loop does with an exception -/
abbrev noted (e : Value) (env : Env) : Sem PySem.Fin := (do noteFrame e env; theTreesLotGoes e : Sem Unit).wrap (fun _ => .raise e) .raise id id
abbrev turned (tg : Expr) (it : Value) (body : List Stmt) (env : Env) : Flow → Sem PySem.Fin := fun f => match f with
  | .next | .cont => .pure (.again (.forLoop tg it body [] env))
  | .brk => .pure (.done .next)
  | .ret v => .pure (.done (.ret v))
theorem seg_for_ {prog : Program} {w : World} {A : Around} {R : GenEnd} {Y : Protocol} {n : Nat} {s₀ : Shared} {fs : List Frame} {s : Shared} {env : Env} {tg : Expr} {it : Value} {body : List Stmt}
    (h : wpAny (model prog w) (A.over (.forLoop tg it body [] env) fs) (pyNext it) (fun r s1 => match r with
        | none => Seg (model prog w) A R Y n s₀ (.forLoop tg it body [] env) (.pure (.again (.block [] env))) fs s1
        | some v => wpAny (model prog w) (A.over (.forLoop tg it body [] env) fs) (letOwnedTupleGo tg it v) (fun _ s2 => wpAny (model prog w) (A.over (.forLoop tg it body [] env) fs) (assign tg env v) (fun _ s3 =>
            Seg (model prog w) A R Y n s₀ (.forLoop tg it body [] env) ((execs body env).wrap (turned tg it body env) (fun e => noted e env) id id) fs s3)
            (fun x s' => Seg (model prog w) A R Y n s₀ (.forLoop tg it body [] env) (noted x env) fs s') s2) (fun x s' => Seg (model prog w) A R Y n s₀ (.forLoop tg it body [] env) (noted x env) fs s') s1)
      (fun x s' => Seg (model prog w) A R Y n s₀ (.forLoop tg it body [] env) (noted x env) fs s') s) :
    Seg (model prog w) A R Y n s₀ (.forLoop tg it body [] env) ((model prog w).den (.forLoop tg it body [] env)) fs s := by
  show Seg _ A R Y n s₀ _ ((forTurn tg it body [] env).onRaise (fun x => do noteFrame x env; theTreesLotGoes x)) fs s
  have bad : ∀ (x : Value) (s' : Shared), Seg (model prog w) A R Y n s₀ (.forLoop tg it body [] env) (noted x env) fs s' → Seg (model prog w) A R Y n s₀ (.forLoop tg it body [] env) ((do noteFrame x env; theTreesLotGoes x : Sem Unit).bind fun _ => .raise x) fs s' := fun x s' hx => by
    rw [Sem.bind_eq_wrap]
    exact hx
  unfold forTurn
  rw [Sem.onRaise_eq_wrap]
  refine seg_bind_wrap (wpAny_standAt ?_)
  refine seg_bind_wrap (wpAny_onRaise (wpAny_mono h (fun r s1 h1 => ?_) fun x s' hx => wpAny_standAt (bad x s' hx)))
  cases r with
  | none => exact h1
  | some v =>
    refine seg_bind_wrap (wpAny_mono h1 (fun _ s2 h2 => ?_) fun x s' hx => bad x s' hx)
    refine seg_bind_wrap (wpAny_mono h2 (fun _ s3 h3 => ?_) fun x s' hx => bad x s' hx)
    rw [Sem.bind_eq_wrap', Sem.wrap_wrap]
    rw [Sem.wrap_congr (execs body env) _ _ (K' := turned tg it body env) (H' := fun e => noted e env) (fun f => by cases f <;> rfl) (fun e => by exact Sem.bind_eq_wrap _ _)]
    exact h3
theorem pinsAt_ne {pins : List (Addr × Obj)} {H : Hp} {fp : List Addr} {h : Heap} {S : Addr} {o : Obj} (hf : ∀ b ∈ fp, FpOk X ((S, o) :: pins) H b) : ∀ p ∈ pinsAt fp h, p.1 ≠ S := fun p hp z => by
  obtain ⟨hb, _⟩ := of_pinsAt hp
  exact (hf p.1 hb).2.2.2.2.2 (S, o) (List.mem_append_right _ List.mem_cons_self) z.symm
theorem gs_for {tg iter : Expr} {body : List Stmt} {wi : TI} {g : TG} {tb : TGn} {pos : Pos} (hp : PassesOwn (model X.prog X.w) X.A X.env X.xe) (calm : X.calm = true) (hi : PI X tg iter wi) (hg : PG X tg g) (hb : GSs X body tb)
    (hs : ∀ x, foldedSetIterable iter X.env x = pure x := by intro _; rfl) : GS X (.For tg iter body [] pos) (tGFor wi g tb) := by
  refine ⟨fun A S ip R n ys s₀ c fs K J gd lv s σ H D gc hn k hI ht => ?_⟩
  obtain ⟨acc, cc, r, I⟩ := hI
  rw [exec_For]
  refine seg_bind_wrap (wpAny_standAt ?_)
  refine seg_bind_wrap ?_
  rw [gc.over]
  refine wpAny_mono (hi.run _ s σ H _ I ht) (fun v s1 h1 => ?_) fun x s' hx => k.exc n s₀ x s' hx
  refine seg_bind_wrap (wpAny_of_eq (hs v) ?_)
  refine seg_bind_wrap (wpAny_standAt ?_)
  refine seg_bind_wrap (wpAny_holding ?_)
  rw [gc.over]
  refine wpAny_mono h1 (fun itv s2 h2 => ?_) fun x s' hx => k.exc n s₀ x s' hx
  obtain ⟨it, fp, tn, JJ, H2, rfl, I2, T, st2, f2, W, ⟨m0, w0⟩, turn⟩ := h2
  refine seg_call fun p => ?_
  have gl := fun (kk : Result → Sem PySem.Fin) => gc_loop (k := kk) (c' := .forLoop tg (.ref it) body [] X.env) (l := lv []) (kp := []) (p := p) gc rfl rfl
  have gb := fun (kk : Result → Sem PySem.Fin) => gc_loop (k := kk) (c' := .block [] X.env) (l := lv []) (kp := []) (p := p) gc rfl rfl
  have loop : ∀ (m i n : Nat) (ys : List V) (acc : Array Value) (cc : Nat) (s₀ s : Shared) (σ : L2.St) (H : Hp), Vals ys acc.toList → n + ys.length = sizeLine → W i m ys σ H → Inv X ((S, lstObj acc cc) :: ip) σ H s → tn i s.heap → (∀ b ∈ fp, FpOk X ((S, lstObj acc cc) :: ip) H b) →
      Seg (model X.prog X.w) A R (GY X S) n s₀ (.forLoop tg (.ref it) body [] X.env) ((model X.prog X.w).den (.forLoop tg (.ref it) body [] X.env))
        (.ret (fun r => ((match r with | .ok f => (.pure f : Sem Flow) | .error e => .raise e).onRaise (cameBack X.env)).wrap K J gd lv) none (gd false) (lv []) c p [] :: fs) s := by
    intro m
    induction m using Nat.strongRecOn with
    | ind m ih =>
      intro i n ys acc cc s₀ s σ H r hn w I st f
      have ee : ∀ (n : Nat) (s₀ : Shared) (x : Value) (s' : Shared), X.xe x s' → Seg (model X.prog X.w) A R (GY X S) n s₀ (.forLoop tg (.ref it) body [] X.env) (noted x X.env)
          (.ret (fun r => ((match r with | .ok f => (.pure f : Sem Flow) | .error e => .raise e).onRaise (cameBack X.env)).wrap K J gd lv) none (gd false) (lv []) c p [] :: fs) s' := fun n s₀ x s' hx => by
        refine seg_wrap ?_
        rw [(gl _).over]
        refine wpAny_bind (wpAny_mono (hp x s' hx) (fun _ s'' hcb => wpAny_theTreesLotGoes ?_) fun y s'' hcb => ?_)
        · exact seg_leaf (.error x) (seg_cameBack gc k hcb)
        · exact seg_leaf (.error y) (seg_cameBack gc k hcb)
      refine seg_for_ ?_
      rw [(gl _).over]
      rcases turn i m ys σ H w with ⟨stop, qn⟩ | ⟨go, N, hN, step⟩
      · refine wpAny_mono (T.done X rfl rfl rfl calm i _ s σ H X.xe I f st stop) (fun r' s3 hr => ?_) fun x s' hx => ee n s₀ x s' hx
        obtain ⟨rfl, I3⟩ := hr
        refine seg_again rfl ?_
        show Seg _ _ _ _ _ _ _ (((execs [] X.env).onRaise (fun x => do noteFrame x X.env; theTreesLotGoes x)) >>= fun f => pure (.done f)) _ _
        exact seg_leaf (.ok .next) (k.ok n ys s₀ s3 .next hn ⟨σ, H, ⟨acc, cc, r, I3⟩, qn⟩)
      · refine wpAny_mono (T.item X rfl rfl rfl calm i _ s σ H X.xe I f st go) (fun r' s3 hr => ?_) fun x s' hx => ee n s₀ x s' hx
        obtain ⟨u, rfl, h3⟩ := hr
        refine wpAny_mono h3 (fun _ s5 h5 => ?_) fun x s' hx => ee n s₀ x s' hx
        obtain ⟨x5, H5, I5, r5, y5, st5, fr5⟩ := h5
        have f5 : ∀ b ∈ fp, FpOk X ((S, lstObj acc cc) :: ip) H5 b := fun b hb => ⟨fr5 b hb, (f b hb).2⟩
        have I5' := I5.pinned f5 (T.obj _ _ st5)
        refine wpAny_mono (hg.run _ s5 σ H5 x5 u _ I5' r5 (step x5 H5 y5)) (fun _ s6 h6 => ?_) fun x s' hx => ee n s₀ x s' hx
        obtain ⟨σ6, H6, I6, q6⟩ := h6
        have gp : GC X S (ip ++ pinsAt fp s5.heap) A (.forLoop tg (.ref it) body [] X.env) (.ret (fun r => ((match r with | .ok f => (.pure f : Sem Flow) | .error e => .raise e).onRaise (cameBack X.env)).wrap K J gd lv) none (gd false) (lv []) c p [] :: fs) id :=
          { gl _ with ip := fun p hp => (List.mem_append.mp hp).elim (gc.ip p) (pinsAt_ne f5 p) }
        refine hb.run A S (ip ++ pinsAt fp s5.heap) R n ys s₀ _ _ _ _ id id s6 σ6 H6 { D with nx := N, ct := N, bk := D.nx } gp hn ⟨fun n' ys' s₀' s7 fl hn' hs' => ?_, fun n' s₀' x s7 hx => ee n' s₀' x s7 hx⟩ ⟨acc, cc, r, I6⟩ q6
        have again : ∀ {σ7 : L2.St} {H7 : Hp}, GI X S (ip ++ pinsAt fp s5.heap) ys' σ7 H7 s7 → N ys' σ7 H7 → Seg (model X.prog X.w) A R (GY X S) n' s₀' (.forLoop tg (.ref it) body [] X.env) (.pure (.again (.forLoop tg (.ref it) body [] X.env)))
            (.ret (fun r => ((match r with | .ok f => (.pure f : Sem Flow) | .error e => .raise e).onRaise (cameBack X.env)).wrap K J gd lv) none (gd false) (lv []) c p [] :: fs) s7 := fun {σ7 H7} G7 n7 => by
          obtain ⟨acc7, cc7, r7, I7⟩ := G7
          obtain ⟨m', hm, w7⟩ := hN ys' σ7 H7 n7
          have at7 : ∀ b ∈ fp, ∀ o, s5.heap.get? b = some o → s7.heap.get? b = some o ∧ H7 b = none := fun b hb o e => by
            have z := I7.pin (b, o) (List.mem_append_right _ (List.mem_cons_of_mem _ (List.mem_append_right _ (mem_pinsAt hb e))))
            exact ⟨z.1, z.2.1⟩
          refine seg_again rfl (ih m' hm (i + 1) n' ys' acc7 cc7 s₀' s7 σ7 H7 r7 hn' w7 (I7.pins_of fun q hq => I7.pin q (List.mem_append_right _ ?_)) (T.keep _ _ _ st5 fun b hb o e => (at7 b hb o e).1) fun b hb => ?_)
          · rcases List.mem_cons.mp hq with rfl | hq
            · exact List.mem_cons_self
            · exact List.mem_cons_of_mem _ (List.mem_append_left _ hq)
          · obtain ⟨o, e, _⟩ := T.obj _ _ st5 b hb
            obtain ⟨z1, z2, z3, z4, z5, z6⟩ := f b hb
            refine ⟨(at7 b hb o e).2, z2, z3, z4, z5, fun q hq => ?_⟩
            rcases List.mem_append.mp hq with hq | hq
            · exact z6 q (List.mem_append_left _ hq)
            · rcases List.mem_cons.mp hq with rfl | hq
              · exact z6 (S, lstObj acc cc) (List.mem_append_right _ List.mem_cons_self)
              · exact z6 q (List.mem_append_right _ (List.mem_cons_of_mem _ hq))
        have drop : ∀ {σ7 : L2.St} {H7 : Hp}, GI X S (ip ++ pinsAt fp s5.heap) ys' σ7 H7 s7 → GI X S ip ys' σ7 H7 s7 := fun {σ7 H7} G7 => by
          obtain ⟨acc7, cc7, r7, I7⟩ := G7
          refine ⟨acc7, cc7, r7, I7.pins_of fun q hq => I7.pin q (List.mem_append_right _ ?_)⟩
          rcases List.mem_cons.mp hq with rfl | hq
          · exact List.mem_cons_self
          · exact List.mem_cons_of_mem _ (List.mem_append_left _ hq)
        cases fl with
        | next => obtain ⟨σ7, H7, G7, n7⟩ := hs'; exact again G7 n7
        | cont => obtain ⟨σ7, H7, G7, n7⟩ := hs'; exact again G7 n7
        | brk => obtain ⟨σ7, H7, G7, q7⟩ := hs'; exact seg_leaf (.ok .next) (k.ok n' ys' s₀' s7 .next hn' ⟨σ7, H7, drop G7, q7⟩)
        | ret v => obtain ⟨x7, σ7, H7, G7, r7, q7⟩ := hs'; exact seg_leaf (.ok (.ret v)) (k.ok n' ys' s₀' s7 (.ret v) hn' ⟨x7, σ7, H7, drop G7, r7, q7⟩)
  exact loop m0 0 n ys acc cc s₀ s2 σ H2 r hn w0 I2 st2 f2
end
end KGen

/-! KU: classmethods and own objects called by keywords; list(o.m()) of a generator method. -/
namespace KU
open PySem PySem.Spec PyProof.Rows L2 KB KG KO KY
section
variable {X : Cx}
/-- n: the positional values, the class among them -/
structure CalleeCK (P : Program) (w : World) (K : PySem.W.Frag) (mg : Str → Option Value) (base : Heap) (CX : CXT) (k : Nat) (C : Addr) (m : Str) (ps : List Str) (sp : Sp) (n : Nat) (ks : List Str) (gV : List V → List V → List V) : Prop where
  ex : ∃ (mc : Value) (p g : Addr) (fd : FuncData) (gg : List Value → List Value → List Value), ClX.CRead K C mc ∧ ClX.CMet K C mc m p g ∧ FnOk P w K mg base CX k g fd ps sp ∧ KBn K fd ps n ks gg gV
theorem run_cmK {CX : CXT} {k n : Nat} {g C q : Addr} {fd : FuncData} {ps ks : List Str} {sp : Sp} {gg : List Value → List Value → List Value} {gV : List V → List V → List V} {E : XK} {Z : VK} {pins : List (Addr × Obj)} {σ : L2.St} {H : Hp} {s : Shared} {us ws : List Value} {vs zs : List V}
    (F : FnOk X.prog X.w X.K X.mg X.base CX k g fd ps sp) (room : Room k X.A) (hb : KBn X.K fd ps n ks gg gV) (pass : Passes CX X E) (I : Inv X ((q, PySem.W.methodObj (.ref g) (.ref C)) :: pins) σ H s) (r : Vals vs us) (rz : Vals zs ws) (l1 : vs.length + 1 = n) (l2 : zs.length = ks.length)
    (h : sp (gV (.ref C :: vs) zs) H Z E) : wpAny (model X.prog X.w) X.A (call (.ref q) us (ks.zip ws)) (EP X pins σ Z) X.xe s := by
  have rel : Vals (V.ref C :: vs) (Value.ref C :: us) := .cons rfl r
  have bt := hb.to s (Value.ref C :: us) ws I.kIn (by rw [List.length_cons, ← r.length]; exact l1) (rz.length.symm.trans l2)
  have z : wpAny (model X.prog X.w) X.A (call (.ref q) us (ks.zip ws)) (EP X ((q, PySem.W.methodObj (.ref g) (.ref C)) :: pins) σ Z) X.xe s := by
    refine wpAny_call (PySem.W.method_call (ClX.pin_at I) ?_)
    refine codeAny_mono (F.run X.A X.stack s H ⟨.ref C :: us, ks.zip ws⟩ _ _ Z E room I.env0 bt (hb.rel rel rz) h) fun res s2 y => ?_
    match res, y with
    | .error e, y => exact pass _ σ H s e s2 I y
    | .ok (.ret u), y => exact I.after y
    | .ok .next, y => exact y.elim
    | .ok .brk, y => exact y.elim
    | .ok .cont, y => exact y.elim
  exact thn z fun _ _ y => ClX.unpinE y
def tCMethK (C : Addr) (sp : Sp) (n m : Nat) (gV : List V → List V → List V) (E : XK) (ta : TE) (t tk : TA) : TE := fun σ H Q => ta σ H fun x H1 => x = .ref C ∧ t σ H1 fun vs H2 => tk σ H2 fun zs H3 => (vs.length + 1 = n ∧ zs.length = m) ∧ sp (gV (.ref C :: vs) zs) H3 Q E
/-- C.m(e, .., k = v, ..) -/
theorem pe_cmethK {pl : Sem Bool} {CX : CXT} {k n : Nat} {C : Addr} {m : Str} {ps ks : List Str} {sp : Sp} {gV : List V → List V → List V} {E : XK} {o e : Expr} {es : List Expr} {kws : List Keyword} {apos pos : Pos} {ta : TE} {t tk : TA} (c : CalleeCK X.prog X.w X.K X.mg X.base CX k C m ps sp n ks gV) (ho : PE X o ta) (room : Room k X.A) (pass : Passes CX X E)
    (ha : PA X (e :: es) t) (hkw : PK X kws tk) (d1 : (backToKw pos (keywordEach kws X.env)).all (·.1.isSome) = true := by rfl) (d2 : (backToKw pos (keywordEach kws X.env)).filterMap (·.1) = ks := by rfl) (d3 : ((backTo pos (starEach (e :: es) X.env)).any (·.1) || (backToKw pos (keywordEach kws X.env)).any (·.1.isNone)) = false := by rfl)
    (d5 : starEach (e :: es) X.env = (false, eval e X.env) :: starEach es X.env := by rfl)
    (d4 : eval (.Call (.Attribute o m apos) (e :: es) kws pos) X.env = (do
      let ov ← eval o X.env
      standAt apos.atName
      let (f, first) ← holding [ov] (getMethod ov m pl)
      callWith pos f first (backTo pos (starEach (e :: es) X.env)) (backToKw pos (keywordEach kws X.env))) := by rfl) :
    PE X (.Call (.Attribute o m apos) (e :: es) kws pos) (tCMethK C sp n ks.length gV E ta t tk) := by
  obtain ⟨mc, p, g, fd, gg, r, cm, F, hb⟩ := c.ex
  refine ⟨fun pins s σ H Z I h => PySem.W.methodCall_KW (pl := pl) (thn (ho.run pins s σ H _ I h) fun u s1 res => ?_) d4⟩
  obtain ⟨x, H1, I1, rx, rfl, q⟩ := res
  obtain rfl : u = Value.ref C := rx
  refine ClX.getmethcm_ok I1 r cm fun s2 I2 => ?_
  refine PySem.W.callWith_of d3 (PySem.W.keeps_M (self := .ref C) cm.fi) (evalArgs_kw2 d1 (thn (ha.run pos _ s2 σ H1 _ I2 q) fun us s3 res => ?_) d5)
  obtain ⟨vs, H2, I3, rv, q⟩ := res
  refine thn (hkw.run pos _ s3 σ H2 _ I3 q) fun ws s4 res => ?_
  obtain ⟨zs, H3, I4, rz, l, q⟩ := res
  refine ⟨⟨ClX.pin_at I4, I4.kIn⟩, ?_⟩
  rw [d2]
  exact run_cmK F room hb pass I4 rv rz l.1 l.2 q
/-- C.m(k = v, ..) -/
theorem pe_cmethK0 {pl : Sem Bool} {CX : CXT} {k : Nat} {C : Addr} {m : Str} {ps ks : List Str} {sp : Sp} {gV : List V → List V → List V} {E : XK} {o : Expr} {kws : List Keyword} {apos pos : Pos} {ta : TE} {tk : TA} (c : CalleeCK X.prog X.w X.K X.mg X.base CX k C m ps sp 1 ks gV) (ho : PE X o ta) (room : Room k X.A) (pass : Passes CX X E)
    (hkw : PK X kws tk) (d1 : (backToKw pos (keywordEach kws X.env)).all (·.1.isSome) = true := by rfl) (d2 : (backToKw pos (keywordEach kws X.env)).filterMap (·.1) = ks := by rfl) (d3 : ((backTo pos (starEach [] X.env)).any (·.1) || (backToKw pos (keywordEach kws X.env)).any (·.1.isNone)) = false := by rfl)
    (d4 : eval (.Call (.Attribute o m apos) [] kws pos) X.env = (do
      let ov ← eval o X.env
      standAt apos.atName
      let (f, first) ← holding [ov] (getMethod ov m pl)
      callWith pos f first (backTo pos (starEach [] X.env)) (backToKw pos (keywordEach kws X.env))) := by rfl) :
    PE X (.Call (.Attribute o m apos) [] kws pos) (tCMethK C sp 1 ks.length gV E ta tNil tk) := by
  obtain ⟨mc, p, g, fd, gg, r, cm, F, hb⟩ := c.ex
  refine ⟨fun pins s σ H Z I h => PySem.W.methodCall_KW (pl := pl) (thn (ho.run pins s σ H _ I h) fun u s1 res => ?_) d4⟩
  obtain ⟨x, H1, I1, rx, rfl, q⟩ := res
  obtain rfl : u = Value.ref C := rx
  refine ClX.getmethcm_ok I1 r cm fun s2 I2 => ?_
  refine PySem.W.callWith_of d3 (PySem.W.keeps_M (self := .ref C) cm.fi) (evalArgs_kw2_nil d1 (thn (hkw.run pos _ s2 σ H1 _ I2 q) fun ws s4 res => ?_))
  obtain ⟨zs, H3, I4, rz, l, q⟩ := res
  refine ⟨⟨ClX.pin_at I4, I4.kIn⟩, ?_⟩
  rw [d2]
  exact run_cmK (us := []) (vs := []) F room hb pass I4 .nil rz l.1 l.2 q
theorem r_cmethK {σ : L2.St} {H : Hp} {Q : VK} {C : Addr} {sp : Sp} {n m : Nat} {gV : List V → List V → List V} {E : XK} {ta : TE} {t tk : TA} (q : ta σ H fun x H1 => x = .ref C ∧ t σ H1 fun vs H2 => tk σ H2 fun zs H3 => (vs.length + 1 = n ∧ zs.length = m) ∧ sp (gV (.ref C :: vs) zs) H3 Q E) : tCMethK C sp n m gV E ta t tk σ H Q := q
/-! ### o(k = v) of an own object -/
structure OwnCK (P : Program) (w : World) (K : PySem.W.Frag) (mg : Str → Option Value) (base : Heap) (CX : CXT) (k : Nat) (C : Addr) (ps : List Str) (sp : Sp) (ks : List Str) (gV : List V → List V → List V) : Prop where
  ex : ∃ (g : Addr) (fd : FuncData) (gg : List Value → List Value → List Value), PySem.W.findIn K (.ref C) "__call__" = some (some (.ref g)) ∧ PySem.W.isFn K (.ref g) = true ∧ PySem.W.fnIn K g = true ∧ FnOk P w K mg base CX k g fd ps sp ∧ KBn K fd ps 1 ks gg gV
def tCallOK (C : Addr) (sp : Sp) (m : Nat) (gV : List V → List V → List V) (E : XK) (tf : TE) (tk : TA) : TE := fun σ H Q => tf σ H fun x H1 => ∃ (a dx : Addr) (fs : List (Str × V)), x = .ref a ∧ H1 a = some (.ins C dx fs) ∧ tk σ H1 fun zs H2 => H2 a = some (.ins C dx fs) ∧ zs.length = m ∧ sp (gV [.ref a] zs) H2 Q E
theorem pe_callOK {CX : CXT} {k : Nat} {C : Addr} {x : Str} {ps ks : List Str} {sp : Sp} {gV : List V → List V → List V} {E : XK} {kws : List Keyword} {p pos : Pos} {tf : TE} {tk : TA} (c : OwnCK X.prog X.w X.K X.mg X.base CX k C ps sp ks gV) (room : Room k X.A) (pass : Passes CX X E) (hf : PE X (.Name x p) tf) (hkw : PK X kws tk)
    (d1 : (backToKw pos (keywordEach kws X.env)).all (·.1.isSome) = true := by rfl) (d2 : (backToKw pos (keywordEach kws X.env)).filterMap (·.1) = ks := by rfl) (d3 : ((backTo pos (starEach [] X.env)).any (·.1) || (backToKw pos (keywordEach kws X.env)).any (·.1.isNone)) = false := by rfl) :
    PE X (.Call (.Name x p) [] kws pos) (tCallOK C sp ks.length gV E tf tk) := by
  obtain ⟨g, fd, gg, hs, hfn, hfi, F, hb⟩ := c.ex
  refine ⟨fun pins st σ h Z inv pre => wpAny_Call_Name_kw (thn (hf.run pins st σ h _ inv pre) fun u s1 r => ?_)⟩
  obtain ⟨v, h1, inv1, rv, a, dx, fs, rfl, ea, z⟩ := r
  obtain rfl : u = Value.ref a := rv
  refine KC.callWith_own (C := C) (dx := dx) d3 (evalArgs_kw2_nil d1 (thn (hkw.run pos pins s1 σ h1 _ inv1 z) fun ws s2 r => ?_))
  obtain ⟨zs, h2, inv2, rel, ea2, l, z2⟩ := r
  obtain ⟨od, J⟩ := inst_of inv2 ea2
  refine ⟨⟨_, J⟩, ?_⟩
  rw [d2]
  have bt := hb.to s2 [Value.ref a] ws inv2.kIn rfl (rel.length.symm.trans l)
  refine wpAny_call (codeAny_mono (PySem.W.kco_code inv2.kIn J rfl hs hfn hfi (F.run X.A X.stack s2 h2 ⟨[Value.ref a], ks.zip ws⟩ _ _ Z E room inv2.env0 bt (hb.rel (vs := [.ref a]) (us := [Value.ref a]) (.cons rfl .nil) rel) z2)) fun res s3 y => ?_)
  match res, y with
  | .error e, y => exact pass pins σ h2 s2 e s3 inv2 y
  | .ok (.ret u), y => exact inv2.after y
  | .ok .next, y => exact y.elim
  | .ok .brk, y => exact y.elim
  | .ok .cont, y => exact y.elim
theorem r_callOK {σ : L2.St} {H : Hp} {Q : VK} {C : Addr} {sp : Sp} {m : Nat} {gV : List V → List V → List V} {E : XK} {tf : TE} {tk : TA} (q : tf σ H fun x H1 => ∃ (a dx : Addr) (fs : List (Str × V)), x = .ref a ∧ H1 a = some (.ins C dx fs) ∧ tk σ H1 fun zs H2 => H2 a = some (.ins C dx fs) ∧ zs.length = m ∧ sp (gV [.ref a] zs) H2 Q E) : tCallOK C sp m gV E tf tk σ H Q := q
/-! ### list(o.m()) -/
structure CalleeGM (P : Program) (w : World) (K : PySem.W.Frag) (mg : Str → Option Value) (base : Heap) (k : Nat) (C : Addr) (m : Str) (ps : List Str) (sp : SpG) : Prop where
  ex : ∃ (f : Addr) (fd : FuncData), GFn P w K mg base k f fd ps sp ∧ Meth K C m f ∧ Binds K fd ps []
  cl : Cls K C
theorem noStop0 {K : PySem.W.Frag} : NoStop K E0 := fun _ _ _ h => h.elim
theorem pe_listM {pl : Sem Bool} {k : Nat} {C : Addr} {m : Str} {ps : List Str} {sp : SpG} {o : Expr} {apos pos pos' p : Pos} {ta : TE} (c : CalleeGM X.prog X.w X.K X.mg X.base k C m ps sp) (ho : PE X o ta) (room : Room (k + 3) X.A) (hg : Gl X "list") (hm : X.mg "list" = none)
    (d1 : starEach [.Call (.Attribute o m apos) [] [] pos'] X.env = (false, eval (.Call (.Attribute o m apos) [] [] pos') X.env) :: starEach [] X.env := by rfl)
    (d4 : eval (.Call (.Attribute o m apos) [] [] pos') X.env = (do
      let ov ← eval o X.env
      standAt apos.atName
      let (f, first) ← holding [ov] (getMethod ov m pl)
      callWith pos' f first (backTo pos' (starEach [] X.env)) (backToKw pos' (keywordEach [] X.env))) := by rfl) :
    PE X (.Call (.Name "list" p) [.Call (.Attribute o m apos) [] [] pos'] [] pos) (tListG (tMethG C m sp [] E0 ta tNil)) := by
  obtain ⟨f, fd, F, hme, hb⟩ := c.ex
  exact pe_listG (pgen_meth0 (dvs := []) (ds := []) ho c.cl hme F (room.mono (by omega)) hb .nil d4) passL noStop0 room hg hm (by decide +kernel) (by decide) (by decide) d1
theorem r_listM {σ : L2.St} {H : Hp} {Q : VK} {C : Addr} {m : Str} {sp : SpG} {ta : TE} (q : ta σ H fun x H1 => ∃ a dx fs, x = .ref a ∧ H1 a = some (.ins C dx fs) ∧ fs.lookup m = none ∧ sp [x] H1 (fun out H2 => ∀ p, H2 p = none → Q (.ref p) (upd H2 p (.lst out))) E0) : tListG (tMethG C m sp [] E0 ta tNil) σ H Q := q
end
/-! ### name = {k: v for ..} -/
section
variable {X : Cx}
theorem sw_dict {kx vx : Expr} {gs : List Comprehension} {scope : Scope} {pos py : Pos} {y : Str} {l : Nat} {env : Env} (h1 : env.scope.kind = .function) (h2 : env.scope.names.lookup y = some .local) (h3 : (py.line == pos.line) = true)
    (h4 : (scope.names.any fun (n, k) => n == y && (k == .local || k == .cell)) = false) : swapsWith (.DictComp kx vx gs scope pos) (some (.Name y py)) l env = pure true := by
  have k1 : env.kindOf y = some .local := h2
  have k2 : env.blockKind = .function := by
    unfold Env.blockKind
    rw [h1]
    rfl
  unfold swapsWith
  simp only [k2, k1, h4, Expr.pos, h3]
  rfl
theorem ps_setDc {i : Nat} {y : Str} {py : Pos} {kx vx tg iter : Expr} {ifs : List Expr} {scope : Scope} {own : List (Str × Nat)} {pos spos : Pos} {wi : TI} {g : TG} {tt : TT} {tk tv : TE} (calm : X.calm = true) (nd : X.N.Nodup) (hy : X.N[i]? = some y) (loc : X.env.scope.names.lookup y = some .local)
    (sw : swapsWith (.DictComp kx vx [⟨tg, iter, ifs, 0⟩] scope pos) (some (.Name y py)) spos.line X.env = pure true) (hi : PI X tg iter wi) (ok : BlkOk X.N X.env.scope scope own)
    (hg : ∀ (s : Shared) (H : Hp) (C : Addr) (cl : List (Str × Addr)) (fp : List Addr), PG (X.blk s H scope (compEnvC scope cl C X.env) fp) tg g)
    (ht : ∀ (s : Shared) (H : Hp) (C : Addr) (cl : List (Str × Addr)) (fp : List Addr), PTs (X.blk s H scope (compEnvC scope cl C X.env) fp) ifs tt)
    (hk : ∀ (s : Shared) (H : Hp) (C : Addr) (cl : List (Str × Addr)) (fp : List Addr), PE (X.blk s H scope (compEnvC scope cl C X.env) fp) kx tk)
    (hv : ∀ (s : Shared) (H : Hp) (C : Addr) (cl : List (Str × Addr)) (fp : List Addr), PE (X.blk s H scope (compEnvC scope cl C X.env) fp) vx tv) (hs : ∀ x, foldedSetIterable iter X.env x = pure x := by intro _; rfl) :
    PS X (.Assign [.Name y py] (.DictComp kx vx [⟨tg, iter, ifs, 0⟩] scope pos) spos) (tAsg (tDc wi g tt tk tv (own.map (·.2))) (gName i)) := by
  refine ⟨fun pins s σ H D I h => ?_⟩
  rw [exec_Assign_Name_used _ _ _ _ sw]
  refine wpAny_bind (wpAny_standAt (wpAny_bind ?_))
  show wpAny _ X.A (do let _ ← comprehension (.DictComp kx vx [⟨tg, iter, ifs, 0⟩] scope pos) scope X.env (firstIterPos [⟨tg, iter, ifs, 0⟩] pos) newDict false (eval iter X.env) (some (assign (.Name y py) X.env))) _ _ s
  have h' : tDc wi g tt tk tv (own.map (·.2)) σ H (fun x H1 => gName i x σ H1 D.nx) := h
  refine wpAny_bind (thn (dc_core (Qf := fun _ s' => SP X pins D .next s') calm nd I hi ok hg ht hk hv hs h' fun L C s' m H' I' q ns f => ?_) fun _ s' z => wpAny_pure (wpAny_pure z))
  show wpAny _ _ (assign (.Name y py) X.env (.ref L)) _ _ _
  refine wpAny_assign_Name (store_ok2 (v := V.ref L) I' nd hy (.inl loc) rfl (fun s2 I2 at2 => ?_) (.inr loc))
  obtain ⟨a, sb, ha⟩ := at2
  obtain ⟨f0, f1, f2, f3, f4, f5⟩ := f
  have ne : C ≠ a := by
    rcases ha with z | z
    · exact fun e => f1 (e.trans z)
    · exact fun e => f4 y a z e.symm
  exact ⟨m, ns.sameBut sb ne, fun h3 sb3 => ⟨_, H', I2.turned (t' := s2.toks) (fun b o hb e => (sb3.2 b hb).trans e) f0 f1 f3 f4 f5, q⟩⟩
end
theorem r_enumS {σ : L2.St} {H : Hp} {ta : TA} {R : It → Hp → Prop} (q : ta σ H fun vs H1 => ∃ z, vs = [.str z] ∧ R (KT.ItES z) H1) : KT.iEnumS ta σ H R := q
theorem r_enumT {K : PySem.W.Frag} {σ : L2.St} {H : Hp} {ta : TA} {R : It → Hp → Prop} (q : ta σ H fun vs H1 => ∃ a xs, vs = [.ref a] ∧ SqT K H1 a xs ∧ R (KT.ItET K a) H1) : KT.iEnumT K ta σ H R := q
theorem r_gif {σ : L2.St} {H : Hp} {D : GEnds} {ys : List V} {tc : TT} {t1 t2 : TGn} (q : tc σ H fun b H1 => if b = true then t1 D ys σ H1 else t2 D ys σ H1) : KGen.tGIf tc t1 t2 D ys σ H := q
theorem r_gfor {σ : L2.St} {H : Hp} {D : GEnds} {ys : List V} {wi : TI} {g : TG} {tb : TGn} (q : wi σ H fun J H1 => ∃ W : Nat → Nat → List V → L2.St → Hp → Prop, (∃ m, W 0 m ys σ H1) ∧ ∀ i m ys σ H, W i m ys σ H →
  (J.stop i H ∧ D.nx ys σ H) ∨ (J.go i H ∧ ∃ N : List V → L2.St → Hp → Prop, (∀ ys' σ' H', N ys' σ' H' → ∃ m', m' < m ∧ W (i + 1) m' ys' σ' H') ∧ ∀ x H', J.yld i H x H' → g x σ H' fun σ2 H2 => tb { D with nx := N, ct := N, bk := D.nx } ys σ2 H2)) : KGen.tGFor wi g tb D ys σ H := q
theorem r_gthen {σ : L2.St} {H : Hp} {D : GEnds} {ys : List V} {t u : TGn} (q : t { D with nx := fun ys' σ' H' => u D ys' σ' H' } ys σ H) : tGThen t u D ys σ H := q
theorem r_gyield {σ : L2.St} {H : Hp} {D : GEnds} {ys : List V} {te : TE} (h : ys.length < sizeLine) (q : te σ H fun x H1 => D.nx (ys ++ [x]) σ H1) : tGYield te D ys σ H := ⟨h, q⟩
theorem r_g0 {σ : L2.St} {H : Hp} {D : GEnds} {ys : List V} (q : D.nx ys σ H) : tG0 D ys σ H := q
end KU

/-! KV: data that is small enough to be shown by repr; what of a pen is kept; comprehensions that draw. -/
namespace KV
open PySem PySem.Spec PyProof.Rows L2 KB KG KO
/-- may be shown: at most n signs, at most k deep -/
structure Sm (n k : Nat) (d : PyData) : Prop where
  ok : d.showable = true
  nod : d.hasDict = false
  deep : d.depth ≤ k
  len : d.shown.length ≤ n
theorem Sm.mono {n k n' k' : Nat} {d : PyData} (h : Sm n k d) (a : n ≤ n') (b : k ≤ k') : Sm n' k' d := ⟨h.ok, h.nod, Nat.le_trans h.deep b, Nat.le_trans h.len a⟩
theorem sm_all {n k : Nat} : ∀ xs : List PyData, (∀ x ∈ xs, Sm n k x) → PyData.showableAll xs = true ∧ PyData.hasDictAll xs = false ∧ PyData.depthAll xs ≤ k ∧ ((PyData.shownAll xs).map (·.length)).sum ≤ xs.length * n
  | [], _ => ⟨rfl, rfl, Nat.zero_le _, by simp [PyData.shownAll]⟩
  | x :: xs, h => by
    obtain ⟨a, b, c, d⟩ := sm_all xs fun y m => h y (List.mem_cons_of_mem _ m)
    have z := h x List.mem_cons_self
    refine ⟨by simp only [PyData.showableAll, z.ok, a, Bool.and_self], by simp only [PyData.hasDictAll, z.nod, b, Bool.or_self], ?_, ?_⟩
    · simp only [PyData.depthAll]
      exact Nat.max_le.mpr ⟨z.deep, c⟩
    · simp only [PyData.shownAll, List.map_cons, List.sum_cons, List.length_cons, Nat.succ_mul]
      have := z.len
      omega
theorem Sm.tuple {n k : Nat} {xs : List PyData} (h : ∀ x ∈ xs, Sm n k x) : Sm (xs.length * (n + 2) + 3) (k + 1) (.tuple xs) := by
  obtain ⟨a, b, c, d⟩ := sm_all xs h
  refine ⟨by simpa only [PyData.showable] using a, by simpa only [PyData.hasDict] using b, by simp only [PyData.depth]; omega, ?_⟩
  have l := tupleText_len_le (PyData.shownAll xs)
  rw [PyData.shownAll_length] at l
  simp only [PyData.shown]
  rw [Nat.mul_add]
  omega
theorem Sm.list {n k : Nat} {xs : List PyData} (h : ∀ x ∈ xs, Sm n k x) : Sm (xs.length * (n + 2) + 3) (k + 1) (.list xs) := by
  obtain ⟨a, b, c, d⟩ := sm_all xs h
  refine ⟨by simpa only [PyData.showable] using a, by simpa only [PyData.hasDict] using b, by simp only [PyData.depth]; omega, ?_⟩
  have l := listText_len_le (PyData.shownAll xs)
  rw [PyData.shownAll_length] at l
  simp only [PyData.shown]
  rw [Nat.mul_add]
  omega
theorem Sm.int {i : Int} (h : i.natAbs < 10 ^ 12) : Sm 13 0 (.int i) := by
  refine ⟨?_, rfl, Nat.le_refl _, PyData.shown_int_le h⟩
  simp only [PyData.showable]
  refine decide_eq_true ?_
  by_cases z : i.natAbs = 0
  · rw [z]; decide
  · exact (Nat.log2_lt z).mpr (Nat.lt_of_lt_of_le h (by decide +kernel))
theorem Sm.big {i : Int} (h : i.natAbs.log2 < 1920) : Sm 1921 0 (.int i) := by
  refine ⟨?_, rfl, Nat.le_refl _, KBL.num_len h⟩
  simp only [PyData.showable]
  exact decide_eq_true h
theorem Sm.bool {b : Bool} : Sm 5 0 (.bool b) := by cases b <;> exact ⟨rfl, rfl, Nat.le_refl _, by decide +kernel⟩
theorem Sm.none : Sm 4 0 .none := ⟨rfl, rfl, Nat.le_refl _, by decide +kernel⟩
theorem Sm.str {z : Str} {n : Nat} (h : (reprText z).length ≤ n) : Sm n 0 (.str z) := ⟨rfl, rfl, Nat.le_refl _, h⟩
theorem r_reprS {K : PySem.W.Frag} {H : Hp} {Q : VK} {v : V} {d : PyData} {n k : Nat} (dp : Dp K H v d) (f : Sm n k d) (hk : k ≤ 60) (hn : n ≤ 1000000) (q : Q (.str d.shown) H) : KG.rRepr K [v] H Q :=
  ⟨v, d, rfl, dp, f.ok, f.nod, Nat.le_trans f.deep hk, Nat.le_trans f.len (Nat.le_trans hn (by decide)), q⟩
/-! ### the pen -/
/-- the pen: its cells, the next index, what is left; room for k draws more -/
def PenC (H : Hp) (p c : Addr) (k : Nat) : Prop := ∃ (ns : List Int) (at_ : Nat) (left : Int),
  H p = some (.lst [.ref c, .int at_, .int left]) ∧ H c = some (.lst (ns.map V.int)) ∧ p ≠ c ∧ ns.length ≤ 63 ∧ at_ + k ≤ 100000
def Keep (p : Addr) (H H' : Hp) : Prop := ∀ b o, H b = some o → b ≠ p → H' b = some o
theorem PenC.mono {H : Hp} {p c : Addr} {j k : Nat} (h : PenC H p c k) (e : j ≤ k) : PenC H p c j := by
  obtain ⟨ns, at_, left, h1, h2, h3, h4, h5⟩ := h
  exact ⟨ns, at_, left, h1, h2, h3, h4, by omega⟩
theorem PenC.up {H H' : Hp} {p c : Addr} {k : Nat} (h : PenC H p c k) (s : Same H H') : PenC H' p c k := by
  obtain ⟨ns, at_, left, h1, h2, h3, h4, h5⟩ := h
  exact ⟨ns, at_, left, s _ _ h1, s _ _ h2, h3, h4, h5⟩
theorem PenC.ne {H : Hp} {p c q : Addr} {k : Nat} (h : PenC H p c k) (n : H q = none) : q ≠ p := by
  obtain ⟨ns, at_, left, h1, h2, h3, h4, h5⟩ := h
  exact (ne_of_none h1 n).symm
theorem PenC.nec {H : Hp} {p c q : Addr} {k : Nat} (h : PenC H p c k) (n : H q = none) : q ≠ c := by
  obtain ⟨ns, at_, left, h1, h2, h3, h4, h5⟩ := h
  exact (ne_of_none h2 n).symm
theorem PenC.keep {H H' : Hp} {p c q : Addr} {k : Nat} (h : PenC H p c k) (s : Keep q H H') (n1 : q ≠ p) (n2 : q ≠ c) : PenC H' p c k := by
  obtain ⟨ns, at_, left, h1, h2, h3, h4, h5⟩ := h
  exact ⟨ns, at_, left, s _ _ h1 n1.symm, s _ _ h2 n2.symm, h3, h4, h5⟩
theorem PenC.lst {H : Hp} {p c : Addr} {k : Nat} (h : PenC H p c k) : ∃ xs, H p = some (.lst xs) := by
  obtain ⟨ns, at_, left, h1, _⟩ := h
  exact ⟨_, h1⟩
theorem PenC.not {H : Hp} {p c b : Addr} {k : Nat} {o : HO} (h : PenC H p c k) (e : H b = some o) (n : ∀ xs, o ≠ .lst xs) : b ≠ p := by
  obtain ⟨xs, h1⟩ := h.lst
  intro z
  rw [z, h1] at e
  exact n xs (Option.some.inj e).symm
def spPen (K : PySem.W.Frag) : Sp := fun vs H Q _ => ∃ (a : Addr) (ns : List Int), vs = [.ref a] ∧ SqL K H a (ns.map V.int) ∧ ns.length ≤ 63 ∧
  ∀ H' p c, Same H H' → H p = none → H c = none → PenC H' p c 100000 → Q (.ref p) H'
def spDraw : Sp := fun vs H Q _ => ∃ (p c : Addr) (many : Int) (k : Nat), vs = [.ref p, .int many] ∧ 0 < many ∧ many < 10000000000 ∧ PenC H p c (k + 1) ∧
  ∀ (r : Int) H', 0 ≤ r → r < many → PenC H' p c k → Keep p H H' → Q (.int r) H'
theorem Keep.tr {p : Addr} {H1 H2 H3 : Hp} (a : Keep p H1 H2) (b : Keep p H2 H3) : Keep p H1 H3 := fun x o e n => b x o (a x o e n) n
theorem Keep.same {p : Addr} {H1 H2 : Hp} (a : Same H1 H2) : Keep p H1 H2 := fun x o e n => a x o e
theorem Keep.refl {p : Addr} {H : Hp} : Keep p H H := fun _ _ e _ => e
open KD
/-- a draw keeps all but lists -/
theorem Keep.sn {p c : Addr} {k : Nat} {H H' : Hp} (s : Keep p H H') (pn : PenC H p c k) : SameN H H' := fun a o e n => s a o e (pn.not e n)
theorem SameN.refl {H : Hp} : SameN H H := fun _ _ e _ => e
theorem SameN.lset {H : Hp} {D : Addr} {xs ys : List V} (h : H D = some (.lst xs)) : SameN H (upd H D (.lst ys)) := fun a o e n => by
  rw [upd_ne (fun z => n xs (by rw [z, h] at e; exact (Option.some.inj e).symm))]
  exact e
theorem SameN.seqT {K : PySem.W.Frag} {H H' : Hp} {a : Addr} {xs : List V} (s : SameN H H') (h : SqT K H a xs) : SqT K H' a xs := by
  rcases h with (h | ⟨o, h⟩) | h
  · exact .inl (.inl (s.tup h))
  · exact .inl (.inr ⟨o, s a _ h fun _ z => by cases z⟩)
  · exact .inr h
theorem Keep.mut {p D : Addr} {H1 H : Hp} {o : HO} (s : Keep p H1 H) (hD : H1 D = none) : Keep p H1 (upd H D o) := fun b o e n => by
  rw [upd_ne (ne_of_none e hD)]
  exact s b o e n
theorem PenC.mut {H : Hp} {p c D : Addr} {k : Nat} {o : HO} (h : PenC H p c k) (n1 : D ≠ p) (n2 : D ≠ c) : PenC (upd H D o) p c k := by
  obtain ⟨ns, at_, left, h1, h2, h3, h4, h5⟩ := h
  exact ⟨ns, at_, left, by rw [upd_ne n1.symm]; exact h1, by rw [upd_ne n2.symm]; exact h2, h3, h4, h5⟩
/-- a comprehension that draws: Kr i: the draws that are left ahead of the i-th element -/
theorem lc_pen {J : It} {n : Nat} {G : Hp → Prop} {Y : Nat → Hp → V → Hp → Prop} (wk : Walk J n G Y) {g : TG} {tt : TT} {te : TE} {vs : List Nat} {σ : L2.St} {H1 : Hp} {Q : VK} {pen c : Addr} (R : Nat → V → Hp → Prop) (Kr : Nat → Nat) (hn : n ≤ 10000) (pn : PenC H1 pen c (Kr 0))
    (up : ∀ i v H H', R i v H → SameN H H' → R i v H') (hG : ∀ H', Keep pen H1 H' → G H')
    (hs : ∀ i x H H' (N : V → Hp → Prop) (B : Hp → Prop), i < n → Keep pen H1 H → PenC H pen c (Kr i) → Y i H x H' → (∀ v H2, Keep pen H H2 → PenC H2 pen c (Kr (i + 1)) → R i v H2 → N v H2) → g x (wipe σ vs) H' fun σ2 H2 => wipe σ2 vs = wipe σ vs ∧ tt σ2 H2 fun b H3 => if b = true then te σ2 H3 N else B H3)
    (hd : ∀ D H' (ys : List V), H1 D = none → Keep pen H1 H' → PenC H' pen c (Kr n) → H' D = some (.lst ys) → ys.length = n → (∀ i v, ys[i]? = some v → R i v H') → Q (.ref D) H') :
    LcW J g tt te vs σ H1 Q := by
  intro D hD
  have dp := pn.ne hD
  have dc := pn.nec hD
  refine lc_it wk (Qd := fun H => Q (.ref D) H) (fun i H => Keep pen H1 H ∧ PenC H pen c (Kr i) ∧ ∃ ys : List V, H D = some (.lst ys) ∧ ys.length = i ∧ ∀ j v, ys[j]? = some v → R j v H) ⟨Keep.same (same_new hD), pn.up (same_new hD), [], upd_same, rfl, fun j v e => by simp at e⟩ (fun i H _ p => hG H p.1) (fun i x H H' hi p y => ?_) (fun H p => ?_)
  · obtain ⟨sm, pi, ys, hy, hl, hR⟩ := p
    refine hs i x H H' _ _ hi sm pi y (fun v H2 k2 p2 r => ?_)
    have e2 := k2 _ _ hy dp
    refine ⟨ys, e2, small1000' (by omega), (sm.tr k2).mut hD, p2.mut dp dc, ys ++ [v], upd_same, by simp [hl], fun j w e => ?_⟩
    by_cases hj : j < ys.length
    · rw [List.getElem?_append_left hj] at e
      exact up _ _ _ _ (hR j w e) ((k2.sn pi).trans (SameN.lset e2))
    · rw [List.getElem?_append_right (by omega)] at e
      have h0 : j - ys.length = 0 := by
        cases z : j - ys.length with
        | zero => rfl
        | succ m => rw [z] at e; simp at e
      rw [h0] at e
      have ew : v = w := Option.some.inj e
      subst ew
      have ej : j = i := by omega
      subst ej
      exact up _ _ _ _ r (SameN.lset e2)
  · obtain ⟨sm, pi, ys, hy, hl, hR⟩ := p
    exact hd D H ys hD sm pi hy hl hR
theorem walk_zipT {K : PySem.W.Frag} {a b : Addr} {xs ys : List V} {n : Nat} (hn : n = min xs.length ys.length) : Walk (RZ.ItzT K a b) n (fun H => SqT K H a xs ∧ SqT K H b ys) (YPair (fun i => xs[i]?) (fun i => ys[i]?)) := by
  subst hn
  refine ⟨fun i _ hi q => ?_, fun _ q => ⟨xs, ys, q.1, q.2, by omega⟩, fun i H v H' _ q y => ?_⟩
  · have h1 : i < xs.length := by omega
    have h2 : i < ys.length := by omega
    exact ⟨xs, ys, xs[i], ys[i], q.1, q.2, by simp [h1], by simp [h2]⟩
  · obtain ⟨T, x, z, h1, h2, h3, h4, h5⟩ := y
    exact ⟨T, x, z, h1, h2, h3, h4 xs q.1, h5 ys q.2⟩
/-- f(e, ..) where the keyword-only parameters lack: their defaults -/
theorem kbn_def {K : PySem.W.Frag} {x qual : Str} {params : Arguments} {body : List Stmt} {scope : Scope} {kws : List (Str × V)} {f : Addr} {fd : FuncData} {ps : List Str} (F : FunD K x qual params body scope [] kws f fd) (n : Nat) (hk : kws ≠ []) (hn : n + kws.length = ps.length)
    (h : ∀ (D : Addr) (doc pm : Value) (an : Option Addr) (cdv ct : Value) (us ks : List Value), us.length = n → ks.length = kws.length →
      KwChain D ((kws.map (·.1)).zip ks) (bindArgs (PySem.W.fnOf x qual params body scope .none (.ref D) doc pm an cdv ct) ⟨us, []⟩) (ps.zip (us ++ ks))) : ∃ gg : List Value → List Value → List Value, KBn K fd ps n [] gg (fun vs _ => vs ++ kws.map (·.2)) := by
  obtain ⟨ds, rd, bd⟩ := F.binds0 n hk hn h
  have ld : ds.length = kws.length := by have := rd.length; simpa using this.symm
  refine ⟨fun us _ => us ++ ds, fun s us ws X l1 l2 => ?_, fun r1 _ => r1.append rd⟩
  exact bd s us X (by rw [List.length_append]; omega)
theorem r_zipA {K : PySem.W.Frag} {σ : L2.St} {H : Hp} {ta : TA} {R : It → Hp → Prop} (q : ta σ H fun vs H1 => ∃ a b xs ys, vs = [.ref a, .ref b] ∧ ((SqL K H1 a xs ∧ SqL K H1 b ys ∧ R (Itz K a b) H1) ∨ (SqT K H1 a xs ∧ SqT K H1 b ys ∧ R (RZ.ItzT K a b) H1))) : RZ.iZipA K ta σ H R := q
theorem atI_mem {α : Type} {xs : List α} {r : Int} (h0 : 0 ≤ r) (h1 : r < (xs.length : Int)) : ∃ x ∈ xs, atI xs r = some x := by
  obtain ⟨n, rfl⟩ : ∃ n : Nat, r = (n : Int) := ⟨r.toNat, by omega⟩
  have hl : n < xs.length := by omega
  exact ⟨xs[n], List.getElem_mem hl, atI_nat (by simp [hl])⟩
/-- what all elements are, as one list -/
theorem choose_list {α : Type} {f : α → V} {Pr : Nat → α → Prop} : ∀ (ys : List V), (∀ (i : Nat) (v : V), ys[i]? = some v → ∃ a, Pr i a ∧ v = f a) → ∃ as : List α, ys = as.map f ∧ as.length = ys.length ∧ ∀ (i : Nat) (a : α), as[i]? = some a → Pr i a
  | ys, h => by
    induction ys generalizing Pr with
    | nil => exact ⟨[], rfl, rfl, fun i a e => by simp at e⟩
    | cons y ys ih =>
      obtain ⟨a, pa, rfl⟩ := h 0 y rfl
      obtain ⟨as, rfl, l, q⟩ := ih (Pr := fun i a => Pr (i + 1) a) fun i v e => h (i + 1) v e
      refine ⟨a :: as, rfl, by simp, fun i b e => ?_⟩
      cases i with
      | zero => cases e; exact pa
      | succ i => exact q i b e
def sign (c : Nat) : Str := ⟨#[c]⟩
theorem str_ext {a b : Str} (h : a.cps.toList = b.cps.toList) : a = b := by
  cases a; cases b
  congr 1
  exact Array.toList_inj.mp h
theorem append_toList (a b : Str) : (a ++ b).cps.toList = a.cps.toList ++ b.cps.toList := Array.toList_append
theorem join_signs : ∀ cs : List Nat, (Str.join ⟨#[]⟩ (cs.map sign)).cps.toList = cs
  | [] => rfl
  | [c] => rfl
  | c :: d :: r => by
    show (sign c ++ (⟨#[]⟩ : Str) ++ Str.join ⟨#[]⟩ ((d :: r).map sign)).cps.toList = c :: d :: r
    rw [append_toList, append_toList, join_signs (d :: r)]
    rfl
theorem sum_signs (cs : List Nat) : ((cs.map sign).map (·.length)).sum = cs.length := by
  induction cs with
  | nil => rfl
  | cons c r ih =>
    rw [List.map_cons, List.map_cons, List.sum_cons, ih, List.length_cons]
    show 1 + r.length = _
    omega
end KV

/-! KW: o op= v by an own operator without an in-place form; ~o; a property read. -/
namespace KW
open PySem PySem.Spec PyProof.Rows L2 KB KG KO KY KR
section
variable {prog : Program} {w : World} {A : Around} {E : Value → Shared → Prop} {s : Shared} {K : PySem.W.Frag} {x C L g g2 : Addr} {hb : Heap} {m : Str → Option Value} {ox : Obj} {od : Option Obj} {T : String} {nm : String}
open PySem.W in
theorem fillsI_no {M : Model} {h : Heap} {cd : ClassData} {add : Bool} (X : K.In h) (hc : clsIn K C = some cd) (hm : cd.mro = [.ref C, .type "object"]) (h1 : findIn K (.ref C) (dunderI nm) = some none) (h2 : findIn K (.type "object") (dunderI nm) = some none) : Looks M h (fillsInplaceSlot (.ref C) nm add) false := by
  intro A Q E s k q
  have Lm : Looks M h (mroOf (.ref C)) cd.mro := (looks_clsIn X hc).andThen (f := fun cd => pure cd.mro) .now
  have Lm' := Lm.keeps k
  obtain ⟨hh, g, d, tt, os⟩ := s
  have X' : K.In hh := X.keeps k
  have L1 : Looks M hh (typeLookup (.ref C) (dunderI nm)) none := looks_findIn X' h1
  have L2 : Looks M hh (typeLookup (.type "object") (dunderI nm)) none := looks_findIn X' h2
  unfold fillsInplaceSlot
  refine wpAny_bind (Lm'.at ?_)
  rw [hm, List.anyM_cons]
  refine wpAny_bind ?_
  refine wpAny_bind (L1.at ?_)
  refine wpAny_pure ?_
  simp only [Bool.false_eq_true, if_false]
  rw [List.anyM_cons]
  refine wpAny_bind ?_
  refine wpAny_bind (L2.at ?_)
  refine wpAny_pure ?_
  simp only [Bool.false_eq_true, if_false]
  exact wpAny_pure q
open PySem.W in
/-- o op= v -/
theorem in_left {op : Operator} {v : Value} {fo ro rc : Option Value} {Z : Value → Shared → Prop} (F : Fr hb L s.heap m) (X0 : K.In hb) (I : InstAt s.heap x ox C od) (lv : Looks (model prog w) s.heap (typeOf v) (.type T)) (c1 : ∃ cd, clsIn K C = some cd ∧ cd.mro = [.ref C, .type "object"])
    (c2 : findIn K (.ref C) (PySem.dunder op.info.2) = some (some (.ref g))) (c3 : isFn K (.ref g) = true) (c4 : findIn K (.ref C) (dunderR op.info.2) = some rc) (c5 : rc = none ∨ ∃ z : Addr, rc = some (.ref z))
    (c6 : findIn K (.type T) (PySem.dunder op.info.2) = some fo) (c7 : findIn K (.type T) (dunderR op.info.2) = some ro) (c8 : subIn K (.type T) (.ref C) = some false)
    (c9 : findIn K (.ref C) (dunderI op.info.2) = some none) (c10 : findIn K (.type "object") (dunderI op.info.2) = some none)
    (go : wpAny (model prog w) A (call (.ref g) [.ref x, v]) (PySem.W.CmpBack Z) E s) : wpAny (model prog w) A (inplaceOp op (.ref x) v) Z E s := by
  have XK := X0.keeps F.keep
  obtain ⟨cd, hcd, hmro⟩ := c1
  rcases oi : op.info with ⟨sy, n1⟩
  rw [oi] at c2 c4 c6 c7 c9 c10
  dsimp only at c2 c4 c6 c7 c9 c10
  have once := ksp_try XK I c2 c3 go
  obtain ⟨sh, sg, sd, stk, sos⟩ := s
  have k1 : Looks (model prog w) sh (typeOf (.ref x)) (.ref C) := I.type
  have k2 : Looks (model prog w) sh (typeOf v) (.type T) := lv
  have k0 : Looks (model prog w) sh (fillsInplaceSlot (.ref C) n1 (op == .Add)) false := fillsI_no XK hcd hmro c9 c10
  have k3 : Looks (model prog w) sh (fillsNumberSlot (.ref C) n1) true := fills_K XK hcd hmro c2
  have k4 : Looks (model prog w) sh (fillsNumberSlot (.type T) n1) _ := ksp_fillsT XK c6 c7
  have k5 : Looks (model prog w) sh (isSubtype (.type T) (.ref C)) false := looks_subIn XK c8
  have k6 : Looks (model prog w) sh (numberSlotInPython (.ref C) n1) true := ksp_inPy XK c2 c4 c5
  have k7 : Looks (model prog w) sh (numberSlotInPython (.type T) n1) false := Looks.of_pure rfl
  have k8 : Looks (model prog w) sh (typeLookup (.type T) (dunderR n1)) ro := looks_findIn XK c7
  revert k4
  generalize ((fo.isSome && !isSeqSlot fo) || (ro.isSome && !isSeqSlot ro)) = rt
  intro k4
  have nq : (Value.ref C == Value.type T) = false := Bool.eq_false_iff.mpr fun q => by cases beq_iff_eq.mp q
  unfold inplaceOp
  simp only [oi]
  refine wpAny_holding ?_
  refine wpAny_bind (k1.at ?_)
  refine wpAny_bind (k0.at ?_)
  simp only [Bool.false_eq_true, if_false]
  refine wpAny_bind ?_
  unfold binaryOp1
  refine wpAny_bind (k1.at (wpAny_bind (k2.at (wpAny_bind (k3.at ?_)))))
  simp only [nq, Bool.false_eq_true, if_false]
  cases rt
  all_goals
    ksp_lk
    refine wpAny_mono once (fun r s' y => ?_) fun _ _ e => e
    obtain ⟨v', rfl, hq⟩ := y
    ksp_lk
    exact hq
end
section
variable {X : Cx} {pins : List (Addr × Obj)} {σ : L2.St} {H : Hp} {st : Shared}
structure OwnIn (P : Program) (w : World) (K : PySem.W.Frag) (mg : Str → Option Value) (base : Heap) (CX : CXT) (k : Nat) (C : Addr) (op : Operator) (ps : List Str) (sp : Sp) : Prop where
  ex : ∃ (g : Addr) (fd : FuncData) (rc fo ro : Option Value), (∃ cd, PySem.W.clsIn K C = some cd ∧ cd.mro = [.ref C, .type "object"]) ∧ PySem.W.findIn K (.ref C) (PySem.dunder op.info.2) = some (some (.ref g)) ∧ PySem.W.isFn K (.ref g) = true ∧ PySem.W.findIn K (.ref C) (dunderR op.info.2) = some rc ∧ (rc = none ∨ ∃ g : Addr, rc = some (.ref g)) ∧
    PySem.W.findIn K (.type "int") (PySem.dunder op.info.2) = some fo ∧ PySem.W.findIn K (.type "int") (dunderR op.info.2) = some ro ∧ PySem.W.subIn K (.type "int") (.ref C) = some false ∧ PySem.W.findIn K (.ref C) (dunderI op.info.2) = some none ∧ PySem.W.findIn K (.type "object") (dunderI op.info.2) = some none ∧
    FnOk P w K mg base CX k g fd ps sp ∧ Binds K fd ps []
/-- x op= v, v an int -/
def tipO (C : Addr) (sp : Sp) (E : XK) : TIp := fun x y H Q => ∃ (a dx : Addr) (fs : List (Str × V)) (i : Int), x = .ref a ∧ H a = some (.ins C dx fs) ∧ y = .int i ∧ sp [x, y] H Q E
theorem ip_own {CX : CXT} {E : XK} {C : Addr} {op : Operator} {ps : List Str} {sp : Sp} {n : Nat} (c : OwnIn X.prog X.w X.K X.mg X.base CX n C op ps sp) (room : Room n X.A) (pass : Passes CX X E) : PIp X op (tipO C sp E) := by
  obtain ⟨g, fd, rc, fo, ro, c1, c2, c3, c4, c5, c6, c7, c8, c9, c10, F, bind⟩ := c.ex
  intro pins st σ h x y v u Z inv rx ry pre
  obtain ⟨a, dx, fs, i, rfl, ha, rfl, z⟩ := pre
  obtain rfl : v = Value.ref a := rx
  obtain ⟨tk, rfl⟩ := (show ∃ t, u = Value.int i t from ry)
  obtain ⟨od, J⟩ := inst_of inv ha
  obtain ⟨m, hF⟩ := inv.fr
  refine in_left (T := "int") hF inv.ok.mod.kin J (PySem.W.Looks.of_pure rfl) c1 c2 c3 c4 c5 c6 c7 c8 c9 c10 ?_
  refine wpAny_mono (run_fn (us := [.ref a, .int i tk]) (vs := [.ref a, .int i]) F room bind .nil pass inv (.cons rfl (.cons ⟨tk, rfl⟩ .nil)) z) (fun w s2 r => ?_) fun _ _ z => z
  obtain ⟨z', h2, inv2, rz, qz⟩ := r
  exact SlX.cmpback rz ⟨z', h2, inv2, rz, qz⟩
structure OwnU (P : Program) (w : World) (K : PySem.W.Frag) (mg : Str → Option Value) (base : Heap) (CX : CXT) (k : Nat) (C : Addr) (ps : List Str) (sp : Sp) : Prop where
  ex : ∃ (g : Addr) (fd : FuncData), PySem.W.findIn K (.ref C) "__invert__" = some (some (.ref g)) ∧ PySem.W.isFn K (.ref g) = true ∧ FnOk P w K mg base CX k g fd ps sp ∧ Binds K fd ps []
def rUnO (C : Addr) (sp : Sp) (E : XK) : V → Hp → VK → Prop := fun x H Q => ∃ (a dx : Addr) (fs : List (Str × V)), x = .ref a ∧ H a = some (.ins C dx fs) ∧ sp [x] H Q E
theorem un_invO {CX : CXT} {E : XK} {C : Addr} {ps : List Str} {sp : Sp} {n : Nat} (c : OwnU X.prog X.w X.K X.mg X.base CX n C ps sp) (room : Room n X.A) (pass : Passes CX X E) : UnR X (unaryOp .Invert) (rUnO C sp E) := by
  obtain ⟨g, fd, c1, c2, F, bind⟩ := c.ex
  intro pins st σ h x v Z inv rx pre
  obtain ⟨a, dx, fs, rfl, ha, z⟩ := pre
  obtain rfl : v = Value.ref a := rx
  obtain ⟨od, J⟩ := inst_of inv ha
  obtain ⟨m, hF⟩ := inv.fr
  refine PySem.W.ksp_inv hF inv.ok.mod.kin J c1 c2 ?_
  exact run_fn (us := [.ref a]) (vs := [.ref a]) F room bind .nil pass inv (.cons rfl .nil) z
structure OwnP (P : Program) (w : World) (K : PySem.W.Frag) (mg : Str → Option Value) (base : Heap) (k : Nat) (C : Addr) (f : Str) (ps : List Str) (sp : Sp) : Prop where
  ex : ∃ (p g : Addr) (fd : FuncData), PropOf K C f p g ∧ FnOk P w K mg base CX0 k g fd ps sp ∧ Binds K fd ps []
  cl : Cls K C
theorem pe_propO {C : Addr} {f : Str} {ps : List Str} {sp : Sp} {n : Nat} {e : Expr} {pos : Pos} {ta : TE} (c : OwnP X.prog X.w X.K X.mg X.base n C f ps sp) (he : PE X e ta) (room : Room (n + 1) X.A)
    (hab : attributeBase e f X.env (eval e X.env) = eval e X.env := by rfl) : PE X (.Attribute e f pos) (tProp C sp [] E0 ta) := by
  obtain ⟨p, g, fd, hp, F, hb⟩ := c.ex
  exact pe_prop he c.cl hp F room hb .nil pass0 hab
theorem r_prop {σ : L2.St} {H : Hp} {Q : VK} {C : Addr} {sp : Sp} {E : XK} {ta : TE} (q : ta σ H fun x H1 => ∃ a dx fs, x = .ref a ∧ H1 a = some (.ins C dx fs) ∧ sp [.ref a] H1 Q E) : tProp C sp [] E ta σ H Q := q
end
/-! ### lists of pairs of ints -/
def PairsAt (H : Hp) (ys : List V) (ps : List (Int × Int)) : Prop := ys.length = ps.length ∧ ∀ (i : Nat) (v : V) (p : Int × Int), ys[i]? = some v → ps[i]? = some p → ∃ a, v = .ref a ∧ H a = some (.tup [.int p.1, .int p.2])
theorem PairsAt.sn {H H' : Hp} {ys : List V} {ps : List (Int × Int)} (h : PairsAt H ys ps) (s : KD.SameN H H') : PairsAt H' ys ps := ⟨h.1, fun i v p h1 h2 => by
  obtain ⟨a, e1, e2⟩ := h.2 i v p h1 h2
  exact ⟨a, e1, s.tup e2⟩⟩
theorem PairsAt.up {H H' : Hp} {ys : List V} {ps : List (Int × Int)} (h : PairsAt H ys ps) (s : Same H H') : PairsAt H' ys ps := h.sn (KD.SameN.of s)
theorem PairsAt.nil {H : Hp} : PairsAt H [] [] := ⟨rfl, fun i v p h1 _ => by simp at h1⟩
theorem PairsAt.append {H : Hp} {ys zs : List V} {ps qs : List (Int × Int)} (h : PairsAt H ys ps) (g : PairsAt H zs qs) : PairsAt H (ys ++ zs) (ps ++ qs) := by
  refine ⟨by simp [h.1, g.1], fun i v p h1 h2 => ?_⟩
  by_cases lt : i < ys.length
  · rw [List.getElem?_append_left lt] at h1
    rw [List.getElem?_append_left (by rw [← h.1]; exact lt)] at h2
    exact h.2 i v p h1 h2
  · rw [List.getElem?_append_right (by omega)] at h1
    rw [List.getElem?_append_right (by rw [← h.1]; omega), ← h.1] at h2
    exact g.2 _ v p h1 h2
theorem PairsAt.one {H : Hp} {a : Addr} {p : Int × Int} (e : H a = some (.tup [.int p.1, .int p.2])) : PairsAt H [.ref a] [p] := by
  refine ⟨rfl, fun i v q h1 h2 => ?_⟩
  cases i with
  | zero => cases h1; cases h2; exact ⟨a, rfl, e⟩
  | succ i => simp at h1
theorem PairsAt.snoc {H : Hp} {ys : List V} {ps : List (Int × Int)} {a : Addr} {p : Int × Int} (h : PairsAt H ys ps) (e : H a = some (.tup [.int p.1, .int p.2])) : PairsAt H (ys ++ [.ref a]) (ps ++ [p]) := h.append (.one e)
theorem PairsAt.tail {H : Hp} {y : V} {p : Int × Int} {ys : List V} {ps : List (Int × Int)} (h : PairsAt H (y :: ys) (p :: ps)) : PairsAt H ys ps := ⟨by simpa using h.1, fun i v q h1 h2 => h.2 (i + 1) v q h1 h2⟩
def dPair (p : Int × Int) : PyData := .tuple [.int p.1, .int p.2]
def dPairs (ps : List (Int × Int)) : PyData := .list (ps.map dPair)
theorem PairsAt.dp {K : PySem.W.Frag} {H : Hp} : ∀ {ys : List V} {ps : List (Int × Int)}, PairsAt H ys ps → DpAll K H ys (ps.map dPair)
  | [], [], _ => .nil
  | [], _ :: _, h => by have := h.1; simp at this
  | _ :: _, [], h => by have := h.1; simp at this
  | y :: ys, p :: ps, h => by
    obtain ⟨a, rfl, e⟩ := h.2 0 y p rfl rfl
    exact .cons (.tup (SqT.of e) (.cons (.int _) (.cons (.int _) .nil))) (PairsAt.dp h.tail)
theorem sm_pair {p : Int × Int} (h1 : p.1.natAbs < 10 ^ 12) (h2 : p.2.natAbs < 10 ^ 12) : KV.Sm 33 1 (dPair p) := by
  refine (KV.Sm.tuple (n := 13) (k := 0) (xs := [.int p.1, .int p.2]) fun y my => ?_).mono (by simp) (Nat.le_refl _)
  rcases List.mem_cons.mp my with rfl | my
  · exact KV.Sm.int h1
  · rw [List.mem_singleton.mp my]
    exact KV.Sm.int h2
theorem sm_pairs {ps : List (Int × Int)} (h : ∀ p ∈ ps, p.1.natAbs < 10 ^ 12 ∧ p.2.natAbs < 10 ^ 12) (l : ps.length ≤ 2000) : KV.Sm 70003 2 (dPairs ps) := by
  refine (KV.Sm.list (n := 33) (k := 1) (xs := ps.map dPair) fun x m => ?_).mono (by rw [List.length_map]; omega) (Nat.le_refl _)
  obtain ⟨p, hp, rfl⟩ := List.mem_map.mp m
  exact sm_pair (h p hp).1 (h p hp).2
/-- the pair that a value is -/
noncomputable def pairV (H : Hp) (v : V) : Int × Int := match v with
  | .ref a => match H a with
    | some (.tup [.int i, .int j]) => (i, j)
    | _ => (0, 0)
  | _ => (0, 0)
theorem pairV_at {H : Hp} {a : Addr} {p : Int × Int} (e : H a = some (.tup [.int p.1, .int p.2])) : pairV H (.ref a) = p := by
  simp only [pairV, e]
theorem PairsAt.map {H : Hp} : ∀ {ys : List V} {ps : List (Int × Int)}, PairsAt H ys ps → ys.map (pairV H) = ps ∧ ∀ y ∈ ys, ∃ t, y = .ref t ∧ H t = some (.tup [.int (pairV H y).1, .int (pairV H y).2])
  | [], [], _ => ⟨rfl, fun y m => (List.not_mem_nil m).elim⟩
  | [], _ :: _, h => by have := h.1; simp at this
  | _ :: _, [], h => by have := h.1; simp at this
  | y :: ys, p :: ps, h => by
    obtain ⟨a, rfl, e⟩ := h.2 0 y p rfl rfl
    obtain ⟨m1, m2⟩ := PairsAt.map h.tail
    have e2 := pairV_at e
    refine ⟨by rw [List.map_cons, e2, m1], fun z m => ?_⟩
    rcases List.mem_cons.mp m with rfl | m
    · exact ⟨a, rfl, by rw [e2]; exact e⟩
    · exact m2 z m
/-- sorted(xs) of pairs that ascend already -/
theorem r_sortedUp {K : PySem.W.Frag} {H : Hp} {Q : VK} {a : Addr} {xs : List V} {ps : List (Int × Int)} (sq : SqL K H a xs) (pa : PairsAt H xs ps) (asc : ps.Pairwise fun p q => p.1 < q.1) (q : ∀ p, H p = none → Q (.ref p) (upd H p (.lst xs))) : rSortedPO K [.ref a] H Q := by
  obtain ⟨m1, m2⟩ := pa.map
  refine ⟨a, xs, pairV H, rfl, sq, m2, fun ys p so st np => ?_⟩
  have asc2 : xs.Pairwise fun x y => (pairV H x).1 < (pairV H y).1 := by
    rw [← m1] at asc
    exact (List.pairwise_map (R := fun p q : Int × Int => p.1 < q.1)).mp asc
  have inj : ∀ x ∈ xs, ∀ y ∈ xs, (pairV H x).1 = (pairV H y).1 → x = y := by
    have key : ∀ l : List V, (l.Pairwise fun x y => (pairV H x).1 < (pairV H y).1) → ∀ x ∈ l, ∀ y ∈ l, (pairV H x).1 = (pairV H y).1 → x = y := by
      intro l
      induction l with
      | nil => intro _ x hx; exact (List.not_mem_nil hx).elim
      | cons z l ih =>
        intro pw x hx y hy e
        obtain ⟨p1, p2⟩ := List.pairwise_cons.mp pw
        rcases List.mem_cons.mp hx with rfl | hx2 <;> rcases List.mem_cons.mp hy with rfl | hy2
        · rfl
        · have := p1 y hy2; omega
        · have := p1 x hx2; omega
        · exact ih p2 x hx2 y hy2 e
    exact key xs asc2
  have le_no : ∀ {x y : V}, ltP (pairV H) y x = false → (pairV H x).1 ≤ (pairV H y).1 := fun {x y} h => by
    have z := SrtO.lexB_no.mp h
    omega
  have e : ys = xs := by
    refine List.Perm.eq_of_pairwise (le := fun x y => (pairV H x).1 ≤ (pairV H y).1) (fun x y hx hy h1 h2 => ?_) ?_ ?_ st.perm
    · exact inj x (st.perm.mem_iff.mp hx) y hy (by omega)
    · exact List.Pairwise.imp (fun {x y} h => le_no h) so
    · exact asc2.imp fun h => by omega
  rw [e]
  exact q p np
end KW

/-! KN: methods of own classes that say super().m(..) at their own level (in a statement of the body, in an if, in a return). -/
namespace KN
open PySem PySem.Spec PyProof.Rows L2 KB KG KO
/-! ### binding by position -/
theorem lookup_nd {y : Str} {u : Value} : ∀ {l : List (Str × Value)}, (l.map (·.1)).Nodup → (y, u) ∈ l → l.lookup y = some u
  | [], _, m => by cases m
  | (k, v) :: l, nd, m => by
    obtain ⟨h1, h2⟩ := List.nodup_cons.mp nd
    rcases List.mem_cons.mp m with e | m
    · cases e
      simp [List.lookup]
    · have hk : (y == k) = false := by
        refine Bool.eq_false_iff.mpr fun z => h1 ?_
        rw [← beq_iff_eq.mp z]
        exact List.mem_map.mpr ⟨_, m, rfl⟩
      rw [List.lookup, hk]
      exact lookup_nd h2 m
theorem zip_fst : ∀ {ps : List Str} {us : List Value}, ps.length = us.length → (ps.zip us).map (·.1) = ps
  | [], [], _ => rfl
  | [], _ :: _, h => by simp at h
  | _ :: _, [], h => by simp at h
  | p :: ps, u :: us, h => by
    rw [List.zip_cons_cons, List.map_cons, zip_fst (by simpa using h)]
theorem zip_get {ps : List Str} {us : List Value} {i : Nat} {y : Str} {u : Value} (h1 : ps[i]? = some y) (h2 : us[i]? = some u) : (y, u) ∈ ps.zip us := by
  refine List.mem_of_getElem? (i := i) ?_
  rw [List.getElem?_zip_eq_some]
  exact ⟨h1, h2⟩
/-- a scope of such a def -/
structure SScope (N ps : List Str) (sc : Scope) : Prop where
  kind : sc.kind = .function
  co : sc.isCoroutine = false
  gen : sc.isGenerator = false
  nd : N.Nodup
  pre : N.take ps.length = ps
  par : ∀ x ∈ ps, sc.names.lookup x = some .local
  nocell : ∀ y ∈ sc.names, y.2 ≠ .cell
  nofree : ∀ y ∈ sc.names, y.2 = .free → y.1 = "__class__"
  sup : sc.names.lookup ("super" : Str) = some .globalImplicit
  cls : sc.names.lookup ("__class__" : Str) = some .free
theorem SScope.free {N ps : List Str} {sc : Scope} (S : SScope N ps sc) : ∀ y, sc.names.lookup y = some .free → y = "__class__" := fun y e => S.nofree (y, .free) (PySem.mem_of_lookup e) rfl
theorem inv_supN {CXx : CXT} {P : Program} {w : World} {K : PySem.W.Frag} {mg : Str → Option Value} {base : Heap} {N ps : List Str} {ql : Str} {sc : Scope} {f cda cc : Addr} {A : Around} {out : List Env} {st : Shared} {h : Hp} {W : XK} {us : List Value} {vs : List V} {h1 : Heap} {tk : Nat} {cl : Value} {cld : Option Addr} {csl : Array (Option Value)} {cv : Option Value}
    (S : SScope N ps sc) (e0 : Env0 P w K mg base A out st h) (hd : A.handled = none) (hl : vs.length = ps.length)
    (hc : K.lookup cc = some ⟨cl, cld, .cell cv, csl⟩) (hns : h1.Ns st.heap.objs.size (fun y => (ps.zip us).reverse.lookup y)) (kp : ∀ b o, st.heap.get? b = some o → h1.get? b = some o) (r : Vals vs us) :
    Inv (KX.supCx CXx P w K mg base N ql sc f cda cc A out st h W) [] (L2.start N vs) h { st with heap := h1, toks := tk } := by
  have noA : ∀ b : Addr, b ∉ (KX.supCx CXx P w K mg base N ql sc f cda cc A out st h W).ex := fun b z => absurd (show b ∈ ([] : List Addr) from z) (by simp)
  have ccb := e0.bs _ _ (e0.mod.kin _ _ hc)
  have hpl : ps.length ≤ N.length := by have := congrArg List.length S.pre; rw [List.length_take] at this; omega
  refine ⟨⟨e0.mod, S.kind, rfl, rfl, Nat.le_refl _, fun y z c a b => (KX.cls_only a).1.trans (KX.cls_only b).1.symm, fun y hy => ?_, fun y c z _ => ?_, fun _ => hd, Around.frames_deeper e0.frames, .inr ⟨rfl, rfl⟩, fun b z => absurd z (noA b), e0.bs, e0.bsz, fun b _ _ => noA b, fun b z => absurd z (noA b), e0.funs, e0.frf⟩,
    rfl, e0.bare, Un.kept kp, ⟨_, hns, fun i y v a b c => ?_⟩, fun y c e => ?_, e0.hok.fresh (Nat.le_refl _), fun y c e => ?_, fun p hp => absurd (show p ∈ ([] : List (Addr × Obj)) from hp) (by simp), e0.hok.kept kp, ?_⟩
  · have hy : sc.names.lookup y = some .cell ∨ sc.names.lookup y = some .free := hy
    rcases hy with hy | hy
    · exact absurd rfl (S.nocell _ (PySem.mem_of_lookup hy))
    · rw [S.free y hy]
      exact ⟨cc, rfl⟩
  · have z : false = true := z
    cases z
  · have hi : i < vs.length := by
      unfold L2.start at b
      by_cases hi : i < vs.length
      · exact hi
      · rw [List.getElem?_append_right (by simpa using hi)] at b
        rw [List.getElem?_replicate] at b
        split at b <;> cases b
    have ha : vs[i]? = some v := by
      unfold L2.start at b
      rw [List.getElem?_append_left (by simpa using hi), List.getElem?_map] at b
      cases e : vs[i]? with
      | none => rw [e] at b; cases b
      | some a => rw [e] at b; cases b; rfl
    obtain ⟨u, hu, rv⟩ := r.get ha
    have hp : ps[i]? = some y := by
      rw [← S.pre, List.getElem?_take_of_lt (by omega)]; exact a
    have ndP : ps.Nodup := by rw [← S.pre]; exact S.nd.sublist (List.take_sublist _ _)
    refine ⟨u, rv, .inl ⟨S.par y (List.mem_of_getElem? hp), ?_⟩⟩
    refine lookup_nd ?_ (List.mem_reverse.mpr (zip_get hp hu))
    rw [List.map_reverse, zip_fst (by rw [← r.length, hl])]
    exact List.pairwise_reverse.mpr (List.Pairwise.imp Ne.symm ndP)
  · obtain ⟨rfl, rfl⟩ := KX.cls_only e
    exact ⟨cv, _, kp _ _ ccb.1, rfl⟩
  · obtain ⟨rfl, rfl⟩ := KX.cls_only e
    exact ccb.2
  · unfold L2.start
    show _ = N.length
    rw [List.length_append, List.length_map, List.length_replicate]
    omega
/-! ### statements at the def's own level -/
structure PEA (X : Cx) (c : Code) (e : Expr) (t : TE) : Prop where
  run : ∀ (pins : List (Addr × Obj)) (s : Shared) (σ : L2.St) (H : Hp) (Q : VK), Inv X pins σ H s → t σ H Q → _root_.PySem.wpAt (model X.prog X.w) X.A c (eval e X.env) (EP X pins σ Q) X.xe s
structure PSA (X : Cx) (c : Code) (st : Stmt) (t : TS) : Prop where
  run : ∀ (pins : List (Addr × Obj)) (s : Shared) (σ : L2.St) (H : Hp) (D : Ends), Inv X pins σ H s → t D σ H → _root_.PySem.wpAt (model X.prog X.w) X.A c (exec st X.env) (SP X pins D) X.xe s
structure PSsA (X : Cx) (c : Code) (st : List Stmt) (t : TS) : Prop where
  run : ∀ (pins : List (Addr × Obj)) (s : Shared) (σ : L2.St) (H : Hp) (D : Ends), Inv X pins σ H s → t D σ H → _root_.PySem.wpAt (model X.prog X.w) X.A c (execs st X.env) (SP X pins D) X.xe s
section
variable {X : Cx} {c : Code} {st : Stmt} {rest : List Stmt} {t u : TS} {e : Expr} {te : TE} {pos : Pos}
theorem psa_any (h : PS X st t) : PSA X c st t := ⟨fun pins s σ H D I q => wpAt_of_wpAny (h.run pins s σ H D I q)⟩
theorem pssa_any (h : PSs X rest t) : PSsA X c rest t := ⟨fun pins s σ H D I q => wpAt_of_wpAny (h.run pins s σ H D I q)⟩
theorem pssa_cons (a : PSA X c st t) (b : PSsA X c rest u) : PSsA X c (st :: rest) (tSeq t u) := by
  refine ⟨fun pins s σ H D I q => ks_wpAt_execs_cons (PySem.wpAt_mono (a.run pins s σ H { D with nx := fun σ' H' => u D σ' H' } I q) (fun f s' z => ?_) fun _ _ z => z)⟩
  cases f with
  | next => obtain ⟨σ', H', J, q'⟩ := z; exact b.run pins s' σ' H' D J q'
  | brk => exact z
  | cont => exact z
  | ret u => exact z
theorem pssa_one (a : PSA X c st t) : PSsA X c [st] t := by
  refine ⟨fun pins s σ H D I q => ks_wpAt_execs_cons (PySem.wpAt_mono (a.run pins s σ H D I q) (fun f s' z => ?_) fun _ _ z => z)⟩
  cases f with
  | next => obtain ⟨σ', H', J, q'⟩ := z; exact wpAt_of_wpAny (pss_nil.run pins s' σ' H' D J q')
  | brk => exact z
  | cont => exact z
  | ret u => exact z
theorem psa_ret (he : PEA X c e te) : PSA X c (.Return (some e) pos) (tRet te) := by
  refine ⟨fun pins s σ H D I q => ks_wpAt_Return_some (PySem.wpAt_mono (he.run pins s σ H _ I q) (fun v s' z => ?_) fun _ _ z => z)⟩
  obtain ⟨x, H', J, r, q'⟩ := z
  exact ⟨x, σ, H', J, r, q'⟩
theorem psa_set {i : Nat} {x : Str} {pos' : Pos} (hN : X.N.Nodup) (hi : X.N[i]? = some x) (hx : X.env.scope.names.lookup x = some .local) (he : PEA X c e te) (hs : swapsWith e (some (.Name x pos')) pos.line X.env = pure false := by rfl) : PSA X c (.Assign [.Name x pos'] e pos) (tAsg te (gName i)) := by
  refine ⟨fun pins s σ H D I q => ks_wpAt_Assign_Name (PySem.wpAt_mono (he.run pins s σ H _ I q) (fun v s' z => ?_) fun _ _ z => z) hs⟩
  obtain ⟨y, H', J, r, q'⟩ := z
  exact store_ok J hN hi (.inl hx) r (fun s2 I2 => ⟨_, H', I2, q'⟩) (.inr hx)
theorem psa_expr (he : PEA X c e te) (hint : interactive X.env = false) (hs : swapsWith e none pos.line X.env = pure false := by rfl) : PSA X c (.Expr e pos) (tDrop te) := by
  refine ⟨fun pins s σ H D I q => ks_wpAt_Expr_any (PySem.wpAt_mono (he.run pins s σ H _ I q) (fun v s' z => ?_) fun _ _ z => z) hint hs⟩
  obtain ⟨y, H', J, r, q'⟩ := z
  exact ⟨σ, H', J, q'⟩
theorem psa_if {test : Expr} {b1 b2 : List Stmt} {tc : TT} {t1 t2 : TS} (hc : PT X test tc) (h1 : PSsA X c b1 t1) (h2 : PSsA X c b2 t2) : PSA X c (.If test b1 b2 pos) (tIfS tc t1 t2) := by
  refine ⟨fun pins s σ H D I q => ks_wpAt_If (wpAt_of_wpAny (wpAny_mono (hc.run pins s σ H _ I q) (fun b s' z => ?_) fun _ _ z => z))⟩
  obtain ⟨H', J, q'⟩ := z
  cases b with
  | true => exact h1.run pins s' σ H' D J q'
  | false => exact h2.run pins s' σ H' D J q'
end
/-! ### such a def -/
structure SupF (P : Program) (K : PySem.W.Frag) (f : Addr) (fd : FuncData) (name qual : Str) (params : Arguments) (body : List Stmt) (scope : Scope) (cda cc D : Addr) : Prop where
  fn : ∃ (oc dV kV doc pm ct : Value) (an od : Option Addr) (osl : Array (Option Value)), fd = PySem.W.ksFn name qual params body scope dV kV doc pm an (.ref cda) ct cc ∧ K.lookup f = some ⟨oc, od, .func fd, osl⟩
  code : PySem.W.codeIn K (.ref cda) qual = true
  cd : ∃ (ccl : Value) (cdd : Option Addr) (vs : Array Value) (ccs : Array (Option Value)) (file : Str) (tf : Tok), K.lookup cda = some ⟨ccl, cdd, .fields vs, ccs⟩ ∧ vs[2]? = some (.str file tf) ∧ ((P.main.file : Str) == file) = true
  cell : ∃ (cl : Value) (cld : Option Addr) (csl : Array (Option Value)), K.lookup cc = some ⟨cl, cld, .cell (some (.ref D)), csl⟩
  top : (P.main.scope.names.lookup ("super" : Str)).isSome = false
  opq : PySem.W.nsIn K cStatics "thirdparty.any" = some none
  dcl : ∃ cdD, PySem.W.clsIn K D = some cdD
section
variable {P : Program} {w : World} {K : PySem.W.Frag} {mg : Str → Option Value} {base : Heap} {f cda cc D : Addr} {fd : FuncData} {name qual : Str} {params : Arguments} {body : List Stmt} {scope : Scope} {N ps : List Str}
theorem SupF.ok {CX : CXT} {k : Nat} {sp : Sp} (F : SupF P K f fd name qual params body scope cda cc D) (S : SScope N ps scope) (len : ∀ vs H Q E, sp vs H Q E → vs.length = ps.length)
    (hbody : ∀ (A : Around) (outer : List Env) (s : Shared) (H : Hp) (vs : List V) (Q : VK) (E : XK), Room k (A.deeper (PySem.W.ksEnv qual scope s.heap.objs.size f (.ref cda) cc)) → sp vs H Q E →
      ∃ t, PSsA (KX.supCx CX P w K mg base N qual scope f cda cc A outer s H E) (.func body (PySem.W.ksEnv qual scope s.heap.objs.size f (.ref cda) cc)) body t ∧ t { nx := fun _ H' => Q .non H', rt := Q } (L2.start N vs) H) :
    FnOk P w K mg base CX (k + 1) f fd ps sp := by
  refine ⟨len, fun A outer st h args us vs Q E room env bind r pre => ?_⟩
  have hl := len _ _ _ _ pre
  obtain ⟨oc, dV, kV, doc, pm, ct, an, od, osl, rfl, lf⟩ := F.fn
  obtain ⟨cl, cld, csl, lcc⟩ := F.cell
  have kin : K.In st.heap := env.mod.kin.keeps fun b o e => (env.bs b o e).1
  have nolim : st.heap.NoLimit := env.mod.nolimit.keeps fun b o e => (env.bs b o e).1
  refine ks_codeAny_call_defAt (binds := ps.zip us) room.depth (kin _ _ lf) rfl nolim (PySem.W.codeRec_of kin F.code) rfl bind S.nocell (fun y hy => S.par y.1 (List.of_mem_zip (show (y.1, y.2) ∈ ps.zip us from hy)).1) (fun h1 hns kp => ?_) S.co S.gen S.kind
  obtain ⟨t, ht, hq⟩ := hbody A outer st h vs Q E (room.deeper _) pre
  have I : Inv (KX.supCx CX P w K mg base N qual scope f cda cc A outer st h E) [] (L2.start N vs) h { st with heap := h1, toks := st.toks + (ps.zip us).length } := inv_supN S env room.hd hl lcc hns kp r
  refine PySem.wpAt_mono (ht.run [] _ (L2.start N vs) h _ I hq) (fun fl s' hs => ?_) fun e s' hs => hs
  cases fl with
  | ret u => obtain ⟨v, _, h2, J, rel, z⟩ := hs; exact ⟨v, h2, J.os, J.bare, J.base, J.hok, rel, z⟩
  | next => obtain ⟨_, h2, J, z⟩ := hs; exact ⟨.non, h2, J.os, J.bare, J.base, J.hok, rfl, z⟩
  | brk => exact (let ⟨_, _, _, z⟩ := hs; z : False).elim
  | cont => exact (let ⟨_, _, _, z⟩ := hs; z : False).elim
/-- super().m(e, ..): self stands in the slot 0; C: the object's class -/
def tSup (C : Addr) (sp : Sp) (E : XK) (t : TA) : TE := fun σ H Q => ∃ (a dx : Addr) (fs : List (Str × V)), σ[0]? = some (some (.ref a)) ∧ H a = some (.ins C dx fs) ∧ t σ H fun vs H1 => sp (.ref a :: vs) H1 Q E
structure SupM (P : Program) (w : World) (K : PySem.W.Frag) (mg : Str → Option Value) (base : Heap) (CX : CXT) (k : Nat) (C D : Addr) (m : Str) (ps : List Str) (sp : Sp) : Prop where
  ex : ∃ (g : Addr) (gd : FuncData), PySem.W.ks_superIn K C D m = some (some (.ref g)) ∧ PySem.W.typeIn K (.ref g) = some (.type "function") ∧ PySem.W.fnIn K g = true ∧ FnOk P w K mg base CX k g gd ps sp ∧ Binds K gd ps []
  sub : PySem.W.mroIn K C (.ref D) = some true
theorem sup_core {CX1 : CXT} {C g : Addr} {m : Str} {E : XK} {A : Around} {outer : List Env} {st : Shared} {H0 : Hp} {p0 p1 p2 p4 : Pos} {es : List Expr} {pl : Sem Bool} {ar : Arg} {pins : List (Addr × Obj)} {s : Shared} {σ : L2.St} {H : Hp} {Z : Value → Shared → Prop} {a dx : Addr} {fs : List (Str × V)}
    (F : SupF P K f fd name qual params body scope cda cc D) (S : SScope N ps scope) (har : (params.posonlyargs ++ params.args).head? = some ar) (hself : N[0]? = some ar.arg) (hpar : ar.arg ∈ ps) (hm : mg "super" = none) (hin : PySem.W.ks_superIn K C D m = some (some (.ref g))) (hty : PySem.W.typeIn K (.ref g) = some (.type "function")) (sub : PySem.W.mroIn K C (.ref D) = some true) (hat : (m == ("__class__" : Str)) = false)
    (I : Inv (KX.supCx CX1 P w K mg base N qual scope f cda cc A outer st H0 E) pins σ H s) (h0 : σ[0]? = some (some (.ref a))) (hH : H a = some (.ins C dx fs))
    (hev : eval (.Call (.Attribute (.Call (.Name "super" p0) [] [] p1) m p2) es [] p4) (PySem.W.ksEnv qual scope st.heap.objs.size f (.ref cda) cc) = (do
      let ov ← attributeBase (.Call (.Name "super" p0) [] [] p1) m (PySem.W.ksEnv qual scope st.heap.objs.size f (.ref cda) cc) (eval (.Call (.Name "super" p0) [] [] p1) (PySem.W.ksEnv qual scope st.heap.objs.size f (.ref cda) cc))
      standAt p2.atName
      let (g, first) ← holding [ov] (getMethod ov m pl)
      callWith p4 g first (backTo p4 (starEach es (PySem.W.ksEnv qual scope st.heap.objs.size f (.ref cda) cc))) []) )
    (go : ∀ q s', base.get? q = none → Inv (KX.supCx CX1 P w K mg base N qual scope f cda cc A outer st H0 E) ((q, PySem.W.methodObj (.ref g) (.ref a)) :: pins) σ H s' → wpAny (model P w) (KX.supCx CX1 P w K mg base N qual scope f cda cc A outer st H0 E).A (callWith p4 (.ref q) [] (backTo p4 (starEach es (PySem.W.ksEnv qual scope st.heap.objs.size f (.ref cda) cc))) []) Z (KX.supCx CX1 P w K mg base N qual scope f cda cc A outer st H0 E).xe s') :
    _root_.PySem.wpAt (model P w) (KX.supCx CX1 P w K mg base N qual scope f cda cc A outer st H0 E).A (.func body (PySem.W.ksEnv qual scope st.heap.objs.size f (.ref cda) cc)) (eval (.Call (.Attribute (.Call (.Name "super" p0) [] [] p1) m p2) es [] p4) (PySem.W.ksEnv qual scope st.heap.objs.size f (.ref cda) cc)) Z (KX.supCx CX1 P w K mg base N qual scope f cda cc A outer st H0 E).xe s := by
  obtain ⟨oc, dV, kV, doc, pm, ct, an, od, osl, rfl, lf⟩ := F.fn
  obtain ⟨ccl, cdd, vs, ccs, file, tf, lcd, hvs, hfile⟩ := F.cd
  obtain ⟨cl, cld, csl, lcc⟩ := F.cell
  obtain ⟨cdD, hD⟩ := F.dcl
  refine ks_wpAt_MethodCall (pl := pl) (env := PySem.W.ksEnv qual scope st.heap.objs.size f (.ref cda) cc) ?_ hev
  have kin : K.In s.heap := I.kIn
  obtain ⟨ml, hns, hlk⟩ := I.loc
  have hloc : scope.names.lookup ar.arg = some .local := S.par ar.arg hpar
  obtain ⟨u0, ru0, hu0⟩ := hlk 0 ar.arg (.ref a) hself h0 (.inl hloc)
  obtain rfl : u0 = Value.ref a := ru0
  have hself2 : ml ar.arg = some (.ref a) := by
    rcases hu0 with ⟨_, e⟩ | ⟨z, _⟩
    · exact e
    · rcases z with z | z
      · have z2 : scope.names.lookup ar.arg = some .cell := z
        rw [hloc] at z2; cases z2
      · have z2 : scope.names.lookup ar.arg = some .free := z
        rw [hloc] at z2; cases z2
  obtain ⟨oinst, J⟩ := inst_of I hH
  obtain ⟨mb, b1, b2⟩ := I.ok.mod.blt
  have kb : ∀ b o, base.get? b = some o → s.heap.get? b = some o := fun b o e => (I.bs b o e).1
  obtain ⟨hh, g0, d0, t0, os0⟩ := s
  obtain ⟨oD, hD1, hD2⟩ : ∃ oD, hh.get? D = some oD ∧ oD.data = .cls cdD := by
    unfold PySem.W.clsIn at hD
    split at hD
    · rename_i c d cd' sl ho
      cases hD
      exact ⟨_, kin _ _ ho, rfl⟩
    · cases hD
  refine ks_wpAt_super_base (env := PySem.W.ksEnv qual scope st.heap.objs.size f (.ref cda) cc) S.sup S.cls hat rfl (kin _ _ lf) rfl har rfl (kin _ _ lcd) rfl hvs hfile F.top ?_
  refine PySem.W.ks_loadName_global S.kind S.sup (Calls.loadGlobal_builtin (env := PySem.W.ksEnv qual scope st.heap.objs.size f (.ref cda) cc) (I.ok.mod.glob.keeps kb) hm (b1.keeps kb) ((b2 "super" (by decide)).trans (by decide +kernel)) ⟨rfl, ?_⟩)
  refine wpAny_loadName_free S.kind S.cls rfl ⟨_, kin _ _ lcc, rfl⟩ ?_
  refine wpAny_loadName_local S.kind hloc hns (v := .ref a) hself2 ?_
  refine ks_wpAny_isType_cls hD1 hD2 ⟨rfl, ?_⟩
  refine ks_wpAny_call_super hD1 hD2 J.at_ J.cls (fun c e => ?_) (PySem.W.looks_mroIn kin sub) (fun h2 e2 kp2 => ?_)
  · have := J.no
    unfold PySem.W.notCls at this
    rw [e] at this
    exact Bool.noConfusion this
  have I2 : Inv (KX.supCx CX1 P w K mg base N qual scope f cda cc A outer st H0 E) pins σ H ⟨h2, g0, d0, t0, os0⟩ := I.kept (t' := t0) kp2
  have kin2 : K.In h2 := kin.keeps kp2
  cases hc : PySem.W.clsIn K C with
  | none => unfold PySem.W.ks_superIn at hin; rw [hc] at hin; cases hin
  | some cdC =>
  have hin2 := hin
  unfold PySem.W.ks_superIn at hin2
  rw [hc] at hin2
  obtain ⟨of, hof, hofc⟩ : ∃ of, h2.get? g = some of ∧ of.cls = .type "function" := by
    have ht' : (K.lookup g).map (·.cls) = some (.type "function") := hty
    cases z : K.lookup g with
    | none => rw [z] at ht'; cases ht'
    | some of => rw [z] at ht'; exact ⟨of, kin2 _ _ z, Option.some.inj ht'⟩
  obtain ⟨oinst2, J2⟩ := inst_of I2 hH
  refine ks_wpAny_getMethod_super e2 (PySem.W.looks_opaque kin2 F.opq) (l₀ := cdC.mro) (fun A Q E s k q => wpAny_bind ((PySem.W.looks_clsIn kin2 hc) A _ E s k (wpAny_pure q))) rfl kin2 hin2 hof hofc (PySem.W.ks_ne kin2 J2 hc) hat ?_
  have I3 : Inv (KX.supCx CX1 P w K mg base N qual scope f cda cc A outer st H0 E) ((h2.objs.size, PySem.W.methodObj (.ref g) (.ref a)) :: pins) σ H ⟨h2.push (PySem.W.methodObj (.ref g) (.ref a)), g0, d0, t0 + 1, os0⟩ := ClX.met_new I2
  exact go _ _ (ClX.base_none I2 (Nat.le_refl _)) I3
theorem sup_run {CX1 CX2 : CXT} {k : Nat} {g a q : Addr} {gd : FuncData} {ps2 : List Str} {sp : Sp} {E E2 : XK} {A : Around} {outer : List Env} {st : Shared} {H0 H1 : Hp} {us : List Value} {xs : List V} {Q : VK} {pins : List (Addr × Obj)} {s4 : Shared} {σ : L2.St}
    (room : Room k (KX.supCx CX1 P w K mg base N qual scope f cda cc A outer st H0 E).A) (pass : Passes CX2 (KX.supCx CX1 P w K mg base N qual scope f cda cc A outer st H0 E) E2) (G : FnOk P w K mg base CX2 k g gd ps2 sp) (bind : Binds K gd ps2 []) (I4 : Inv (KX.supCx CX1 P w K mg base N qual scope f cda cc A outer st H0 E) ((q, PySem.W.methodObj (.ref g) (.ref a)) :: pins) σ H1 s4) (rv : Vals xs us) (q1 : sp (.ref a :: xs) H1 Q E2) :
    wpAny (model P w) (KX.supCx CX1 P w K mg base N qual scope f cda cc A outer st H0 E).A (call (.ref q) us) (EP (KX.supCx CX1 P w K mg base N qual scope f cda cc A outer st H0 E) pins σ Q) (KX.supCx CX1 P w K mg base N qual scope f cda cc A outer st H0 E).xe s4 := by
  have z : wpAny (model P w) (KX.supCx CX1 P w K mg base N qual scope f cda cc A outer st H0 E).A (call (.ref q) us) (EP (KX.supCx CX1 P w K mg base N qual scope f cda cc A outer st H0 E) ((q, PySem.W.methodObj (.ref g) (.ref a)) :: pins) σ Q) (KX.supCx CX1 P w K mg base N qual scope f cda cc A outer st H0 E).xe s4 := by
    refine wpAny_call (PySem.W.method_call (ClX.pin_at I4) ?_)
    have rel : Vals (V.ref a :: xs) (Value.ref a :: us) := .cons rfl rv
    have size : ((Value.ref a :: us) ++ []).length = ps2.length := by rw [List.append_nil, ← rel.length]; exact G.len _ _ _ _ q1
    have bd := bind s4 (Value.ref a :: us) I4.kIn size
    rw [List.append_nil] at bd
    refine codeAny_mono (G.run _ (KX.supCx CX1 P w K mg base N qual scope f cda cc A outer st H0 E).stack s4 H1 ⟨Value.ref a :: us, []⟩ _ _ Q E2 room I4.env0 bd rel q1) fun res s5 y => ?_
    match res, y with
    | .error e, y => exact pass _ σ H1 s4 e s5 I4 y
    | .ok (.ret u), y => exact I4.after y
    | .ok .next, y => exact y.elim
    | .ok .brk, y => exact y.elim
    | .ok .cont, y => exact y.elim
  exact thn z fun _ _ y => ClX.unpinE y
theorem pea_super0 {CX1 CX2 : CXT} {k : Nat} {C : Addr} {m : Str} {ps2 : List Str} {sp : Sp} {E E2 : XK} {A : Around} {outer : List Env} {st : Shared} {H0 : Hp} {p0 p1 p2 p4 : Pos} {pl : Sem Bool} {ar : Arg}
    (F : SupF P K f fd name qual params body scope cda cc D) (S : SScope N ps scope) (har : (params.posonlyargs ++ params.args).head? = some ar) (hself : N[0]? = some ar.arg) (hpar : ar.arg ∈ ps) (hm : mg "super" = none) (c : SupM P w K mg base CX2 k C D m ps2 sp) (room : Room k (KX.supCx CX1 P w K mg base N qual scope f cda cc A outer st H0 E).A)
    (pass : Passes CX2 (KX.supCx CX1 P w K mg base N qual scope f cda cc A outer st H0 E) E2) (hat : (m == ("__class__" : Str)) = false := by decide)
    (hev : eval (.Call (.Attribute (.Call (.Name "super" p0) [] [] p1) m p2) [] [] p4) (PySem.W.ksEnv qual scope st.heap.objs.size f (.ref cda) cc) = (do
      let ov ← attributeBase (.Call (.Name "super" p0) [] [] p1) m (PySem.W.ksEnv qual scope st.heap.objs.size f (.ref cda) cc) (eval (.Call (.Name "super" p0) [] [] p1) (PySem.W.ksEnv qual scope st.heap.objs.size f (.ref cda) cc))
      standAt p2.atName
      let (g, first) ← holding [ov] (getMethod ov m pl)
      callWith p4 g first (backTo p4 (starEach [] (PySem.W.ksEnv qual scope st.heap.objs.size f (.ref cda) cc))) []) := by rfl) :
    PEA (KX.supCx CX1 P w K mg base N qual scope f cda cc A outer st H0 E) (.func body (PySem.W.ksEnv qual scope st.heap.objs.size f (.ref cda) cc)) (.Call (.Attribute (.Call (.Name "super" p0) [] [] p1) m p2) [] [] p4) (tSup C sp E2 tNil) := by
  obtain ⟨g, gd, hin, hty, hfi, G, bind⟩ := c.ex
  refine ⟨fun pins s σ H Q I h => ?_⟩
  obtain ⟨a, dx, fs, h0, hH, q⟩ := h
  refine sup_core F S har hself hpar hm hin hty c.sub hat I h0 hH hev fun r s' hb I3 => ?_
  refine PySem.W.callWith_M0 (K := K) (self := .ref a) ⟨ClX.pin_at I3, I3.kIn⟩ hfi ?_
  exact sup_run room pass G bind I3 .nil q
theorem pea_super {CX1 CX2 : CXT} {k : Nat} {C : Addr} {m : Str} {ps2 : List Str} {sp : Sp} {E E2 : XK} {A : Around} {outer : List Env} {st : Shared} {H0 : Hp} {p0 p1 p2 p4 : Pos} {pl : Sem Bool} {ar : Arg} {e : Expr} {es : List Expr} {t : TA}
    (F : SupF P K f fd name qual params body scope cda cc D) (S : SScope N ps scope) (har : (params.posonlyargs ++ params.args).head? = some ar) (hself : N[0]? = some ar.arg) (hpar : ar.arg ∈ ps) (hm : mg "super" = none) (c : SupM P w K mg base CX2 k C D m ps2 sp) (room : Room k (KX.supCx CX1 P w K mg base N qual scope f cda cc A outer st H0 E).A)
    (pass : Passes CX2 (KX.supCx CX1 P w K mg base N qual scope f cda cc A outer st H0 E) E2) (ha : PA (KX.supCx CX1 P w K mg base N qual scope f cda cc A outer st H0 E) (e :: es) t) (hat : (m == ("__class__" : Str)) = false := by decide) (hst : starEach (e :: es) (PySem.W.ksEnv qual scope st.heap.objs.size f (.ref cda) cc) = (false, eval e (PySem.W.ksEnv qual scope st.heap.objs.size f (.ref cda) cc)) :: starEach es (PySem.W.ksEnv qual scope st.heap.objs.size f (.ref cda) cc) := by rfl) (hpl : (backTo p4 (starEach es (PySem.W.ksEnv qual scope st.heap.objs.size f (.ref cda) cc))).any (·.1) = false := by rfl)
    (hev : eval (.Call (.Attribute (.Call (.Name "super" p0) [] [] p1) m p2) (e :: es) [] p4) (PySem.W.ksEnv qual scope st.heap.objs.size f (.ref cda) cc) = (do
      let ov ← attributeBase (.Call (.Name "super" p0) [] [] p1) m (PySem.W.ksEnv qual scope st.heap.objs.size f (.ref cda) cc) (eval (.Call (.Name "super" p0) [] [] p1) (PySem.W.ksEnv qual scope st.heap.objs.size f (.ref cda) cc))
      standAt p2.atName
      let (g, first) ← holding [ov] (getMethod ov m pl)
      callWith p4 g first (backTo p4 (starEach (e :: es) (PySem.W.ksEnv qual scope st.heap.objs.size f (.ref cda) cc))) []) := by rfl) :
    PEA (KX.supCx CX1 P w K mg base N qual scope f cda cc A outer st H0 E) (.func body (PySem.W.ksEnv qual scope st.heap.objs.size f (.ref cda) cc)) (.Call (.Attribute (.Call (.Name "super" p0) [] [] p1) m p2) (e :: es) [] p4) (tSup C sp E2 t) := by
  obtain ⟨g, gd, hin, hty, hfi, G, bind⟩ := c.ex
  refine ⟨fun pins s σ H Q I h => ?_⟩
  obtain ⟨a, dx, fs, h0, hH, q⟩ := h
  refine sup_core F S har hself hpar hm hin hty c.sub hat I h0 hH hev fun r s' hb I3 => ?_
  refine ClX.callwith_cm (C := a) I3 hb hfi (thn (ha.run p4 _ s' σ H _ I3 q) fun us s4 res => ?_) hst hpl
  obtain ⟨xs, H1, I4, rv, q1⟩ := res
  exact ⟨⟨ClX.pin_at I4, I4.kIn⟩, sup_run room pass G bind I4 rv q1⟩
end
theorem r_sup {C : Addr} {sp : Sp} {E : XK} {t : TA} {σ : L2.St} {H : Hp} {Q : VK} {a dx : Addr} {fs : List (Str × V)} (h0 : σ[0]? = some (some (.ref a))) (hH : H a = some (.ins C dx fs)) (q : t σ H fun vs H1 => sp (.ref a :: vs) H1 Q E) : tSup C sp E t σ H Q := ⟨a, dx, fs, h0, hH, q⟩
end KN

/-! KX2: own error classes over ValueError whose __init__ says super().__init__(text) and sets two fields (printed by mkx2.py). -/
namespace KX2
open PySem PySem.Spec PyProof.Rows L2 KB KX
theorem vals3 {a b c : V} {us : List Value} (h : Vals [a, b, c] us) : ∃ u1 u2 u3, us = [u1, u2, u3] ∧ RelV a u1 ∧ RelV b u2 ∧ RelV c u3 := by
  cases h with
  | cons h1 h =>
    cases h with
    | cons h2 h =>
      cases h with
      | cons h3 h =>
        cases h
        exact ⟨_, _, _, rfl, h1, h2, h3⟩
theorem inv_sup2 {CXx : CXT} {P : Program} {w : World} {K : PySem.W.Frag} {mg : Str → Option Value} {base : Heap} {vn vm ql : Str} {sc : Scope} {f cda cc : Addr} {A : Around} {out : List Env} {st : Shared} {h : Hp} {W : XK} {u1 u2 u3 : Value} {v1 v2 v3 : V} {h1 : Heap} {tk : Nat} {cl : Value} {cld : Option Addr} {csl : Array (Option Value)} {cv : Option Value}
    (e0 : Env0 P w K mg base A out st h) (hd : A.handled = none) (kind : sc.kind = .function) (nocell : ∀ y ∈ sc.names, y.2 ≠ .cell) (nofree : ∀ y, sc.names.lookup y = some .free → y = "__class__") (l1 : sc.names.lookup ("self" : Str) = some .local) (l2 : sc.names.lookup vn = some .local) (l3 : sc.names.lookup vm = some .local) (nv : vn ≠ "self") (nw : vm ≠ "self") (nx : vm ≠ vn)
    (hc : K.lookup cc = some ⟨cl, cld, .cell cv, csl⟩) (hns : h1.Ns st.heap.objs.size (fun y => ([(("self" : Str), u1), (vn, u2), (vm, u3)] : List (Str × Value)).reverse.lookup y)) (kp : ∀ b o, st.heap.get? b = some o → h1.get? b = some o) (r1 : RelV v1 u1) (r2 : RelV v2 u2) (r3 : RelV v3 u3) :
    Inv (KX.supCx CXx P w K mg base ["self", vn, vm] ql sc f cda cc A out st h W) [] [some v1, some v2, some v3] h { st with heap := h1, toks := tk } := by
  have noA : ∀ b : Addr, b ∉ (KX.supCx CXx P w K mg base ["self", vn, vm] ql sc f cda cc A out st h W).ex := fun b z => absurd (show b ∈ ([] : List Addr) from z) (by simp)
  have ccb := e0.bs _ _ (e0.mod.kin _ _ hc)
  refine ⟨⟨e0.mod, kind, rfl, rfl, Nat.le_refl _, fun y z c a b => (cls_only a).1.trans (cls_only b).1.symm, fun y hy => ?_, fun y c z _ => ?_, fun _ => hd, Around.frames_deeper e0.frames, .inr ⟨rfl, rfl⟩, fun b z => absurd z (noA b), e0.bs, e0.bsz, fun b _ _ => noA b, fun b z => absurd z (noA b), e0.funs, e0.frf⟩,
    rfl, e0.bare, Un.kept kp, ⟨_, hns, fun i y v a b c => ?_⟩, fun y c e => ?_, e0.hok.fresh (Nat.le_refl _), fun y c e => ?_, fun p hp => absurd (show p ∈ ([] : List (Addr × Obj)) from hp) (by simp), e0.hok.kept kp, rfl⟩
  · have hy : sc.names.lookup y = some .cell ∨ sc.names.lookup y = some .free := hy
    rcases hy with hy | hy
    · exact absurd rfl (nocell _ (PySem.mem_of_lookup hy))
    · rw [nofree y hy]
      exact ⟨cc, rfl⟩
  · have z : false = true := z
    cases z
  · match i, a, b with
    | 0, a, b =>
      obtain rfl : ("self" : Str) = y := Option.some.inj a
      obtain rfl : v1 = v := Option.some.inj (Option.some.inj b)
      refine ⟨u1, r1, .inl ⟨l1, ?_⟩⟩
      have nv' : ¬ (("self" : Str) == vn) = true := by simpa using fun z : ("self" : Str) = vn => nv z.symm
      have nw' : ¬ (("self" : Str) == vm) = true := by simpa using fun z : ("self" : Str) = vm => nw z.symm
      simp [List.lookup, nv', nw']
    | 1, a, b =>
      obtain rfl : vn = y := Option.some.inj a
      obtain rfl : v2 = v := Option.some.inj (Option.some.inj b)
      have nx' : ¬ (vn == vm) = true := by simpa using fun z : vn = vm => nx z.symm
      exact ⟨u2, r2, .inl ⟨l2, by simp [List.lookup, nx']⟩⟩
    | 2, a, b =>
      obtain rfl : vm = y := Option.some.inj a
      obtain rfl : v3 = v := Option.some.inj (Option.some.inj b)
      exact ⟨u3, r3, .inl ⟨l3, by simp [List.lookup]⟩⟩
    | i + 3, a, b => cases a
  · obtain ⟨rfl, rfl⟩ := cls_only e
    exact ⟨cv, _, kp _ _ ccb.1, rfl⟩
  · obtain ⟨rfl, rfl⟩ := cls_only e
    exact ccb.2
structure SupFn2 (K : PySem.W.Frag) (P : Program) (f : Addr) (fd : FuncData) (C : Addr) (vn vm fld fle : Str) : Prop where
  ex : ∃ (ql : Str) (pr : Arguments) (sc : Scope) (dV kV doc pm ct oc ccl cl : Value) (an od cdd cld : Option Addr) (osl ccs csl : Array (Option Value)) (cda cc : Addr) (vs : Array Value) (file : Str) (tf : Tok) (p0 p1 p2 p3 p4 p5 q1 q2 q3 q4 q5 q6 q7 q8 : Pos) (msg : Str) (j : Nat) (ar : Arg) (pl : Sem Bool),
    fd = PySem.W.ksFn "__init__" ql pr [.Expr (.Call (.Attribute (.Call (.Name "super" p0) [] [] p1) "__init__" p2) [.Constant (.str msg) j p3] [] p4) p5, .Assign [.Attribute (.Name "self" q1) fld q2] (.Name vn q3) q4, .Assign [.Attribute (.Name "self" q5) fle q6] (.Name vm q7) q8] sc dV kV doc pm an (.ref cda) ct cc ∧
    K.lookup f = some ⟨oc, od, .func fd, osl⟩ ∧ PySem.W.codeIn K (.ref cda) ql = true ∧ K.lookup cda = some ⟨ccl, cdd, .fields vs, ccs⟩ ∧ vs[2]? = some (.str file tf) ∧ ((P.main.file : Str) == file) = true ∧
    K.lookup cc = some ⟨cl, cld, .cell (some (.ref C)), csl⟩ ∧ (pr.posonlyargs ++ pr.args).head? = some ar ∧ ar.arg = "self" ∧
    sc.kind = .function ∧ sc.isCoroutine = false ∧ sc.isGenerator = false ∧ (∀ y ∈ sc.names, y.2 ≠ .cell) ∧ (∀ y, sc.names.lookup y = some .free → y = "__class__") ∧ sc.names.lookup ("super" : Str) = some .globalImplicit ∧ sc.names.lookup ("__class__" : Str) = some .free ∧
    sc.names.lookup ("self" : Str) = some .local ∧ sc.names.lookup vn = some .local ∧ sc.names.lookup vm = some .local ∧
    (∀ en : Env, eval (.Call (.Attribute (.Call (.Name "super" p0) [] [] p1) "__init__" p2) [.Constant (.str msg) j p3] [] p4) en = (do
      let ov ← attributeBase (.Call (.Name "super" p0) [] [] p1) "__init__" en (eval (.Call (.Name "super" p0) [] [] p1) en)
      standAt p2.atName
      let (g, first) ← holding [ov] (getMethod ov "__init__" pl)
      callWith p4 g first (backTo p4 (starEach [.Constant (.str msg) j p3] en)) []))
  top : (P.main.scope.names.lookup ("super" : Str)).isSome = false
  nv : vn ≠ "self" ∧ (vn == ("__debug__" : Str)) = false ∧ (vn == ("__classdict__" : Str)) = false
  nw : vm ≠ "self" ∧ (vm == ("__debug__" : Str)) = false ∧ (vm == ("__classdict__" : Str)) = false
  nx : vm ≠ vn
  opq : PySem.W.nsIn K cStatics "thirdparty.any" = some none
  sub : PySem.W.mroIn K C (.ref C) = some true
  ve : PySem.W.mroIn K C (.type "ValueError") = some true
  sup : PySem.W.ks_superIn K C C "__init__" = some (some (.builtin "ValueError.__init__"))
  nof : PySem.W.findIn K (.ref C) fld = some none
  nog : PySem.W.findIn K (.ref C) fle = some none
def spXI2 (C : Addr) (fld fle : Str) : Sp := fun vs H Q _ => ∃ (a : Addr) (v w : V), vs = [.ref a, v, w] ∧ H a = some (exo a C none) ∧ ∀ dx, H dx = none → dx ≠ a → Q .non (upd (upd (upd H dx (exd dx [(fld, v)])) a (exo a C (some dx))) dx (exd dx [(fle, w), (fld, v)]))
theorem sup_ok2 {P : Program} {w : World} {K : PySem.W.Frag} {mg : Str → Option Value} {base : Heap} {k : Nat} {f C : Addr} {fd : FuncData} {vn vm fld fle : Str} (S : SupFn2 K P f fd C vn vm fld fle) (T : OexC K C) (hm : mg "super" = none) (hboot : bootBuiltins "super" = some (.type "super")) : FnOk P w K mg base CX0 (k + 1) f fd ["self", vn, vm] (spXI2 C fld fle) := by
  refine ⟨fun xs h Z W z => ?_, fun A out st h ar0 ws xs Z W room env bind vals pre => ?_⟩
  · obtain ⟨a, v, w, rfl, _⟩ := z
    rfl
  obtain ⟨a, v, v3, rfl, ha, q⟩ := pre
  obtain ⟨u1, u2, u3, rfl, r1, r2, r3⟩ := vals3 vals
  obtain ⟨ql, pr, sc, dV, kV, doc, pm, ct, oc, ccl, cl, an, od, cdd, cld, osl, ccs, csl, cda, cc, vs, file, tf, p0, p1, p2, p3, p4, p5, q1, q2, q3, q4, q5, q6, q7, q8, msg, j, ar, pl, rfl, lf, cdf, lcd, hvs, hfile, lcc, hp, har, kind, nco, ngen, nocell, nofree, ks, kc, kself, kvn, kvm, hev⟩ := S.ex
  have kin : K.In st.heap := env.mod.kin.keeps fun b o e => (env.bs b o e).1
  have nolim : st.heap.NoLimit := env.mod.nolimit.keeps fun b o e => (env.bs b o e).1
  refine ks_codeAny_call_defAt (binds := [("self", u1), (vn, u2), (vm, u3)]) room.depth (kin _ _ lf) rfl nolim (PySem.W.codeRec_of kin cdf) rfl bind nocell (fun y hy => ?_) (fun h1 hns kp => ?_) nco ngen kind
  · simp only [List.mem_cons, List.not_mem_nil, or_false] at hy
    rcases hy with rfl | rfl | rfl
    · exact kself
    · exact kvn
    · exact kvm
  obtain rfl : u1 = Value.ref a := r1
  have I : Inv (KX.supCx CX0 P w K mg base ["self", vn, vm] ql sc f cda cc A out st h W) [] [some (.ref a), some v, some v3] h { st with heap := h1, toks := st.toks + 3 } := inv_sup2 env room.hd kind nocell nofree kself kvn kvm S.nv.1 S.nw.1 S.nx lcc hns kp rfl r2 r3
  have hi : interactive (PySem.W.ksEnv ql sc st.heap.objs.size f (.ref cda) cc) = false := by
    unfold interactive
    simp [kind]
  refine ks_wpAt_execs_cons (ks_wpAt_Expr_any (env := PySem.W.ksEnv ql sc st.heap.objs.size f (.ref cda) cc) ?_ hi)
  refine ks_wpAt_MethodCall (pl := pl) (env := PySem.W.ksEnv ql sc st.heap.objs.size f (.ref cda) cc) ?_ (hev _)
  have bk := I.bk
  have kin1 : K.In h1 := I.kIn
  obtain ⟨t1, ga⟩ := exo_at I.hok ha
  obtain ⟨nm, qn, N, bs, bm, sn, sub, ab, col, dd, k0, k1, k2, k3, k5, hC, hbm⟩ := T.cls
  have hcl : PySem.W.clsIn K C = some { name := nm, bases := bs, mro := .ref C :: bm, ns := N, qualname := qn, hasDict := true, slotNames := sn, subclasses := sub, abstract := ab, collection := col, hasDel := false } := by unfold PySem.W.clsIn; rw [hC] <;> rfl
  obtain ⟨mb, b1, b2⟩ := env.mod.blt
  have kb : ∀ b o, base.get? b = some o → h1.get? b = some o := fun b o e => kp b o (env.bs b o e).1
  refine ks_wpAt_super_base (env := PySem.W.ksEnv ql sc st.heap.objs.size f (.ref cda) cc) ks kc (by decide) rfl (kin1 _ _ lf) rfl hp rfl (kin1 _ _ lcd) rfl hvs hfile S.top ?_
  refine PySem.W.ks_loadName_global kind ks (Calls.loadGlobal_builtin (env := PySem.W.ksEnv ql sc st.heap.objs.size f (.ref cda) cc) (env.mod.glob.keeps kb) hm (b1.keeps kb) ((b2 "super" (by decide)).trans hboot) ⟨rfl, ?_⟩)
  refine wpAny_loadName_free kind kc rfl ⟨_, kin1 _ _ lcc, rfl⟩ ?_
  rw [har]
  refine wpAny_loadName_local kind kself hns (v := .ref a) ?_ ?_
  · have nv' : ¬ (("self" : Str) == vn) = true := by simpa using fun z : ("self" : Str) = vn => S.nv.1 z.symm
    have nw' : ¬ (("self" : Str) == vm) = true := by simpa using fun z : ("self" : Str) = vm => S.nw.1 z.symm
    simp [List.lookup, nv', nw']
  refine ks_wpAny_isType_cls (kin1 _ _ hC) rfl ⟨rfl, ?_⟩
  refine ks_wpAny_call_super (kin1 _ _ hC) rfl ga rfl (fun c z => by cases z) (PySem.W.looks_mroIn kin1 S.sub) (fun h2 e2 kp2 => ?_)
  have kin2 : K.In h2 := kin1.keeps kp2
  have J2 : PySem.W.InstAt h2 a _ C none := ⟨kp2 _ _ ga, rfl, rfl, trivial⟩
  have hsup : PySem.W.alongIn K "__init__" (((Value.ref C :: bm).dropWhile (· != .ref C)).drop 1) = some (some (.builtin "ValueError.__init__")) := by
    have z := S.sup
    unfold PySem.W.ks_superIn at z
    rw [hcl] at z
    exact z
  refine PySem.W.kxs_getMethod PySem.W.kxs_ValueError e2 (PySem.W.looks_opaque kin2 S.opq) (l₀ := Value.ref C :: bm) (fun A Q E s k q => wpAny_bind ((PySem.W.looks_clsIn kin2 hcl) A _ E s k (wpAny_pure q))) rfl kin2 hsup (J2.type.andThen (PySem.W.looks_mroIn kin2 S.ve)) (PySem.W.ks_ne kin2 J2 hcl) (by decide) ?_
  have gu : (h2.push (PySem.W.kxs_mw "ValueError.__init__" a)).get? h2.objs.size = some (PySem.W.kxs_mw "ValueError.__init__" a) := Heap.get?_push_at rfl rfl
  have kp3 : ∀ b o, h1.get? b = some o → (h2.push (PySem.W.kxs_mw "ValueError.__init__" a)).get? b = some o := fun b o e => Heap.get?_push_of_some _ (kp2 _ _ e)
  refine PySem.W.kxs_callWith (i := "ValueError.__init__") (x := a) rfl ?_
  refine Calls.evalArgs_plain (x := eval (.Constant (.str msg) j p3) (PySem.W.ksEnv ql sc st.heap.objs.size f (.ref cda) cc)) (rest := []) ?_
  refine Calls.spliced_cons (Calls.Constant_str (Calls.spliced_nil ?_))
  refine ⟨gu, ?_⟩
  refine KX.call_mw (kp3 _ _ (kin1 _ _ hC)) (kp3 _ _ ga) gu (show 1 ≤ sizeLine by decide) (fun h4 t4 kp4 ga4 => ?_)
  have J0 := (I.kept (t' := 0) kp3).write (t' := st.toks + 3 + 1 + 1) (x := a) (e := a) (o := exo a C none) (by rw [ha]; exact True.intro) (.inl rfl) kp4 ⟨_, ga4⟩ (exo_ok ga4)
  have eu : upd h a (exo a C none) = h := by
    funext b
    by_cases hb : b = a
    · rw [hb, upd_same, ha]
    · rw [upd_ne hb]
  rw [eu] at J0
  have ps : PSs (KX.supCx CX0 P w K mg base ["self", vn, vm] ql sc f cda cc A out st h W) [.Assign [.Attribute (.Name "self" q1) fld q2] (.Name vn q3) q4, .Assign [.Attribute (.Name "self" q5) fle q6] (.Name vm q7) q8] _ := pss_cons (ps_ost (pv 0 rfl (.inl kself)) (pv 1 rfl (.inl kvn) S.nv.2.1 S.nv.2.2)) (pss_one (ps_ost (pv 0 rfl (.inl kself)) (pv 2 rfl (.inl kvm) S.nw.2.1 S.nw.2.2)))
  refine wpAt_of_wpAny (wpAny_mono (ps.run [] _ [some (.ref a), some v, some v3] h { nx := fun _ h' => Z .non h', rt := Z } J0 ?_) (fun flow s2 res => ?_) fun _ _ z => z)
  · refine ⟨v, rfl, .ref a, rfl, a, C, rfl, T, S.nof, .inl ⟨ha, fun dx ndx nda => ?_⟩⟩
    refine ⟨v3, rfl, .ref a, rfl, a, C, rfl, T, S.nog, .inr ⟨dx, [(fld, v)], upd_same, by rw [upd_ne nda]; exact upd_same, by simp, ?_⟩⟩
    exact q dx ndx nda
  · cases flow with
    | ret u => exact let ⟨v, _, h2, J, rel, z⟩ := res; ⟨v, h2, J.os, J.bare, J.base, J.hok, rel, z⟩
    | next => exact let ⟨_, h2, J, z⟩ := res; ⟨.non, h2, J.os, J.bare, J.base, J.hok, rfl, z⟩
    | brk => exact (let ⟨_, _, _, z⟩ := res; z : False).elim
    | cont => exact (let ⟨_, _, _, z⟩ := res; z : False).elim
structure ErrMk2 (P : Program) (w : World) (K : PySem.W.Frag) (mg : Str → Option Value) (base : Heap) (C : Addr) (x fld fle : Str) : Prop where
  ex : ∃ (fI : Addr) (fd : FuncData) (vn vm : Str), OexC K C ∧ PySem.W.findIn K (.ref C) "__init__" = some (some (.ref fI)) ∧ PySem.W.typeIn K (.ref fI) = some (.type "function") ∧ FnOk P w K mg base CX0 1 fI fd ["self", vn, vm] (spXI2 C fld fle) ∧ Binds K fd ["self", vn, vm] [] ∧ mg x = some (.ref C)
theorem pmkC2 {X : Cx} {C : Addr} {x fld fle : Str} {e : Expr} {es : List Expr} {p pos : Pos} {ta : TA} (c : ErrMk2 X.prog X.w X.K X.mg X.base C x fld fle) (room : Room 2 X.A) (gl : Gl X x) (ha : PA X (e :: es) ta)
    (d1 : (x == ("__debug__" : Str)) = false := by decide) (d2 : starEach (e :: es) X.env = (false, eval e X.env) :: starEach es X.env := by rfl) (d3 : (backTo pos (starEach es X.env)).any (·.1) = false := by rfl) :
    PMk X (.Call (.Name x p) (e :: es) [] pos) (tMkO C (spXI2 C fld fle) [] ta) := by
  obtain ⟨fI, fd, vn, vm, T, i1, i2, F, b, hm⟩ := c.ex
  exact pmk_oex T i1 i2 F room b .nil pass0 gl hm ha d1 d2 d3
theorem r_raise2 {σ : L2.St} {H : Hp} {te tf : TE} {C : Addr} {fld fle : Str} {W : XK} (mono : ∀ (Q1 Q2 : VK), (∀ v H1, Q1 v H1 → Q2 v H1) → te σ H Q1 → te σ H Q2) (monf : ∀ (H1 : Hp) (Q1 Q2 : VK), (∀ v H1, Q1 v H1 → Q2 v H1) → tf σ H1 Q1 → tf σ H1 Q2)
    (q : te σ H fun v H1 => tf σ H1 fun u H2 => ∀ (d : Addr) (H' : Hp), Same H2 H' → H' d = some (.xd [(fle, u), (fld, v)]) → W (.ref C) (some d) H') : tMkO C (spXI2 C fld fle) [] (tCons te (tCons tf tNil)) σ H W := by
  refine mono _ _ (fun v H1 g => ?_) q
  refine monf H1 _ _ (fun u H2 g => ?_) g
  refine ⟨(show 2 ≤ 1000 by decide), fun a na => ⟨a, v, u, rfl, upd_same, fun dx ndx nda => ?_⟩⟩
  have n1 : H2 dx = none := by
    rw [upd_ne nda] at ndx
    exact ndx
  refine ⟨rfl, dx, [(fle, u), (fld, v)], by rw [upd_ne (Ne.symm nda)]; exact upd_same, upd_same, n1, g dx _ (fun b o e => ?_) upd_same⟩
  have b1 := ne_of_none e n1
  have b2 := ne_of_none e na
  rw [upd_ne b1, del_ne b2, upd_ne b1, upd_ne b2, upd_ne b1, upd_ne b2]
  exact e
theorem mono_v {i : Nat} {σ : L2.St} (H : Hp) (Q1 Q2 : VK) (h : ∀ v H1, Q1 v H1 → Q2 v H1) : tVar i σ H Q1 → tVar i σ H Q2 := fun ⟨v, e, q⟩ => ⟨v, e, h _ _ q⟩
theorem mono_c {c : V} {σ : L2.St} (H : Hp) (Q1 Q2 : VK) (h : ∀ v H1, Q1 v H1 → Q2 v H1) : tC c σ H Q1 → tC c σ H Q2 := fun q => h _ _ q
theorem mono_f {K : PySem.W.Frag} {f : Str} {i : Nat} {σ : L2.St} (H : Hp) (Q1 Q2 : VK) (h : ∀ v H1, Q1 v H1 → Q2 v H1) : tFld K (tVar i) f σ H Q1 → tFld K (tVar i) f σ H Q2 := fun ⟨v, e, a, C, dx, fs, u, g1, g2, g3, g4, g5, q⟩ => ⟨v, e, a, C, dx, fs, u, g1, g2, g3, g4, g5, h _ _ q⟩
end KX2

/-! KTr: values of any kind as trees: their type, not in a tuple of texts, isinstance of a kept exception by a tuple of classes. -/
namespace KTr
open PySem PySem.Spec PyProof.Rows L2 KB KG KY
inductive Tr where
  | sc (s : Sc) | tup (l : List Tr) | lst (l : List Tr) | dct (l : List (Key × Sc))
mutual
inductive TrAt (H : Hp) : V → Tr → Prop
  | sc (s : Sc) : TrAt H s.v (.sc s)
  | tup {a : Addr} {xs : List V} {l : List Tr} (h : H a = some (.tup xs)) (r : TrsAt H xs l) : TrAt H (.ref a) (.tup l)
  | lst {a : Addr} {xs : List V} {l : List Tr} (h : H a = some (.lst xs)) (r : TrsAt H xs l) : TrAt H (.ref a) (.lst l)
  | dct {a : Addr} {l : List (Key × Sc)} (h : H a = some (.dK (l.map fun p => (p.1, p.2.v)))) : TrAt H (.ref a) (.dct l)
inductive TrsAt (H : Hp) : List V → List Tr → Prop
  | nil : TrsAt H [] []
  | cons {x : V} {t : Tr} {xs : List V} {l : List Tr} (h : TrAt H x t) (r : TrsAt H xs l) : TrsAt H (x :: xs) (t :: l)
end
/-- lists and texts in it are short -/
inductive Sm : Tr → Prop
  | sc (s : Sc) (h : ∀ x, s = .str x → x.length ≤ 1000) : Sm (.sc s)
  | tup {l : List Tr} (h : ∀ t ∈ l, Sm t) : Sm (.tup l)
  | lst {l : List Tr} (n : l.length ≤ 2) (h : ∀ t ∈ l, Sm t) : Sm (.lst l)
  | dct (l : List (Key × Sc)) (n : (l.map (·.1)).Nodup) : Sm (.dct l)
theorem TrsAt.len {H : Hp} : ∀ {xs : List V} {l : List Tr}, TrsAt H xs l → xs.length = l.length
  | _, _, .nil => rfl
  | _, _, .cons _ r => by rw [List.length_cons, List.length_cons, TrsAt.len r]
mutual
theorem TrAt.up {H H' : Hp} (s : Same H H') : ∀ (t : Tr) (v : V), TrAt H v t → TrAt H' v t
  | .sc x, _, h => by cases h; exact .sc x
  | .tup l, _, h => by cases h with | tup h r => exact .tup (s _ _ h) (TrsAt.up s l _ r)
  | .lst l, _, h => by cases h with | lst h r => exact .lst (s _ _ h) (TrsAt.up s l _ r)
  | .dct l, _, h => by cases h with | dct h => exact .dct (s _ _ h)
theorem TrsAt.up {H H' : Hp} (s : Same H H') : ∀ (l : List Tr) (xs : List V), TrsAt H xs l → TrsAt H' xs l
  | [], _, h => by cases h; exact .nil
  | t :: l, _, h => by cases h with | cons h r => exact .cons (TrAt.up s t _ h) (TrsAt.up s l _ r)
end
/-- all but long lists is kept -/
def Fr (H H' : Hp) : Prop := ∀ b o, H b = some o → (∀ xs, o = .lst xs → xs.length ≤ 2) → H' b = some o
theorem Fr.same {H H' : Hp} (s : Same H H') : Fr H H' := fun b o e _ => s b o e
theorem Fr.tr {H H1 H2 : Hp} (s : Fr H H1) (t : Fr H1 H2) : Fr H H2 := fun b o e n => t b o (s b o e n) n
theorem Fr.tup {H H' : Hp} (s : Fr H H') {a : Addr} {xs : List V} (h : H a = some (.tup xs)) : H' a = some (.tup xs) := s _ _ h fun _ z => by cases z
theorem Fr.ins {H H' : Hp} (s : Fr H H') {a C dx : Addr} {fs : List (Str × V)} (h : H a = some (.ins C dx fs)) : H' a = some (.ins C dx fs) := s _ _ h fun _ z => by cases z
theorem Fr.mut {H : Hp} {a : Addr} {xs : List V} {o : HO} (h : H a = some (.lst xs)) (l : 2 < xs.length) : Fr H (upd H a o) := fun b u e n => by
  rw [upd_ne (fun z => by rw [z, h] at e; have := n xs (Option.some.inj e).symm; omega)]
  exact e
mutual
theorem TrAt.fr {H H' : Hp} (s : Fr H H') : ∀ (t : Tr) (v : V), Sm t → TrAt H v t → TrAt H' v t
  | .sc x, _, _, h => by cases h; exact .sc x
  | .tup l, _, m, h => by
    cases m with
    | tup m => cases h with | tup h r => exact .tup (s.tup h) (TrsAt.fr s l _ m r)
  | .lst l, _, m, h => by
    cases m with
    | lst n m => cases h with | lst h r => exact .lst (s _ _ h fun xs z => by cases z; rw [r.len]; exact n) (TrsAt.fr s l _ m r)
  | .dct l, _, _, h => by cases h with | dct h => exact .dct (s _ _ h fun xs z => by cases z)
theorem TrsAt.fr {H H' : Hp} (s : Fr H H') : ∀ (l : List Tr) (xs : List V), (∀ t ∈ l, Sm t) → TrsAt H xs l → TrsAt H' xs l
  | [], _, _, h => by cases h; exact .nil
  | t :: l, _, m, h => by cases h with | cons h r => exact .cons (TrAt.fr s t _ (m t List.mem_cons_self) h) (TrsAt.fr s l _ (fun u mu => m u (List.mem_cons_of_mem _ mu)) r)
end
/-- all but instances is kept -/
def Ki (H H' : Hp) : Prop := ∀ b o, H b = some o → (∀ C dx fs, o ≠ .ins C dx fs) → H' b = some o
theorem Ki.tup {H H' : Hp} (s : Ki H H') {a : Addr} {xs : List V} (h : H a = some (.tup xs)) : H' a = some (.tup xs) := s _ _ h fun _ _ _ z => by cases z
mutual
theorem TrAt.ki {H H' : Hp} (s : Ki H H') : ∀ (t : Tr) (v : V), TrAt H v t → TrAt H' v t
  | .sc x, _, h => by cases h; exact .sc x
  | .tup l, _, h => by cases h with | tup h r => exact .tup (s.tup h) (TrsAt.ki s l _ r)
  | .lst l, _, h => by cases h with | lst h r => exact .lst (s _ _ h fun _ _ _ z => by cases z) (TrsAt.ki s l _ r)
  | .dct l, _, h => by cases h with | dct h => exact .dct (s _ _ h fun _ _ _ z => by cases z)
theorem TrsAt.ki {H H' : Hp} (s : Ki H H') : ∀ (l : List Tr) (xs : List V), TrsAt H xs l → TrsAt H' xs l
  | [], _, h => by cases h; exact .nil
  | t :: l, _, h => by cases h with | cons h r => exact .cons (TrAt.ki s t _ h) (TrsAt.ki s l _ r)
end
theorem Ki.keep {H H' : Hp} {p C dx : Addr} {fs : List (Str × V)} (k : KV.Keep p H H') (hp : H p = some (.ins C dx fs)) : Ki H H' := fun b o e n => k b o e fun z => by rw [z, hp] at e; cases e; exact n _ _ _ rfl
theorem Ki.same {H H' : Hp} (s : Same H H') : Ki H H' := fun b o e _ => s b o e
theorem Ki.tr {H H1 H2 : Hp} (s : Ki H H1) (t : Ki H1 H2) : Ki H H2 := fun b o e n => t b o (s b o e n) n
theorem Ki.mut {H : Hp} {p C dx : Addr} {fs : List (Str × V)} {o : HO} (hp : H p = some (.ins C dx fs)) : Ki H (upd H p o) := fun b u e n => by
  rw [upd_ne (fun z => by rw [z, hp] at e; cases e; exact n _ _ _ rfl)]
  exact e
theorem TrsAt.get {H : Hp} : ∀ {xs : List V} {l : List Tr} {i : Nat} {x : V}, TrsAt H xs l → xs[i]? = some x → ∃ t, l[i]? = some t ∧ TrAt H x t
  | _, _, _, _, .nil, e => by simp at e
  | _, _, 0, _, .cons h _, e => by cases e; exact ⟨_, rfl, h⟩
  | _, _, i + 1, _, .cons _ r, e => TrsAt.get (i := i) r e
theorem TrsAt.at_ {H : Hp} : ∀ {xs : List V} {l : List Tr} {i : Nat} {t : Tr}, TrsAt H xs l → l[i]? = some t → ∃ x, xs[i]? = some x ∧ TrAt H x t
  | _, _, _, _, .nil, e => by simp at e
  | _, _, 0, _, .cons h _, e => by cases e; exact ⟨_, rfl, h⟩
  | _, _, i + 1, _, .cons _ r, e => TrsAt.at_ (i := i) r e
theorem TrsAt.at' {H : Hp} {xs : List V} {l : List Tr} (h : TrsAt H xs l) (i : Nat) {x : V} {t : Tr} (e1 : xs[i]? = some x) (e2 : l[i]? = some t) : TrAt H x t := by
  obtain ⟨u, e, r⟩ := h.get e1
  rw [e2] at e
  cases e
  exact r
theorem TrsAt.set {H : Hp} : ∀ {xs : List V} {l : List Tr} {i : Nat} {x : V} {t : Tr}, TrsAt H xs l → TrAt H x t → TrsAt H (xs.set i x) (l.set i t)
  | _, _, _, _, _, .nil, _ => .nil
  | _, _, 0, _, _, .cons _ r, h => .cons h r
  | _, _, i + 1, _, _, .cons g r, h => .cons g (TrsAt.set (i := i) r h)
theorem sc_at {H : Hp} {v : V} {s : Sc} (h : TrAt H v (.sc s)) : v = s.v := by cases h; rfl
def Tr.ty : Tr → String
  | .sc .non => "NoneType"
  | .sc (.bl _) => "bool"
  | .sc (.int _) => "int"
  | .sc (.str _) => "str"
  | .tup _ => "tuple"
  | .lst _ => "list"
  | .dct _ => "dict"
def BT : List String := ["NoneType", "bool", "int", "str", "tuple", "list", "dict"]
theorem Tr.ty_in (t : Tr) : t.ty ∈ BT := by
  cases t with
  | sc s => cases s <;> simp [Tr.ty, BT]
  | tup => simp [Tr.ty, BT]
  | lst => simp [Tr.ty, BT]
  | dct => simp [Tr.ty, BT]
theorem TrAt.tyX {K : PySem.W.Frag} {H : Hp} {v : V} {t : Tr} (h : TrAt H v t) : TyX K H v (.type t.ty) := by
  cases h with
  | sc s =>
    cases s with
    | non => exact .base .non
    | bl b => exact .base (.bl b)
    | int i => exact .base (.int i)
    | str x => exact .base (.str x)
  | tup h _ => exact .base (.tup h)
  | lst h _ => exact .base (.lst h)
  | dct h => exact .base (.dK h)
/-- isinstance by a built-in type -/
def isaB (A B : String) : Bool := decide (A = B) || (decide (A = "bool") && decide (B = "int"))
theorem kit_BT : ∀ A ∈ BT, ∀ B ∈ BT, kitB A B = some (isaB A B) := by decide +kernel
theorem r_isT {K : PySem.W.Frag} {H : Hp} {Q : VK} {v : V} {t : Tr} {T : String} (h : TrAt H v t) (hT : T ∈ BT) (q : Q (.bl (isaB t.ty T)) H) : rIsi K [v, .ty T] H Q :=
  ⟨v, .ty T, _, .type T, isaB t.ty T, rfl, .ty _, h.tyX, kit_ty (kit_BT _ t.ty_in _ hT), q⟩
def Tr.isIn (zs : List Str) : Tr → Bool
  | .sc (.str x) => decide (x ∈ zs)
  | _ => false
theorem Tr.isIn_str {t : Tr} {zs : List Str} (h : t.isIn zs = true) : ∃ x, t = .sc (.str x) ∧ x ∈ zs := by
  cases t with
  | sc s =>
    cases s with
    | str x => exact ⟨x, rfl, of_decide_eq_true h⟩
    | non => cases h
    | bl => cases h
    | int => cases h
  | tup => cases h
  | lst => cases h
  | dct => cases h
section
variable {X : Cx}
def rNotInT (K : PySem.W.Frag) : R2 := fun x y H Q => ∃ (p : Addr) (zs : List Str) (t : Tr), y = .ref p ∧ SqT K H p (zs.map V.str) ∧ TrAt H x t ∧ Q (.bl (!t.isIn zs)) H
theorem op_notInT {k : Nat} (room : Room k X.A) : OpR X (compareOp .NotIn) (rNotInT X.K) := by
  intro pins st σ h x y v u Z inv rx ry pre
  obtain ⟨p, zs, t, rfl, sq, od, z⟩ := pre
  have un := room.un
  have flat : ∀ sc : Sc, x = sc.v → inV x (zs.map V.str) = (Tr.sc sc).isIn zs → t = .sc sc → wpAny (model X.prog X.w) X.A (compareOp .NotIn v u) (EP X pins σ Z) X.xe st := by
    intro sc e1 e2 e3
    subst e3
    refine op_notIn_seq pins st σ h x (.ref p) v u Z inv rx ry ⟨p, _, rfl, .inr sq, ?_, KB.flat_strs zs, ?_⟩
    · rw [e1]
      cases sc <;> rfl
    · show Z (.bl (!inV x (zs.map V.str))) h
      rw [e2]
      exact z
  have far : t.isIn zs = false → (∀ b tk A', A'.units ≤ X.A.units + 1 → SeqAt.EqAt A' st (.str b tk) v false) → wpAny (model X.prog X.w) X.A (compareOp .NotIn v u) (EP X pins σ Z) X.xe st := by
    intro e1 e2
    obtain rfl : u = Value.ref p := ry
    obtain ⟨its, r, pl, hz⟩ := inv.tuple sq
    refine SeqAt.notIn_tupleAt (fun _ => false) pl (fun w hw => ?_) ⟨.bl true, h, inv, ?_, ?_⟩
    · obtain ⟨b, tk, rfl⟩ := strs_of zs its r w (by simpa using hw)
      exact e2 b tk _ (Nat.le_refl _)
    · show Value.bool _ = Value.bool true
      simp
    · rw [e1] at z
      exact z
  cases od with
  | sc s =>
    refine flat s rfl ?_ rfl
    cases s with
    | non => exact inV_no (fun _ => rfl) zs
    | bl b => exact inV_no (fun _ => rfl) zs
    | int i => exact inV_no (fun _ => rfl) zs
    | str x => exact inV_strs zs
  | @tup a xs l e _ =>
    obtain rfl : v = Value.ref a := rx
    obtain ⟨its, rv, tp, _⟩ := inv.tuple (SqT.of e)
    exact far rfl fun b tk A' hA => SeqAt.EqAt.str_tuple b tk tp (by omega)
  | @lst a xs l e _ =>
    obtain rfl : v = Value.ref a := rx
    obtain ⟨its, rv, tp, _⟩ := inv.list (SqL.of e)
    exact far rfl fun b tk A' hA => SeqAt.EqAt.str_list b tk tp.isList (by omega)
  | @dct a l e =>
    obtain rfl : v = Value.ref a := rx
    obtain ⟨_, ns, vs, kv, ob, es, ep, ho, hex, hd, _, prs, _⟩ := dk_of inv.hok e
    exact far rfl fun b tk A' hA => eqAt_str_dict b tk ho hex.1 hd (by omega)
/-- isinstance(y, (c1, c2, ..)), y a kept exception with a dict -/
def rIsHT (K : PySem.W.Frag) : List V → Hp → VK → Prop := fun xs H Q => ∃ (a C dd tp : Addr) (fs : List (Str × V)) (cs : List V) (us : List Value) (b : Bool), xs = [.ref a, .ref tp] ∧ H a = some (KX.exh a (.ref C) (some dd)) ∧ H dd = some (.xd fs) ∧ ExcC K C ∧ H tp = some (.tup cs) ∧ Paired ClsV cs us ∧ PySem.W.kitAny K (.ref C) us = some b ∧ Q (.bl b) H
theorem call_isHT : CallR X (.builtin "isinstance") (rIsHT X.K) := by
  intro pins st σ h xs us Q inv rel pre
  obtain ⟨a, C, dd, tp, fs, cs, ws, b, rfl, ea, ed, T, hT, k, e, q⟩ := pre
  obtain ⟨w1, w2, rfl, r1, r2⟩ := vals2 rel
  obtain rfl : w1 = Value.ref a := r1
  obtain rfl : w2 = Value.ref tp := r2
  obtain ⟨o, vs, g, z, hd⟩ := KX.exh_at inv.hok ea
  obtain ⟨mA, ns, rl⟩ := (inv.hok dd _ ed : ObjOk X.prog X.w h st.heap dd (.xd fs))
  obtain ⟨od, ho, hl⟩ := lookIn_ns ns
  have J : PySem.W.InstAt st.heap a o C (some od) := ⟨g, z.1, by unfold PySem.W.notCls; rw [hd] <;> rfl, z.2.symm ▸ ho⟩
  have hcl : (PySem.W.clsIn X.K C).isSome = true := by
    have z := T.hd
    unfold PySem.W.hasDictIn at z
    cases e : PySem.W.clsIn X.K C with
    | none => rw [e] at z; cases z
    | some _ => rfl
  obtain ⟨_, its, rv, o2, h1, h2, n, h3⟩ := (show ObjOk X.prog X.w h st.heap tp (.tup cs) from inv.hok tp _ hT)
  have e3 := ClsV.all k rv
  subst e3
  obtain ⟨oc, ood, dt, sl⟩ := o2
  simp only at h2 h3
  subst h2 h3
  exact PySem.W.kia_tup (PySem.W.kitx_exc hcl T.hg T.hk T.hs T.ha T.hn T.ht T.hm) inv.kIn J h1 e (fun z => nomatch z) fun tk => ⟨.bl b, h, inv.tok tk, rfl, q⟩
/-! ### own classes made with positional values and keywords -/
structure CalleeIN (P : Program) (w : World) (K : PySem.W.Frag) (mg : Str → Option Value) (base : Heap) (CX : CXT) (k : Nat) (C : Addr) (x : Str) (ps : List Str) (sp : Sp) (n : Nat) (ks : List Str) (gV : List V → List V → List V) : Prop where
  ex : ∃ (f : Addr) (fd : FuncData) (g : List Value → List Value → List Value), FnOk P w K mg base CX k f fd ps sp ∧ Mk K C f ∧ mg x = some (.ref C) ∧ KBn K fd ps (n + 1) ks g gV
theorem pe_makeNC {CX : CXT} {k n : Nat} {C : Addr} {x : Str} {ps ks : List Str} {sp : Sp} {gV : List V → List V → List V} {E : XK} {e : Expr} {es : List Expr} {kws : List Keyword} {p pos : Pos} {t tk : TA} (c : CalleeIN X.prog X.w X.K X.mg X.base CX k C x ps sp n ks gV) (room : Room (k + 1) X.A) (gl : Gl X x) (pass : Passes CX X E) (ha : PA X (e :: es) t) (hkw : PK X kws tk)
    (d1 : (backToKw pos (keywordEach kws X.env)).all (·.1.isSome) = true := by rfl) (d2 : (backToKw pos (keywordEach kws X.env)).filterMap (·.1) = ks := by rfl) (d3 : (x == ("__debug__" : Str)) = false := by decide)
    (d5 : starEach (e :: es) X.env = (false, eval e X.env) :: starEach es X.env := by rfl) (d4 : ((backTo pos (starEach (e :: es) X.env)).any (·.1) || (backToKw pos (keywordEach kws X.env)).any (·.1.isNone)) = false := by rfl) :
    PE X (.Call (.Name x p) (e :: es) kws pos) (tMakeK C n ks.length sp gV E t tk) := by
  obtain ⟨f, fd, g, F, M, hm, hb⟩ := c.ex
  exact pe_makeK M F room gl hm hb pass ha hkw d1 d2 d3 d5 d4
/-! ### equal trees -/
def rEqT (K : PySem.W.Frag) : R2 := fun x y H Q => ∃ t : Tr, TrAt H x t ∧ TrAt H y t ∧ Sm t ∧ ((∃ s, t = .sc s) ∨ ∃ l, t = .dct l) ∧ Q (.bl true) H
theorem scal_self (s : Sc) : scal s.v s.v = true := by cases s <;> rfl
theorem find_self : ∀ (l : List (Key × Sc)), (l.map (·.1)).Nodup → ∀ p ∈ l.map (fun p => (p.1, p.2.v)), valV (l.map fun p => (p.1, p.2.v)) p.1 = some p.2 := by
  intro l nd p hp
  unfold valV
  induction l with
  | nil => cases hp
  | cons q l ih =>
    rw [List.map_cons, List.nodup_cons] at nd
    rw [List.map_cons, List.find?_cons]
    rcases List.mem_cons.mp hp with rfl | hp
    · simp
    · have ne : q.1 ≠ p.1 := fun z => nd.1 (by
        obtain ⟨r, hr, e⟩ := List.mem_map.mp hp
        exact List.mem_map.mpr ⟨r, hr, by rw [z, ← e]⟩)
      simp only [decide_eq_false ne]
      exact ih nd.2 hp
theorem op_eqT {k : Nat} (room : Room k X.A) : OpR X (compareOp .Eq) (rEqT X.K) := by
  intro pins st σ h x y v u Z inv rx ry pre
  obtain ⟨t, hx, hy, sm, ⟨s, rfl⟩ | ⟨l, rfl⟩, z⟩ := pre
  · obtain rfl := sc_at hx
    obtain rfl := sc_at hy
    refine op_eq pins st σ h _ _ v u Z inv rx ry ⟨scal_self s, ?_⟩
    rw [decide_eq_true rfl]
    exact z
  · cases hx with
    | @dct a l e1 =>
      cases hy with
      | @dct b l e2 =>
        cases sm with
        | dct l nd => exact op_eq_dictA (by have := room.un; omega) pins st σ h _ _ v u Z inv rx ry ⟨a, b, _, _, rfl, rfl, e1, e2, rfl, fun p hp => ⟨find_self l nd p hp, by
            obtain ⟨q, _, rfl⟩ := List.mem_map.mp hp
            cases q.2 <;> rfl⟩, z⟩
end
end KTr

/-! KX3: try with several 'except x as n' clauses. -/
namespace KX
open PySem PySem.Spec PyProof.Rows L2 KB
structure Hk where
  c : Value
  i : Nat
  ts : Addr → Value → Option Addr → TS
def wKeeps (K : PySem.W.Frag) (Wout : WX) (D : Ends) : List Hk → WX
  | [] => Wout
  | h :: r => fun cls d σ H => ∃ yes, PySem.W.exmOne K cls h.c = some yes ∧ (yes = true → ∀ a, H a = none → h.ts a cls d { nx := fun σ' H' => H' a = none → D.nx (σ'.set h.i none) (upd H' a (exh a cls d)), rt := D.rt, bk := fun _ _ => False, ct := fun _ _ => False } (σ.set h.i (some (.ref a))) H) ∧ (yes = false → wKeeps K Wout D r cls d σ H)
inductive HksOk (X : Cx) : List ExceptHandler → List Hk → Prop
  | nil : HksOk X [] []
  | cons {x n : Str} {c : Value} {i : Nat} {ts : Addr → Value → Option Addr → TS} {b₀ : Stmt} {suite : List Stmt} {np pos' : Pos} {hds : List ExceptHandler} {l : List Hk} (hix : X.N[i]? = some n) (loc : X.env.kindOf n = some .local) (nam : Names X x c)
      (suiteOk : ∀ (a : Addr) (oe : Obj) (cls : Value) (d : Option Addr) (pn : List (Addr × Obj)), Zc cls d oe → (∃ vs, oe.data = .fields vs) → PSs (X.suite a ((a, oe) :: pn)) (b₀ :: suite) (ts a cls d)) (r : HksOk X hds l) :
      HksOk X (.ExceptHandler (some (.Name x np)) (some n) (b₀ :: suite) pos' :: hds) (⟨c, i, ts⟩ :: l)
section
variable {X : Cx} {body : List Stmt} {h₀ : ExceptHandler} {hds : List ExceptHandler} {l : List Hk} {pos : Pos} {tb : WX → TS} {Wout : WX}
theorem ps_try_keeps (hst : X.stack = X.env :: X.outer) (hfm : X.env.frame = some X.env.locals) (nd : X.N.Nodup) (tks : Takes X Wout) (hex : X.ex = [])
    (bodyOk : ∀ (W : WX) (pn : List (Addr × Obj)) (xe : Value → Shared → Prop), Takes (X.tr pn xe) W → PassesOwn (model X.prog X.w) X.A X.env xe → PSs (X.tr pn xe) body (tb W))
    (hh : HksOk X (h₀ :: hds) l) :
    PS X (.Try body (h₀ :: hds) [] [] pos) (fun D σ H => tb (wKeeps X.K Wout D l) D σ H) := by
  refine ⟨fun pins st σ h D inv rdg => ?_⟩
  have okX := inv.ok
  have fr := okX.frames; rw [hst] at fr
  refine (wpAny_Try_except ?_)
  refine wpAny_mono ((bodyOk (wKeeps X.K Wout D l) (X.pn ++ pins) (fun e t1 => wpAny (model X.prog X.w) X.A (noteFrame e X.env) (fun _ t2 => wpAny (model X.prog X.w) X.A (setFlight e none) (fun _ t3 =>
    wpAny (model X.prog X.w) X.A (handleBy e X.env (h₀ :: hds)) (SP X pins D) X.xe t3) X.xe t2) X.xe t1) (fun u st' xx => ?_) PassesOwn.looking).run [] st σ h D (inv.toTry _) rdg) (fun flow t1 res => ?_) (fun _ _ z => z)
  · obtain ⟨a, G, tI, pins', σ1, h1, cls, d, rfl, K1, ground, up, sky, na, eos, ags, want⟩ := xx
    have I1 : Inv X pins σ1 h1 tI := K1.ofTry okX
    have sky1 : Sky G (X.env :: X.outer) a (Zc cls d) X.env.locals st'.heap := hst ▸ sky
    show wpAny (model X.prog X.w) X.A (noteFrame (.ref a) X.env) _ _ _
    refine Sky.land Zc.steady fr hfm sky1 fun hp3 fly3 up3 => ?_
    have I3 : Inv X pins σ1 h1 { st' with heap := hp3 } := I1.landed ground fly3.1 (up.trans up3) eos ags
    obtain ⟨o3, vs3, g3, z3, d3⟩ := fly3.there
    have nfr : a ∉ frs (X.env :: X.outer) := fun m => by
      obtain ⟨_, o', e', no⟩ := fly3.2.2.1.mem m
      rw [g3] at e'
      cases e'
      exact no _ d3
    have nl : a ≠ X.env.locals := fun z => nfr (List.mem_filterMap.mpr ⟨X.env, List.mem_cons_self, by rw [hfm, z]⟩)
    have nf : a ∉ X.fs := fun m => by
      obtain ⟨e, he, e2⟩ := List.mem_filterMap.mp m
      exact nfr (List.mem_filterMap.mpr ⟨e, List.mem_cons_of_mem _ he, e2⟩)
    have freshI : tI.heap.get? a = none := by
      cases e : tI.heap.get? a with
      | none => rfl
      | some o =>
        have := ground a o e (by rw [hst]; exact nfr)
        rw [fly3.2.1] at this
        cases this
    have fresh0 : X.s_0.heap.get? a = none := by
      cases e : X.s_0.heap.get? a with
      | none => rfl
      | some o =>
        obtain ⟨o', e'⟩ := I1.base.there a o e (by rw [hex]; exact List.not_mem_nil)
        rw [freshI] at e'
        cases e'
    have nop : ∀ p ∈ X.pn ++ pins, p.1 ≠ a := fun p hp z => by
      have := (I1.pin p hp).1
      rw [z, freshI] at this
      cases this
    have S3 := I3.suite g3 d3 na nl nf
    have go : ∀ {hds' : List ExceptHandler} {l' : List Hk}, HksOk X hds' l' → wKeeps X.K Wout D l' cls d σ1 h1 →
        wpAny (model X.prog X.w) X.A (handleBy (.ref a) X.env hds') (SP X pins D) X.xe { st' with heap := hp3 } := by
      intro hds' l' hk
      induction hk with
      | nil =>
        intro qn
        refine (wpAny_handleBy_nil ?_)
        obtain ⟨j1, j2, j3, oe, vs, T, oT, ts', he, hz, hd, hv1, hr⟩ := id fly3
        unfold PySem.passOn
        refine (wpAny_bind (wpAny_field he hd hv1 ?_)); rw [if_neg (show ¬ ((Value.ref T == Value.none) = true) from by simp)]
        have last : wpAny (model X.prog X.w) X.A (setFlight (.ref a) X.env.frame) (fun _ t4 => wpAny (model X.prog X.w) X.A (throw (.ref a) : Sem Flow) (SP X pins D) X.xe t4) X.xe { st' with heap := hp3 } := by
          rw [hfm]
          refine HandSPX.setFlight_upZ fly3 fun hp4 held4 up4 => wpAny_throw (tks _ _ ?_)
          exact ⟨a, G, tI, pins, σ1, h1, cls, d, rfl, I1, ground, (up.trans up3).trans up4, .inr (.inr (by rw [hst]; exact held4)), na, eos, ags, qn⟩
        first | exact wpAny_bind (wpAny_pure (wpAny_bind last)) | exact wpAny_bind last
      | @cons x n c i ts b₀ suite np pos' hds2 l2 hix loc nam suiteOk r ih =>
        intro w
        obtain ⟨yes, q1, qy, qn⟩ := w
        refine wpAny_handleBy_cons (codeAny_handlers_test ?_) (by intro z; cases z)
        have ty3 : PySem.W.Looks (model X.prog X.w) hp3 (typeOf (.ref a)) cls := fun A Q E s k z => wpAny_typeOf_ref (k _ _ g3) (by rw [z3.1]; exact z)
        have mt3 := PySem.W.exm_one (M := model X.prog X.w) (I3.kIn) ty3 q1
        have named : ∀ {Q : Value → Shared → Prop} {E : Value → Shared → Prop}, Q c { st' with heap := hp3 } → wpAny (model X.prog X.w) (X.A.mark (some (.ref a))) (eval (.Name x np) X.env) Q E { st' with heap := hp3 } := fun {Q E} z => by
          obtain ⟨n1, n2, n3 | ⟨n3, n4, n5⟩⟩ := nam
          · exact ld_glob (X := X.suite a ((a, o3) :: (X.pn ++ pins))) S3 n1 n3 z n2
          · exact ld_blt (X := X.suite a ((a, o3) :: (X.pn ++ pins))) S3 n1 n3 n4 z n5 n2
        refine named (mt3.here ?_)
        cases yes with
        | true =>
          refine (codeAny_handlers_suite_as ?_)
          refine HandSPX.lands_againZ fly3 fun hp4 fly4 up4 => ?_
          have I4 : Inv X pins σ1 h1 { st' with heap := hp4 } := I1.landed ground fly4.1 ((up.trans up3).trans up4) eos ags
          obtain ⟨o4, vs4, g4, z4, d4⟩ := fly4.there
          have S4 := I4.suite g4 d4 na nl nf
          refine store_ok (X := X.suite a ((a, o4) :: (X.pn ++ pins))) (v := .ref a) S4 nd hix (.inl loc) rfl (fun t5 S5 => ?_) (.inr loc)
          refine wpAny_mono ((suiteOk a o4 cls d (X.pn ++ pins) z4 ⟨_, d4⟩).run [] t5 _ h1 _ S5 (qy rfl a na)) (fun flow t6 res => ?_) (fun _ _ z => z.elim)
          have back : ∀ {σ6 : L2.St} {h6 : Hp}, Inv (X.suite a ((a, o4) :: (X.pn ++ pins))) [] σ6 h6 t6 → Inv X ((a, o4) :: pins) σ6 h6 t6 := fun {σ6 h6} S6 =>
            (S6.unsuite okX : Inv X pins σ6 h6 t6).pins_of fun p hp => by
              rcases List.mem_cons.mp hp with z | z
              · rw [z]; exact S6.pin (a, o4) (List.mem_append_left _ List.mem_cons_self)
              · exact S6.pin p (List.mem_append_left _ (List.mem_cons_of_mem _ (List.mem_append_right _ z)))
          cases flow with
          | next =>
            obtain ⟨σ6, h6, S6, q6⟩ := res
            exact gone_ok (back S6) nd hix loc fun t7 J7 => ⟨_, _, track J7 z4 d4 fresh0 nop, q6 (S6.pin (a, o4) (List.mem_append_left _ List.mem_cons_self)).2.1⟩
          | brk => exact (let ⟨_, _, _, z⟩ := res; z : False).elim
          | cont => exact (let ⟨_, _, _, z⟩ := res; z : False).elim
          | ret u =>
            obtain ⟨v6, σ6, h6, S6, r6, q6⟩ := res
            exact gone_ok (S6.unsuite okX) nd hix loc fun t7 J7 => ⟨_, _, _, J7, r6, q6⟩
        | false => exact ih (qn rfl)
    exact go hh want
  · cases flow with
    | next => exact let ⟨σ2, h2, J, q⟩ := res; wpAny_execs_nil ⟨σ2, h2, J.ofTry okX, q⟩
    | brk => exact let ⟨σ2, h2, J, q⟩ := res; ⟨σ2, h2, J.ofTry okX, q⟩
    | cont => exact let ⟨σ2, h2, J, q⟩ := res; ⟨σ2, h2, J.ofTry okX, q⟩
    | ret u => exact let ⟨v, σ2, h2, J, r, q⟩ := res; ⟨v, σ2, h2, J.ofTry okX, r, q⟩
end
/-- the body of a try, one call's exceptions in it -/
def tBody (n : Nat) (tt : XK → TS) (W : WX) : TS := fun D σ H => ∃ Ech : XK, (∀ cls d σ' H', σ'.length = n → Ech cls d H' → W cls d σ' H') ∧ tt Ech D σ H
theorem pss_body {X : Cx} {body : List Stmt} {tt : XK → TS} {W : WX} {n : Nat} (hn : X.N.length = n) (tk : Takes X W) (hb : ∀ E, Passes (L2.CX X.prog X.w) X E → PSs X body (tt E)) : PSs X body (tBody n tt W) := by
  refine ⟨fun pins s σ H D I h => ?_⟩
  obtain ⟨Ech, hW, z⟩ := h
  exact (hb Ech (passes_call (KL.takes_len tk) fun cls d σ' H' e hl => hW cls d σ' H' (hl.trans hn) e)).run pins s σ H D I z
end KX

/-! KA: text * number; isinstance by a written tuple of types. -/
namespace KA
open PySem PySem.Spec PyProof.Rows L2 KB
def mulS (x : Str) (n : Int) : Str := if n < 1 then Str.empty else if (n == 1 || x.length == 0) = true then x else ⟨(List.replicate n.toNat x.cps).foldl (· ++ ·) #[]⟩
theorem fold_size (a : Array Nat) : ∀ (n : Nat) (b : Array Nat), ((List.replicate n a).foldl (· ++ ·) b).size = b.size + n * a.size
  | 0, b => by simp
  | n + 1, b => by
    rw [List.replicate_succ, List.foldl_cons, fold_size a n, Array.size_append, Nat.succ_mul]
    omega
def rMulS : R2 := fun x y H Q => ∃ (z : Str) (n : Int), x = .str z ∧ y = .int n ∧ -1000 ≤ n ∧ n ≤ 1000 ∧ z.length ≤ 1000 ∧ Q (.str (mulS z n)) H
theorem op_mulS {X : Cx} : OpR X (binaryOp .Mult) rMulS := by
  intro pins s σ H x y v u Q I rx ry h
  obtain ⟨z, n, rfl, rfl, h1, h2, h3, q⟩ := h
  obtain ⟨t, rfl⟩ := rx
  obtain ⟨t', rfl⟩ := ry
  have fit : ¬ n < 1 → Builtin.Str.tooLong (z.length * n.toNat) = false := fun _ => short24 (by
    have h4 : n.toNat ≤ 1000 := by omega
    exact Nat.le_trans (Nat.mul_le_mul h3 h4) (by decide))
  refine P.mul_str (by rw [decide_eq_false (show ¬ n < -(2 ^ 63 : Int) by omega), decide_eq_false (show ¬ n ≥ 2 ^ 63 by omega)]; rfl) (fun a _ b => ?_) (fun a _ => fit a) ?_
  · have n0 : 0 < n := by omega
    have := (Int.le_ediv_iff_mul_le n0 (a := 1000) (b := 2 ^ 63 - 1)).mpr (by omega)
    omega
  · unfold mulS at q
    split
    · rename_i a
      rw [if_pos a] at q
      exact ⟨by decide, .str Str.empty, H, I.tok _, ⟨_, rfl⟩, q⟩
    · rename_i a
      rw [if_neg a] at q
      split
      · rename_i b
        rw [if_pos b] at q
        exact ⟨.str z, H, I.tok _, ⟨_, rfl⟩, q⟩
      · rename_i b
        rw [if_neg b] at q
        refine ⟨?_, .str _, H, I.tok _, ⟨_, rfl⟩, q⟩
        show Array.size _ ≤ sizeLine
        rw [fold_size]
        have h4 : n.toNat ≤ 1000 := by omega
        have h5 : z.cps.size ≤ 1000 := h3
        have := Nat.mul_le_mul h4 h5
        have h6 : 1000 * 1000 ≤ sizeLine := by decide
        simp only [List.size_toArray, List.length_nil, Nat.zero_add]
        omega
/-! ### a written list or tuple, one of its items drawn -/
open KV
theorem pick_at {vs : List V} {r : Int} {N : Nat} (h : vs.length = N) (a : 0 ≤ r) (b : r < (N : Int)) : ∃ v ∈ vs, atI vs r = some v := by
  obtain ⟨n, rfl⟩ : ∃ n : Nat, r = (n : Int) := ⟨r.toNat, by omega⟩
  have hl : n < vs.length := by omega
  exact ⟨vs[n], List.getElem_mem hl, atI_nat (by simp [hl])⟩
theorem pickL {K : PySem.W.Frag} {σ : L2.St} {H H0 : Hp} {pen c : Addr} {j k N : Nat} {vs : List V} {Q : VK} (hp : σ[j]? = some (some (.ref pen))) (pn : PenC H pen c (k + 1)) (kq : Keep pen H0 H) (hN : vs.length = N) (h0 : 0 < N) (h1 : N < 1000) (q : ∀ v ∈ vs, ∀ H', PenC H' pen c k → Keep pen H0 H' → Q v H') :
    vs.length ≤ sizeLine ∧ ∀ p, H p = none → tCall spDraw [] E0 (tCons (tVar j) (tCons (tC (.int (N : Int))) tNil)) σ (upd H p (.lst vs)) fun y H2 => rIxL K (.ref p) y H2 Q := by
  refine ⟨Nat.le_of_lt (small1000' (by omega)), fun p np => r_call (r_cons (r_var hp (r_cons (r_c (r_nil ?_)))))⟩
  refine ⟨pen, c, (N : Int), k, rfl, by omega, by omega, pn.up (same_new np), fun r H2 a b pn2 kp => ?_⟩
  obtain ⟨v, m, at1⟩ := pick_at hN a b
  exact r_ixL (SqL.of (kp _ _ upd_same (pn.ne np))) at1 (q v m H2 pn2 (kq.tr ((Keep.same (same_new np)).tr kp)))
theorem pickT {K : PySem.W.Frag} {σ : L2.St} {H H0 : Hp} {pen c : Addr} {j k N : Nat} {vs : List V} {Q : VK} (hp : σ[j]? = some (some (.ref pen))) (pn : PenC H pen c (k + 1)) (kq : Keep pen H0 H) (hN : vs.length = N) (h0 : 0 < N) (h1 : N < 1000) (q : ∀ v ∈ vs, ∀ H', PenC H' pen c k → Keep pen H0 H' → Q v H') :
    vs.length ≤ sizeLine ∧ ∀ p, H p = none → tCall spDraw [] E0 (tCons (tVar j) (tCons (tC (.int (N : Int))) tNil)) σ (upd H p (.tup vs)) fun y H2 => rIxT K (.ref p) y H2 Q := by
  refine ⟨Nat.le_of_lt (small1000' (by omega)), fun p np => r_call (r_cons (r_var hp (r_cons (r_c (r_nil ?_)))))⟩
  refine ⟨pen, c, (N : Int), k, rfl, by omega, by omega, pn.up (same_new np), fun r H2 a b pn2 kp => ?_⟩
  obtain ⟨v, m, at1⟩ := pick_at hN a b
  exact r_ixT (SqT.of (kp _ _ upd_same (pn.ne np))) at1 (q v m H2 pn2 (kq.tr ((Keep.same (same_new np)).tr kp)))
theorem r_par3 {i j l : Nat} {ta : TA} {D : Ends} {σ : L2.St} {H : Hp} (q : ta σ H fun vs H1 => ∃ u v w, vs = [u, v, w] ∧ D.nx (((σ.set i (some u)).set j (some v)).set l (some w)) H1) : tPar3 i j l ta D σ H := q
theorem r_bm0 {K : PySem.W.Frag} {T : String} {r : V → List V → Hp → VK → Prop} {to : TE} {σ : L2.St} {H : Hp} {Q : VK} (q : to σ H fun x H1 => tyV K T x H1 ∧ r x [] H1 Q) : tBM0 K T r to σ H Q := q
theorem mem1 {α : Type} {v a : α} (h : v ∈ [a]) : v = a := List.mem_singleton.mp h
theorem strs_mem {v : V} {zs : List Str} (h : v ∈ zs.map V.str) : ∃ z ∈ zs, v = .str z := by
  obtain ⟨z, m, rfl⟩ := List.mem_map.mp h
  exact ⟨z, m, rfl⟩
end KA

/-! KSc: lists of scalars that hold no truths, compared. -/
namespace KSc
open PySem PySem.Spec PyProof.Rows L2 KB KG KY
def ok : Sc → Bool
  | .non => true
  | .bl _ => false
  | .int _ => true
  | .str x => PyData.strOk x
theorem dp {K : PySem.W.Frag} {H : Hp} : ∀ zs : List Sc, DpAll K H (zs.map Sc.v) (zs.map Sc.d)
  | [] => .nil
  | .non :: r => .cons .non (dp r)
  | .bl b :: r => .cons (.bl b) (dp r)
  | .int i :: r => .cons (.int i) (dp r)
  | .str x :: r => .cons (.str x) (dp r)
theorem lay1 {s : Sc} (h : ok s = true) : PyData.canLay0 s.d = true := by
  cases s with
  | non => rfl
  | bl b => cases h
  | int i => rfl
  | str x =>
    have h : PyData.strOk x = true := h
    simp only [Sc.d, PyData.canLay0, h]
theorem lay : ∀ zs : List Sc, (∀ z ∈ zs, ok z = true) → PyData.canLayAll0 (zs.map Sc.d) = true
  | [], _ => rfl
  | n :: r, h => by
    show (PyData.canLay0 n.d && PyData.canLayAll0 (r.map Sc.d)) = true
    rw [lay r fun z m => h z (List.mem_cons_of_mem _ m), lay1 (h n List.mem_cons_self)]
    rfl
theorem depth : ∀ zs : List Sc, PyData.depthAll (zs.map Sc.d) = 0
  | [] => rfl
  | n :: r => by
    show max (PyData.depth n.d) (PyData.depthAll (r.map Sc.d)) = 0
    rw [depth r]
    cases n <;> rfl
theorem shaped {zs : List Sc} (h : ∀ z ∈ zs, ok z = true) : SeqAt.shaped (.list (zs.map Sc.d)) = true := by
  show (PyData.canLayAll0 (zs.map Sc.d) && decide (PyData.depthAll (zs.map Sc.d) + 1 ≤ 64)) = true
  rw [lay zs h, depth]; rfl
theorem shapedT {zs : List Sc} (h : ∀ z ∈ zs, ok z = true) : SeqAt.shaped (.tuple (zs.map Sc.d)) = true := by
  show (PyData.canLayAll0 (zs.map Sc.d) && decide (PyData.depthAll (zs.map Sc.d) + 1 ≤ 64)) = true
  rw [lay zs h, depth]; rfl
theorem eqv1 {a b : Sc} (ha : ok a = true) (hb : ok b = true) : PyData.eqv a.d b.d = decide (a = b) := by
  cases a with
  | non => cases b <;> simp [Sc.d, PyData.eqv]
  | bl b => cases ha
  | int i =>
    cases b with
    | bl b => cases hb
    | int j =>
      simp only [Sc.d, PyData.eqv]
      by_cases h : i = j <;> simp [h]
    | non => simp [Sc.d, PyData.eqv]
    | str => simp [Sc.d, PyData.eqv]
  | str x =>
    cases b with
    | str y =>
      simp only [Sc.d, PyData.eqv]
      by_cases h : x = y <;> simp [h]
    | bl b => cases hb
    | int j => simp [Sc.d, PyData.eqv]
    | non => simp [Sc.d, PyData.eqv]
theorem eqv : ∀ ns ms : List Sc, (∀ z ∈ ns, ok z = true) → (∀ z ∈ ms, ok z = true) → PyData.eqvAll (ns.map Sc.d) (ms.map Sc.d) = decide (ns = ms)
  | [], [], _, _ => rfl
  | [], _ :: _, _, _ => rfl
  | _ :: _, [], _, _ => rfl
  | n :: r, m :: q, h, g => by
    show (PyData.eqv n.d m.d && PyData.eqvAll (r.map Sc.d) (q.map Sc.d)) = decide (n :: r = m :: q)
    rw [eqv r q (fun z k => h z (List.mem_cons_of_mem _ k)) (fun z k => g z (List.mem_cons_of_mem _ k)), eqv1 (h n List.mem_cons_self) (g m List.mem_cons_self)]
    by_cases h1 : n = m <;> by_cases h2 : r = q <;> simp [h1, h2]
theorem r_eqL {K : PySem.W.Frag} {H : Hp} {Q : VK} {a b : Addr} {ns ms : List Sc} (h : SqL K H a (ns.map Sc.v)) (h' : SqL K H b (ms.map Sc.v)) (o1 : ∀ z ∈ ns, ok z = true) (o2 : ∀ z ∈ ms, ok z = true) (q : Q (.bl (decide (ns = ms))) H) : rEqD K (.ref a) (.ref b) H Q :=
  ⟨_, _, .lst h (dp ns), .lst h' (dp ms), shaped o1, shaped o2, (show Q (.bl (PyData.eqvAll (ns.map Sc.d) (ms.map Sc.d))) H by rw [eqv _ _ o1 o2]; exact q)⟩
theorem r_neL {K : PySem.W.Frag} {H : Hp} {Q : VK} {a b : Addr} {ns ms : List Sc} (h : SqL K H a (ns.map Sc.v)) (h' : SqL K H b (ms.map Sc.v)) (o1 : ∀ z ∈ ns, ok z = true) (o2 : ∀ z ∈ ms, ok z = true) (q : Q (.bl (!decide (ns = ms))) H) : rNeD K (.ref a) (.ref b) H Q :=
  ⟨_, _, .lst h (dp ns), .lst h' (dp ms), shaped o1, shaped o2, (show Q (.bl (!PyData.eqvAll (ns.map Sc.d) (ms.map Sc.d))) H by rw [eqv _ _ o1 o2]; exact q)⟩
end KSc

/-! KIx: places of lists and tuples whose reading names K. -/
namespace KIx
open PySem PySem.Spec PyProof.Rows L2
section
variable {X : Cx}
theorem ix_tupW (K : PySem.W.Frag) (hK : X.K = K) : IxR X (rIxT K) := by
  subst hK
  exact ix_tup
theorem ix_listW (K : PySem.W.Frag) (hK : X.K = K) : IxR X (rIxL K) := by
  subst hK
  exact ix_list
end
/-! ### a caught error of an own class, asked of within the suite -/
section
variable {X : Cx} {a : Addr} {oe : Obj} {cls : Value} {d : Option Addr} {pn : List (Addr × Obj)}
def tXs (K : PySem.W.Frag) (a : Addr) (cls : Value) (d : Option Addr) (f : Str) (te : TE) : TE := fun σ H Q => te σ H fun x H1 => x = .ref a ∧ ∃ (C dd : Addr) (fs : List (Str × V)) (v : V), cls = .ref C ∧ d = some dd ∧ H1 dd = some (.xd fs) ∧ XfC K C ∧ PySem.W.findIn K (.ref C) f = some none ∧ fs.lookup f = some v ∧ Q v H1
theorem pe_xs (K : PySem.W.Frag) (hK : X.K = K) (hz : Zc cls d oe) (hf : ∃ vs, oe.data = .fields vs) {e : Expr} {te : TE} {pos : Pos} {n : Str} (he : PE (X.suite a ((a, oe) :: pn)) e te) (hb : attributeBase e n X.env (eval e X.env) = eval e X.env := by rfl) :
    PE (X.suite a ((a, oe) :: pn)) (.Attribute e n pos) (tXs K a cls d n te) := by
  subst hK
  refine ⟨fun pins s σ H Q I h => attr_of hb (thn (he.run pins s σ H _ I h) fun u s1 hh => ?_)⟩
  obtain ⟨x, H1, I1, rx, rfl, C, dd, fs, v, rfl, rfl, ea, T, no, l, q⟩ := hh
  obtain rfl : u = Value.ref a := rx
  obtain ⟨ha, _⟩ := I1.pin (a, oe) (List.mem_append_left _ List.mem_cons_self)
  obtain ⟨vs, hd⟩ := hf
  obtain ⟨mA, hns, hr⟩ := (I1.hok dd _ ea : ObjOk X.prog X.w H1 s1.heap dd (.xd fs))
  obtain ⟨od, ho, hl⟩ := lookIn_ns hns
  obtain ⟨u, hu, ru⟩ := RelO.some_of (v := v) (o := mA n) (by rw [← l]; exact hr n)
  have J : PySem.W.InstAt s1.heap a oe C (some od) := ⟨ha, hz.1, by unfold PySem.W.notCls; rw [hd] <;> rfl, by rw [hz.2]; exact ho⟩
  exact HandSPX.exc_get I1.kIn J T.ga T.gg T.exC (PySem.W.findObj_own T.hdC no rfl (by rw [hl, hu])) (handed_of ru) ⟨v, H1, I1.tok _, ru, q⟩
def rIsS (K : PySem.W.Frag) (a : Addr) (cls : Value) (d : Option Addr) : List V → Hp → VK → Prop := fun xs H Q => ∃ (C dd : Addr) (fs : List (Str × V)) (c : V) (u : Value) (b : Bool), xs = [.ref a, c] ∧ cls = .ref C ∧ d = some dd ∧ H dd = some (.xd fs) ∧ ExcC K C ∧ ClsV c u ∧ PySem.W.kitOne K (.ref C) u = some b ∧ Q (.bl b) H
theorem cls_some {K : PySem.W.Frag} {C : Addr} (T : ExcC K C) : (PySem.W.clsIn K C).isSome = true := by
  have z := T.hd
  unfold PySem.W.hasDictIn at z
  cases e : PySem.W.clsIn K C with
  | none => rw [e] at z; cases z
  | some _ => rfl
theorem inst_at {K : PySem.W.Frag} {H : Hp} {σ : L2.St} {pins : List (Addr × Obj)} {st : Shared} {C dd : Addr} {fs : List (Str × V)} (hz : Zc (.ref C) (some dd) oe) (hf : ∃ vs, oe.data = .fields vs) (I : Inv (X.suite a ((a, oe) :: pn)) pins σ H st) (ed : H dd = some (.xd fs)) :
    ∃ od, PySem.W.InstAt st.heap a oe C (some od) := by
  obtain ⟨ha, _⟩ := I.pin (a, oe) (List.mem_append_left _ List.mem_cons_self)
  obtain ⟨vs, hd⟩ := hf
  obtain ⟨mA, ns, rl⟩ := (I.hok dd _ ed : ObjOk X.prog X.w H st.heap dd (.xd fs))
  obtain ⟨od, ho, hl⟩ := lookIn_ns ns
  exact ⟨od, ha, hz.1, by unfold PySem.W.notCls; rw [hd] <;> rfl, hz.2.symm ▸ ho⟩
theorem call_isS (K : PySem.W.Frag) (hK : X.K = K) (hz : Zc cls d oe) (hf : ∃ vs, oe.data = .fields vs) : CallR (X.suite a ((a, oe) :: pn)) (.builtin "isinstance") (rIsS K a cls d) := by
  subst hK
  intro pins st σ h xs us Q inv rel pre
  obtain ⟨C, dd, fs, c, u, b, rfl, rfl, rfl, ed, T, k, e, q⟩ := pre
  obtain ⟨w1, w2, rfl, r1, r2⟩ := L2.vals2 rel
  obtain rfl : w1 = Value.ref a := r1
  obtain rfl := k.eq r2
  obtain ⟨od, J⟩ := inst_at (K := X.K) hz hf inv ed
  exact PySem.W.kia_one (PySem.W.kitx_exc (cls_some T) T.hg T.hk T.hs T.ha T.hn T.ht T.hm) inv.kIn J e (fun z => nomatch z) fun tk => ⟨.bl b, h, inv.tok tk, rfl, q⟩
def rIsTS (K : PySem.W.Frag) (a : Addr) (cls : Value) (d : Option Addr) : List V → Hp → VK → Prop := fun xs H Q => ∃ (C dd tp : Addr) (fs : List (Str × V)) (cs : List V) (us : List Value) (b : Bool), xs = [.ref a, .ref tp] ∧ cls = .ref C ∧ d = some dd ∧ H dd = some (.xd fs) ∧ ExcC K C ∧ H tp = some (.tup cs) ∧ Paired ClsV cs us ∧ PySem.W.kitAny K (.ref C) us = some b ∧ Q (.bl b) H
theorem call_isTS (K : PySem.W.Frag) (hK : X.K = K) (hz : Zc cls d oe) (hf : ∃ vs, oe.data = .fields vs) : CallR (X.suite a ((a, oe) :: pn)) (.builtin "isinstance") (rIsTS K a cls d) := by
  subst hK
  intro pins st σ h xs us Q inv rel pre
  obtain ⟨C, dd, tp, fs, cs, ws, b, rfl, rfl, rfl, ed, T, hT, k, e, q⟩ := pre
  obtain ⟨w1, w2, rfl, r1, r2⟩ := L2.vals2 rel
  obtain rfl : w1 = Value.ref a := r1
  obtain rfl : w2 = Value.ref tp := r2
  obtain ⟨od, J⟩ := inst_at (K := X.K) hz hf inv ed
  obtain ⟨_, its, rv, o2, h1, h2, n, h3⟩ := (show ObjOk X.prog X.w h st.heap tp (.tup cs) from inv.hok tp _ hT)
  have e3 := ClsV.all k rv
  subst e3
  obtain ⟨oc, ood, dt, sl⟩ := o2
  simp only at h2 h3
  subst h2 h3
  exact PySem.W.kia_tup (PySem.W.kitx_exc (cls_some T) T.hg T.hk T.hs T.ha T.hn T.ht T.hm) inv.kIn J h1 e (fun z => nomatch z) fun tk => ⟨.bl b, h, inv.tok tk, rfl, q⟩
end
/-- a test's answer is told ahead of the branches -/
theorem ifS_ev {t : TT} {t1 t2 : TS} {D : Ends} {σ : L2.St} {H : Hp} (b : Bool) (h : ∀ QT : Bool → Hp → Prop, (∀ H', L2.Same H H' → QT b H') → t σ H QT) (h1 : b = true → ∀ H', L2.Same H H' → t1 D σ H') (h2 : b = false → ∀ H', L2.Same H H' → t2 D σ H') : tIfS t t1 t2 D σ H := by
  refine h _ fun H' s => ?_
  cases b with
  | true => exact h1 rfl H' s
  | false => exact h2 rfl H' s
theorem and_ev {t u : TT} {σ : L2.St} {H : Hp} {QT : Bool → Hp → Prop} {b c : Bool} (ht : ∀ QT : Bool → Hp → Prop, (∀ H', L2.Same H H' → QT b H') → t σ H QT) (hu : b = true → ∀ H', L2.Same H H' → ∀ QT : Bool → Hp → Prop, (∀ H2, L2.Same H' H2 → QT c H2) → u σ H' QT) (z : ∀ H', L2.Same H H' → QT (b && c) H') : tAnd t u σ H QT := by
  refine ht _ fun H' s => ?_
  cases b with
  | true => exact hu rfl H' s _ fun H2 s2 => z H2 (s.trans s2)
  | false => exact z H' s
theorem r_makeD {σ : L2.St} {H : Hp} {Q : VK} {tA : TA} {dvs : List V} {C : Addr} {sp : Sp} {E : XK} (q : tA σ H fun vs H1 => ∀ x dx, H1 x = none → H1 dx = none → dx ≠ x → sp (.ref x :: (vs ++ dvs)) (upd (upd H1 dx (.own x)) x (.ins C dx [])) (fun v H2 => v = .non ∧ Q (.ref x) H2) E) : tMake C sp dvs E tA σ H Q := q
end KIx

/-! KSt: own classes whose __init__ has a star parameter and keyword-only ones; calls of them by keywords and with a star; own == within ==, of tuples too. -/
namespace KSt
open PySem PySem.Spec PyProof.Rows L2 KB StX
/-! ### defs with a star parameter, called with keywords ks -/
def SpK : Type := List V → List V → Hp → VK → XK → Prop
def FnK (P : Program) (w : World) (K : PySem.W.Frag) (mg : Str → Option Value) (base : Heap) (CX : CXT) (k : Nat) (f : Addr) (ks : List Str) (sp : SpK) : Prop :=
  ∀ (A : Around) (outer : List Env) (s : Shared) (H : Hp) (us ws : List Value) (vs zs : List V) (Q : VK) (E : XK), Room k A → Env0 P w K mg base A outer s H → Vals vs us → Vals zs ws → zs.length = ks.length → sp vs zs H Q E →
    codeAny (model P w) A (.call (.ref f) ⟨us, ks.zip ws⟩) (CR CX outer P w H s Q E) s
/-- how values, star values and keywords' values are bound -/
def BStar (K : PySem.W.Frag) (fd : FuncData) (ps : List Str) (pv : Str) (n : Nat) (ks : List Str) (g : List Value → List Value → List Value) : Prop :=
  ∀ (M : Model) (A : Around) (E : Value → Shared → Prop) (Q : List (Str × Value) → Shared → Prop) (s : Shared) (us rest ws : List Value), K.In s.heap → us.length = n → ws.length = ks.length →
    wpAny M A (newTuple rest >>= fun t => pure (ps.zip (g us ws) ++ [(pv, t)])) Q E s → wpAny M A (bindArgs fd ⟨us ++ rest, ks.zip ws⟩) Q E s
section
variable {CX : CXT} {P : Program} {w : World} {K : PySem.W.Frag} {mg : Str → Option Value} {base : Heap} {k n : Nat} {f : Addr} {name qual : Str} {params : Arguments} {body : List Stmt} {scope : Scope} {dV kV doc pm cdv ct oc : Value} {an od : Option Addr}
  {osl : Array (Option Value)} {N ps ks : List Str} {pv : Str} {sp : Sp} {g : List Value → List Value → List Value} {gV : List V → List V → List V}
theorem FnK.mono {j : Nat} {sp : SpK} (F : FnK P w K mg base CX j f ks sp) (h : j ≤ k) : FnK P w K mg base CX k f ks sp := fun A outer s H us ws vs zs Q E hr => F A outer s H us ws vs zs Q E (hr.mono h)
theorem FnK.imp {sp sp' : SpK} (F : FnK P w K mg base CX k f ks sp) (h : ∀ vs zs H Q E, sp' vs zs H Q E → sp vs zs H Q E) : FnK P w K mg base CX k f ks sp' := fun A outer s H us ws vs zs Q E hr e0 r r2 l hs => F A outer s H us ws vs zs Q E hr e0 r r2 l (h _ _ _ _ _ hs)
theorem FnK.toR {sp : SpK} (F : FnK P w K mg base CX k f [] sp) : FnR P w K mg base CX k f (fun vs H Q E => sp vs [] H Q E) := fun A outer s H us vs Q E hr e0 r hs => F A outer s H us [] vs [] Q E hr e0 r .nil rfl hs
/-- what such a def promises: xs its values, rest the star ones (a new tuple), zs the keywords' -/
def spStar (sp : Sp) (n : Nat) (gV : List V → List V → List V) : SpK := fun vs zs H Q E => ∃ xs rest, vs = xs ++ rest ∧ xs.length = n ∧ rest.length ≤ sizeLine ∧ ∀ p, H p = Option.none → sp (gV xs zs ++ [V.ref p]) (upd H p (.tup rest)) Q E
theorem fn_starK (lk : K.lookup f = some ⟨oc, od, .func (PySem.W.fnOf name qual params body scope dV kV doc pm an cdv ct), osl⟩) (hcd : PySem.W.codeIn K cdv qual = true) (S : FnScope N (ps ++ [pv]) scope) (hCX : CXUp CX)
    (hb : BStar K (PySem.W.fnOf name qual params body scope dV kV doc pm an cdv ct) ps pv n ks g) (hg : ∀ {vs us zs ws}, Vals vs us → Vals zs ws → Vals (gV vs zs) (g us ws)) (hgl : ∀ vs zs, vs.length = n → zs.length = ks.length → (gV vs zs).length = ps.length)
    (hbody : ∀ (A : Around) (outer : List Env) (s : Shared) (H : Hp) (vs : List V) (Q : VK) (E : XK), Room k (A.deeper (envOfC qual scope s.heap.objs.size f cdv)) → sp vs H Q E →
      ∃ t, PSs (cxOf CX P w K mg base N qual scope f cdv A outer s H E) body t ∧ t { nx := fun _ H' => Q .non H', rt := Q } (start N vs) H) :
    FnK P w K mg base CX (k + 1) f ks (spStar sp n gV) := by
  intro A outer s H us ws vs zs Q E hr e0 r rz lz hsp
  obtain ⟨xs, rest, ev, hl, hz, hq⟩ := hsp
  subst ev
  obtain ⟨u1, u2, eu, r1, r2⟩ := vals_split r
  subst eu
  have hn : H s.heap.objs.size = Option.none := e0.hok.fresh (Nat.le_refl _)
  have hl1 : u1.length = n := by rw [← r1.length]; exact hl
  have hl2 : u2.length ≤ sizeLine := by rw [← r2.length]; exact hz
  have rg := hg r1 rz
  have lg := hgl xs zs hl lz
  refine run_bnd lk hcd S hr e0 (G := fun ys H2 => ∃ p, H p = Option.none ∧ ys = gV xs zs ++ [V.ref p] ∧ H2 = upd H p (.tup rest)) (fun A' Ex Q' h => ?_) fun s2 H2 ys ⟨p, hp, ex, eH⟩ hr' => ?_
  · refine hb _ _ _ _ _ u1 u2 ws (e0.mod.kin.keeps fun b o e => (e0.bs b o e).1) hl1 (by rw [← rz.length]; exact lz) ?_
    refine wpAny_bind (wpAny_newTuple (wpAny_pure ?_) hl2)
    have new : ObjOk P w (upd H s.heap.objs.size (.tup rest)) (s.heap.push ({ cls := .type "tuple", data := .seq u2.toArray } : Obj)) s.heap.objs.size (.tup rest) := ⟨hz, u2, r2, ⟨_, Heap.get?_push_size _ rfl, rfl, _, rfl⟩⟩
    have un := un_laid (fs := frs outer) (s := s) (o := ({ cls := .type "tuple", data := .seq u2.toArray } : Obj)) (u := .tup rest) hn
    have z := h _ _ (gV xs zs ++ [V.ref s.heap.objs.size]) (g u1 ws ++ [Value.ref s.heap.objs.size]) (env0_laid e0 new) un rfl (fun e s' => hCX outer s H _ _ E e s' un (fun b o q => Heap.get?_push_of_some _ q) rfl) (rg.append (.cons rfl .nil))
      (by rw [List.length_append, List.length_append, lg] <;> rfl) ⟨_, hn, rfl, rfl⟩
    rw [List.zip_append (by rw [← rg.length, lg])] at z
    exact z
  · subst ex eH
    exact hbody A outer s2 _ _ Q E hr' (hq p hp)
end
/-! ### C(.., k = v) by such an __init__ -/
structure CalleeIK (P : Program) (w : World) (K : PySem.W.Frag) (mg : Str → Option Value) (base : Heap) (CX : CXT) (k : Nat) (C : Addr) (x : Str) (ks : List Str) (sp : SpK) : Prop where
  ex : ∃ f : Addr, FnK P w K mg base CX k f ks sp ∧ Mk K C f ∧ mg x = some (.ref C)
def tMakeRK (C : Addr) (m : Nat) (sp : SpK) (E : XK) (t tk : TA) : TE := fun σ H Q => t σ H fun vs H1 => tk σ H1 fun zs H2 => zs.length = m ∧ ∀ x dx, H2 x = Option.none → H2 dx = Option.none → dx ≠ x →
  sp (V.ref x :: vs) zs (upd (upd H2 dx (.own x)) x (.ins C dx [])) (fun v H3 => v = .non ∧ Q (.ref x) H3) E
theorem r_makeRK {C : Addr} {m : Nat} {sp : SpK} {E : XK} {t tk : TA} {σ : L2.St} {H : Hp} {Q : VK} (q : t σ H fun vs H1 => tk σ H1 fun zs H2 => zs.length = m ∧ ∀ x dx, H2 x = Option.none → H2 dx = Option.none → dx ≠ x →
  sp (V.ref x :: vs) zs (upd (upd H2 dx (.own x)) x (.ins C dx [])) (fun v H3 => v = .non ∧ Q (.ref x) H3) E) : tMakeRK C m sp E t tk σ H Q := q
section
variable {X : Cx} {CX : CXT} {k : Nat} {f C : Addr} {ks : List Str} {sp : SpK} {E : XK} {x : Str} {p pos : Pos} {e : Expr} {es : List Expr} {kws : List Keyword} {t tk : TA}
theorem run_makeRK {pins : List (Addr × Obj)} {σ : L2.St} {H : Hp} {s : Shared} {Q : VK} {us ws : List Value} {vs zs : List V} (M : Mk X.K C f) (F : FnK X.prog X.w X.K X.mg X.base CX k f ks sp) (hr : Room (k + 1) X.A) (hx : Passes CX X E)
    (I : Inv X pins σ H s) (r : Vals vs us) (rz : Vals zs ws) (l2 : zs.length = ks.length)
    (h : ∀ x dx, H x = Option.none → H dx = Option.none → dx ≠ x → sp (V.ref x :: vs) zs (upd (upd H dx (.own x)) x (.ins C dx [])) (fun v H2 => v = .non ∧ Q (.ref x) H2) E) :
    wpAny (model X.prog X.w) X.A (call (.ref C) us (ks.zip ws)) (EP X pins σ Q) X.xe s := by
  have hq := h (s.heap.objs.size + 1) s.heap.objs.size (I.hok.fresh (Nat.le_succ _)) (I.hok.fresh (Nat.le_refl _)) (Nat.ne_of_lt (Nat.lt_succ_self _))
  have I2 := Inv.made (C := C) I
  have r1 : Vals (V.ref (s.heap.objs.size + 1) :: vs) (Value.ref (s.heap.objs.size + 1) :: us) := .cons rfl r
  refine wpAny_call (make_map (f := f) I.kIn M.makes M.init (beq_iff_eq.mp M.fn) (codeAny_mono (F _ X.stack _ _ (Value.ref (s.heap.objs.size + 1) :: us) ws _ _ _ E (hr.make C us (ks.zip ws)) (I2.env0.make C us (ks.zip ws)) r1 rz l2 hq) fun r s' hq' => ?_))
  cases r with
  | error e => exact hx pins σ _ _ e s' I2 hq'
  | ok fl =>
    cases fl with
    | ret u =>
      obtain ⟨v, H', I3, rv, ev, q3⟩ := I2.after hq'
      subst ev
      exact ⟨rv, ⟨V.ref (s.heap.objs.size + 1), H', I3, rfl, q3⟩⟩
    | next => exact False.elim hq'
    | brk => exact False.elim hq'
    | cont => exact False.elim hq'
/-- C(e, .., k = v, ..) -/
theorem pe_makeRK (c : CalleeIK X.prog X.w X.K X.mg X.base CX k C x ks sp) (hr : Room (k + 1) X.A) (hg : Gl X x) (hx : Passes CX X E) (ha : PA X (e :: es) t) (hkw : PK X kws tk)
    (hall : (backToKw pos (keywordEach kws X.env)).all (·.1.isSome) = true := by rfl) (hks : (backToKw pos (keywordEach kws X.env)).filterMap (·.1) = ks := by rfl) (hdb : (x == ("__debug__" : Str)) = false := by decide)
    (he : starEach (e :: es) X.env = (false, eval e X.env) :: starEach es X.env := by rfl) (hpl : ((backTo pos (starEach (e :: es) X.env)).any (·.1) || (backToKw pos (keywordEach kws X.env)).any (·.1.isNone)) = false := by rfl) :
    PE X (.Call (.Name x p) (e :: es) kws pos) (tMakeRK C ks.length sp E t tk) := by
  obtain ⟨f, F, M, hm⟩ := c.ex
  refine ⟨fun pins s σ H Q I h => ?_⟩
  refine wpAny_Call_Name_kw (ld_glob I hg hm ?_ hdb)
  refine PySem.W.callWith_KW (h₀ := X.base) I.ok.mod.kin M.kp hall (thn (ha.run pos pins s σ H _ I h) fun us s1 ⟨vs, H1, I1, r, q⟩ => ?_) hpl he
  refine thn (hkw.run pos pins s1 σ H1 _ I1 q) fun ws s2 ⟨zs, H2, I2, rz, l2, q2⟩ => ⟨I2.kIn, ?_⟩
  rw [hks]
  exact run_makeRK M F hr hx I2 r rz l2 q2
/-- C(e, ..) -/
theorem pe_makeR0 (c : CalleeIK X.prog X.w X.K X.mg X.base CX k C x [] sp) (hr : Room (k + 1) X.A) (hg : Gl X x) (hx : Passes CX X E) (ha : PA X (e :: es) t) (hdb : (x == ("__debug__" : Str)) = false := by decide)
    (he : starEach (e :: es) X.env = (false, eval e X.env) :: starEach es X.env := by rfl) (hpl : (backTo pos (starEach es X.env)).any (·.1) = false := by rfl) :
    PE X (.Call (.Name x p) (e :: es) [] pos) (tMakeRK C 0 sp E t tNil) := by
  obtain ⟨f, F, M, hm⟩ := c.ex
  refine ⟨fun pins s σ H Q I h => ?_⟩
  refine wpAny_Call_Name_kw (ld_glob I hg hm ?_ hdb)
  refine PySem.W.callWith_K (h₀ := X.base) I.ok.mod.kin M.kp (thn (ha.run pos pins s σ H _ I h) fun us s1 ⟨vs, H1, I1, r, q⟩ => ⟨I1.kIn, ?_⟩) he hpl
  obtain ⟨l2, q2⟩ := q
  exact run_makeRK (ks := []) (ws := []) M F hr hx I1 r .nil rfl q2
/-- the node of a call with a star and keywords -/
theorem call_starK {M : Model} {A : Around} {Er : Value → Shared → Prop} {s : Shared} {fv : Value} {first : List Value} {pos : Pos} {Q : Value → Shared → Prop} {Pr : Heap → Prop} {args : List (Bool × Sem Value)} {kw : List (Option Str × Sem Value)} (hst : (args.any (·.1) || kw.any (·.1.isNone)) = true)
    (hk : ∀ h, Pr h → ∃ k, (k = Keeper.frame ∨ k = Keeper.machine ∨ k = Keeper.boundFrame) ∧ PySem.W.Looks M h (keeperOf fv) k)
    (h : wpAny M A (evalArgs fv true args kw) (fun a s₁ => Pr s₁.heap ∧ wpAny M A (call fv (first ++ a.pos) a.kw) Q Er s₁) Er s) : wpAny M A (callWith pos fv first args kw) Q Er s := by
  unfold callWith
  refine wpAny_bind (wpAny_holding (wpAny_mono h (fun a s₁ h₁ => wpAny_bind (wpAny_standAt ?_)) fun _ _ x => x))
  obtain ⟨k, hk', L⟩ := hk _ h₁.1
  simp only [hst]
  refine wpAny_bind (L.here ?_)
  have tail : ∀ {t : Sem Value}, wpAny M A t Q Er s₁ → wpAny M A (t >>= fun r => holding [r] point >>= fun _ => pure r) Q Er s₁ :=
    fun ht => wpAny_bind (wpAny_mono ht (fun r s₂ hr => wpAny_bind (wpAny_holding (wpAny_point (wpAny_pure hr)))) fun _ _ x => x)
  have marked (mk : Value) : wpAny M A (callMarked mk fv (first ++ a.pos) a.kw) Q Er s₁ := by unfold callMarked; exact Calls.wpAny_keep h₁.2
  rcases hk' with rfl | rfl | rfl <;> dsimp only <;> first | exact tail (marked _) | exact tail (wpAny_operating h₁.2)
/-- C(e, *y, k = v) -/
theorem pe_makeRKS (c : CalleeIK X.prog X.w X.K X.mg X.base CX k C x ks sp) (hr : Room (k + 1) X.A) (hg : Gl X x) (hx : Passes CX X E) (ha : PA X (e :: es) t) (hkw : PK X kws tk)
    (hall : (backToKw pos (keywordEach kws X.env)).all (·.1.isSome) = true := by rfl) (hks : (backToKw pos (keywordEach kws X.env)).filterMap (·.1) = ks := by rfl) (hdb : (x == ("__debug__" : Str)) = false := by decide)
    (he : starEach (e :: es) X.env = (false, eval e X.env) :: starEach es X.env := by rfl) (hst : ((backTo pos (starEach (e :: es) X.env)).any (·.1) || (backToKw pos (keywordEach kws X.env)).any (·.1.isNone)) = true := by rfl) :
    PE X (.Call (.Name x p) (e :: es) kws pos) (tMakeRK C ks.length sp E t tk) := by
  obtain ⟨f, F, M, hm⟩ := c.ex
  refine ⟨fun pins s σ H Q I h => ?_⟩
  refine wpAny_Call_Name_kw (ld_glob I hg hm ?_ hdb)
  refine call_starK hst (PySem.W.keeps_K M.kp) (evalArgs_kw2 hall (thn (ha.run pos pins s σ H _ I h) fun us s1 ⟨vs, H1, I1, r, q⟩ => ?_) he)
  refine thn (hkw.run pos pins s1 σ H1 _ I1 q) fun ws s2 ⟨zs, H2, I2, rz, l2, q2⟩ => ⟨I2.kIn, ?_⟩
  rw [hks]
  exact run_makeRK M F hr hx I2 r rz l2 q2
/-- C(e, *y) -/
theorem pe_makeRS (c : CalleeIK X.prog X.w X.K X.mg X.base CX k C x [] sp) (hr : Room (k + 1) X.A) (hg : Gl X x) (hx : Passes CX X E) (ha : PA X (e :: es) t) (hdb : (x == ("__debug__" : Str)) = false := by decide)
    (he : starEach (e :: es) X.env = (false, eval e X.env) :: starEach es X.env := by rfl) (hst : (backTo pos (starEach es X.env)).any (·.1) = true := by rfl) :
    PE X (.Call (.Name x p) (e :: es) [] pos) (tMakeRK C 0 sp E t tNil) := by
  obtain ⟨f, F, M, hm⟩ := c.ex
  refine ⟨fun pins s σ H Q I h => ?_⟩
  refine wpAny_Call_Name_kw (ld_glob I hg hm ?_ hdb)
  refine PySem.W.callWith_S2 (h₀ := X.base) I.ok.mod.kin M.kp (thn (ha.run pos pins s σ H _ I h) fun us s1 ⟨vs, H1, I1, r, q⟩ => ⟨I1.kIn, ?_⟩) he hst
  obtain ⟨l2, q2⟩ := q
  exact run_makeRK (ks := []) (ws := []) M F hr hx I1 r .nil rfl q2
end
end KSt

/-! KSt2: __init__ with a star parameter that says super().__init__(..); == of own objects where the subclass's goes first; == of tuples of own objects. -/
namespace KSt
open PySem PySem.Spec PyProof.Rows L2 KB StX KN KO
section
variable {P : Program} {w : World} {K : PySem.W.Frag} {mg : Str → Option Value} {base : Heap} {f cda cc D : Addr} {fd : FuncData} {name qual : Str} {params : Arguments} {body : List Stmt} {scope : Scope} {N ps : List Str} {pv : Str} {n : Nat} {g : List Value → List Value → List Value} {gV : List V → List V → List V}
theorem sup_starK {CX : CXT} {k : Nat} {sp : Sp} (F : SupF P K f fd name qual params body scope cda cc D) (S : SScope N (ps ++ [pv]) scope) (hCX : CXUp CX)
    (hb : BStar K fd ps pv n [] g) (hg : ∀ {vs us zs ws}, Vals vs us → Vals zs ws → Vals (gV vs zs) (g us ws)) (hgl : ∀ vs zs, vs.length = n → zs.length = ([] : List Str).length → (gV vs zs).length = ps.length)
    (hbody : ∀ (A : Around) (outer : List Env) (s : Shared) (H : Hp) (vs : List V) (Q : VK) (E : XK), Room k (A.deeper (PySem.W.ksEnv qual scope s.heap.objs.size f (.ref cda) cc)) → sp vs H Q E →
      ∃ t, PSsA (KX.supCx CX P w K mg base N qual scope f cda cc A outer s H E) (.func body (PySem.W.ksEnv qual scope s.heap.objs.size f (.ref cda) cc)) body t ∧ t { nx := fun _ H' => Q .non H', rt := Q } (L2.start N vs) H) :
    FnK P w K mg base CX (k + 1) f [] (spStar sp n gV) := by
  intro A outer s H us ws vs zs Q E hr e0 r rz lz hsp
  obtain ⟨xs, rest, ev, hl, hz, hq⟩ := hsp
  subst ev
  obtain ⟨u1, u2, eu, r1, r2⟩ := vals_split r
  subst eu
  obtain ⟨oc, dV, kV, doc, pm, ct, an, od, osl, rfl, lf⟩ := F.fn
  obtain ⟨cl, cld, csl, lcc⟩ := F.cell
  have kin : K.In s.heap := e0.mod.kin.keeps fun b o e => (e0.bs b o e).1
  have hn : H s.heap.objs.size = Option.none := e0.hok.fresh (Nat.le_refl _)
  have hl1 : u1.length = n := by rw [← r1.length]; exact hl
  have hl2 : u2.length ≤ sizeLine := by rw [← r2.length]; exact hz
  have rg := hg r1 rz
  have lg := hgl xs zs hl lz
  have lw : ws.length = ([] : List Str).length := by rw [← rz.length]; exact lz
  refine codeAny_call_function hr.depth (kin _ _ lf) rfl S.co S.gen rfl (PySem.W.codeRec_of kin F.code) ?_
  refine hb _ _ _ _ _ u1 u2 ws kin hl1 lw ?_
  refine wpAny_bind (wpAny_newTuple (wpAny_pure ?_) hl2)
  have new : ObjOk P w (upd H s.heap.objs.size (.tup rest)) (s.heap.push ({ cls := .type "tuple", data := .seq u2.toArray } : Obj)) s.heap.objs.size (.tup rest) := ⟨hz, u2, r2, ⟨_, Heap.get?_push_size _ rfl, rfl, _, rfl⟩⟩
  have un : Un (frs outer) [] H (upd H s.heap.objs.size (.tup rest)) s.heap ({ s with heap := s.heap.push ({ cls := .type "tuple", data := .seq u2.toArray } : Obj) } : Shared).heap := un_laid (fs := frs outer) (s := s) (o := ({ cls := .type "tuple", data := .seq u2.toArray } : Obj)) (u := .tup rest) hn
  have e2 := env0_laid e0 new
  have up : ∀ e s', CX outer (upd H s.heap.objs.size (.tup rest)) { s with heap := s.heap.push ({ cls := .type "tuple", data := .seq u2.toArray } : Obj) } E e s' → CX outer H s E e s' := fun e s' => hCX outer s H _ _ E e s' un (fun b o q => Heap.get?_push_of_some _ q) rfl
  have hq := hq s.heap.objs.size hn
  have rv : Vals (gV xs zs ++ [V.ref s.heap.objs.size]) (g u1 ws ++ [Value.ref s.heap.objs.size]) := rg.append (.cons rfl .nil)
  have ez : ps.zip (g u1 ws) ++ [(pv, Value.ref s.heap.objs.size)] = (ps ++ [pv]).zip (g u1 ws ++ [Value.ref s.heap.objs.size]) := by rw [List.zip_append (by rw [← rg.length, lg])]; rfl
  rw [ez]
  have hlv : (gV xs zs ++ [V.ref s.heap.objs.size]).length = (ps ++ [pv]).length := by rw [List.length_append, List.length_append, lg] <;> rfl
  have ho : ({ s with heap := s.heap.push ({ cls := .type "tuple", data := .seq u2.toArray } : Obj) } : Shared).os = s.os := rfl
  generalize ({ s with heap := s.heap.push ({ cls := .type "tuple", data := .seq u2.toArray } : Obj) } : Shared) = s2 at e2 up ho un ⊢
  generalize upd H s.heap.objs.size (.tup rest) = H2 at e2 up hq un
  generalize gV xs zs ++ [V.ref s.heap.objs.size] = ys at hq rv hlv
  generalize g u1 ws ++ [Value.ref s.heap.objs.size] = vs2 at rv ⊢
  have lim : s2.heap.NoLimit := e2.mod.nolimit.keeps fun b o e => (e2.bs b o e).1
  refine wpAny_newFunctionEnv S.nocell (fun y hy => S.par y.1 (List.of_mem_zip (show (y.1, y.2) ∈ (ps ++ [pv]).zip vs2 from hy)).1) (fun h1 hns hsb => ⟨lim.fresh _ hsb, PySem.ks_codeAny_funcAt ?_⟩) S.kind
  have kp : ∀ b o, s2.heap.get? b = some o → h1.get? b = some o := fun b o e => hsb.extBut b o (Nat.ne_of_lt (Heap.lt_size e)) (Heap.get?_push_of_some _ e)
  obtain ⟨t, ht, hq2⟩ := hbody A outer s2 H2 ys Q E (hr.deeper _) hq
  have I : Inv (KX.supCx CX P w K mg base N qual scope f cda cc A outer s2 H2 E) [] (L2.start N ys) H2 { s2 with heap := h1, toks := s2.toks + ((ps ++ [pv]).zip vs2).length } := inv_supN S e2 hr.hd hlv lcc hns kp rv
  refine PySem.wpAt_mono (ht.run [] _ (L2.start N ys) H2 _ I hq2) (fun fl s' hs => ?_) fun e s' hs => wpAny_mono hs (fun _ s'' z => up e s'' z) fun e' s'' z => up e' s'' z
  cases fl with
  | ret u => obtain ⟨v, _, h2, J, rel, z⟩ := hs; exact ⟨v, h2, J.os.trans ho, J.bare, un.trans J.base, J.hok, rel, z⟩
  | next => obtain ⟨_, h2, J, z⟩ := hs; exact ⟨.non, h2, J.os.trans ho, J.bare, un.trans J.base, J.hok, rfl, z⟩
  | brk => exact (let ⟨_, _, _, z⟩ := hs; z : False).elim
  | cont => exact (let ⟨_, _, _, z⟩ := hs; z : False).elim
/-! ### own == where the right one's class stands below the left one's -/
end
section
open PySem.W
variable {prog : Program} {w : World} {A : Around} {E : Value → Shared → Prop} {s : Shared} {K : Frag} {x y C C2 g : Addr} {ox oy : Obj} {od od2 : Option Obj}
theorem cmp_KR {op : CmpOp} {Q : Value → Shared → Prop} (hu : A.units < cLine) (XK : K.In s.heap) (I : InstAt s.heap x ox C od) (J : InstAt s.heap y oy C2 od2) (ne : C ≠ C2) (sub : subIn K (.ref C2) (.ref C) = some true)
    (hs : findIn K (.ref C2) (cmpInfo op).2.2 = some (some (.ref g))) (hf : isFn K (.ref g) = true)
    (h : wpAny (model prog w) A (call (.ref g) [.ref y, .ref x]) (W.CmpBack Q) E s) : wpAny (model prog w) A (richCompare op (.ref x) (.ref y)) Q E s := by
  have one : wpAny (model prog w) A (tryCompare (.ref y) (cmpInfo op).2.2 (.ref x)) (fun r s' => ∃ v, r = some v ∧ Q v s') E s := by
    unfold tryCompare
    refine wpAny_bind (ifBound_K XK J hs hf (wpAny_mono h (fun v s' hv => ?_) fun _ _ e => e))
    cases v <;> first | exact hv.elim | exact wpAny_pure ⟨_, rfl, hv⟩
  unfold richCompare
  simp only [oneThing_ref]
  refine wpAny_holding (wpAny_bind (wpAny_cRoomFor hu ?_))
  refine wpAny_bind (I.type.here (wpAny_bind (J.type.here ?_)))
  split
  · refine wpAny_bind ((looks_subIn XK sub).here ?_)
    simp only [if_true]
    refine wpAny_bind (wpAny_mono one (fun r s' z => ?_) fun _ _ e => e)
    obtain ⟨v, rfl, hq⟩ := z
    first | exact wpAny_pure hq | (wp_walk; exact hq)
  · rename_i q
    exact absurd q (by simp [ne])
theorem ifBound_B {M : Model} {args : List Value} {name : Str} {id : String} {Q : Option Value → Shared → Prop} (XK : K.In s.heap) (I : InstAt s.heap x ox C od) (hs : findIn K (.ref C) name = some (some (.builtin id))) (hb : bindSpecial (.builtin id) (.ref x) = pure (.builtin id, [.ref x]))
    (h : wpAny M A (call (.builtin id) (.ref x :: args)) (fun v => Q (some v)) E s) : wpAny M A (callSpecialIfBound? (.ref x) name args) Q E s := by
  simp only [callSpecialIfBound?, bindSpecialIfBound?]
  refine wpAny_holding (wpAny_bind (wpAny_bind (wpAny_bind (I.type.here ((looks_findIn XK hs).here ?_)))))
  refine wpAny_bind (wpAny_askSetting (wpAny_ite ?_))
  have fin : wpAny M A (call (.builtin id) ([.ref x] ++ args) >>= fun v => pure (some v)) Q E s := wpAny_bind (wpAny_mono h (fun v s' h' => wpAny_pure h') fun _ _ h' => h')
  split
  · exact wpAny_bind ((Looks.of_pure hb).here (wpAny_pure (by exact fin)))
  · exact wpAny_tryCatch (wpAny_bind ((Looks.of_pure hb).here (wpAny_pure (by exact fin))))
/-- x != y by object's __ne__, the class's own __eq__ -/
theorem ne_K {Q : Value → Shared → Prop} (hu : A.units + 1 < cLine) (XK : K.In s.heap) (I : InstAt s.heap x ox C od) (J : InstAt s.heap y oy C od2) (hn : findIn K (.ref C) "__ne__" = some (some (.builtin "object.__ne__"))) (sub : subIn K (.ref C) (.type "object") = some true)
    (hs : findIn K (.ref C) "__eq__" = some (some (.ref g))) (hf : isFn K (.ref g) = true)
    (h : wpAny (model prog w) A.in1 (call (.ref g) [.ref x, .ref y]) (fun v s' => ∃ b, v = .bool b ∧ Q (.bool (!b)) s') E s) : wpAny (model prog w) A (richCompare .NotEq (.ref x) (.ref y)) Q E s := by
  unfold richCompare
  simp only [oneThing_ref]
  refine wpAny_holding (wpAny_bind (wpAny_cRoomFor (Nat.lt_of_succ_lt hu) ?_))
  rw [cmpInfo_NotEq]
  dsimp only
  refine wpAny_bind (I.type.here (wpAny_bind (J.type.here ?_)))
  rw [show (Value.ref C != Value.ref C) = false from by simp]
  simp only [Bool.false_eq_true, if_false]
  refine wpAny_bind (wpAny_pure ?_)
  simp only [Bool.false_eq_true, if_false]
  refine wpAny_bind ?_
  simp only [tryCompare]
  refine wpAny_bind (ifBound_B XK I hn (PySem.F.cmp_object.ne.bind _) (wpAny_call (codeAny_call_builtin PySem.F.cmp_object.ne.plain PySem.F.cmpEntry_ne (check_slot PySem.F.cmpKind_ne PySem.F.cmpSplit_ne (I.type.andThen (looks_subIn XK sub)) (PySem.F.cmpArgs_ne _ _) ?_))))
  have hu1 : A.in1.units < cLine := hu
  unfold Builtin.«object.__ne__»
  repeat (first
    | with_reducible refine wpAny_cRoomFor hu1 ?_
    | (refine wpAny_bind (m := callSpecialIfBound? (.ref x) (Str.ofString "__eq__") [.ref y])
        (ifBound_K XK I hs hf (wpAny_mono h (fun r s' hr => by
          obtain ⟨b, rfl, hq⟩ := hr
          repeat (first | exact hq | exact wpAny_pure hq | exact wpAny_truthy_bool hq | (refine wpAny_bind (m := truthy (.bool _)) (wpAny_truthy_bool ?_)) | wp_step)) fun _ _ e => e)))
    | wp_step)
/-! ### tuples, the state going on -/
theorem tuple_eqS {Iv : Shared → Prop} {l b : Addr} {items items2 : Array Value} {n n2 : Nat} {dd dd2 : Option Addr} {sl sl2 : Array (Option Value)} {e : Nat → Bool} {Q : Fin → Shared → Prop} (hl : s.heap.get? l = some { cls := .type "tuple", dict := dd, data := .seq items n, slots := sl }) (hb : s.heap.get? b = some { cls := .type "tuple", dict := dd2, data := .seq items2 n2, slots := sl2 })
    (he : ∀ j (h1 : j < items.size) (h2 : j < items2.size) (s' : Shared) (Z : Bool → Shared → Prop), Iv s' → (∀ s2, Iv s2 → Z (e j) s2) → wpAny (model prog w) A (eqBool items[j] items2[j]) Z E s') (h0 : Iv s)
    (h : ∀ s', Iv s' → Q (.done (.ret (.bool ((List.range (min items.size items2.size)).all e && items.size == items2.size)))) s') : wpAny (model prog w) A (Builtin.«tuple.__eq__» ⟨[.ref l, .ref b], []⟩) Q E s := by
  have f2 := AutoSeq1.sub_tuple_tuple
  have hZ : (items.toList.zip items2.toList).length = min items.size items2.size := by simp
  obtain ⟨hp, g, d, tk, os⟩ := s
  wp_walk using AutoSeq1.wpAny_loadPart' hl, AutoSeq1.wpAny_loadPart' hb, wpAny_forIn_list _ (fun rest b s' => b.1 = none ∧ Iv s' ∧ ∃ i, rest = (items.toList.zip items2.toList).drop i ∧
    ∀ s2, Iv s2 → Q (.done (.ret (.bool (((List.range (min items.size items2.size)).drop i).all e && items.size == items2.size)))) s2) _
  case turn =>
    rintro ⟨y, x⟩ rest b s' ⟨hb', iv, i, hz, hR⟩
    have hlt : i < (items.toList.zip items2.toList).length := by
      rcases Nat.lt_or_ge i (items.toList.zip items2.toList).length with h' | h'
      · exact h'
      · rw [List.drop_of_length_le h'] at hz; cases hz
    have hm : i < min items.size items2.size := hZ ▸ hlt
    have h1 : i < items.size := Nat.lt_of_lt_of_le hm (Nat.min_le_left _ _)
    have h2 : i < items2.size := Nat.lt_of_lt_of_le hm (Nat.min_le_right _ _)
    rw [List.drop_eq_getElem_cons hlt] at hz
    injection hz with hyx hrest
    have hy : y = items[i] := by have := congrArg Prod.fst hyx; simpa using this
    have hx : x = items2[i] := by have := congrArg Prod.snd hyx; simpa using this
    subst hy hx
    have hd : (List.range (min items.size items2.size)).drop i = i :: (List.range (min items.size items2.size)).drop (i + 1) := by simp [List.drop_eq_getElem_cons, hm]
    rw [hd] at hR
    simp only [List.all_cons] at hR
    refine wpAny_bind (he i h1 h2 _ _ iv fun s2 iv2 => ?_)
    cases hy : e i with
    | true =>
      rw [hy] at hR
      wp_walk
      exact ⟨rfl, iv2, i + 1, hrest, fun s3 iv3 => by simpa using hR s3 iv3⟩
    | false =>
      rw [hy] at hR
      wp_walk
      simpa using hR s2 iv2
  case fin =>
    rintro ⟨b1, b2⟩ s' ⟨hb', iv, i, hz, hR⟩
    simp only at hb'
    subst hb'
    have hge : min items.size items2.size ≤ i := by
      rcases Nat.lt_or_ge i (items.toList.zip items2.toList).length with h' | h'
      · rw [List.drop_eq_getElem_cons h'] at hz; cases hz
      · exact hZ ▸ h'
    have hR := hR s' iv
    rw [List.drop_of_length_le (by simpa using hge)] at hR
    wp_walk
    simpa [Builtin.Tuple.tupleCompareSizes] using hR
  case h =>
    exact ⟨rfl, h0, 0, rfl, fun s2 iv2 => by simpa using h s2 iv2⟩
end
section
variable {X : Cx}
def rEqRefl (K : PySem.W.Frag) (C C2 : Addr) (sp : Sp) : R2 := fun x y H Q => ∃ a dx fs b dy gs, x = .ref a ∧ y = .ref b ∧ H a = some (.ins C dx fs) ∧ H b = some (.ins C2 dy gs) ∧ sp [y, x] H Q E0
theorem op_eqRefl {C C2 : Addr} {ps : List Str} {sp : Sp} {n : Nat} (c : OwnM X.prog X.w X.K X.mg X.base n C2 "__eq__" ps sp) (ne : C ≠ C2) (sub : PySem.W.subIn X.K (.ref C2) (.ref C) = some true) (room : Room n X.A) : OpR X (compareOp .Eq) (rEqRefl X.K C C2 sp) := by
  obtain ⟨g, fd, hs, hf, F, bind⟩ := c.ex
  intro pins st σ h x y v u Z inv rx ry pre
  obtain ⟨a, dx, fs, b, dy, gs, rfl, rfl, ha, hb, z⟩ := pre
  obtain rfl : v = Value.ref a := rx
  obtain rfl : u = Value.ref b := ry
  obtain ⟨od, J⟩ := inst_of inv ha
  obtain ⟨od', J'⟩ := inst_of inv hb
  rw [show compareOp .Eq (.ref a) (.ref b) = richCompare .Eq (.ref a) (.ref b) from rfl]
  refine cmp_KR (op := .Eq) room.units0 inv.kIn J J' ne sub hs hf ?_
  refine wpAny_mono (run0 (E' := X.xe) (xs := [.ref b, .ref a]) F room inv.env0 bind inv (.cons rfl (.cons rfl .nil)) z) (fun w s2 r => ?_) fun _ _ z => z
  obtain ⟨z', h2, inv2, rz, qz⟩ := r
  exact SlX.cmpback rz ⟨z', h2, inv2, rz, qz⟩
/-- != of two instances of one class that has an __eq__ of its own, wherever it stands -/
structure OwnNeK (P : Program) (w : World) (K : PySem.W.Frag) (mg : Str → Option Value) (base : Heap) (k : Nat) (C : Addr) (ps : List Str) (sp : Sp) : Prop where
  eq : OwnM P w K mg base k C "__eq__" ps sp
  ne : PySem.W.findIn K (.ref C) "__ne__" = some (some (.builtin "object.__ne__"))
  sub : PySem.W.subIn K (.ref C) (.type "object") = some true
theorem op_neK {C : Addr} {ps : List Str} {sp : Sp} {n : Nat} (c : OwnNeK X.prog X.w X.K X.mg X.base n C ps sp) (room : Room (n + 1) X.A) : OpR X (compareOp .NotEq) (rNeOwn C sp) := by
  obtain ⟨g, fd, hs, hf, F, bind⟩ := c.eq.ex
  intro pins st σ h x y v u Z inv rx ry pre
  obtain ⟨a, dx, fs, b, dy, gs, rfl, rfl, ha, hb, z⟩ := pre
  obtain rfl : v = Value.ref a := rx
  obtain rfl : u = Value.ref b := ry
  obtain ⟨od, J⟩ := inst_of inv ha
  obtain ⟨od', J'⟩ := inst_of inv hb
  have un := room.un
  rw [show compareOp .NotEq (.ref a) (.ref b) = richCompare .NotEq (.ref a) (.ref b) from rfl]
  refine ne_K (by omega) inv.kIn J J' c.ne c.sub hs hf ?_
  refine wpAny_mono (run0 (E' := X.xe) (xs := [.ref a, .ref b]) F room.in1 inv.env0.in1 bind inv (.cons rfl (.cons rfl .nil)) z) (fun w s2 r => ?_) fun _ _ z => z
  obtain ⟨v', h2, inv2, rz, cc, rfl, q2⟩ := r
  obtain rfl : w = Value.bool cc := rz
  exact ⟨cc, rfl, ⟨.bl (!cc), h2, inv2, rfl, q2⟩⟩
/-- what two items of tuples answer to == -/
def ItE (K : PySem.W.Frag) (C : Addr) (sp : Sp) (H : Hp) (a b : V) (r : Bool) : Prop := (flatV a = true ∧ flatV b = true ∧ r = eqV a b) ∨
  ∃ p dx fs q C' dy gs, a = .ref p ∧ b = .ref q ∧ H p = some (.ins C dx fs) ∧ H q = some (.ins C' dy gs) ∧ PySem.W.notFirst K C (.ref C') = true ∧ (p = q → r = true) ∧ ∀ H', Same H H' → ∀ Q : VK, (∀ H2, Same H' H2 → Q (.bl r) H2) → sp [.ref p, .ref q] H' Q E0
def rEqTupO (K : PySem.W.Frag) (C : Addr) (sp : Sp) : R2 := fun x y H Q => ∃ (p q : Addr) (xs ys : List V) (e : Nat → Bool), x = .ref p ∧ y = .ref q ∧ SqT K H p xs ∧ SqT K H q ys ∧ (∀ j a b, xs[j]? = some a → ys[j]? = some b → ItE K C sp H a b (e j)) ∧
  ∀ H', Same H H' → Q (.bl ((List.range (min xs.length ys.length)).all e && decide (xs.length = ys.length))) H'
theorem vals_get : ∀ {xs : List V} {us : List Value}, Vals xs us → ∀ (i : Nat) (h : i < us.length), ∃ v, xs[i]? = some v ∧ RelV v us[i]
  | _, _, .nil, i, h => absurd h (Nat.not_lt_zero _)
  | _, _, .cons r1 r2, 0, _ => ⟨_, rfl, r1⟩
  | _, _, .cons r1 r2, i + 1, h => vals_get r2 i (Nat.lt_of_succ_lt_succ h)
theorem op_eqTupO {C : Addr} {ps : List Str} {sp : Sp} {n : Nat} (c : OwnM X.prog X.w X.K X.mg X.base n C "__eq__" ps sp) (room : Room (n + 1) X.A) : OpR X (compareOp .Eq) (rEqTupO X.K C sp) := by
  obtain ⟨g, fd, hs, hf, F, bind⟩ := c.ex
  intro pins st σ h x y v u Z inv rx ry pre
  obtain ⟨p, q, xs, ys, e, rfl, rfl, hx, hy, its, z⟩ := pre
  obtain rfl : v = Value.ref p := rx
  obtain rfl : u = Value.ref q := ry
  obtain ⟨us, ru, ⟨o1, h1, c1, n1, d1⟩, _⟩ := inv.tuple hx
  obtain ⟨vs, rv, ⟨o2, h2, c2, n2, d2⟩, _⟩ := inv.tuple hy
  obtain ⟨k1, dd1, dt1, sl1⟩ := o1
  obtain ⟨k2, dd2, dt2, sl2⟩ := o2
  simp only at c1 d1 c2 d2
  subst c1 d1 c2 d2
  have un := room.un
  have lu := ru.length
  have lv := rv.length
  rw [show compareOp .Eq (.ref p) (.ref q) = richCompare .Eq (.ref p) (.ref q) from rfl]
  refine wpAny_richCompare_same_room (T := "tuple") (op := .Eq) ⟨_, h1, rfl⟩ ⟨_, h2, rfl⟩ PySem.F.slot_tuple_eq (wpAny_call_entry PySem.F.slot_tuple_eq ⟨_, h1, rfl⟩ PySem.F.entry_tuple_eq
    (tuple_eqS (Iv := fun s' => ∃ H', Same h H' ∧ Inv X pins σ H' s') (e := e) h1 h2 (fun j j1 j2 s' W iv hW => ?_) ⟨h, Same.refl _, inv⟩ fun s' ⟨H', sm, inv'⟩ => ⟨_, rfl, (fun z => nomatch z), .bl _, H', inv', rfl, ?_⟩) (PySem.F.args_tuple_eq_2 _ _)) (by omega)
  · obtain ⟨H', sm, inv'⟩ := iv
    have j1' : j < us.length := by simpa using j1
    have j2' : j < vs.length := by simpa using j2
    obtain ⟨a, ea, ra⟩ := vals_get ru j j1'
    obtain ⟨b, eb, rb⟩ := vals_get rv j j2'
    have it := its j a b ea eb
    have g1 : us.toArray[j] = us[j] := by simp
    have g2 : vs.toArray[j] = vs[j] := by simp
    rw [g1, g2]
    rcases it with ⟨f1, f2, er⟩ | ⟨p1, dx, fs, q1, C', dy, gs, rfl, rfl, hp1, hq1, nf, same, go⟩
    · rw [er] at hW
      exact eqAt_V ra rb f1 f2 _ _ _ _ (hW s' ⟨H', sm, inv'⟩)
    · have e1 : us[j] = Value.ref p1 := ra
      have e2 : vs[j] = Value.ref q1 := rb
      rw [e1, e2]
      obtain ⟨od, J⟩ := inst_of inv' (sm _ _ hp1)
      obtain ⟨od', J'⟩ := inst_of inv' (sm _ _ hq1)
      obtain ⟨m, hF⟩ := inv'.fr
      by_cases hpq : p1 = q1
      · rw [same hpq] at hW
        subst hpq
        exact SeqAt.EqAt.same _ _ _ _ _ (hW s' ⟨H', sm, inv'⟩)
      unfold eqBool
      refine wpAny_holding ?_
      refine wpAny_ite_split (fun hab => absurd (by have := eq_of_beq hab; injection this) hpq) (fun _ => ?_)
      refine wpAny_bind (PySem.W.cmp_K (op := .Eq) (tb := .ref C') (A := X.A.in1) (show X.A.units + 1 < cLine by omega) hF inv'.ok.mod.kin J J'.type nf hs hf ?_)
      refine wpAny_mono (run0 (E' := X.xe) (xs := [.ref p1, .ref q1]) F room.in1 inv'.env0.in1 bind inv' (.cons rfl (.cons rfl .nil)) (go H' sm (fun v H2 => v = .bl (e j) ∧ Same H' H2) fun H2 s2 => ⟨rfl, s2⟩)) (fun w s2 r => ?_) fun _ _ z => z
      obtain ⟨z', H2, inv2, rz, rfl, sm2⟩ := r
      obtain rfl : w = Value.bool (e j) := rz
      exact wpAny_truthy_bool (hW s2 ⟨H2, sm.trans sm2, inv2⟩)
  · have z2 := z H' sm
    have eb : (us.toArray.size == vs.toArray.size) = decide (xs.length = ys.length) := by
      rw [List.size_toArray, List.size_toArray, lu, lv]
      by_cases hh : us.length = vs.length <;> simp [hh]
    rw [eb, List.size_toArray, List.size_toArray, ← lu, ← lv]
    exact z2
end
end KSt

/-! KSt3: is True, is False of any value; == [] of a list of anything; one of two operators' rules; classmethods that make objects. -/
namespace KSt
open PySem PySem.Spec PyProof.Rows L2 KB
section
variable {X : Cx}
def rIsB : R2 := fun x y H Q => ∃ b, y = .bl b ∧ Q (.bl (decide (x = .bl b))) H
def rNotB : R2 := fun x y H Q => ∃ b, y = .bl b ∧ Q (.bl (!decide (x = .bl b))) H
theorem plain_bl {x : V} {v : Value} {b : Bool} (r : RelV x v) : plainIs v (.bool b) = true ∧ (v = .bool b ↔ x = .bl b) := by
  cases x with
  | non => cases (show v = Value.none from r); exact ⟨rfl, by simp⟩
  | bl c => cases (show v = Value.bool c from r); exact ⟨rfl, by simp⟩
  | int i => obtain ⟨t, rfl⟩ := (show ∃ t, v = Value.int i t from r); exact ⟨rfl, by simp⟩
  | str i => obtain ⟨t, rfl⟩ := (show ∃ t, v = Value.str i t from r); exact ⟨rfl, by simp⟩
  | byt i => obtain ⟨t, rfl⟩ := (show ∃ t, v = Value.bytes i t from r); exact ⟨rfl, by simp⟩
  | flt i => obtain ⟨t, rfl⟩ := (show ∃ t, v = Value.float i t from r); exact ⟨rfl, by simp⟩
  | ref a => cases (show v = Value.ref a from r); exact ⟨rfl, by simp⟩
  | ty n => cases (show v = Value.type n from r); exact ⟨rfl, by simp⟩
theorem op_isB : OpR X (compareOp .Is) rIsB := by
  intro pins s σ H x y v u Q I rx ry h
  obtain ⟨b, rfl, q⟩ := h
  cases (show u = Value.bool b from ry)
  obtain ⟨p, e⟩ := plain_bl (b := b) rx
  by_cases z : x = .bl b
  · rw [decide_eq_true z] at q
    have := e.mpr z
    subst this
    exact wpAny_is_self p ⟨.bl true, H, I, rfl, q⟩
  · rw [decide_eq_false z] at q
    exact wpAny_is_other p (fun y => z (e.mp y)) ⟨.bl false, H, I, rfl, q⟩
theorem op_notB : OpR X (compareOp .IsNot) rNotB := by
  intro pins s σ H x y v u Q I rx ry h
  obtain ⟨b, rfl, q⟩ := h
  cases (show u = Value.bool b from ry)
  obtain ⟨p, e⟩ := plain_bl (b := b) rx
  by_cases z : x = .bl b
  · rw [decide_eq_true z] at q
    have := e.mpr z
    subst this
    exact wpAny_isNot_self p ⟨.bl false, H, I, rfl, q⟩
  · rw [decide_eq_false z] at q
    exact wpAny_isNot_other p (fun y => z (e.mp y)) ⟨.bl true, H, I, rfl, q⟩
def rEqNil (K : PySem.W.Frag) : R2 := fun x y H Q => ∃ a b xs, x = .ref a ∧ y = .ref b ∧ SqL K H a xs ∧ SqL K H b [] ∧ Q (.bl (decide (xs = []))) H
theorem op_eqNil {k : Nat} (room : Room k X.A) : OpR X (compareOp .Eq) (rEqNil X.K) := by
  intro pins s σ H x y v u Q I rx ry h
  obtain ⟨a, b, xs, rfl, rfl, ha, hb, q⟩ := h
  have un := room.un
  obtain rfl : v = Value.ref a := rx
  obtain rfl : u = Value.ref b := ry
  obtain ⟨us, r1, p1, _⟩ := I.list ha
  obtain ⟨ws, r2, p2, _⟩ := I.list hb
  cases r2
  cases r1 with
  | nil =>
    exact SeqAt.RcAt.lists (e := fun _ => true) p1.isList p2.isList rfl (by omega) (fun j h1 h2 => absurd h1 (Nat.not_lt_zero _)) X.prog X.w _ _ ⟨.bl _, H, I, rfl, q⟩
  | cons h1 h2 =>
    exact SeqAt.RcAt.lists_lengths p1.isList p2.isList (by simp) (by omega) X.prog X.w _ _ ⟨.bl _, H, I, rfl, q⟩
theorem op_or {f : Value → Value → Sem Value} {r1 r2 : R2} (a : OpR X f r1) (b : OpR X f r2) : OpR X f (fun x y H Q => r1 x y H Q ∨ r2 x y H Q) := by
  intro pins s σ H x y v u Q I rx ry h
  rcases h with h | h
  · exact a pins s σ H x y v u Q I rx ry h
  · exact b pins s σ H x y v u Q I rx ry h
end
/-! ### super().m(e, ..), m a def with a star parameter -/
section
open KN KO
variable {P : Program} {w : World} {K : PySem.W.Frag} {mg : Str → Option Value} {base : Heap} {f cda cc D : Addr} {fd : FuncData} {name qual : Str} {params : Arguments} {body : List Stmt} {scope : Scope} {N ps : List Str}
theorem sup_takes {ql : Str} {sc : Scope} {A : Around} {out : List Env} {st : Shared} {h : Hp} {E : XK} : Takes (KX.supCx (L2.CX P w) P w K mg base N ql sc f cda cc A out st h E) (fun cls d _ H' => E cls d H') := takes_of rfl rfl rfl rfl
structure SupR (P : Program) (w : World) (K : PySem.W.Frag) (mg : Str → Option Value) (base : Heap) (CX : CXT) (k : Nat) (C D : Addr) (m : Str) (sp : Sp) : Prop where
  ex : ∃ g : Addr, PySem.W.ks_superIn K C D m = some (some (.ref g)) ∧ PySem.W.typeIn K (.ref g) = some (.type "function") ∧ PySem.W.fnIn K g = true ∧ FnR P w K mg base CX k g sp
  sub : PySem.W.mroIn K C (.ref D) = some true
theorem sup_runR {CX1 CX2 : CXT} {k : Nat} {g a q : Addr} {sp : Sp} {E E2 : XK} {A : Around} {outer : List Env} {st : Shared} {H0 H1 : Hp} {us : List Value} {xs : List V} {Q : VK} {pins : List (Addr × Obj)} {s4 : Shared} {σ : L2.St}
    (room : Room k (KX.supCx CX1 P w K mg base N qual scope f cda cc A outer st H0 E).A) (pass : Passes CX2 (KX.supCx CX1 P w K mg base N qual scope f cda cc A outer st H0 E) E2) (G : FnR P w K mg base CX2 k g sp) (I4 : Inv (KX.supCx CX1 P w K mg base N qual scope f cda cc A outer st H0 E) ((q, PySem.W.methodObj (.ref g) (.ref a)) :: pins) σ H1 s4) (rv : Vals xs us) (q1 : sp (.ref a :: xs) H1 Q E2) :
    wpAny (model P w) (KX.supCx CX1 P w K mg base N qual scope f cda cc A outer st H0 E).A (call (.ref q) us) (EP (KX.supCx CX1 P w K mg base N qual scope f cda cc A outer st H0 E) pins σ Q) (KX.supCx CX1 P w K mg base N qual scope f cda cc A outer st H0 E).xe s4 := by
  have z : wpAny (model P w) (KX.supCx CX1 P w K mg base N qual scope f cda cc A outer st H0 E).A (call (.ref q) us) (EP (KX.supCx CX1 P w K mg base N qual scope f cda cc A outer st H0 E) ((q, PySem.W.methodObj (.ref g) (.ref a)) :: pins) σ Q) (KX.supCx CX1 P w K mg base N qual scope f cda cc A outer st H0 E).xe s4 := by
    refine wpAny_call (PySem.W.method_call (ClX.pin_at I4) ?_)
    have rel : Vals (V.ref a :: xs) (Value.ref a :: us) := .cons rfl rv
    refine codeAny_mono (G _ (KX.supCx CX1 P w K mg base N qual scope f cda cc A outer st H0 E).stack s4 H1 (Value.ref a :: us) (V.ref a :: xs) Q E2 room I4.env0 rel q1) fun res s5 y => ?_
    match res, y with
    | .error e, y => exact pass _ σ H1 s4 e s5 I4 y
    | .ok (.ret u), y => exact I4.after y
    | .ok .next, y => exact y.elim
    | .ok .brk, y => exact y.elim
    | .ok .cont, y => exact y.elim
  exact thn z fun _ _ y => ClX.unpinE y
theorem pea_superR {CX1 CX2 : CXT} {k : Nat} {C : Addr} {m : Str} {sp : Sp} {E E2 : XK} {A : Around} {outer : List Env} {st : Shared} {H0 : Hp} {p0 p1 p2 p4 : Pos} {pl : Sem Bool} {ar : Arg} {e : Expr} {es : List Expr} {t : TA}
    (F : SupF P K f fd name qual params body scope cda cc D) (S : SScope N ps scope) (har : (params.posonlyargs ++ params.args).head? = some ar) (hself : N[0]? = some ar.arg) (hpar : ar.arg ∈ ps) (hm : mg "super" = none) (c : SupR P w K mg base CX2 k C D m sp) (room : Room k (KX.supCx CX1 P w K mg base N qual scope f cda cc A outer st H0 E).A)
    (pass : Passes CX2 (KX.supCx CX1 P w K mg base N qual scope f cda cc A outer st H0 E) E2) (ha : PA (KX.supCx CX1 P w K mg base N qual scope f cda cc A outer st H0 E) (e :: es) t) (hat : (m == ("__class__" : Str)) = false := by decide) (hst : starEach (e :: es) (PySem.W.ksEnv qual scope st.heap.objs.size f (.ref cda) cc) = (false, eval e (PySem.W.ksEnv qual scope st.heap.objs.size f (.ref cda) cc)) :: starEach es (PySem.W.ksEnv qual scope st.heap.objs.size f (.ref cda) cc) := by rfl) (hpl : (backTo p4 (starEach es (PySem.W.ksEnv qual scope st.heap.objs.size f (.ref cda) cc))).any (·.1) = false := by rfl)
    (hev : eval (.Call (.Attribute (.Call (.Name "super" p0) [] [] p1) m p2) (e :: es) [] p4) (PySem.W.ksEnv qual scope st.heap.objs.size f (.ref cda) cc) = (do
      let ov ← attributeBase (.Call (.Name "super" p0) [] [] p1) m (PySem.W.ksEnv qual scope st.heap.objs.size f (.ref cda) cc) (eval (.Call (.Name "super" p0) [] [] p1) (PySem.W.ksEnv qual scope st.heap.objs.size f (.ref cda) cc))
      standAt p2.atName
      let (g, first) ← holding [ov] (getMethod ov m pl)
      callWith p4 g first (backTo p4 (starEach (e :: es) (PySem.W.ksEnv qual scope st.heap.objs.size f (.ref cda) cc))) []) := by rfl) :
    PEA (KX.supCx CX1 P w K mg base N qual scope f cda cc A outer st H0 E) (.func body (PySem.W.ksEnv qual scope st.heap.objs.size f (.ref cda) cc)) (.Call (.Attribute (.Call (.Name "super" p0) [] [] p1) m p2) (e :: es) [] p4) (tSup C sp E2 t) := by
  obtain ⟨g, hin, hty, hfi, G⟩ := c.ex
  refine ⟨fun pins s σ H Q I h => ?_⟩
  obtain ⟨a, dx, fs, h0, hH, q⟩ := h
  refine sup_core F S har hself hpar hm hin hty c.sub hat I h0 hH hev fun r s' hb I3 => ?_
  refine ClX.callwith_cm (C := a) I3 hb hfi (thn (ha.run p4 _ s' σ H _ I3 q) fun us s4 res => ?_) hst hpl
  obtain ⟨xs, H1, I4, rv, q1⟩ := res
  exact ⟨⟨ClX.pin_at I4, I4.kIn⟩, sup_runR room pass G I4 rv q1⟩
end
end KSt
namespace KIx
open PySem PySem.Spec PyProof.Rows L2
section
variable {X : Cx}
theorem call_isiW (K : PySem.W.Frag) (hK : X.K = K) : CallR X (.builtin "isinstance") (rIsi K) := by
  subst hK
  exact call_isi
theorem pe_fldW (K : PySem.W.Frag) (hK : X.K = K) {e : Expr} {te : TE} {pos : Pos} {n : Str} (he : PE X e te) (hb : attributeBase e n X.env (eval e X.env) = eval e X.env) : PE X (.Attribute e n pos) (tFld K te n) := by
  subst hK
  exact pe_fld he hb
theorem op_eqOW (K : PySem.W.Frag) (hK : X.K = K) {C : Addr} {ps : List Str} {sp : Sp} {n : Nat} (c : KO.OwnM X.prog X.w X.K X.mg X.base n C "__eq__" ps sp) (room : Room n X.A) : OpR X (compareOp .Eq) (KO.rEqOwn K C sp) := by
  subst hK
  exact KO.op_eqO c room
end
end KIx

/-! KZm: zip of a tuple and a list (printed by mkzm.py). -/
namespace KZm
open PySem PySem.Spec PyProof.Rows L2
open PySem.Sem (wp)
section
variable {prog : Program} {w : World} {A : Around} {E : Value → Shared → Prop} {s : Shared}
theorem zipM_next_item {z TI TO i1 i2 l1 l2 : Addr} {k1 k2 : Nat} {xs ys : Array Value} {x y a b : Value} {Q : Value → Shared → Prop} (D : ZipApart z TI TO i1 i2 l1 l2)
    (hz : IsZip s.heap z TI TO .none) (hTI : IsPair s.heap TI (.ref i1) (.ref i2)) (hTO : IsPair s.heap TO a b)
    (h1 : s.heap.IsTupleIter i1 l1 k1) (h2 : s.heap.IsListIter i2 l2 k2) (hl1 : s.heap.IsTuple l1 xs) (hl2 : s.heap.IsList l2 ys) (hx : xs[k1]? = some x) (hy : ys[k2]? = some y)
    (hQ : ∀ h', IsZip h' z TI TO (rawInt s.heap.objs.size) → IsPair h' TO x y → h'.IsTupleIter i1 l1 (k1 + 1) → h'.IsListIter i2 l2 (k2 + 1) → IsPair h' s.heap.objs.size x y → h'.objs.size = s.heap.objs.size + 1 →
      (∀ c o, c ≠ z → c ≠ TO → c ≠ i1 → c ≠ i2 → s.heap.get? c = some o → h'.get? c = some o) → Q (.ref s.heap.objs.size) { s with heap := h' }) :
    wpAny (model prog w) A (Builtin.«zip.__next__» ⟨[.ref z], []⟩) (fun fin s' => ∃ v, fin = .done (.ret v) ∧ Q v s') E s := by
  show wpAny _ _ (field (.ref z) 2 >>= _) _ _ _
  refine wpAny_bind (wpAny_field hz rfl (x := .bool false) rfl ?_)
  show wpAny _ _ (field (.ref z) 3 >>= _) _ _ _
  refine wpAny_bind (wpAny_field hz rfl (x := .ref TI) rfl ?_)
  refine wpAny_bind (wpAny_seqItems hTI rfl ?_)
  show wpAny _ _ (Builtin.SmallTypes.ownedTupleIsFree (.ref z) >>= _) _ _ _
  refine wpAny_bind ?_
  unfold Builtin.SmallTypes.ownedTupleIsFree
  refine wpAny_bind (wpAny_field hz rfl (x := .none) rfl (wpAny_pure ?_))
  simp only [if_true]
  refine wpAny_bind (wpAny_rule ?_)
  refine wpAny_bind (wpAny_field hz rfl (x := .ref TO) rfl ?_)
  refine wpAny_bind (wpAny_setField_rec hz (by simp) fun h₁ hz₁ hs₁ => ?_)
  replace hz₁ : IsZip h₁ z TI TO .ellipsis := hz₁
  refine wpAny_bind ?_
  simp only [List.zipIdx_cons, List.zipIdx_nil, List.forIn_cons, List.forIn_nil]

  refine wpAny_bind (wpAny_bind (wpAny_onRaise ?_))
  show wpAny _ _ (Builtin.SmallTypes.nextOf (.ref i1) >>= _) _ _ _
  refine wpAny_bind (RZ.nextOf_tuple_item (h1.extBut hs₁.extBut D.i1z) (hl1.extBut hs₁.extBut D.l1z) hx fun h₂ h1₂ hs₂ => wpAny_pure ?_)
  have hTO₂ : IsPair h₂ TO a b := hs₂.extBut _ _ D.TOi1 (hs₁.extBut _ _ D.TOz hTO)
  refine wpAny_bind (wpAny_seqItems hTO₂ rfl ?_)
  refine wpAny_bind (wpAny_updateSeq_pair hTO₂ fun h₃ hTO₃ hs₃ => ?_)
  replace hTO₃ : IsPair h₃ TO x b := hTO₃
  refine wpAny_bind (wpAny_letGo (wpAny_pure ?_))

  refine wpAny_bind (wpAny_bind (wpAny_onRaise ?_))
  show wpAny _ _ (Builtin.SmallTypes.nextOf (.ref i2) >>= _) _ _ _
  refine wpAny_bind (wpAny_nextOf_list_item (((h2.extBut hs₁.extBut D.i2z).extBut hs₂.extBut D.i12.symm).extBut hs₃.extBut D.TOi2.symm)
    (((hl2.extBut hs₁.extBut D.l2z).extBut hs₂.extBut D.l2i1).extBut hs₃.extBut D.l2TO) hy fun h₄ h2₄ hs₄ => wpAny_pure ?_)
  have hTO₄ : IsPair h₄ TO x b := hs₄.extBut _ _ D.TOi2 hTO₃
  refine wpAny_bind (wpAny_seqItems hTO₄ rfl ?_)
  refine wpAny_bind (wpAny_updateSeq_pair hTO₄ fun h₅ hTO₅ hs₅ => ?_)
  replace hTO₅ : IsPair h₅ TO x y := hTO₅
  refine wpAny_bind (wpAny_letGo (wpAny_pure (wpAny_pure ?_)))

  refine wpAny_bind (wpAny_seqItems hTO₅ rfl ?_)
  refine wpAny_bind (wpAny_newTuple ?_)
  have hsz : h₅.objs.size = s.heap.objs.size := by rw [hs₅.1, hs₄.1, hs₃.1, hs₂.1, hs₁.1]
  have hz₅ : IsZip h₅ z TI TO .ellipsis := hs₅.extBut _ _ D.TOz.symm (hs₄.extBut _ _ D.i2z.symm (hs₃.extBut _ _ D.TOz.symm (hs₂.extBut _ _ D.i1z.symm hz₁)))
  have hk₅ : ∀ c o, c ≠ z → c ≠ TO → c ≠ i1 → c ≠ i2 → s.heap.get? c = some o → h₅.get? c = some o := fun c o c1 c2 c3 c4 e =>
    hs₅.extBut _ _ c2 (hs₄.extBut _ _ c4 (hs₃.extBut _ _ c2 (hs₂.extBut _ _ c3 (hs₁.extBut _ _ c1 e))))
  have h1₅ : h₅.IsTupleIter i1 l1 (k1 + 1) := ((h1₂.extBut hs₃.extBut D.TOi1.symm).extBut hs₄.extBut D.i12).extBut hs₅.extBut D.TOi1.symm
  have h2₅ : h₅.IsListIter i2 l2 (k2 + 1) := h2₄.extBut hs₅.extBut D.TOi2.symm
  have hzlt : z < h₅.objs.size := Heap.lt_size hz₅
  have hTOlt : TO < h₅.objs.size := Heap.lt_size hTO₅
  have hi1lt : i1 < h₅.objs.size := by obtain ⟨_, e, _⟩ := h1₅; exact Heap.lt_size e
  have hi2lt : i2 < h₅.objs.size := by obtain ⟨_, e, _⟩ := h2₅; exact Heap.lt_size e
  show wpAny _ _ (Builtin.SmallTypes.ownedTupleHandOut (.ref z) (.ref h₅.objs.size) >>= _) _ _ _
  refine wpAny_bind ?_
  unfold Builtin.SmallTypes.ownedTupleHandOut
  have hz₆ : IsZip (h₅.push { cls := .type "tuple", data := .seq #[x, y] }) z TI TO .ellipsis := Heap.get?_push_of_some _ hz₅
  refine wpAny_bind (wpAny_setField_rec hz₆ (by simp) fun h₇ hz₇ hs₇ => ?_)
  replace hz₇ : IsZip h₇ z TI TO (rawInt h₅.objs.size) := hz₇
  refine wpAny_setField_rec hz₇ (by simp) fun h₈ hz₈ hs₈ => ?_
  replace hz₈ : IsZip h₈ z TI TO (rawInt h₅.objs.size) := hz₈
  have up : ∀ c o, c ≠ z → h₅.get? c = some o → h₈.get? c = some o := fun c o c1 e => hs₈.extBut _ _ c1 (hs₇.extBut _ _ c1 (Heap.get?_push_of_some _ e))
  have hT₈ : IsPair h₈ h₅.objs.size x y := hs₈.extBut _ _ (Nat.ne_of_gt hzlt) (hs₇.extBut _ _ (Nat.ne_of_gt hzlt) (Heap.get?_push_size _ rfl))
  have hz8 : h₈.objs.size = h₅.objs.size + 1 := by rw [hs₈.1, hs₇.1, Heap.size_push]
  rw [hsz] at hz₈ hT₈ hz8
  refine wpAny_pure ⟨_, rfl, ?_⟩
  show Q (.ref h₅.objs.size) _
  rw [hsz]
  exact hQ h₈ hz₈ (up _ _ D.TOz hTO₅) (h1₅.at fun o e => up _ o D.i1z e) (h2₅.at fun o e => up _ o D.i2z e) hT₈ hz8 fun c o c1 c2 c3 c4 e => up c o c1 (hk₅ c o c1 c2 c3 c4 e)

theorem zipM_next_end {z TI TO i1 i2 l1 l2 : Addr} {k1 k2 : Nat} {xs ys : Array Value} {a b : Value} {Q : Fin → Shared → Prop} (hh : A.handled = none) (D : ZipApart z TI TO i1 i2 l1 l2)
    (hz : IsZip s.heap z TI TO .none) (hTI : IsPair s.heap TI (.ref i1) (.ref i2)) (hTO : IsPair s.heap TO a b)
    (h1 : s.heap.IsTupleIter i1 l1 k1) (h2 : s.heap.IsListIter i2 l2 k2) (hl1 : s.heap.IsTuple l1 xs) (hl2 : s.heap.IsList l2 ys) (hend : xs[k1]? = none ∨ ys[k2]? = none)
    (hE : ∀ h' e, (∀ c o, c ≠ z → c ≠ TO → c ≠ i1 → c ≠ i2 → s.heap.get? c = some o → h'.get? c = some o) → (∃ o, h'.get? e = some o ∧ o.cls = .type "StopIteration") → E (.ref e) { s with heap := h' }) :
    wpAny (model prog w) A (Builtin.«zip.__next__» ⟨[.ref z], []⟩) Q E s := by
  show wpAny _ _ (field (.ref z) 2 >>= _) _ _ _
  refine wpAny_bind (wpAny_field hz rfl (x := .bool false) rfl ?_)
  show wpAny _ _ (field (.ref z) 3 >>= _) _ _ _
  refine wpAny_bind (wpAny_field hz rfl (x := .ref TI) rfl ?_)
  refine wpAny_bind (wpAny_seqItems hTI rfl ?_)
  show wpAny _ _ (Builtin.SmallTypes.ownedTupleIsFree (.ref z) >>= _) _ _ _
  refine wpAny_bind ?_
  unfold Builtin.SmallTypes.ownedTupleIsFree
  refine wpAny_bind (wpAny_field hz rfl (x := .none) rfl (wpAny_pure ?_))
  simp only [if_true]
  refine wpAny_bind (wpAny_rule ?_)
  refine wpAny_bind (wpAny_field hz rfl (x := .ref TO) rfl ?_)
  refine wpAny_bind (wpAny_setField_rec hz (by simp) fun h₁ hz₁ hs₁ => ?_)
  replace hz₁ : IsZip h₁ z TI TO .ellipsis := hz₁
  refine wpAny_bind ?_
  simp only [List.zipIdx_cons, List.zipIdx_nil, List.forIn_cons, List.forIn_nil]
  refine wpAny_bind (wpAny_bind (wpAny_onRaise ?_))
  show wpAny _ _ (Builtin.SmallTypes.nextOf (.ref i1) >>= _) _ _ _
  cases hx : xs[k1]? with
  | none =>
    refine wpAny_bind (RZ.nextOf_tuple_end hh (h1.extBut hs₁.extBut D.i1z) (hl1.extBut hs₁.extBut D.l1z) hx fun h₂ e hs₂ he => ?_)
    obtain ⟨oe, hoe, hce⟩ := he
    have hz₂ : IsZip h₂ z TI TO .ellipsis := hs₂ _ _ D.i1z.symm hz₁
    have hez : e ≠ z := fun x => by subst x; rw [hz₂] at hoe; cases hoe; simp at hce
    refine wpAny_setField_rec hz₂ (by simp) fun h₃ _ hs₃ => hE h₃ e (fun c o c1 _ c3 _ x => hs₃.extBut _ _ c1 (hs₂ _ _ c3 (hs₁.extBut _ _ c1 x))) ⟨oe, hs₃.extBut _ _ hez hoe, hce⟩
  | some x =>
    have hy : ys[k2]? = none := by rcases hend with h | h; rw [hx] at h; cases h; exact h
    refine wpAny_bind (RZ.nextOf_tuple_item (h1.extBut hs₁.extBut D.i1z) (hl1.extBut hs₁.extBut D.l1z) hx fun h₂ h1₂ hs₂ => wpAny_pure ?_)
    have hTO₂ : IsPair h₂ TO a b := hs₂.extBut _ _ D.TOi1 (hs₁.extBut _ _ D.TOz hTO)
    refine wpAny_bind (wpAny_seqItems hTO₂ rfl ?_)
    refine wpAny_bind (wpAny_updateSeq_pair hTO₂ fun h₃ hTO₃ hs₃ => ?_)
    refine wpAny_bind (wpAny_letGo (wpAny_pure ?_))
    refine wpAny_bind (wpAny_bind (wpAny_onRaise ?_))
    show wpAny _ _ (Builtin.SmallTypes.nextOf (.ref i2) >>= _) _ _ _
    refine wpAny_bind (wpAny_nextOf_list_end hh (((h2.extBut hs₁.extBut D.i2z).extBut hs₂.extBut D.i12.symm).extBut hs₃.extBut D.TOi2.symm)
      (((hl2.extBut hs₁.extBut D.l2z).extBut hs₂.extBut D.l2i1).extBut hs₃.extBut D.l2TO) hy fun h₄ e hs₄ he => ?_)
    obtain ⟨oe, hoe, hce⟩ := he
    have hz₄ : IsZip h₄ z TI TO .ellipsis := hs₄ _ _ D.i2z.symm (hs₃.extBut _ _ D.TOz.symm (hs₂.extBut _ _ D.i1z.symm hz₁))
    have hez : e ≠ z := fun x => by subst x; rw [hz₄] at hoe; cases hoe; simp at hce
    refine wpAny_setField_rec hz₄ (by simp) fun h₅ _ hs₅ => hE h₅ e (fun c o c1 c2 c3 c4 x => hs₅.extBut _ _ c1 (hs₄ _ _ c4 (hs₃.extBut _ _ c2 (hs₂.extBut _ _ c3 (hs₁.extBut _ _ c1 x))))) ⟨oe, hs₅.extBut _ _ hez hoe, hce⟩

theorem pyNext_zipM_item {z TI TO i1 i2 l1 l2 : Addr} {k1 k2 : Nat} {xs ys : Array Value} {x y a b : Value} {Q : Option Value → Shared → Prop} (D : ZipApart z TI TO i1 i2 l1 l2)
    (hz : IsZip s.heap z TI TO .none) (hTI : IsPair s.heap TI (.ref i1) (.ref i2)) (hTO : IsPair s.heap TO a b)
    (h1 : s.heap.IsTupleIter i1 l1 k1) (h2 : s.heap.IsListIter i2 l2 k2) (hl1 : s.heap.IsTuple l1 xs) (hl2 : s.heap.IsList l2 ys) (hx : xs[k1]? = some x) (hy : ys[k2]? = some y)
    (hQ : ∀ h', IsZip h' z TI TO (rawInt s.heap.objs.size) → IsPair h' TO x y → h'.IsTupleIter i1 l1 (k1 + 1) → h'.IsListIter i2 l2 (k2 + 1) → IsPair h' s.heap.objs.size x y → h'.objs.size = s.heap.objs.size + 1 →
      (∀ c o, c ≠ z → c ≠ TO → c ≠ i1 → c ≠ i2 → s.heap.get? c = some o → h'.get? c = some o) → Q (some (.ref s.heap.objs.size)) { s with heap := h' }) :
    wpAny (model prog w) A (pyNext (.ref z)) Q E s := by
  have hT : s.TypeIs (.ref z) "zip" := ⟨_, hz, rfl⟩
  unfold pyNext
  exact wpAny_bind (wpAny_attempt (wpAny_callSpecial?_slot (name := Str.ofString "__next__") hT F.slot_zip_next
    (wpAny_call_entry F.slot_zip_next hT F.entry_zip_next
      (zipM_next_item D hz hTI hTO h1 h2 hl1 hl2 hx hy fun h' a1 a2 a3 a4 a5 a6 a7 => wpAny_pure (hQ h' a1 a2 a3 a4 a5 a6 a7)) (F.args_zip_next_1 _))))

theorem pyNext_zipM_end {z TI TO i1 i2 l1 l2 : Addr} {k1 k2 : Nat} {xs ys : Array Value} {a b : Value} {Q : Option Value → Shared → Prop} (hh : A.handled = none) (D : ZipApart z TI TO i1 i2 l1 l2)
    (hz : IsZip s.heap z TI TO .none) (hTI : IsPair s.heap TI (.ref i1) (.ref i2)) (hTO : IsPair s.heap TO a b)
    (h1 : s.heap.IsTupleIter i1 l1 k1) (h2 : s.heap.IsListIter i2 l2 k2) (hl1 : s.heap.IsTuple l1 xs) (hl2 : s.heap.IsList l2 ys) (hend : xs[k1]? = none ∨ ys[k2]? = none)
    (hQ : ∀ h', (∀ c o, c ≠ z → c ≠ TO → c ≠ i1 → c ≠ i2 → s.heap.get? c = some o → h'.get? c = some o) → Q none { s with heap := h' }) : wpAny (model prog w) A (pyNext (.ref z)) Q E s := by
  have hT : s.TypeIs (.ref z) "zip" := ⟨_, hz, rfl⟩
  unfold pyNext
  refine wpAny_bind (wpAny_attempt (wpAny_callSpecial?_slot (name := Str.ofString "__next__") hT F.slot_zip_next
    (wpAny_call_entry F.slot_zip_next hT F.entry_zip_next (zipM_next_end hh D hz hTI hTO h1 h2 hl1 hl2 hend fun h' e hk he => ?_) (F.args_zip_next_1 _))))
  obtain ⟨o, ho, hc⟩ := he
  refine wpAny_bind (wpAny_isInstance (T := "StopIteration") (b := true) ⟨o, ho, hc⟩ isSubtype_stop ?_)
  exact wpAny_pure (hQ _ hk)
end

abbrev zipMH1 (h : Heap) (l1 : Addr) : Heap := h.push { cls := .type "tuple_iterator", data := .fields #[.ref l1, .int 0 0] }
abbrev zipMH2 (h : Heap) (l1 l2 : Addr) : Heap := (zipMH1 h l1).push { cls := .type "list_iterator", data := .fields #[.ref l2, .int 0 0] }
abbrev zipMH3 (h : Heap) (l1 l2 : Addr) : Heap := (zipMH2 h l1 l2).push { cls := .type "tuple", data := .seq #[.ref h.objs.size, .ref (zipMH1 h l1).objs.size] }
abbrev zipMH4 (h : Heap) (l1 l2 : Addr) : Heap := (zipMH3 h l1 l2).push { cls := .type "tuple", data := .seq #[.none, .none] }
abbrev zipMH5 (h : Heap) (l1 l2 : Addr) : Heap := (zipMH4 h l1 l2).push { cls := .type "zip", data := .fields #[.none, .bool false, .bool false, .ref (zipMH2 h l1 l2).objs.size, .ref (zipMH3 h l1 l2).objs.size] }

theorem meets_zipM_new (l1 l2 : Addr) (xs ys : Array Value) :
    Meets (Builtin.«zip.__new__» ⟨[.type "zip", .ref l1, .ref l2], []⟩) (fun _ R s => s.heap.IsTuple l1 xs ∧ s.heap.IsList l2 ys ∧
      R (.ok (.ret (.ref (zipMH4 s.heap l1 l2).objs.size))) { s with heap := zipMH5 s.heap l1 l2 }) :=
  .of_wp fun prog w A R s h => by
    obtain ⟨hp, g, d, tk, os⟩ := s; obtain ⟨hl1, hl2, h⟩ := h
    have hsub := sub_zip
    have hL1 : Heap.IsTuple (Shared.heap ⟨hp, g, d, tk, os⟩) l1 xs := hl1
    have hL2 : Heap.IsList (Shared.heap ⟨hp.push { cls := .type "tuple_iterator", data := .fields #[.ref l1, .int 0 0] }, g, d, tk, os⟩) l2 ys := Heap.IsList.push hl2 _
    wp_walk using wpAny_pyIter_tuple hL1, wpAny_pyIter_list hL2
    exact ⟨_, rfl, h⟩

section
variable {prog : Program} {w : World} {A : Around} {E : Value → Shared → Prop} {s : Shared}
theorem call_zipM {l1 l2 : Addr} {xs ys : Array Value} {Q : Value → Shared → Prop} (hl1 : s.heap.IsTuple l1 xs) (hl2 : s.heap.IsList l2 ys)
    (h : ∀ h', IsZip h' (s.heap.objs.size + 4) (s.heap.objs.size + 2) (s.heap.objs.size + 3) .none → IsPair h' (s.heap.objs.size + 2) (.ref s.heap.objs.size) (.ref (s.heap.objs.size + 1)) →
      IsPair h' (s.heap.objs.size + 3) .none .none → h'.IsTupleIter s.heap.objs.size l1 0 → h'.IsListIter (s.heap.objs.size + 1) l2 0 → h'.objs.size = s.heap.objs.size + 5 →
      (∀ c o, s.heap.get? c = some o → h'.get? c = some o) → Q (.ref (s.heap.objs.size + 4)) { s with heap := h' }) :
    wpAny (model prog w) A (call (.type "zip") [.ref l1, .ref l2]) Q E s := by
  refine callType_new F.called_zip (by decide) (F.typeCall_zip_2 _ _) (F.newCall_zip_2 _ _) (fun obj => F.args_object_init_3 obj _ _) F.entry_zip_new
    (meets_zipM_new l1 l2 xs ys) ⟨hl1, hl2, ?_⟩
  have z1 : (zipMH1 s.heap l1).objs.size = s.heap.objs.size + 1 := Heap.size_push ..
  have z2 : (zipMH2 s.heap l1 l2).objs.size = s.heap.objs.size + 2 := by rw [Heap.size_push, z1]
  have z3 : (zipMH3 s.heap l1 l2).objs.size = s.heap.objs.size + 3 := by rw [Heap.size_push, z2]
  have z4 : (zipMH4 s.heap l1 l2).objs.size = s.heap.objs.size + 4 := by rw [Heap.size_push, z3]
  have z5 : (zipMH5 s.heap l1 l2).objs.size = s.heap.objs.size + 5 := by rw [Heap.size_push, z4]
  have g5 : (zipMH5 s.heap l1 l2).get? (zipMH4 s.heap l1 l2).objs.size = some _ := Heap.get?_push_size _ rfl
  have g4 : (zipMH5 s.heap l1 l2).get? (zipMH3 s.heap l1 l2).objs.size = some _ := Heap.get?_push_of_some _ (Heap.get?_push_size _ rfl)
  have g3 : (zipMH5 s.heap l1 l2).get? (zipMH2 s.heap l1 l2).objs.size = some _ := Heap.get?_push_of_some _ (Heap.get?_push_of_some _ (Heap.get?_push_size _ rfl))
  have g2 : (zipMH5 s.heap l1 l2).get? (zipMH1 s.heap l1).objs.size = some _ := Heap.get?_push_of_some _ (Heap.get?_push_of_some _ (Heap.get?_push_of_some _ (Heap.get?_push_size _ rfl)))
  have g1 : (zipMH5 s.heap l1 l2).get? s.heap.objs.size = some _ := Heap.get?_push_of_some _ (Heap.get?_push_of_some _ (Heap.get?_push_of_some _ (Heap.get?_push_of_some _ (Heap.get?_push_size _ rfl))))
  show _ ∧ _
  rw [z2, z3, z4] at g5
  rw [z1, z2] at g3
  rw [z3] at g4
  rw [z1] at g2
  rw [z4]
  exact ⟨⟨_, g5, rfl⟩, h _ g5 g3 g4 ⟨_, g1, rfl, rfl⟩ ⟨_, g2, rfl, rfl⟩ z5 fun c o x =>
    Heap.get?_push_of_some _ (Heap.get?_push_of_some _ (Heap.get?_push_of_some _ (Heap.get?_push_of_some _ (Heap.get?_push_of_some _ x))))⟩
end
/-- the tuple at a and the list at b as they stand at each turn, the items in new pairs -/
def ItzM (K : PySem.W.Frag) (a b : Addr) : It :=
  ⟨fun i H => ∃ (xs ys : List V) (x y : V), SqT K H a xs ∧ SqL K H b ys ∧ xs[i]? = some x ∧ ys[i]? = some y,
    fun i H v H' => ∃ T x y, v = .ref T ∧ H T = none ∧ H' = upd H T (.tup [x, y]) ∧ (∀ xs, SqT K H a xs → xs[i]? = some x) ∧ ∀ ys, SqL K H b ys → ys[i]? = some y,
    fun i H => ∃ xs ys : List V, SqT K H a xs ∧ SqL K H b ys ∧ (xs.length ≤ i ∨ ys.length ≤ i)⟩
theorem turn_zipM {P : Program} {w : World} {K : PySem.W.Frag} {elts : List Expr} {kk : Nat} {tpos : Pos} {a b z TI TO i1 i2 : Addr} (D : ZipApart z TI TO i1 i2 a b) :
    Turn P w K (.Tuple elts kk tpos) (ItzM K a b) [z, TI, TO, i1, i2] z (fun i h => IsZip h z TI TO .none ∧ IsPair h TI (.ref i1) (.ref i2) ∧ (∃ x y, IsPair h TO x y) ∧ h.IsTupleIter i1 a i ∧ h.IsListIter i2 b i) where
  mem := by simp
  obj := fun i h st c hc => by
    obtain ⟨hz, hTI, ⟨x, y, hTO⟩, ⟨o1, e1, _, d1⟩, ⟨o2, e2, _, d2⟩⟩ := st
    have e' : c = z ∨ c = TI ∨ c = TO ∨ c = i1 ∨ c = i2 := by simpa using hc
    rcases e' with q | q | q | q | q
    · rw [q]; exact ⟨_, hz, fun v q => nomatch q⟩
    · rw [q]; exact ⟨_, hTI, fun v q => nomatch q⟩
    · rw [q]; exact ⟨_, hTO, fun v q => nomatch q⟩
    · rw [q]; exact ⟨o1, e1, fun v q => by rw [d1] at q; cases q⟩
    · rw [q]; exact ⟨o2, e2, fun v q => by rw [d2] at q; cases q⟩
  keep := fun i h h' st k => by
    obtain ⟨hz, hTI, ⟨x, y, hTO⟩, h1, h2⟩ := st
    exact ⟨k z (by simp) _ hz, k TI (by simp) _ hTI, ⟨x, y, k TO (by simp) _ hTO⟩, h1.at fun o q => k i1 (by simp) o q, h2.at fun o q => k i2 (by simp) o q⟩
  item := by
    intro X hP hw hK hc i pins s σ H E I hf st hg
    subst hP hw hK
    obtain ⟨hz, hTI, ⟨x0, y0, hTO⟩, h1, h2⟩ := st
    obtain ⟨xs, ys, x, y, hqx, hqy, hx, hy⟩ := hg
    obtain ⟨its, rv, p, _⟩ := I.tuple hqx
    obtain ⟨its2, rv2, p2, _⟩ := I.list hqy
    obtain ⟨u, hu, ru⟩ := rv.get hx
    obtain ⟨u2, hu2, ru2⟩ := rv2.get hy
    have hzl : z < s.heap.objs.size := Heap.lt_size hz
    refine pyNext_zipM_item D hz hTI hTO h1 h2 p p2.isList (x := u) (y := u2) (by simpa using hu) (by simpa using hu2) fun h' z' TO' h1' h2' hT hsz hk => ?_
    refine ⟨_, rfl, wpAny_letOwnedTupleGo_zip (s := { s with heap := h' }) z' fun h'' z'' sb => ?_⟩
    have hT2 : h''.get? s.heap.objs.size = some { cls := .type "tuple", data := .seq #[u, u2] } := (sb.2 _ (Nat.ne_of_gt hzl)).trans hT
    have new : ObjOk X.prog X.w (upd H s.heap.objs.size (.tup [x, y])) h'' s.heap.objs.size (.tup [x, y]) :=
      ⟨by show 2 ≤ sizeLine; decide, [u, u2], .cons ru (.cons ru2 .nil), ⟨_, hT2, rfl, _, rfl⟩⟩
    have I1 : Inv X pins σ (upd H s.heap.objs.size (.tup [x, y])) { s with heap := h'' } :=
      I.turnedNew (t' := s.toks) (ch := [z, TI, TO, i1, i2]) (fun c o hb q => (sb.2 c (fun q' => hb (by simp [q']))).trans (hk c o (fun q' => hb (by simp [q'])) (fun q' => hb (by simp [q'])) (fun q' => hb (by simp [q'])) (fun q' => hb (by simp [q'])) q)) hf (Nat.le_refl _) new
    refine ⟨.ref s.heap.objs.size, _, I1, rfl, ⟨_, x, y, rfl, I.hok.fresh (Nat.le_refl _), rfl, fun l hl => by rw [I.tuple_inj hl hqx]; exact hx, fun l hl => by rw [I.list_inj hl hqy]; exact hy⟩, ⟨z'', ?_, ⟨u, u2, ?_⟩, ?_, ?_⟩, fun c hcm => ?_⟩
    · exact (sb.2 _ D.TIz).trans (hk _ _ D.TIz D.TITO D.TIi1 D.TIi2 hTI)
    · exact (sb.2 _ D.TOz).trans TO'
    · exact h1'.at fun o q => (sb.2 _ D.i1z).trans q
    · exact h2'.at fun o q => (sb.2 _ D.i2z).trans q
    · have hlt : c < s.heap.objs.size := by
        have e' : c = z ∨ c = TI ∨ c = TO ∨ c = i1 ∨ c = i2 := by simpa using hcm
        rcases e' with q | q | q | q | q
        · rw [q]; exact hzl
        · rw [q]; exact Heap.lt_size hTI
        · rw [q]; exact Heap.lt_size hTO
        · rw [q]; obtain ⟨_, e1, _⟩ := h1; exact Heap.lt_size e1
        · rw [q]; obtain ⟨_, e2, _⟩ := h2; exact Heap.lt_size e2
      rw [upd_ne (Nat.ne_of_lt hlt)]
      exact (hf c hcm).1
  done := by
    intro X hP hw hK hc i pins s σ H E I hf st hg
    subst hP hw hK
    obtain ⟨hz, hTI, ⟨x0, y0, hTO⟩, h1, h2⟩ := st
    obtain ⟨xs, ys, hqx, hqy, hend⟩ := hg
    obtain ⟨its, rv, p, _⟩ := I.tuple hqx
    obtain ⟨its2, rv2, p2, _⟩ := I.list hqy
    have l1 := rv.length
    have l2 := rv2.length
    have he : its.toArray[i]? = none ∨ its2.toArray[i]? = none := by
      rcases hend with q | q
      · exact .inl (by simp; omega)
      · exact .inr (by simp; omega)
    exact pyNext_zipM_end (I.ok.hd hc) D hz hTI hTO h1 h2 p p2.isList he fun h' hk => ⟨rfl, I.turnedL (t' := s.toks) (ch := [z, TI, TO, i1, i2]) (fun c o hb q =>
      hk c o (fun q' => hb (by simp [q'])) (fun q' => hb (by simp [q'])) (fun q' => hb (by simp [q'])) (fun q' => hb (by simp [q'])) q) hf⟩
  self := fun A i s Q E st h => wpAny_pyIter_zip st.1 h

def iZipM (K : PySem.W.Frag) (ta : TA) : TI := fun σ H R => ta σ H fun vs H1 => ∃ a b xs ys, vs = [.ref a, .ref b] ∧ SqT K H1 a xs ∧ SqL K H1 b ys ∧ R (ItzM K a b) H1
theorem pi_zipM {X : Cx} {e e2 : Expr} {ta : TA} {p pos tpos : Pos} {elts : List Expr} {kk : Nat} (hg : Gl X "zip") (hm : X.mg "zip" = none) (ha : PA X [e, e2] ta)
    (hs : starEach [e, e2] X.env = (false, eval e X.env) :: starEach [e2] X.env := by rfl) (hpl : (backTo pos (starEach [e2] X.env)).any (·.1) = false := by rfl) :
    PI X (.Tuple elts kk tpos) (.Call (.Name "zip" p) [e, e2] [] pos) (iZipM X.K ta) := by
  refine ⟨fun pins s σ H R I h => ?_⟩
  refine Call_ (ld_blt I hg hm PyProof.Rows.boot_zip (PyProof.Rows.callWith_type1 (thn (ha.run pos pins s σ H _ I h) fun us s1 ⟨vs, H1, I1, r1, q1⟩ => ?_) hs hpl))
  obtain ⟨a, b, xs, ys, ex, hqx, hqy, q⟩ := q1
  subst ex
  cases r1 with
  | cons r rr =>
    cases rr with
    | cons r' rr =>
      cases rr
      cases r
      cases r'
      obtain ⟨its, rv, p1, _⟩ := I1.tuple hqx
      obtain ⟨its2, rv2, p2, _⟩ := I1.list hqy
      obtain ⟨o1, ho1, _⟩ := id p1
      refine call_zipM (show s1.heap.IsTuple a its.toArray from p1) p2.isList fun h' hz hTI hTO h1 h2 hsz hk => wpAny_pyIter_zip hz ?_
      have I2 : Inv X pins σ H1 { s1 with heap := h' } := I1.kept (t' := s1.toks) hk
      refine ⟨s1.heap.objs.size + 4, [s1.heap.objs.size + 4, s1.heap.objs.size + 2, s1.heap.objs.size + 3, s1.heap.objs.size, s1.heap.objs.size + 1], _, _, H1, rfl, I2, turn_zipM (PySem.W.ktu_apart s1.heap.objs.size a b (Heap.lt_size ho1) p2.lt), ⟨hz, hTI, ⟨_, _, hTO⟩, h1, h2⟩, fun c hcm => ?_, q⟩
      have hle : s1.heap.objs.size ≤ c := by
        simp only [List.mem_cons, List.not_mem_nil, or_false] at hcm
        rcases hcm with z | z | z | z | z
        · rw [z]; exact Nat.le_add_right _ _
        · rw [z]; exact Nat.le_add_right _ _
        · rw [z]; exact Nat.le_add_right _ _
        · rw [z]; exact Nat.le_refl _
        · rw [z]; exact Nat.le_add_right _ _
      exact I1.fpOk hle (I1.hok.fresh hle)
theorem walk_zipM {K : PySem.W.Frag} {a b : Addr} {xs ys : List V} {n : Nat} (hn : n = min xs.length ys.length) : Walk (ItzM K a b) n (fun H => SqT K H a xs ∧ SqL K H b ys) (YPair (fun i => xs[i]?) (fun i => ys[i]?)) := by
  subst hn
  refine ⟨fun i _ hi q => ?_, fun _ q => ⟨xs, ys, q.1, q.2, by omega⟩, fun i H v H' _ q y => ?_⟩
  · have h1 : i < xs.length := by omega
    have h2 : i < ys.length := by omega
    exact ⟨xs, ys, xs[i], ys[i], q.1, q.2, by simp [h1], by simp [h2]⟩
  · obtain ⟨T, x, z, h1, h2, h3, h4, h5⟩ := y
    exact ⟨T, x, z, h1, h2, h3, h4 xs q.1, h5 ys q.2⟩
theorem r_zipM {K : PySem.W.Frag} {σ : L2.St} {H : Hp} {ta : TA} {R : It → Hp → Prop} (q : ta σ H fun vs H1 => ∃ a b xs ys, vs = [.ref a, .ref b] ∧ SqT K H1 a xs ∧ SqL K H1 b ys ∧ R (ItzM K a b) H1) : iZipM K ta σ H R := q
end KZm

/-! ### own steps of the reading -/
local macro_rules | `(tactic| walk_at "hp") => `(tactic| first | with_reducible assumption | with_reducible exact L2.upd_same | (refine KB.upd_new ?h1 ?h2; (case h1 => (with_reducible assumption)); (case h2 => walk_at "hp")) | (rw [L2.upd_ne (by first | assumption | exact Ne.symm (by assumption))]; walk_at "hp"))
local macro_rules | `(tactic| walk_at "sq") => `(tactic| first | with_reducible assumption | (refine L2.SqL.of ?h1; (case h1 => walk_at "hp")) | (refine L2.SqT.of ?h1; (case h1 => walk_at "hp")))
local macro_rules | `(tactic| walk_at "sq2") => `(tactic| first | (refine Or.inl ?_; walk_at "sq") | (refine Or.inr ?_; walk_at "sq") | (with_reducible exact Or.inr (by (first | with_reducible assumption | apply_assumption))))
local macro_rules | `(tactic| walk_at "sz") => `(tactic| exact KB.sz_lit (by simp))
local macro_rules | `(tactic| walk_at "cond") => `(tactic| first | (show _ ∨ _; first | exact Or.inl ⟨by omega, by omega⟩ | exact Or.inr ⟨by omega, by omega⟩) | (show _ ∧ _ ∧ _; exact ⟨by omega, by omega, by omega⟩) | (show _ ∧ _; exact ⟨by omega, by omega⟩) | (show _ < _; omega) | (show _ ≤ _; omega) | exact L2.wide_div (b := 34) (by omega) (by omega) (by decide) (by decide))
local macro_rules | `(tactic| walk_at "rd1") => `(tactic| first
  | with_reducible refine KB.r_seq ?_
  | with_reducible refine KB.r_next ?_
  | with_reducible refine KB.r_c ?_
  | ((with_reducible refine KB.r_var (v := ?v1) ?h1 ?q); (case h1 => exact rfl))
  | with_reducible refine KB.r_op ?_
  | with_reducible refine KB.r_un ?_
  | with_reducible refine KB.r_I0 ?_
  | ((with_reducible refine KB.r_I ?h1 ?q); (case h1 => walk_at "cond"))
  | with_reducible refine KB.r_int1 ?_
  | with_reducible refine KB.r_bl1 ?_
  | with_reducible refine KB.r_ex1 ?_
  | with_reducible refine KB.r_ex2 ?_
  | ((with_reducible refine KB.r_lenS (xs := ?v1) ?h1 ?q); (case h1 => walk_at "sq"))
  | ((with_reducible refine KB.r_eq ?h1 ?q); (case h1 => exact rfl))
  | ((with_reducible refine KB.r_ne ?h1 ?q); (case h1 => exact rfl))
  | with_reducible refine KB.r_U ?_
  | with_reducible refine KB.r_test ?_
  | with_reducible refine KB.r_B ?_
  | with_reducible refine KB.r_bl ?_
  | with_reducible refine KB.r_int ?_
  | with_reducible refine KB.r_and ?_
  | with_reducible refine KB.r_or ?_
  | with_reducible refine KB.r_not ?_
  | with_reducible refine KB.r_andV ?_
  | with_reducible refine KB.r_orV ?_
  | with_reducible refine KB.r_notV ?_
  | with_reducible refine KB.r_if ?_
  | with_reducible refine KB.r_nil ?_
  | with_reducible refine KB.r_cons ?_
  | with_reducible refine KB.r_tup ?_
  | with_reducible refine KB.r_lst ?_
  | with_reducible refine KB.r_call ?_
  | with_reducible refine KB.r_cb ?_
  | ((with_reducible refine KB.r_ixL (xs := ?v1) (v := ?v2) ?h1 ?h2 ?q); (case h1 => walk_at "sq"); (case h2 => exact rfl))
  | ((with_reducible refine KB.r_ixT (xs := ?v1) (v := ?v2) ?h1 ?h2 ?q); (case h1 => walk_at "sq"); (case h2 => exact rfl))
  | ((with_reducible refine KB.r_setL (xs := ?v1) (j := ?v2) ?h1 ?h2 ?q); (case h1 => walk_at "hp"); (case h2 => exact rfl))
  | with_reducible refine KB.r_meth ?_
  | with_reducible refine KB.r_fld ?_
  | with_reducible refine KB.r_sfld ?_
  | with_reducible refine KB.r_gname ?_
  | with_reducible refine KB.r_for ?_
  | with_reducible refine KO.r_methK0 ?_
  | with_reducible refine KO.r_makeK ?_
  | with_reducible refine KO.r_joined ?_
  | with_reducible refine KO.r_joined0 ?_
  | with_reducible refine KO.r_fmt ?_
  | with_reducible refine KB.r_isNone ?_
  | ((with_reducible refine KB.r_gtup (xs := ?v1) ?h1 ?h2 ?q); (case h1 => walk_at "sq"); (case h2 => exact rfl))
  | with_reducible refine KB.r_gcons ?_
  | with_reducible refine KB.r_gnil ?_
  | with_reducible refine KB.r_irng2 ?_
  | with_reducible refine KB.r_bm ?_
  | ((with_reducible refine KB.r_tyL (xs := ?v1) ?h1 ?q); (case h1 => walk_at "sq"))
  | ((with_reducible refine KB.r_fldK (C := ?v1) (dx := ?v2) (fs := ?v3) (v := ?v4) ?h1 ?h2 ?h3 ?h4 ?q); (case h1 => walk_at "hp"); (case h2 => assumption); (case h3 => assumption); (case h4 => exact rfl))
  | with_reducible refine KB.r_callD ?_
  | with_reducible refine KB.r_callN ?_
  | with_reducible refine KB.r_dget1 ?_
  | with_reducible refine KB.r_dget ?_
  | with_reducible refine KB.r_dput ?_
  | with_reducible refine KB.r_disp ?_
  | with_reducible refine KB.r_pairs ?_
  | with_reducible refine KB.r_pairs0 ?_
  | with_reducible refine KB.r_make ?_
  | with_reducible refine KB.r_m1 ?_
  | with_reducible refine KB.r_m0 ?_
  | with_reducible refine KB.r_isStr ?_
  | with_reducible refine KB.r_exStr ?_
  | with_reducible refine KB.r_lc ?_
  | with_reducible refine KB.r_irng1 ?_
  | with_reducible refine KB.r_itup ?_
  | with_reducible refine KB.r_ilist ?_
  | with_reducible refine KB.r_istr ?_
  | ((with_reducible refine KB.r_cval (v := ?v1) (mc := ?v2) (uu := ?v3) ?h1 ?h2 ?q); (case h1 => assumption); (case h2 => assumption))
  | ((with_reducible refine KB.r_notInS (zs := ?v1) ?h1 ?q); (case h1 => walk_at "sq2"))
  | ((with_reducible refine KB.r_inS (zs := ?v1) ?h1 ?q); (case h1 => walk_at "sq2"))
  | with_reducible refine KB.r_asg ?_
  | with_reducible refine KB.r_asgS ?_
  | with_reducible refine KB.r_asgG ?_
  | with_reducible refine KB.r_ifS ?_
  | with_reducible refine KB.r_ret ?_
  | with_reducible refine KB.r_drop ?_
  | with_reducible refine KB.r_par ?_
  | with_reducible refine KB.r_match ?_
  | with_reducible refine KB.r_mstr ?_
  | with_reducible refine KB.r_mnil ?_
  | with_reducible refine KB.r_sl ?_
  | with_reducible refine KB.r_nopart ?_
  | with_reducible refine KB.r_part ?_
  | ((with_reducible refine KB.r_slL (xs := ?v1) ?h1 ?q); (case h1 => walk_at "sq"))
  | with_reducible refine L2.iteF ?_
  | with_reducible refine KB.iteNt ?_
  | with_reducible refine KB.iteNf ?_
  | with_reducible refine L2.iteT ?_
  | dsimp only)
local macro_rules | `(tactic| walk_at "rd") => `(tactic| repeat walk_at "rd1")
local macro_rules | `(tactic| walk_at "sp1") => `(tactic| first | with_reducible refine KB.r_iteS2 (fun _ => ?_) (fun _ => ?_) | with_reducible refine KB.r_iteI2 (fun _ => ?_) (fun _ => ?_) | with_reducible refine KB.r_ite2 (fun _ => ?_) (fun _ => ?_) | with_reducible refine KB.r_iteN2 (fun _ => ?_) (fun _ => ?_) | with_reducible refine KB.r_iteB (fun _ => ?_) (fun _ => ?_) | with_reducible refine KB.r_iteBN (fun _ => ?_) (fun _ => ?_))
local macro_rules | `(tactic| walk_at "sp") => `(tactic| repeat' (first | walk_at "rd1" | walk_at "sp1"))
local macro_rules | `(tactic| walk_at "ifs") => `(tactic| repeat (first | rw [if_pos (by assumption)] | rw [if_neg (by assumption)]))

namespace K20
open PySem L2 KB
def top (i : Nat) : Stmt := PySem.Challenge.pw_keptbits_k20_registers_made.main.body.getD i (.Pass ⟨0, 0, 0, 0⟩)
abbrev s_Kind___init__ : Stmt := inClass (top 7) 3
theorem sc_Kind___init__ : FnScope ["self", "reading", "writing", "device", "word", "words"] ["self", "reading", "writing", "device"] (defScope s_Kind___init__) := ⟨rfl, rfl, rfl, by decide +kernel, rfl, by decide +kernel, by decide +kernel⟩
abbrev s_Kind___eq__ : Stmt := inClass (top 7) 4
theorem sc_Kind___eq__ : FnScope ["self", "other"] ["self", "other"] (defScope s_Kind___eq__) := ⟨rfl, rfl, rfl, by decide +kernel, rfl, by decide +kernel, by decide +kernel⟩
abbrev s_Kind___str__ : Stmt := inClass (top 7) 5
theorem sc_Kind___str__ : FnScope ["self"] ["self"] (defScope s_Kind___str__) := ⟨rfl, rfl, rfl, by decide +kernel, rfl, by decide +kernel, by decide +kernel⟩
abbrev s_is_made_of : Stmt := top 12
theorem sc_is_made_of : FnScope ["value", "first", "others", "sign"] ["value", "first", "others"] (defScope s_is_made_of) := ⟨rfl, rfl, rfl, by decide +kernel, rfl, by decide +kernel, by decide +kernel⟩
abbrev s_is_name : Stmt := top 13
theorem sc_is_name : FnScope ["value"] ["value"] (defScope s_is_name) := ⟨rfl, rfl, rfl, by decide +kernel, rfl, by decide +kernel, by decide +kernel⟩
abbrev s_is_number : Stmt := top 14
theorem sc_is_number : FnScope ["value", "least", "most"] ["value", "least", "most"] (defScope s_is_number) := ⟨rfl, rfl, rfl, by decide +kernel, rfl, by decide +kernel, by decide +kernel⟩
abbrev s_need_field : Stmt := top 21
theorem sc_need_field : FnScope ["test", "name", "reason"] ["test", "name", "reason"] (defScope s_need_field) := ⟨rfl, rfl, rfl, by decide +kernel, rfl, by decide +kernel, by decide +kernel⟩
abbrev s_fits_reset : Stmt := top 22
theorem sc_fits_reset : FnScope ["reset", "size", "device"] ["reset", "size", "device"] (defScope s_fits_reset) := ⟨rfl, rfl, rfl, by decide +kernel, rfl, by decide +kernel, by decide +kernel⟩
abbrev s_Field___init__ : Stmt := inClass (top 23) 0
theorem sc_Field___init__ : FnScope ["self", "name", "low", "size", "reading", "writing", "device", "reset", "lock", "key", "commit", "held", "fits", "reason", "other"] ["self", "name", "low", "size", "reading", "writing", "device", "reset", "lock", "key", "commit", "held"] (defScope s_Field___init__) := ⟨rfl, rfl, rfl, by decide +kernel, rfl, by decide +kernel, by decide +kernel⟩
abbrev s_Field_may_be_held : Stmt := inClass (top 23) 1
theorem sc_Field_may_be_held : FnScope ["self"] ["self"] (defScope s_Field_may_be_held) := ⟨rfl, rfl, rfl, by decide +kernel, rfl, by decide +kernel, by decide +kernel⟩
abbrev s_Field_may_be_committed : Stmt := inClass (top 23) 2
theorem sc_Field_may_be_committed : FnScope ["self"] ["self"] (defScope s_Field_may_be_committed) := ⟨rfl, rfl, rfl, by decide +kernel, rfl, by decide +kernel, by decide +kernel⟩
abbrev s_Field___eq__ : Stmt := inClass (top 23) 5
theorem sc_Field___eq__ : FnScope ["self", "other"] ["self", "other"] (defScope s_Field___eq__) := ⟨rfl, rfl, rfl, by decide +kernel, rfl, by decide +kernel, by decide +kernel⟩
abbrev s_Register___init__ : Stmt := inClass (top 24) 0
theorem sc_Register___init__ : FnScope ["self", "name", "whole", "fields", "field"] ["self", "name", "whole", "fields"] (defScope s_Register___init__) := ⟨rfl, rfl, rfl, by decide +kernel, rfl, by decide +kernel, by decide +kernel⟩
abbrev s_Register_of : Stmt := inClass (top 24) 1
theorem sc_Register_of : FnScope ["cls", "name", "fields", "whole"] ["cls", "name", "fields", "whole"] (defScope s_Register_of) := ⟨rfl, rfl, rfl, by decide +kernel, rfl, by decide +kernel, by decide +kernel⟩
abbrev s_Register_is_key : Stmt := inClass (top 24) 2
theorem sc_Register_is_key : FnScope ["self"] ["self"] (defScope s_Register_is_key) := ⟨rfl, rfl, rfl, by decide +kernel, rfl, by decide +kernel, by decide +kernel⟩
abbrev s_Register___eq__ : Stmt := inClass (top 24) 5
theorem sc_Register___eq__ : FnScope ["self", "other"] ["self", "other"] (defScope s_Register___eq__) := ⟨rfl, rfl, rfl, by decide +kernel, rfl, by decide +kernel, by decide +kernel⟩
abbrev s_KeyRegister___init__ : Stmt := inClass (top 25) 0
theorem sc_KeyRegister___init__ : KN.SScope ["self", "name", "constants", "constant"] ["self", "name", "constants"] (defScope s_KeyRegister___init__) := ⟨rfl, rfl, rfl, by decide +kernel, rfl, by decide +kernel, by decide +kernel, by decide +kernel, rfl, rfl⟩
abbrev s_KeyRegister_of : Stmt := inClass (top 25) 1
theorem sc_KeyRegister_of : FnScope ["cls", "name", "constants"] ["cls", "name", "constants"] (defScope s_KeyRegister_of) := ⟨rfl, rfl, rfl, by decide +kernel, rfl, by decide +kernel, by decide +kernel⟩
abbrev s_KeyRegister_is_key : Stmt := inClass (top 25) 2
theorem sc_KeyRegister_is_key : FnScope ["self"] ["self"] (defScope s_KeyRegister_is_key) := ⟨rfl, rfl, rfl, by decide +kernel, rfl, by decide +kernel, by decide +kernel⟩
abbrev s_KeyRegister___eq__ : Stmt := inClass (top 25) 3
theorem sc_KeyRegister___eq__ : FnScope ["self", "other"] ["self", "other"] (defScope s_KeyRegister___eq__) := ⟨rfl, rfl, rfl, by decide +kernel, rfl, by decide +kernel, by decide +kernel⟩
abbrev s__law_pen : Stmt := top 27
theorem sc__law_pen : FnScope ["_law_script"] ["_law_script"] (defScope s__law_pen) := ⟨rfl, rfl, rfl, by decide +kernel, rfl, by decide +kernel, by decide +kernel⟩
abbrev s__law_draw : Stmt := top 28
theorem sc__law_draw : FnScope ["_law_pen_here", "_law_many", "_law_digit", "_law_at", "_law_cell", "_law_large", "_law_mixed"] ["_law_pen_here", "_law_many"] (defScope s__law_draw) := ⟨rfl, rfl, rfl, by decide +kernel, rfl, by decide +kernel, by decide +kernel⟩
abbrev s__law_same : Stmt := top 29
theorem sc__law_same : FnScope ["_law_told", "_law_due_here", "_law_one", "_law_other"] ["_law_told", "_law_due_here"] (defScope s__law_same) := ⟨rfl, rfl, rfl, by decide +kernel, rfl, by decide +kernel, by decide +kernel⟩
abbrev s__law_name : Stmt := top 30
theorem sc__law_name : FnScope ["_law_pen_here", "_law_signs", "_law_step"] ["_law_pen_here"] (defScope s__law_name) := ⟨rfl, rfl, rfl, by decide +kernel, rfl, by decide +kernel, by decide +kernel⟩
abbrev s__law_is_name : Stmt := top 31
theorem sc__law_is_name : FnScope ["_law_value", "_law_capitals", "_law_sign"] ["_law_value"] (defScope s__law_is_name) := ⟨rfl, rfl, rfl, by decide +kernel, rfl, by decide +kernel, by decide +kernel⟩
abbrev s__law_odd : Stmt := top 32
theorem sc__law_odd : FnScope ["_law_pen_here", "_law_some"] ["_law_pen_here"] (defScope s__law_odd) := ⟨rfl, rfl, rfl, by decide +kernel, rfl, by decide +kernel, by decide +kernel⟩
abbrev s__law_plain : Stmt := top 33
theorem sc__law_plain : FnScope ["_law_title", "_law_fields", "_law_full"] ["_law_title", "_law_fields", "_law_full"] (defScope s__law_plain) := ⟨rfl, rfl, rfl, by decide +kernel, rfl, by decide +kernel, by decide +kernel⟩
abbrev s__law_key : Stmt := top 34
theorem sc__law_key : FnScope ["_law_title", "_law_numbers"] ["_law_title", "_law_numbers"] (defScope s__law_key) := ⟨rfl, rfl, rfl, by decide +kernel, rfl, by decide +kernel, by decide +kernel⟩
abbrev s__law_refused : Stmt := top 35
theorem sc__law_refused : FnScope ["_law_title", "_law_things_here", "_law_full", "_law_is_key", "_law_told", "e"] ["_law_title", "_law_things_here", "_law_full", "_law_is_key"] (defScope s__law_refused) := ⟨rfl, rfl, rfl, by decide +kernel, rfl, by decide +kernel, by decide +kernel⟩
abbrev s__law_due : Stmt := top 36
theorem sc__law_due : FnScope ["_law_title", "_law_things_here", "_law_full", "_law_is_key", "_law_one", "_law_fits"] ["_law_title", "_law_things_here", "_law_full", "_law_is_key"] (defScope s__law_due) := ⟨rfl, rfl, rfl, by decide +kernel, rfl, by decide +kernel, by decide +kernel⟩
abbrev s__law_is_right : Stmt := top 37
theorem sc__law_is_right : FnScope ["_law_made", "_law_title", "_law_things_here", "_law_full", "_law_is_key", "_law_one", "_law_other"] ["_law_made", "_law_title", "_law_things_here", "_law_full", "_law_is_key"] (defScope s__law_is_right) := ⟨rfl, rfl, rfl, by decide +kernel, rfl, by decide +kernel, by decide +kernel⟩
abbrev s__law_things : Stmt := top 38
theorem sc__law_things : FnScope ["_law_pen_here", "_law_is_key", "_law_top", "_law_step", "_law_many", "_law_k"] ["_law_pen_here", "_law_is_key"] (defScope s__law_things) := ⟨rfl, rfl, rfl, by decide +kernel, rfl, by decide +kernel, by decide +kernel⟩
abbrev s__law_spoil : Stmt := top 39
theorem sc__law_spoil : FnScope ["_law_pen_here", "_law_title", "_law_things_here", "_law_full", "_law_choice", "_law_at"] ["_law_pen_here", "_law_title", "_law_things_here", "_law_full"] (defScope s__law_spoil) := ⟨rfl, rfl, rfl, by decide +kernel, rfl, by decide +kernel, by decide +kernel⟩
abbrev s__law_is_equal_right : Stmt := top 40
theorem sc__law_is_equal_right : FnScope ["_law_made", "_law_title", "_law_things_here", "_law_full", "_law_is_key", "_law_twin", "_law_beside", "_law_others", "_law_is_bare", "_law_equal", "_law_one", "_law_passed", "_law_kept", "_law_back", "_law_turned"] ["_law_made", "_law_title", "_law_things_here", "_law_full", "_law_is_key"] (defScope s__law_is_equal_right) := ⟨rfl, rfl, rfl, by decide +kernel, rfl, by decide +kernel, by decide +kernel⟩
abbrev s_law : Stmt := top 41
theorem sc_law : FnScope ["_law_script", "_law_pen_here", "_law_turn", "_law_is_key", "_law_title", "_law_full", "_law_things_here", "_law_step", "_law_due_here", "_law_told", "_law_made"] ["_law_script"] (defScope s_law) := ⟨rfl, rfl, rfl, by decide +kernel, rfl, by decide +kernel, by decide +kernel⟩

structure Txt (mg : Str → Option Value) : Prop where
  z_int : mg "int" = none
  z_bool : mg "bool" = none
  z_str : mg "str" = none
  z_dict : mg "dict" = none
  z_all : mg "all" = none
  z_abs : mg "abs" = none
  z_len : mg "len" = none
  z_list : mg "list" = none
  z_tuple : mg "tuple" = none
  z_range : mg "range" = none
  z_isinstance : mg "isinstance" = none
  z_zip : mg "zip" = none
  z_ValueError : mg "ValueError" = none
open KV


section
variable {P : Program} {w : World} {K : PySem.W.Frag} {mg : Str → Option Value} {base : Heap}
theorem ok_pen {f : Addr} {fd : FuncData} {k : Nat} (F : Fun K "_law_pen" "_law_pen" s__law_pen f fd) (T : Txt mg) : FnOk P w K mg base CX0 (k + 1) f fd ["_law_script"] (spPen K) := by
  refine F.ok sc__law_pen (fun vs H Q E h => ?_) (fun cdv A outer s H vs Q E hr h => ?_)
  · obtain ⟨a, ns, rfl, _⟩ := h
    rfl
  · obtain ⟨a, ns, rfl, hS, hl, q⟩ := h
    refine ⟨_, (pss_one (ps_ret (pe_lst (pa_cons (pe_callTy call_list_of (by rfl) T.z_list (by decide +kernel) (pa_cons (pe_slice sl_list (pv 0) po_none (po_some pe_int)) pa_nil)) (pa_cons pe_int (pa_cons pe_int pa_nil)))))), at_start (σ := [some (.ref a)]) rfl ?_⟩
    dsimp only [cx_K]
    walk_at "rd"
    intro c nc
    have ec : cutV (ns.map V.int) none (some 63) = (ns.take 63).map V.int := by
      rw [show (63 : Int) = ((63 : Nat) : Int) from rfl, cutV_take, List.map_take]
    rw [ec]
    walk_at "rd"
    intro l nl
    walk_at "rd"
    refine ⟨by walk_at "sz", fun p np => ?_⟩
    have npl : p ≠ l := fun z => by rw [z, upd_same] at np; cases np
    have s0 := ((same_new (o := .lst ((ns.take 63).map V.int)) nc).trans (same_new (o := .lst ((ns.take 63).map V.int)) nl)).trans (same_new (o := .lst [.ref l, .int 0, .int 0]) np)
    refine q _ p l s0 (((same_new nc).trans (same_new nl)).free np) ((same_new nc).free nl) ⟨ns.take 63, 0, 0, upd_same, upd_new np upd_same, npl, ?_, by omega⟩
    rw [List.length_take]
    omega
theorem ok_draw {f : Addr} {fd : FuncData} {k : Nat} (F : Fun K "_law_draw" "_law_draw" s__law_draw f fd) (T : Txt mg) : FnOk P w K mg base CX0 (k + 1) f fd ["_law_pen_here", "_law_many"] spDraw := by
  refine F.ok sc__law_draw (fun vs H Q E h => ?_) (fun cdv A outer s H vs Q E hr h => ?_)
  · obtain ⟨p, c, many, k, rfl, _⟩ := h
    rfl
  · obtain ⟨p, c, many, k, rfl, hm0, hm1, ⟨ns, at_, left, hp, hc, npc, hn, hat⟩, q⟩ := h
    refine ⟨_, (pss_cons (ps_if (pt_cmpR op_gt (pe_ix ix_list (pv 0) pe_int (fun _ _ => rfl)) pe_int (nomark _)) (pss_cons (ps_set (i := 2) sc__law_draw.nd rfl (by first | exact Or.inl rfl | exact Or.inr rfl) (pe_op op_mod (pe_callTy call_int1 (by rfl) T.z_int (by decide +kernel) (pa_cons (pe_ix ix_list (pv 0) pe_int (fun _ _ => rfl)) pa_nil)) (pv 1)))
 (pss_cons (ps_asg (pe_op op_fdivW (pe_ix ix_list (pv 0) pe_int (fun _ _ => rfl)) (pv 1)) (pg_sub (pv 0) pe_int set_list))
 (pss_one (ps_ret (pv 2)))))
 pss_nil)
 (pss_cons (ps_set (i := 3) sc__law_draw.nd rfl (by first | exact Or.inl rfl | exact Or.inr rfl) (pe_ix ix_list (pv 0) pe_int (fun _ _ => rfl)))
 (pss_cons (ps_asg (pe_op op_add (pv 3) pe_int) (pg_sub (pv 0) pe_int set_list))
 (pss_cons (ps_set (i := 4) sc__law_draw.nd rfl (by first | exact Or.inl rfl | exact Or.inr rfl) (pe_op op_add (pe_op op_mul pe_int (pv 3)) pe_int))
 (Evl.pss_cut (ps_if (pt_cmpR (op_neD hr.units) (pe_ix ix_list (pv 0) pe_int (fun _ _ => rfl)) (pe_lst pa_nil) (nomark _)) (pss_one (ps_set (i := 4) sc__law_draw.nd rfl (by first | exact Or.inl rfl | exact Or.inr rfl) (pe_ix ix_list (pe_ix ix_list (pv 0) pe_int (fun _ _ => rfl)) (pe_op op_mod (pe_callTy call_int1 (by rfl) T.z_int (by decide +kernel) (pa_cons (pv 3) pa_nil)) (pe_callB call_len_seq (by rfl) T.z_len (by decide +kernel) (pa_cons (pe_ix ix_list (pv 0) pe_int (fun _ _ => rfl)) pa_nil))) (fun _ _ => rfl))))
 pss_nil)
 (pss_cons (ps_if (PW.pt (pw_and (pt_cmpR op_lt (pv 3) (pe_callB call_len_seq (by rfl) T.z_len (by decide +kernel) (pa_cons (pe_ix ix_list (pv 0) pe_int (fun _ _ => rfl)) pa_nil)) (nomark _)) (pw_and1 (pt_cmpR op_ge (pe_callB call_abs (by rfl) T.z_abs (by decide +kernel) (pa_cons (pv 4) pa_nil)) (pe_op op_pow pe_int pe_int) (nomark _))))) (pss_cons (ps_set (i := 5) sc__law_draw.nd rfl (by first | exact Or.inl rfl | exact Or.inr rfl) (pe_op op_add (pe_op op_mul pe_int (pe_op op_sub (pe_callB call_abs (by rfl) T.z_abs (by decide +kernel) (pa_cons (pv 4) pa_nil)) (pe_op op_pow pe_int pe_int))) (pe_callTy call_int1 (by rfl) T.z_int (by decide +kernel) (pa_cons (pe_cmpR op_lt (pv 4) pe_int (nomark _)) pa_nil))))
 (pss_cons (ps_asg (pe_op op_fdivW (pv 5) (pv 1)) (pg_sub (pv 0) pe_int set_list))
 (pss_one (ps_ret (pe_op op_mod (pe_callTy call_int1 (by rfl) T.z_int (by decide +kernel) (pa_cons (pv 5) pa_nil)) (pv 1))))))
 pss_nil)
 (pss_cons (ps_set (i := 6) sc__law_draw.nd rfl (by first | exact Or.inl rfl | exact Or.inr rfl) (pe_op op_mod (pe_callTy call_int1 (by rfl) T.z_int (by decide +kernel) (pa_cons (pe_op op_pow (pe_op op_add (pe_op op_add (pe_op op_mod (pe_callTy call_int1 (by rfl) T.z_int (by decide +kernel) (pa_cons (pv 4) pa_nil)) pe_int) (pe_op op_mul pe_int (pv 3))) pe_int) pe_int) pa_nil)) pe_int))
 (pss_cons (ps_set (i := 6) sc__law_draw.nd rfl (by first | exact Or.inl rfl | exact Or.inr rfl) (pe_op op_mod (pe_callTy call_int1 (by rfl) T.z_int (by decide +kernel) (pa_cons (pe_op op_pow (pe_op op_add (pe_op op_add (pe_op op_mul (pv 6) (pe_op op_add (pe_op op_mul pe_int (pv 3)) pe_int)) (pe_op op_mul (pe_op op_mul pe_int (pv 3)) (pv 3))) pe_int) pe_int) pa_nil)) pe_int))
 (pss_one (ps_ret (pe_op op_mod (pe_callTy call_int1 (by rfl) T.z_int (by decide +kernel) (pa_cons (pe_op op_fdiv (pv 6) pe_int) pa_nil)) (pv 1)))))))))))), at_start (σ := [some (.ref p), some (.int many), none, none, none, none, none]) rfl ?_⟩
    dsimp only [cx_K]
    walk_at "rd"
    have upp : ∀ o, upd H p o c = some (.lst (ns.map V.int)) := fun o => by rw [upd_ne npc.symm]; exact hc
    refine r_ite2 (fun h1 => ?_) (fun h1 => ?_)
    · walk_at "rd"
      exact q (left % many) _ (Int.emod_nonneg _ (by omega)) (Int.emod_lt_of_pos _ hm0) ⟨ns, at_, left / many, upd_same, upp _, npc, hn, by omega⟩ fun b o e hb => by rw [upd_ne hb]; exact e
    · walk_at "rd"
      refine ⟨fun σ' H' => ∃ cell : Int, σ' = [some (.ref p), some (.int many), none, some (.int at_), some (.int cell), none, none] ∧ H' p = some (.lst [.ref c, .int (at_ + 1), .int left]) ∧ H' c = some (.lst (ns.map V.int)) ∧ Keep p H H', ?_, ?_⟩
      · walk_at "rd"
        refine ⟨by decide, fun e he => ?_⟩
        have npe : p ≠ e := fun z => by rw [z, upd_same] at he; cases he
        refine r_neInts (ns := ns) (ms := []) (by walk_at "sq") (SqL.of upd_same) ?_
        walk_at "rd"
        have k1 : Keep p H (upd (upd H p (.lst [.ref c, .int (at_ + 1), .int left])) e (.lst [])) := fun b o x hb => upd_new he (by rw [upd_ne hb]; exact x)
        refine r_iteN2 (fun h2 => ?_) (fun h2 => ?_)
        · walk_at "rd"
          have hl : 0 < ns.length := List.length_pos_iff.mpr h2
          rw [List.length_map]
          have hj : (at_ : Int) % (ns.length : Int) = ((at_ % ns.length : Nat) : Int) := by omega
          have hj2 : at_ % ns.length < ns.length := Nat.mod_lt _ hl
          refine r_I (by show (0 : Int) < _; omega) ?_
          refine r_ixL (xs := ns.map V.int) (v := .int (ns[at_ % ns.length])) (by walk_at "sq") (by rw [hj]; exact atI_nat (by simp [hj2])) ?_
          exact ⟨_, rfl, upd_new he upd_same, upd_new he (upp _), k1⟩
        · exact ⟨_, rfl, upd_new he upd_same, upd_new he (upp _), k1⟩
      · rintro σ' H' ⟨cell, rfl, hp1, hc1, k1⟩
        have h6 : ∀ (r : Int) (l2 : Int), 0 ≤ r → r < many → Q (.int r) (upd H' p (.lst [.ref c, .int ((at_ + 1 : Nat) : Int), .int l2])) := fun r l2 h7 h8 =>
          q r _ h7 h8 ⟨ns, at_ + 1, l2, upd_same, by rw [upd_ne npc.symm]; exact hc1, npc, hn, by omega⟩ fun b o x hb => by rw [upd_ne hb]; exact k1 b o x hb
        have h9 : ∀ r : Int, 0 ≤ r → r < many → Q (.int r) H' := fun r h7 h8 => q r _ h7 h8 ⟨ns, at_ + 1, left, hp1, hc1, npc, hn, by omega⟩ k1
        walk_at "rd"
        refine r_ite2 (fun h2 => ?_) (fun h2 => ?_)
        · walk_at "rd"
          refine r_ite2 (fun h3 => ?_) (fun h3 => ?_)
          · walk_at "rd"
            exact h6 _ _ (Int.emod_nonneg _ (by omega)) (Int.emod_lt_of_pos _ hm0)
          · walk_at "rd"
            have m1 : 0 ≤ (cell % 2147483563 + 50139 * (at_ : Int) + 303) ^ Int.toNat 5 % 2147483489 := Int.emod_nonneg _ (by decide)
            have m2 : (cell % 2147483563 + 50139 * (at_ : Int) + 303) ^ Int.toNat 5 % 2147483489 < 2147483489 := Int.emod_lt_of_pos _ (by decide)
            generalize (cell % 2147483563 + 50139 * (at_ : Int) + 303) ^ Int.toNat 5 % 2147483489 = m at m1 m2 ⊢
            have b1 := mul_bd (A := 2147483489) (B := 300000) m1 (by omega) (show 0 ≤ 2 * (at_ : Int) + 209 by omega) (by omega)
            have b2 := mul_bd (A := 100000 * 70189) (B := 100000) (show 0 ≤ 70189 * (at_ : Int) by omega) (by omega) (show 0 ≤ (at_ : Int) by omega) (by omega)
            refine r_I (show CPow _ _ from ⟨by decide, by decide, by omega⟩) ?_
            walk_at "rd"
            exact h9 _ (Int.emod_nonneg _ (by omega)) (Int.emod_lt_of_pos _ hm0)

        · walk_at "rd"
          have m1 : 0 ≤ (cell % 2147483563 + 50139 * (at_ : Int) + 303) ^ Int.toNat 5 % 2147483489 := Int.emod_nonneg _ (by decide)
          have m2 : (cell % 2147483563 + 50139 * (at_ : Int) + 303) ^ Int.toNat 5 % 2147483489 < 2147483489 := Int.emod_lt_of_pos _ (by decide)
          generalize (cell % 2147483563 + 50139 * (at_ : Int) + 303) ^ Int.toNat 5 % 2147483489 = m at m1 m2 ⊢
          have b1 := mul_bd (A := 2147483489) (B := 300000) m1 (by omega) (show 0 ≤ 2 * (at_ : Int) + 209 by omega) (by omega)
          have b2 := mul_bd (A := 100000 * 70189) (B := 100000) (show 0 ≤ 70189 * (at_ : Int) by omega) (by omega) (show 0 ≤ (at_ : Int) by omega) (by omega)
          refine r_I (show CPow _ _ from ⟨by decide, by decide, by omega⟩) ?_
          walk_at "rd"
          exact h9 _ (Int.emod_nonneg _ (by omega)) (Int.emod_lt_of_pos _ hm0)

end

end K20


namespace K20
open PySem L2 KB KO KY KV KTr
/-! ### a Kind -/
def statesOf (w : Str) : List Int := if w = "once" then [0, 1, 2, 3] else [0, 1]
def flds (r w d : Str) (st : Addr) : List (Str × V) := [("reading", .str r), ("writing", .str w), ("device", .str d), ("states", .ref st)]
theorem fl_r {r w d : Str} {st : Addr} : (flds r w d st).lookup ("reading" : Str) = some (.str r) := rfl
theorem fl_w {r w d : Str} {st : Addr} : (flds r w d st).lookup ("writing" : Str) = some (.str w) := rfl
theorem fl_d {r w d : Str} {st : Addr} : (flds r w d st).lookup ("device" : Str) = some (.str d) := rfl
theorem fl_s {r w d : Str} {st : Addr} : (flds r w d st).lookup ("states" : Str) = some (.ref st) := rfl
theorem fl_no {r w d : Str} {st : Addr} : (flds r w d st).lookup ("after_read" : Str) = none ∧ (flds r w d st).lookup ("after_write" : Str) = none ∧ (flds r w d st).lookup ("unguarded" : Str) = none := ⟨rfl, rfl, rfl⟩
theorem fl_put {r w d : Str} {st : Addr} : putF "states" (.ref st) (putF "device" (.str d) (putF "writing" (.str w) (putF "reading" (.str r) []))) = flds r w d st := rfl
def KindAt (C : Addr) (H : Hp) (p : Addr) (r w d : Str) : Prop := ∃ dx st, H p = some (.ins C dx (flds r w d st)) ∧ H st = some (.tup ((statesOf w).map V.int))
theorem KindAt.up {C : Addr} {H H' : Hp} {p : Addr} {r w d : Str} (h : KindAt C H p r w d) (s : Same H H') : KindAt C H' p r w d := by
  obtain ⟨dx, st, h1, h2⟩ := h
  exact ⟨dx, st, s _ _ h1, s _ _ h2⟩
def RD : List Str := ["keep", "take"]
def WR : List Str := ["store", "clear1", "clear0", "set1", "flip1", "once", "none"]
def DV : List Str := ["still", "raise", "end", "drift"]
/-- what the text's class Kind is -/
structure TxtK (K : PySem.W.Frag) (mg : Str → Option Value) (C : Addr) : Prop extends Txt mg where
  cl : Cls K C
  n_reading : NoAttr K C "reading"
  n_writing : NoAttr K C "writing"
  n_device : NoAttr K C "device"
  n_states : NoAttr K C "states"
  mg_Kind : mg "Kind" = some (.ref C)
  con : ∃ (mc : Value) (a1 a2 a3 : Addr) (u1 u2 u3 : Value), ClX.CRead K C mc ∧ ClX.CVal K C mc "READINGS" (.ref a1) u1 ∧ ClX.CVal K C mc "WRITINGS" (.ref a2) u2 ∧ ClX.CVal K C mc "DEVICES" (.ref a3) u3 ∧
    (∀ H, SqT K H a1 (RD.map V.str)) ∧ (∀ H, SqT K H a2 (WR.map V.str)) ∧ (∀ H, SqT K H a3 (DV.map V.str))
def spKind (C : Addr) : Sp := fun vs H Q _ => ∃ (p dx : Addr) (r w d : Str), vs = [.ref p, .str r, .str w, .str d] ∧ r ∈ RD ∧ w ∈ WR ∧ d ∈ DV ∧ H p = some (.ins C dx []) ∧
  ∀ H', KindAt C H' p r w d → Keep p H H' → Q .non H'

/-- Kind(v1, v2, v3): the first wrong word is told, or the kind is made -/
def spKX (C CE : Addr) : Sp := fun vs H Q E => ∃ (p dx : Addr) (v1 v2 v3 : V) (t1 t2 t3 : Tr), vs = [.ref p, v1, v2, v3] ∧ H p = some (.ins C dx []) ∧ TrAt H v1 t1 ∧ TrAt H v2 t2 ∧ TrAt H v3 t3 ∧
  (t1.isIn RD = false → ∀ H' d, Same H H' → H' d = some (.xd [("value", v1)]) → E (.ref CE) (some d) H') ∧
  (t1.isIn RD = true → t2.isIn WR = false → ∀ H' d, Same H H' → H' d = some (.xd [("value", v2)]) → E (.ref CE) (some d) H') ∧
  (t1.isIn RD = true → t2.isIn WR = true → t3.isIn DV = false → ∀ H' d, Same H H' → H' d = some (.xd [("value", v3)]) → E (.ref CE) (some d) H') ∧
  (∀ r w d, t1 = .sc (.str r) → t2 = .sc (.str w) → t3 = .sc (.str d) → r ∈ RD → w ∈ WR → d ∈ DV → ∀ H', KindAt C H' p r w d → Keep p H H' → Q .non H')

section
variable {P : Program} {w : World} {K : PySem.W.Frag} {mg : Str → Option Value} {base : Heap}
theorem ok_kindX {f C CE : Addr} {fd : FuncData} (F : Fun K "__init__" "Kind.__init__" s_Kind___init__ f fd) (T : TxtK K mg C) (e_InvalidKind : KX.ErrMk P w K mg base CE "InvalidKind" "value") : FnOk P w K mg base (L2.CX P w) 3 f fd ["self", "reading", "writing", "device"] (spKX C CE) := by
  refine F.okX sc_Kind___init__ (fun vs H Q E h => ?_) (fun cdv A outer s H vs Q E hr h => ?_)
  · obtain ⟨p, dx, v1, v2, v3, t1, t2, t3, rfl, _⟩ := h
    rfl
  · obtain ⟨p, dx, v1, v2, v3, t1, t2, t3, rfl, hp, o1, o2, o3, x1, x2, x3, q⟩ := h
    obtain ⟨mc, a1, a2, a3, u1, u2, u3, cr, w1, w2, w3, s1, s2, s3⟩ := T.con
    refine ⟨_, (pss_cons (ps_for (passes_of rfl) rfl (pi_tup (pe_tup (pa_cons (pe_tup (pa_cons (pv 1) (pa_cons (ClX.pe_cval (pe_glob (v := .ref _) (by rfl) T.mg_Kind rfl)) pa_nil))) (pa_cons (pe_tup (pa_cons (pv 2) (pa_cons (ClX.pe_cval (pe_glob (v := .ref _) (by rfl) T.mg_Kind rfl)) pa_nil))) (pa_cons (pe_tup (pa_cons (pv 3) (pa_cons (ClX.pe_cval (pe_glob (v := .ref _) (by rfl) T.mg_Kind rfl)) pa_nil))) pa_nil))))) (pg_tup rfl (pgs_cons (pg_name (i := 4) sc_Kind___init__.nd rfl (by first | exact Or.inl rfl | exact Or.inr rfl)) (pgs_cons (pg_name (i := 5) sc_Kind___init__.nd rfl (by first | exact Or.inl rfl | exact Or.inr rfl)) pgs_nil)))
 (pss_one (ps_if (pt_cmpR (KTr.op_notInT hr) (pv 4) (pv 5) (by rfl)) (pss_one (ps_raise rfl KL.def_takes (KX.pmkC e_InvalidKind (hr.mono (by decide)) (by rfl) (pa_cons (pv 4) pa_nil))))
 pss_nil)))
 (pss_cons (ps_fld (pv 0) (pv 1) rfl)
 (pss_cons (ps_fld (pv 0) (pv 2) rfl)
 (pss_cons (ps_fld (pv 0) (pv 3) rfl)
 (pss_one (ps_fld (pv 0) (pe_ifExp (pt_cmpR op_eq (pv 2) pe_str (nomark _)) (pe_tup (pa_cons pe_int (pa_cons pe_int (pa_cons pe_int (pa_cons pe_int pa_nil))))) (pe_tup (pa_cons pe_int (pa_cons pe_int pa_nil)))) rfl)))))), at_start (σ := [some (.ref p), some v1, some v2, some v3, none, none]) rfl ?_⟩
    have eK : (cxOf (L2.CX P w) P w K mg base ["self", "reading", "writing", "device", "word", "words"] "Kind.__init__" (defScope s_Kind___init__) f cdv A outer s H E).K = K := rfl
    simp only [eK]
    walk_at "rd"
    refine ⟨by walk_at "sz", fun c1 n1 => ?_⟩
    walk_at "rd"
    refine ⟨by walk_at "sz", fun c2 n2 => ?_⟩
    walk_at "rd"
    refine ⟨by walk_at "sz", fun c3 n3 => ?_⟩
    walk_at "rd"
    refine ⟨by walk_at "sz", fun c4 n4 => ?_⟩
    have s4 := (((same_new (o := .tup [v1, .ref a1]) n1).trans (same_new (o := .tup [v2, .ref a2]) n2)).trans (same_new (o := .tup [v3, .ref a3]) n3)).trans (same_new (o := .tup [.ref c1, .ref c2, .ref c3]) n4)
    generalize hH4 : (upd (upd (upd (upd H c1 (.tup [v1, .ref a1])) c2 (.tup [v2, .ref a2])) c3 (.tup [v3, .ref a3])) c4 (.tup [.ref c1, .ref c2, .ref c3])) = H4 at s4 ⊢
    have g1 : H4 c1 = some (.tup [v1, .ref a1]) := by rw [← hH4]; walk_at "hp"
    have g2 : H4 c2 = some (.tup [v2, .ref a2]) := by rw [← hH4]; walk_at "hp"
    have g3 : H4 c3 = some (.tup [v3, .ref a3]) := by rw [← hH4]; walk_at "hp"
    have g4 : H4 c4 = some (.tup [.ref c1, .ref c2, .ref c3]) := by rw [← hH4]; walk_at "hp"
    clear hH4
    refine ⟨c4, rfl, ⟨_, SqT.of g4⟩, forW (walk_tup (xs := [.ref c1, .ref c2, .ref c3])) (fun i σ H' => ∃ y4 y5, σ = [some (.ref p), some v1, some v2, some v3, y4, y5] ∧ H' = H4 ∧ (1 ≤ i → t1.isIn RD = true) ∧ (2 ≤ i → t2.isIn WR = true) ∧ (3 ≤ i → t3.isIn DV = true))
      ⟨none, none, rfl, rfl, fun z => absurd z (by decide), fun z => absurd z (by decide), fun z => absurd z (by decide)⟩ (fun i σ H' _ ⟨_, _, _, e, _⟩ => e ▸ SqT.of g4) ?_ ?_⟩
    · rintro i x σ' H' _ hi0 ⟨y4, y5, rfl, rfl, i1, i2, i3⟩ ⟨rfl, hi⟩
      match i, hi, i1, i2, i3 with
      | 0, hi, i1, i2, i3 =>
        obtain rfl : x = .ref c1 := (Option.some.inj hi).symm
        refine ⟨_, _, rfl, SqT.of g1, rfl, _, _, rfl, _, _, rfl, rfl, ?_⟩
        walk_at "rd"
        refine ⟨a1, RD, t1, rfl, s1 _, TrAt.up s4 _ _ o1, ?_⟩
        walk_at "rd"
        refine r_iteBN (fun z => ?_) (fun z => ?_)
        · walk_at "rd"
          refine KX.r_raiseO ?_ KX.mono_var
          walk_at "rd"
          exact fun d H' sm hd => x1 z H' d (s4.trans sm) hd
        · walk_at "rd"
          exact ⟨_, _, rfl, rfl, fun _ => z, fun y => absurd y (by decide), fun y => absurd y (by decide)⟩
      | 1, hi, i1, i2, i3 =>
        obtain rfl : x = .ref c2 := (Option.some.inj hi).symm
        refine ⟨_, _, rfl, SqT.of g2, rfl, _, _, rfl, _, _, rfl, rfl, ?_⟩
        walk_at "rd"
        refine ⟨a2, WR, t2, rfl, s2 _, TrAt.up s4 _ _ o2, ?_⟩
        walk_at "rd"
        refine r_iteBN (fun z => ?_) (fun z => ?_)
        · walk_at "rd"
          refine KX.r_raiseO ?_ KX.mono_var
          walk_at "rd"
          exact fun d H' sm hd => x2 (i1 (by decide)) z H' d (s4.trans sm) hd
        · walk_at "rd"
          exact ⟨_, _, rfl, rfl, fun _ => i1 (by decide), fun _ => z, fun y => absurd y (by decide)⟩
      | 2, hi, i1, i2, i3 =>
        obtain rfl : x = .ref c3 := (Option.some.inj hi).symm
        refine ⟨_, _, rfl, SqT.of g3, rfl, _, _, rfl, _, _, rfl, rfl, ?_⟩
        walk_at "rd"
        refine ⟨a3, DV, t3, rfl, s3 _, TrAt.up s4 _ _ o3, ?_⟩
        walk_at "rd"
        refine r_iteBN (fun z => ?_) (fun z => ?_)
        · walk_at "rd"
          refine KX.r_raiseO ?_ KX.mono_var
          walk_at "rd"
          exact fun d H' sm hd => x3 (i1 (by decide)) (i2 (by decide)) z H' d (s4.trans sm) hd
        · walk_at "rd"
          exact ⟨_, _, rfl, rfl, fun _ => i1 (by decide), fun _ => i2 (by decide), fun _ => z⟩
      | i + 3, hi, _, _, _ => exact absurd hi0 (by simp)
    · rintro σ' H' ⟨y4, y5, rfl, rfl, i1, i2, i3⟩
      obtain ⟨r, rfl, hr1⟩ := Tr.isIn_str (i1 (by simp))
      obtain ⟨w, rfl, hw1⟩ := Tr.isIn_str (i2 (by simp))
      obtain ⟨d, rfl, hd1⟩ := Tr.isIn_str (i3 (by simp))
      obtain rfl : v1 = .str r := sc_at o1
      obtain rfl : v2 = .str w := sc_at o2
      obtain rfl : v3 = .str d := sc_at o3
      replace q := q r w d rfl rfl rfl hr1 hw1 hd1
      have hp4 := s4 _ _ hp
      walk_at "rd"
      refine ⟨p, C, dx, _, rfl, hp4, T.cl, T.n_reading, (by decide), ?_⟩
      walk_at "rd"
      refine ⟨p, C, dx, _, rfl, upd_same, T.cl, T.n_writing, putF_lt0 (by decide), ?_⟩
      walk_at "rd"
      refine ⟨p, C, dx, _, rfl, upd_same, T.cl, T.n_device, putF_lt0 (putF_lt (by decide)), ?_⟩
      walk_at "rd"
      have fin : ∀ st, (upd (upd (upd H' p (.ins C dx (putF "reading" (.str r) []))) p (.ins C dx (putF "writing" (.str w) (putF "reading" (.str r) [])))) p (.ins C dx (putF "device" (.str d) (putF "writing" (.str w) (putF "reading" (.str r) []))))) st = none →
          Q .non (upd (upd (upd (upd (upd H' p (.ins C dx (putF "reading" (.str r) []))) p (.ins C dx (putF "writing" (.str w) (putF "reading" (.str r) [])))) p (.ins C dx (putF "device" (.str d) (putF "writing" (.str w) (putF "reading" (.str r) []))))) st (.tup ((statesOf w).map V.int))) p (.ins C dx (flds r w d st))) := by
        intro st hst
        have np : p ≠ st := fun z => by rw [← z, upd_same] at hst; cases hst
        refine q _ ⟨dx, st, upd_same, by rw [upd_ne np.symm, upd_same]⟩ fun b o e hb => ?_
        rw [upd_ne hb, upd_new hst]
        rw [upd_ne hb, upd_ne hb, upd_ne hb]
        exact s4 _ _ e
      refine r_ite2 (fun h => ?_) (fun h => ?_)
      · have h' : w = "once" := V.str.inj h
        walk_at "rd"
        refine ⟨by walk_at "sz", fun st hst => ?_⟩
        have np : p ≠ st := fun z => by rw [← z, upd_same] at hst; cases hst
        walk_at "rd"
        refine ⟨p, C, dx, _, rfl, by rw [upd_ne np]; exact upd_same, T.cl, T.n_states, putF_lt0 (putF_lt (putF_lt (by decide))), ?_⟩
        have := fin st hst
        rw [statesOf, if_pos h'] at this
        exact this
      · have h' : ¬ w = "once" := fun z => h (by rw [z])
        walk_at "rd"
        refine ⟨by walk_at "sz", fun st hst => ?_⟩
        have np : p ≠ st := fun z => by rw [← z, upd_same] at hst; cases hst
        walk_at "rd"
        refine ⟨p, C, dx, _, rfl, by rw [upd_ne np]; exact upd_same, T.cl, T.n_states, putF_lt0 (putF_lt (putF_lt (by decide))), ?_⟩
        have := fin st hst
        rw [statesOf, if_neg h'] at this
        exact this
end
end K20


namespace K20
open PySem L2 KB KO KV KY KTr
/-! ### names and numbers of any value -/
def CAPS : Str := "ABCDEFGHIJKLMNOPQRSTUVWXYZ"
def INNS : Str := "ABCDEFGHIJKLMNOPQRSTUVWXYZ0123456789_"
structure TxtN (mg : Str → Option Value) : Prop extends Txt mg where
  g_CAPITALS : ∃ tk, mg "CAPITALS" = some (.str CAPS tk)
  g_INNER : ∃ tk, mg "INNER" = some (.str INNS tk)
  g_LONGEST : ∃ tk, mg "LONGEST" = some (.int 8 tk)
def madeB (f o z : Str) : Bool := decide (1 ≤ z.cps.toList.length ∧ z.cps.toList.length ≤ 8) && decide ((z.cps.toList.headD 0) ∈ f.cps.toList) && z.cps.toList.tail.all fun c => decide (c ∈ o.cps.toList)
def isMade (f o : Str) : Tr → Bool
  | .sc (.str z) => madeB f o z
  | _ => false
abbrev isNm (t : Tr) : Bool := isMade CAPS INNS t
def isNum (lo hi : Int) : Tr → Bool
  | .sc (.int i) => decide (lo ≤ i ∧ i ≤ hi)
  | _ => false
theorem isNum_of {lo hi : Int} {t : Tr} (h : isNum lo hi t = true) : ∃ i, t = .sc (.int i) ∧ lo ≤ i ∧ i ≤ hi := by
  cases t with
  | sc s =>
    cases s with
    | int i => exact ⟨i, rfl, of_decide_eq_true h⟩
    | non => cases h
    | bl => cases h
    | str => cases h
  | tup => cases h
  | lst => cases h
  | dct => cases h
theorem isMade_of {f o : Str} {t : Tr} (h : isMade f o t = true) : ∃ z, t = .sc (.str z) ∧ madeB f o z = true := by
  cases t with
  | sc s =>
    cases s with
    | str z => exact ⟨z, rfl, h⟩
    | non => cases h
    | bl => cases h
    | int => cases h
  | tup => cases h
  | lst => cases h
  | dct => cases h
theorem str_or (t : Tr) : (∃ z, t = .sc (.str z)) ∨ (isaB t.ty "str" = false ∧ ∀ f o, isMade f o t = false) := by
  cases t with
  | sc s =>
    cases s with
    | str z => exact .inl ⟨z, rfl⟩
    | non => exact .inr ⟨rfl, fun _ _ => rfl⟩
    | bl => exact .inr ⟨rfl, fun _ _ => rfl⟩
    | int => exact .inr ⟨rfl, fun _ _ => rfl⟩
  | tup => exact .inr ⟨rfl, fun _ _ => rfl⟩
  | lst => exact .inr ⟨rfl, fun _ _ => rfl⟩
  | dct => exact .inr ⟨rfl, fun _ _ => rfl⟩
theorem int_or (t : Tr) : (∃ i, t = .sc (.int i)) ∨ ((isaB t.ty "int" && !isaB t.ty "bool") = false ∧ ∀ lo hi, isNum lo hi t = false) := by
  cases t with
  | sc s =>
    cases s with
    | int i => exact .inl ⟨i, rfl⟩
    | non => exact .inr ⟨rfl, fun _ _ => rfl⟩
    | bl => exact .inr ⟨rfl, fun _ _ => rfl⟩
    | str => exact .inr ⟨rfl, fun _ _ => rfl⟩
  | tup => exact .inr ⟨rfl, fun _ _ => rfl⟩
  | lst => exact .inr ⟨rfl, fun _ _ => rfl⟩
  | dct => exact .inr ⟨rfl, fun _ _ => rfl⟩
def spMade : Sp := fun vs H Q _ => ∃ (v : V) (t : Tr) (f o : Str), vs = [v, .str f, .str o] ∧ TrAt H v t ∧ Sm t ∧ ∀ H', Same H H' → Q (.bl (isMade f o t)) H'
def spIsName : Sp := fun vs H Q _ => ∃ (v : V) (t : Tr), vs = [v] ∧ TrAt H v t ∧ Sm t ∧ ∀ H', Same H H' → Q (.bl (isNm t)) H'
def spIsNum : Sp := fun vs H Q _ => ∃ (v : V) (t : Tr) (lo hi : Int), vs = [v, .int lo, .int hi] ∧ TrAt H v t ∧ Q (.bl (isNum lo hi t)) H


section
variable {P : Program} {w : World} {K : PySem.W.Frag} {mg : Str → Option Value} {base : Heap}
theorem cut1 {z : Str} (h : 1 ≤ z.length) : (cutS z (some 1) none).cps.toList = z.cps.toList.tail := by
  have e1 : HT.sIx z.length 0 (some 1) = 1 := by
    show (if (1 : Int) < 0 then ((1 : Int) + (z.length : Int)).toNat else min (1 : Int).toNat z.length) = 1
    rw [if_neg (by omega)]
    have : ((1 : Int)).toNat = 1 := rfl
    omega
  have e2 : HT.sIx z.length z.length none = z.length := rfl
  unfold cutS
  rw [e1, e2]
  show (List.take (z.length - 1) (List.drop 1 z.cps.toList)).toArray.toList = _
  rw [List.toList_toArray, List.drop_one, List.take_of_length_le]
  rw [List.length_tail, Array.length_toList]
  exact Nat.le_refl _
theorem ix0 {z : Str} (h : 1 ≤ z.length) : atI z.cps.toList 0 = some (z.cps.toList.headD 0) := by
  have : 1 ≤ z.cps.toList.length := by rw [Array.length_toList]; exact h
  match e : z.cps.toList, this with
  | a :: l, _ => simp [atI, ixN]
theorem str_get {z : Str} {i c : Nat} (h : z.cps[i]? = some c) : c = z.cps.toList.getD i 0 := by
  rw [← Array.getElem?_toList] at h
  rw [List.getD_eq_getElem?_getD, h]
  rfl
theorem size_get {z : Str} : z.cps.size = z.cps.toList.length := (Array.length_toList).symm
theorem ok_made {f : Addr} {fd : FuncData} {k : Nat} (F : Fun K "is_made_of" "is_made_of" s_is_made_of f fd) (T : TxtN mg) : FnOk P w K mg base CX0 (k + 1) f fd ["value", "first", "others"] spMade := by
  refine F.ok sc_is_made_of (fun vs H Q E h => ?_) (fun cdv A outer s H vs Q E hr h => ?_)
  · obtain ⟨v, t, f, o, rfl, _⟩ := h
    rfl
  · obtain ⟨v, t, f, o, rfl, ht, sm, q⟩ := h
    obtain ⟨tk, gLO⟩ := T.g_LONGEST
    refine ⟨_, (pss_cons (ps_if (PW.pt (pw_or (pt_not (pt_val (pe_callB call_isi (by rfl) T.z_isinstance (by decide +kernel) (pa_cons (pv 0) (pa_cons (pe_bltn (v := .ty "str") (by rfl) T.z_str (by decide +kernel) rfl) pa_nil))))) (pw_or1 (pt_not (pt_chain op_le op_le pe_int (pe_callB call_len_str (by rfl) T.z_len (by decide +kernel) (pa_cons (pv 0) pa_nil)) (pe_glob (v := .int _) (by rfl) gLO ⟨_, rfl⟩)))))) (pss_one (ps_ret pe_bl))
 pss_nil)
 (pss_one (ps_ret (pe_and (pe_cmpR op_in_sign (pe_ix ix_str (pv 0) pe_int (fun _ _ => rfl)) (pv 1) (by rfl)) (pe_one (pe_callB (cr_all rfl) (by rfl) T.z_all (by decide +kernel) (pa_cons (pe_lc (own := [("sign", 3)]) (g := gName 3) (tt := tYes) (by rfl) sc_is_made_of.nd (pi_str (pe_slice sl_str (pv 0) (po_some pe_int) po_none)) (blkOk_by (own := [("sign", 3)]) (N := ["value", "first", "others", "sign"]) (sc := defScope s_is_made_of) (by decide +kernel)) (fun _ _ _ _ _ => (pg_name (i := 3) sc_is_made_of.nd rfl (by first | exact Or.inl rfl | exact Or.inr rfl))) (fun _ _ _ _ _ => pts_nil) (fun _ _ _ _ _ => (pe_cmpR op_in_sign (pv 3) (pv 2) (by rfl)))) pa_nil))))))), at_start (σ := [some v, some (.str f), some (.str o), none]) rfl ?_⟩
    try dsimp only [cx_K]
    walk_at "rd"
    refine r_isT ht (by decide) ?_
    rcases str_or t with ⟨z, rfl⟩ | ⟨no, nm⟩
    · obtain rfl : v = .str z := sc_at ht
      rw [show isaB (Tr.sc (Sc.str z)).ty "str" = true from rfl]
      walk_at "rd"
      have lz : z.length ≤ 1000 := by
        cases sm with
        | sc s h => exact h z rfl
      have l0 : z.length ≤ sizeLine := Nat.le_trans lz (by decide)
      have ez : z.cps.toList.length = z.length := Array.length_toList
      refine KC.r_chain ?_
      walk_at "rd"
      refine ⟨z, rfl, l0, ?_⟩
      walk_at "rd"
      have bad : ∀ {p : Prop} [Decidable p], ¬ p → (1 ≤ z.length ∧ z.length ≤ 8 → p) → isMade f o (.sc (.str z)) = false := fun np h => by
        show (decide _ && _ && _) = false
        rw [decide_eq_false (fun y => np (h (by rw [← ez]; exact y)))]
        rfl
      refine r_ite2 (fun y1 => ?_) (fun y1 => ?_)
      rotate_left
      · walk_at "rd"
        rw [bad (p := (1 : Int) ≤ (z.length : Int)) y1 (fun y => by omega)] at q
        exact q _ (Same.refl _)
      walk_at "rd"
      refine r_iteN2 (fun y2 => ?_) (fun y2 => ?_)
      · walk_at "rd"
        rw [bad (p := (z.length : Int) ≤ 8) y2 (fun y => by omega)] at q
        exact q _ (Same.refl _)
      walk_at "rd"
      refine r_ixS l0 (ix0 (by omega)) ?_
      walk_at "rd"
      refine ⟨_, f, rfl, rfl, ?_⟩
      have head : isMade f o (.sc (.str z)) = (decide ((z.cps.toList.headD 0) ∈ f.cps.toList) && z.cps.toList.tail.all fun c => decide (c ∈ o.cps.toList)) := by
        show (decide _ && _ && _) = _
        rw [decide_eq_true (by rw [ez]; omega), Bool.true_and]
      rw [head] at q
      walk_at "rd"
      refine r_iteB (fun y3 => ?_) (fun y3 => ?_)
      rotate_left
      · walk_at "rd"
        rw [y3] at q
        exact q _ (Same.refl _)
      rw [y3, Bool.true_and] at q
      walk_at "rd"
      refine KS.r_sls l0 ?_
      walk_at "rd"
      refine lc_all (walk_str (z := cutS z (some 1) none)) (j := 3) (fun i => .str ⟨#[(cutS z (some 1) none).cps.toList.getD i 0]⟩) (fun _ => true) (fun i => .bl (decide ((cutS z (some 1) none).cps.toList.getD i 0 ∈ o.cps.toList))) (by rw [size_get, cut1 (by omega), List.length_tail]; omega) (fun i H x H' hi y => ⟨y.1, by obtain ⟨_, c, hc, rfl⟩ := y; rw [str_get hc]⟩) (fun _ _ => trivial) (fun x => rfl) (fun i H' hi s QT q => q _ (Same.refl _)) (fun i H' hi _ s Q q => ?_) (fun D H' nD sD eD => ?_)
      · walk_at "rd"
        exact ⟨_, o, rfl, rfl, q _ (Same.refl _)⟩
      · rw [size_get, given_bl (cutS z (some 1) none).cps.toList 0 (fun c => decide (c ∈ o.cps.toList)), cut1 (by omega)] at eD
        refine ⟨D, _, rfl, SqL.of eD, ?_⟩
        rw [List.all_map]
        exact q _ sD
    · rw [no]
      walk_at "rd"
      rw [nm] at q
      exact q _ (Same.refl _)
theorem ok_name {f : Addr} {fd : FuncData} (F : Fun K "is_name" "is_name" s_is_name f fd) (T : TxtN mg) (c_is_made_of : KB.Callee P w K mg base CX0 1 "is_made_of" ["value", "first", "others"] spMade) : FnOk P w K mg base CX0 2 f fd ["value"] spIsName := by
  refine F.ok sc_is_name (fun vs H Q E h => ?_) (fun cdv A outer s H vs Q E hr h => ?_)
  · obtain ⟨v, t, rfl, _⟩ := h
    rfl
  · obtain ⟨v, t, rfl, ht, sm, q⟩ := h
    obtain ⟨t1, gCA⟩ := T.g_CAPITALS
    obtain ⟨t2, gIN⟩ := T.g_INNER
    refine ⟨_, (pss_one (ps_ret (pe_callC c_is_made_of (hr.mono (by decide)) (by rfl) pass0 (pa_cons (pv 0) (pa_cons (pe_glob (v := .str _) (by rfl) gCA ⟨_, rfl⟩) (pa_cons (pe_glob (v := .str _) (by rfl) gIN ⟨_, rfl⟩) pa_nil)))))), at_start (σ := [some v]) rfl ?_⟩
    try dsimp only [cx_K]
    walk_at "rd"
    exact ⟨v, t, CAPS, INNS, rfl, ht, sm, q⟩
theorem ok_number {f : Addr} {fd : FuncData} {k : Nat} (F : Fun K "is_number" "is_number" s_is_number f fd) (T : TxtN mg) : FnOk P w K mg base CX0 (k + 1) f fd ["value", "least", "most"] spIsNum := by
  refine F.ok sc_is_number (fun vs H Q E h => ?_) (fun cdv A outer s H vs Q E hr h => ?_)
  · obtain ⟨v, t, lo, hi, rfl, _⟩ := h
    rfl
  · obtain ⟨v, t, lo, hi, rfl, ht, q⟩ := h
    refine ⟨_, (pss_one (ps_ret (pe_and (pe_callB call_isi (by rfl) T.z_isinstance (by decide +kernel) (pa_cons (pv 0) (pa_cons (pe_bltn (v := .ty "int") (by rfl) T.z_int (by decide +kernel) rfl) pa_nil))) (pe_and (pe_not (pe_callB call_isi (by rfl) T.z_isinstance (by decide +kernel) (pa_cons (pv 0) (pa_cons (pe_bltn (v := .ty "bool") (by rfl) T.z_bool (by decide +kernel) rfl) pa_nil)))) (pe_one (pe_chain op_le op_le (pv 1) (pv 0) (pv 2))))))), at_start (σ := [some v, some (.int lo), some (.int hi)]) rfl ?_⟩
    try dsimp only [cx_K]
    walk_at "rd"
    refine r_isT ht (by decide) ?_
    rcases int_or t with ⟨i, rfl⟩ | ⟨no, nm⟩
    · obtain rfl := sc_at ht
      rw [show isaB (Tr.sc (Sc.int i)).ty "int" = true from rfl]
      walk_at "rd"
      refine r_isT ht (by decide) ?_
      rw [show isaB (Tr.sc (Sc.int i)).ty "bool" = false from rfl]
      walk_at "rd"
      refine KC.r_chain ?_
      dsimp only [Sc.v]
      walk_at "rd"
      refine r_ite2 (fun y1 => ?_) (fun y1 => ?_)
      · walk_at "rd"
        have e : isNum lo hi (.sc (.int i)) = decide (i ≤ hi) := by
          show decide (lo ≤ i ∧ i ≤ hi) = _
          by_cases h : i ≤ hi
          · rw [decide_eq_true h, decide_eq_true ⟨y1, h⟩]
          · rw [decide_eq_false h, decide_eq_false (fun y => h y.2)]
        rw [e] at q
        exact q
      · walk_at "rd"
        rw [show isNum lo hi (.sc (.int i)) = false from decide_eq_false (fun y => y1 y.1)] at q
        exact q
    · rw [nm] at q
      cases e : isaB t.ty "int" with
      | false =>
        walk_at "rd"
        exact q
      | true =>
        rw [e, Bool.true_and] at no
        walk_at "rd"
        refine r_isT ht (by decide) ?_
        rw [show isaB t.ty "bool" = true from by revert no; cases isaB t.ty "bool" <;> simp]
        walk_at "rd"
        exact q

end
end K20


namespace K20
open PySem L2 KB KO KY KV KTr
/-! ### fields -/
def oS : Option Str → V
  | none => .non
  | some z => .str z
structure FdV where
  nm : Str
  low : Int
  size : Int
  r : Str
  w : Str
  d : Str
  reset : Int
  lock : Option Str
  key : Option Str
  commit : Option Str
  held : Option Str
  deriving DecidableEq
def flF (k : Addr) (x : FdV) : List (Str × V) := [("kind", .ref k), ("name", .str x.nm), ("low", .int x.low), ("size", .int x.size), ("reading", .str x.r), ("writing", .str x.w), ("device", .str x.d), ("reset", .int x.reset), ("lock", oS x.lock), ("key", oS x.key), ("commit", oS x.commit), ("held", oS x.held)]
def isNo : Tr → Bool
  | .sc .non => true
  | _ => false
def optB (t : Tr) : Bool := isNo t || isNm t
def toS : Tr → Str
  | .sc (.str z) => z
  | _ => ""
def toI : Tr → Int
  | .sc (.int i) => i
  | _ => 0
def toO : Tr → Option Str
  | .sc (.str z) => some z
  | _ => none
def resetB (size : Int) (dev : Str) (t : Tr) : Bool := if dev = "raise" then isNum 0 0 t else isNum 0 (1 * 2 ^ size.toNat - 1) t
def heldB (x : FdV) : Bool := decide (x.held = none) || (decide (x.r = "keep") && decide (x.w = "none") && decide (x.d ∈ (["still", "drift"] : List Str)) && decide (x.lock = none) && decide (x.key = none) && decide (x.commit = none))
def commitB (x : FdV) : Bool := decide (x.commit = none) || (decide (x.r = "keep") && decide (x.w = "store") && decide (x.d = "still"))
inductive FR where
  | fld (reason : Str) | knd (i : Nat) | ok (x : FdV)
def placeB (t1 t2 : Tr) : Bool := isNum 0 31 t1 && isNum 1 16 t2 && decide (toI t1 + toI t2 ≤ 32)
def mkF (t0 t1 t2 t3 t4 t5 t6 t7 t8 t9 t10 : Tr) : FdV := ⟨toS t0, toI t1, toI t2, toS t3, toS t4, toS t5, toI t6, toO t7, toO t8, toO t9, toO t10⟩
/-- what becomes of the eleven arguments -/
def fres (t0 t1 t2 t3 t4 t5 t6 t7 t8 t9 t10 : Tr) : FR :=
  if isNm t0 = false then .fld "name" else if placeB t1 t2 = false then .fld "place" else
  if t3.isIn RD = false then .knd 0 else if t4.isIn WR = false then .knd 1 else if t5.isIn DV = false then .knd 2 else
  if resetB (toI t2) (toS t5) t6 = false then .fld "reset" else
  if optB t7 = false then .fld "lock" else if optB t8 = false then .fld "key" else if optB t9 = false then .fld "commit" else if optB t10 = false then .fld "held" else
  if heldB (mkF t0 t1 t2 t3 t4 t5 t6 t7 t8 t9 t10) = false then .fld "held" else if commitB (mkF t0 t1 t2 t3 t4 t5 t6 t7 t8 t9 t10) = false then .fld "commit" else .ok (mkF t0 t1 t2 t3 t4 t5 t6 t7 t8 t9 t10)
def FieldAt (CK CF : Addr) (H : Hp) (p : Addr) (x : FdV) : Prop := ∃ dx k, H p = some (.ins CF dx (flF k x)) ∧ KindAt CK H k x.r x.w x.d
theorem FieldAt.up {CK CF : Addr} {H H' : Hp} {p : Addr} {x : FdV} (h : FieldAt CK CF H p x) (s : Same H H') : FieldAt CK CF H' p x := by
  obtain ⟨dx, k, e, g⟩ := h
  exact ⟨dx, k, s _ _ e, g.up s⟩
structure TxtFd (K : PySem.W.Frag) (mg : Str → Option Value) (CK CF : Addr) : Prop extends TxtN mg where
  kind : TxtK K mg CK
  tyK : ∀ {H : Hp} {a dx : Addr} {fs : List (Str × V)}, H a = some (.ins CK dx fs) → TyX K H (.ref a) (.ref CK)
  nfK : PySem.W.notFirst K CK (.ref CK) = true
  isiK : PySem.W.kitOne K (.ref CK) (.ref CK) = some true
  tyF : ∀ {H : Hp} {a dx : Addr} {fs : List (Str × V)}, H a = some (.ins CF dx fs) → TyX K H (.ref a) (.ref CF)
  isiF : PySem.W.kitOne K (.ref CF) (.ref CF) = some true
  kitS : PySem.W.kitOne K (.type "str") (.ref CF) = some false
  clF : Cls K CF
  na : ∀ f ∈ (["kind", "name", "low", "size", "reading", "writing", "device", "reset", "lock", "key", "commit", "held"] : List Str), NoAttr K CF f
  mg_Field : mg "Field" = some (.ref CF)
  g_MOST_LOW : ∃ tk, mg "MOST_LOW" = some (.int 31 tk)
  g_MOST_SIZE : ∃ tk, mg "MOST_SIZE" = some (.int 16 tk)
  g_WIDEST : ∃ tk, mg "WIDEST" = some (.int 32 tk)
def spNeedF (eF : Addr) : Sp := fun vs H Q E => ∃ (b : Bool) (v : V) (rs : Str), vs = [.bl b, v, .str rs] ∧ (b = true → Q .non H) ∧ (b = false → ∀ d H', Same H H' → H' d = some (.xd [("reason", .str rs), ("name", v)]) → E (.ref eF) (some d) H')
def spFits : Sp := fun vs H Q _ => ∃ (v : V) (t : Tr) (size : Int) (dev : Str), vs = [v, .int size, .str dev] ∧ TrAt H v t ∧ 0 ≤ size ∧ size ≤ 100 ∧ Q (.bl (resetB size dev t)) H
def spHeld (CF : Addr) : Sp := fun vs H Q _ => ∃ (p dx k : Addr) (x : FdV), vs = [.ref p] ∧ H p = some (.ins CF dx (flF k x)) ∧ ∀ H', Same H H' → Q (.bl (heldB x)) H'
def spComm (CF : Addr) : Sp := fun vs H Q _ => ∃ (p dx k : Addr) (x : FdV), vs = [.ref p] ∧ H p = some (.ins CF dx (flF k x)) ∧ Q (.bl (commitB x)) H
/-- the values and what they are -/
def ArgsAt (H : Hp) (vs : List V) (ts : List Tr) : Prop := TrsAt H vs ts ∧ ∀ t ∈ ts, Sm t
def spField (CK CF eF eK : Addr) : Sp := fun vs H Q E => ∃ (p dx : Addr) (v0 v1 v2 v3 v4 v5 v6 v7 v8 v9 v10 : V) (t0 t1 t2 t3 t4 t5 t6 t7 t8 t9 t10 : Tr), vs = [.ref p, v0, v1, v2, v3, v4, v5, v6, v7, v8, v9, v10] ∧ H p = some (.ins CF dx []) ∧ ArgsAt H [v0, v1, v2, v3, v4, v5, v6, v7, v8, v9, v10] [t0, t1, t2, t3, t4, t5, t6, t7, t8, t9, t10] ∧
  (∀ rs, fres t0 t1 t2 t3 t4 t5 t6 t7 t8 t9 t10 = .fld rs → ∀ d H', Keep p H H' → H' d = some (.xd [("reason", .str rs), ("name", v0)]) → E (.ref eF) (some d) H') ∧
  (∀ i v, fres t0 t1 t2 t3 t4 t5 t6 t7 t8 t9 t10 = .knd i → ([v3, v4, v5] : List V)[i]? = some v → ∀ d H', Keep p H H' → H' d = some (.xd [("value", v)]) → E (.ref eK) (some d) H') ∧
  (∀ x, fres t0 t1 t2 t3 t4 t5 t6 t7 t8 t9 t10 = .ok x → ∀ H', FieldAt CK CF H' p x → Keep p H H' → Q .non H')
def spEqK2 (C : Addr) : Sp := fun vs H Q _ => ∃ (p p' : Addr) (r w d r' w' d' : Str), vs = [.ref p, .ref p'] ∧ KindAt C H p r w d ∧ KindAt C H p' r' w' d' ∧ Q (.bl (decide (r = r' ∧ w = w' ∧ d = d'))) H
def spEqF (CK CF : Addr) : Sp := fun vs H Q _ => (∃ (p p' : Addr) (x x' : FdV), vs = [.ref p, .ref p'] ∧ FieldAt CK CF H p x ∧ FieldAt CK CF H p' x' ∧ Q (.bl (decide (x = x'))) H) ∨ (∃ (p : Addr) (z : Str), vs = [.ref p, .str z] ∧ Q (.bl false) H)


section
variable {P : Program} {w : World} {K : PySem.W.Frag} {mg : Str → Option Value} {base : Heap}
theorem ok_needf {f eF : Addr} {fd : FuncData} (F : Fun K "need_field" "need_field" s_need_field f fd) (e_InvalidField : KX2.ErrMk2 P w K mg base eF "InvalidField" "name" "reason") : FnOk P w K mg base (L2.CX P w) 3 f fd ["test", "name", "reason"] (spNeedF eF) := by
  refine F.okX sc_need_field (fun vs H Q E h => ?_) (fun cdv A outer s H vs Q E hr h => ?_)
  · obtain ⟨b, v, rs, rfl, _⟩ := h
    rfl
  · obtain ⟨b, v, rs, rfl, q1, q2⟩ := h
    refine ⟨_, (pss_one (ps_if (pt_not (pt_val (pv 0))) (pss_one (ps_raise rfl KL.def_takes (KX2.pmkC2 e_InvalidField (hr.mono (by decide)) (by rfl) (pa_cons (pv 1) (pa_cons (pv 2) pa_nil)))))
 pss_nil)), at_start (σ := [some (.bl b), some v, some (.str rs)]) rfl ?_⟩
    try dsimp only [KC.cx_KX]
    walk_at "rd"
    refine r_iteBN (fun z => ?_) (fun z => ?_)
    · walk_at "rd"
      refine KX2.r_raise2 (KX2.mono_v _) KX2.mono_v ?_
      walk_at "rd"
      exact q2 z
    · walk_at "rd"
      exact q1 z
theorem ok_fits {f : Addr} {fd : FuncData} (F : Fun K "fits_reset" "fits_reset" s_fits_reset f fd) (T : Txt mg) (c_is_number : KB.Callee P w K mg base CX0 1 "is_number" ["value", "least", "most"] spIsNum) : FnOk P w K mg base CX0 2 f fd ["reset", "size", "device"] spFits := by
  refine F.ok sc_fits_reset (fun vs H Q E h => ?_) (fun cdv A outer s H vs Q E hr h => ?_)
  · obtain ⟨v, t, size, dev, rfl, _⟩ := h
    rfl
  · obtain ⟨v, t, size, dev, rfl, ht, s0, s1, q⟩ := h
    refine ⟨_, (pss_cons (ps_if (pt_cmpR op_eq (pv 2) pe_str (nomark _)) (pss_one (ps_ret (pe_callC c_is_number (hr.mono (by decide)) (by rfl) pass0 (pa_cons (pv 0) (pa_cons pe_int (pa_cons pe_int pa_nil))))))
 pss_nil)
 (pss_one (ps_ret (pe_callC c_is_number (hr.mono (by decide)) (by rfl) pass0 (pa_cons (pv 0) (pa_cons pe_int (pa_cons (pe_op op_sub (pe_op op_shl pe_int (pv 1)) pe_int) pa_nil))))))), at_start (σ := [some v, some (.int size), some (.str dev)]) rfl ?_⟩
    try dsimp only [cx_K]
    walk_at "rd"
    refine r_iteS2 (fun e => ?_) (fun e => ?_)
    · walk_at "rd"
      rw [resetB, if_pos e] at q
      exact ⟨v, t, 0, 0, rfl, ht, q⟩
    · walk_at "rd"
      rw [resetB, if_neg e] at q
      exact ⟨v, t, 0, _, rfl, ht, q⟩
theorem ok_eqK2 {f CK CF : Addr} {fd : FuncData} {k : Nat} (F : Fun K "__eq__" "Kind.__eq__" s_Kind___eq__ f fd) (T : TxtFd K mg CK CF) : FnOk P w K mg base CX0 (k + 1) f fd ["self", "other"] (spEqK2 CK) := by
  refine F.ok sc_Kind___eq__ (fun vs H Q E h => ?_) (fun cdv A outer s H vs Q E hr h => ?_)
  · obtain ⟨p, p', r, w, d, r', w', d', rfl, _⟩ := h
    rfl
  · obtain ⟨p, p', r, w, d, r', w', d', rfl, ⟨dx, st, h1, h2⟩, ⟨dx', st', h1', h2'⟩, q⟩ := h
    have TF := T
    replace T := T.kind
    refine ⟨_, (pss_one (ps_ret (pe_and (pe_callB call_isi (by rfl) T.z_isinstance (by decide +kernel) (pa_cons (pv 1) (pa_cons (pe_glob (v := .ref _) (by rfl) T.mg_Kind rfl) pa_nil))) (pe_and (pe_cmpR op_eq (pe_fld (pv 0) rfl) (pe_fld (pv 1) rfl) (nomark _)) (pe_and (pe_cmpR op_eq (pe_fld (pv 0) rfl) (pe_fld (pv 1) rfl) (nomark _)) (pe_one (pe_cmpR op_eq (pe_fld (pv 0) rfl) (pe_fld (pv 1) rfl) (nomark _)))))))), at_start (σ := [some (.ref p), some (.ref p')]) rfl ?_⟩
    dsimp only [cx_K]
    have cl := T.cl; have nr := T.n_reading; have nw := T.n_writing; have nd := T.n_device
    walk_at "rd"
    refine ⟨_, _, _, _, true, rfl, .own CK, TF.tyK h1', TF.isiK, ?_⟩
    walk_at "rd"
    walk_at "sp"
    · rename_i a b
      subst a b
      have e : decide (V.str d = V.str d') = decide (r = r ∧ w = w ∧ d = d') := by simp
      rw [e]
      exact q
    · rename_i a b
      rw [decide_eq_false (fun z => b z.2.1)] at q
      exact q
    · rename_i a
      rw [decide_eq_false (fun z => a z.1)] at q
      exact q
theorem ok_mheld {f CK CF : Addr} {fd : FuncData} {k : Nat} (F : Fun K "may_be_held" "Field.may_be_held" s_Field_may_be_held f fd) (T : TxtFd K mg CK CF) : FnOk P w K mg base CX0 (k + 1) f fd ["self"] (spHeld CF) := by
  refine F.ok sc_Field_may_be_held (fun vs H Q E h => ?_) (fun cdv A outer s H vs Q E hr h => ?_)
  · obtain ⟨p, dx, k, x, rfl, _⟩ := h
    rfl
  · obtain ⟨p, dx, k, x, rfl, hp, q⟩ := h
    refine ⟨_, (pss_cons (ps_if (pt_cmpR op_isN (pe_fld (pv 0) rfl) pe_non (nomark _)) (pss_one (ps_ret pe_bl))
 pss_nil)
 (pss_cons (ps_if (PW.pt (pw_or (pt_cmpR op_ne (pe_fld (pv 0) rfl) pe_str (nomark _)) (pw_or (pt_cmpR op_ne (pe_fld (pv 0) rfl) pe_str (nomark _)) (pw_or1 (pt_cmpR op_notIn_seq (pe_fld (pv 0) rfl) (pe_tup (pa_cons pe_str (pa_cons pe_str pa_nil))) (by rfl)))))) (pss_one (ps_ret pe_bl))
 pss_nil)
 (pss_one (ps_ret (pe_and (pe_cmpR op_isN (pe_fld (pv 0) rfl) pe_non (nomark _)) (pe_and (pe_cmpR op_isN (pe_fld (pv 0) rfl) pe_non (nomark _)) (pe_one (pe_cmpR op_isN (pe_fld (pv 0) rfl) pe_non (nomark _))))))))), at_start (σ := [some (.ref p)]) rfl ?_⟩
    dsimp only [cx_K]
    have cl := T.clF
    have nh := T.na "held" (by decide)
    have nr := T.na "reading" (by decide)
    have nw := T.na "writing" (by decide)
    have nd := T.na "device" (by decide)
    have nl := T.na "lock" (by decide)
    have nk := T.na "key" (by decide)
    have nc := T.na "commit" (by decide)
    walk_at "rd"
    refine r_ite2 (fun y => ?_) (fun y => ?_)
    · walk_at "rd"
      have e : x.held = none := by
        cases e : x.held with
        | none => rfl
        | some z => rw [e] at y; cases y
      rw [show heldB x = true by unfold heldB; rw [decide_eq_true e]; rfl] at q
      exact q _ (Same.refl _)
    have e : ¬ x.held = none := fun e => y (by rw [e]; rfl)
    have e2 : heldB x = (decide (x.r = "keep") && decide (x.w = "none") && decide (x.d ∈ (["still", "drift"] : List Str)) && decide (x.lock = none) && decide (x.key = none) && decide (x.commit = none)) := by
      unfold heldB
      rw [decide_eq_false e, Bool.false_or]
    rw [e2] at q
    have nz : ∀ o : Option Str, decide (oS o = V.non) = decide (o = none) := fun o => by cases o <;> rfl
    walk_at "rd"
    refine r_iteN2 (fun y1 => ?_) (fun y1 => ?_)
    · walk_at "rd"
      rw [show decide (x.r = "keep") = false from decide_eq_false fun z => y1 (by rw [z])] at q
      exact q _ (Same.refl _)
    rw [decide_eq_true (V.str.inj y1)] at q
    walk_at "rd"
    refine r_iteN2 (fun y2 => ?_) (fun y2 => ?_)
    · walk_at "rd"
      rw [show decide (x.w = "none") = false from decide_eq_false fun z => y2 (by rw [z])] at q
      exact q _ (Same.refl _)
    rw [decide_eq_true (V.str.inj y2)] at q
    clear y y1 y2
    walk_at "rd"
    refine ⟨by walk_at "sz", fun c1 n1 => ?_⟩
    refine KB.r_notInS (zs := ["still", "drift"]) (.inr (SqT.of upd_same)) ?_
    rw [Bool.true_and, Bool.true_and] at q
    have s1 : Same H (upd H c1 (.tup [.str "still", .str "drift"])) := same_new n1
    have hp1 := s1 _ _ hp
    generalize upd H c1 (.tup [.str "still", .str "drift"]) = H1 at s1 hp1 ⊢
    walk_at "rd"
    refine r_iteBN (fun y3 => ?_) (fun y3 => ?_)
    · walk_at "rd"
      rw [y3] at q
      exact q _ s1
    rw [y3, Bool.true_and] at q
    walk_at "rd"
    rw [nz]
    refine r_iteB (fun y4 => ?_) (fun y4 => ?_)
    rotate_left
    · rw [y4] at q
      exact q _ s1
    rw [y4, Bool.true_and] at q
    walk_at "rd"
    rw [nz]
    refine r_iteB (fun y5 => ?_) (fun y5 => ?_)
    rotate_left
    · rw [y5] at q
      exact q _ s1
    rw [y5, Bool.true_and] at q
    walk_at "rd"
    rw [nz]
    exact q _ s1
theorem ok_mcomm {f CK CF : Addr} {fd : FuncData} {k : Nat} (F : Fun K "may_be_committed" "Field.may_be_committed" s_Field_may_be_committed f fd) (T : TxtFd K mg CK CF) : FnOk P w K mg base CX0 (k + 1) f fd ["self"] (spComm CF) := by
  refine F.ok sc_Field_may_be_committed (fun vs H Q E h => ?_) (fun cdv A outer s H vs Q E hr h => ?_)
  · obtain ⟨p, dx, k, x, rfl, _⟩ := h
    rfl
  · obtain ⟨p, dx, k, x, rfl, hp, q⟩ := h
    refine ⟨_, (pss_cons (ps_if (pt_cmpR op_isN (pe_fld (pv 0) rfl) pe_non (nomark _)) (pss_one (ps_ret pe_bl))
 pss_nil)
 (pss_one (ps_ret (pe_and (pe_cmpR op_eq (pe_fld (pv 0) rfl) pe_str (nomark _)) (pe_and (pe_cmpR op_eq (pe_fld (pv 0) rfl) pe_str (nomark _)) (pe_one (pe_cmpR op_eq (pe_fld (pv 0) rfl) pe_str (nomark _)))))))), at_start (σ := [some (.ref p)]) rfl ?_⟩
    dsimp only [cx_K]
    have cl := T.clF
    have nr := T.na "reading" (by decide)
    have nw := T.na "writing" (by decide)
    have nd := T.na "device" (by decide)
    have nc := T.na "commit" (by decide)
    walk_at "rd"
    refine r_ite2 (fun y => ?_) (fun y => ?_)
    · walk_at "rd"
      have e : x.commit = none := by
        cases e : x.commit with
        | none => rfl
        | some z => rw [e] at y; cases y
      rw [show commitB x = true by unfold commitB; rw [decide_eq_true e]; rfl] at q
      exact q
    have e : ¬ x.commit = none := fun e => y (by rw [e]; rfl)
    have e2 : commitB x = (decide (x.r = "keep") && decide (x.w = "store") && decide (x.d = "still")) := by
      unfold commitB
      rw [decide_eq_false e, Bool.false_or]
    rw [e2] at q
    walk_at "rd"
    walk_at "sp"
    · rename_i a b
      rw [decide_eq_true a, decide_eq_true b] at q
      have e : decide (V.str x.d = V.str "still") = decide (x.d = "still") := by simp
      rw [e]
      exact q
    · rename_i a b
      rw [decide_eq_false b, Bool.and_false, Bool.false_and] at q
      exact q
    · rename_i a
      rw [decide_eq_false a, Bool.false_and, Bool.false_and] at q
      exact q
theorem non_at {H : Hp} {v : V} {t : Tr} (h : TrAt H v t) : decide (v = .non) = isNo t := by
  cases h with
  | sc s => cases s <;> rfl
  | tup => rfl
  | lst => rfl
  | dct => rfl
theorem opt_at {H : Hp} {v : V} {t : Tr} (h : TrAt H v t) (o : optB t = true) : v = oS (toO t) := by
  cases t with
  | sc s =>
    obtain rfl := sc_at h
    cases s with
    | non => rfl
    | str z => rfl
    | bl => cases o
    | int => cases o
  | tup => cases o
  | lst => cases o
  | dct => cases o
theorem str_at {H : Hp} {v : V} {t : Tr} (h : TrAt H v t) (o : isNm t = true) : v = .str (toS t) := by
  obtain ⟨z, rfl, _⟩ := isMade_of o
  exact sc_at h
theorem KindAt.kp {C p Cp dx : Addr} {H H' : Hp} {k : Addr} {r w d : Str} {fs : List (Str × V)} (h : KindAt C H k r w d) (kp : Keep p H H') (hp : H p = some (.ins Cp dx fs)) (hf : fs.length < 2) : KindAt C H' k r w d := by
  obtain ⟨dx', st, h1, h2⟩ := h
  refine ⟨dx', st, kp _ _ h1 fun z => ?_, kp _ _ h2 fun z => ?_⟩
  · rw [z, hp] at h1
    cases h1
    exact absurd hf (by simp [flds])
  · rw [z, hp] at h2
    cases h2
theorem ok_fieldX {f CK CF eF eN : Addr} {fd : FuncData} (F : Fun K "__init__" "Field.__init__" s_Field___init__ f fd) (T : TxtFd K mg CK CF)
    (c_need_field : KB.Callee P w K mg base (L2.CX P w) 3 "need_field" ["test", "name", "reason"] (spNeedF eF))
    (c_is_name : KB.Callee P w K mg base CX0 2 "is_name" ["value"] spIsName)
    (c_is_number : KB.Callee P w K mg base CX0 1 "is_number" ["value", "least", "most"] spIsNum)
    (c_fits_reset : KB.Callee P w K mg base CX0 2 "fits_reset" ["reset", "size", "device"] spFits)
    (c_Kind___init__ : KB.CalleeI P w K mg base (L2.CX P w) 3 CK "Kind" ["self", "reading", "writing", "device"] (spKX CK eN))
    (c_Field_may_be_held : KB.CalleeM P w K mg base CX0 1 CF "may_be_held" ["self"] (spHeld CF))
    (c_Field_may_be_committed : KB.CalleeM P w K mg base CX0 1 CF "may_be_committed" ["self"] (spComm CF)) :
    FnOk P w K mg base (L2.CX P w) 5 f fd ["self", "name", "low", "size", "reading", "writing", "device", "reset", "lock", "key", "commit", "held"] (spField CK CF eF eN) := by
  refine F.okX sc_Field___init__ (fun vs H Q E h => ?_) (fun cdv A outer s H vs Q E hr h => ?_)
  · obtain ⟨p, dx, v0, v1, v2, v3, v4, v5, v6, v7, v8, v9, v10, t0, t1, t2, t3, t4, t5, t6, t7, t8, t9, t10, rfl, _⟩ := h
    rfl
  · obtain ⟨p, dx, v0, v1, v2, v3, v4, v5, v6, v7, v8, v9, v10, t0, t1, t2, t3, t4, t5, t6, t7, t8, t9, t10, rfl, hp, ⟨hv, sm⟩, x1, x2, q⟩ := h
    obtain ⟨k1, gML⟩ := T.g_MOST_LOW
    obtain ⟨k2, gMS⟩ := T.g_MOST_SIZE
    obtain ⟨k3, gWI⟩ := T.g_WIDEST
    refine ⟨_, (pss_cons (ps_expr (pe_callC c_need_field (hr.mono (by decide)) (by rfl) (passes_call KL.def_takes fun _ _ _ _ h => h) (pa_cons (pe_callC c_is_name (hr.mono (by decide)) (by rfl) pass0 (pa_cons (pv 1) pa_nil)) (pa_cons (pv 1) (pa_cons pe_str pa_nil)))))
 (pss_cons (ps_set (i := 12) sc_Field___init__.nd rfl (by first | exact Or.inl rfl | exact Or.inr rfl) (pe_and (pe_callC c_is_number (hr.mono (by decide)) (by rfl) pass0 (pa_cons (pv 2) (pa_cons pe_int (pa_cons (pe_glob (v := .int _) (by rfl) gML ⟨_, rfl⟩) pa_nil)))) (pe_and (pe_callC c_is_number (hr.mono (by decide)) (by rfl) pass0 (pa_cons (pv 3) (pa_cons pe_int (pa_cons (pe_glob (v := .int _) (by rfl) gMS ⟨_, rfl⟩) pa_nil)))) (pe_one (pe_cmpR op_le (pe_op op_add (pv 2) (pv 3)) (pe_glob (v := .int _) (by rfl) gWI ⟨_, rfl⟩) (nomark _))))))
 (pss_cons (ps_expr (pe_callC c_need_field (hr.mono (by decide)) (by rfl) (passes_call KL.def_takes fun _ _ _ _ h => h) (pa_cons (pv 12) (pa_cons (pv 1) (pa_cons pe_str pa_nil)))))
 (pss_cons (ps_fld (pv 0) (pe_makeC c_Kind___init__ (hr.mono (by decide)) (by rfl) (passes_call KL.def_takes fun _ _ _ _ h => h) (pa_cons (pv 4) (pa_cons (pv 5) (pa_cons (pv 6) pa_nil)))) rfl)
 (pss_cons (ps_expr (pe_callC c_need_field (hr.mono (by decide)) (by rfl) (passes_call KL.def_takes fun _ _ _ _ h => h) (pa_cons (pe_callC c_fits_reset (hr.mono (by decide)) (by rfl) pass0 (pa_cons (pv 7) (pa_cons (pv 3) (pa_cons (pv 6) pa_nil)))) (pa_cons (pv 1) (pa_cons pe_str pa_nil)))))
 (pss_cons (ps_for (passes_of rfl) rfl (pi_tup (pe_tup (pa_cons (pe_tup (pa_cons pe_str (pa_cons (pv 8) pa_nil))) (pa_cons (pe_tup (pa_cons pe_str (pa_cons (pv 9) pa_nil))) (pa_cons (pe_tup (pa_cons pe_str (pa_cons (pv 10) pa_nil))) (pa_cons (pe_tup (pa_cons pe_str (pa_cons (pv 11) pa_nil))) pa_nil)))))) (pg_tup rfl (pgs_cons (pg_name (i := 13) sc_Field___init__.nd rfl (by first | exact Or.inl rfl | exact Or.inr rfl)) (pgs_cons (pg_name (i := 14) sc_Field___init__.nd rfl (by first | exact Or.inl rfl | exact Or.inr rfl)) pgs_nil)))
 (pss_one (ps_expr (pe_callC c_need_field (hr.mono (by decide)) (by rfl) (passes_call KL.def_takes fun _ _ _ _ h => h) (pa_cons (pe_or (pe_cmpR op_isN (pv 14) pe_non (nomark _)) (pe_one (pe_callC c_is_name (hr.mono (by decide)) (by rfl) pass0 (pa_cons (pv 14) pa_nil)))) (pa_cons (pv 1) (pa_cons (pv 13) pa_nil)))))))
 (pss_cons (ps_fld (pv 0) (pv 1) rfl)
 (pss_cons (ps_fld (pv 0) (pv 2) rfl)
 (pss_cons (ps_fld (pv 0) (pv 3) rfl)
 (pss_cons (ps_fld (pv 0) (pv 4) rfl)
 (pss_cons (ps_fld (pv 0) (pv 5) rfl)
 (pss_cons (ps_fld (pv 0) (pv 6) rfl)
 (pss_cons (ps_fld (pv 0) (pv 7) rfl)
 (pss_cons (ps_fld (pv 0) (pv 8) rfl)
 (pss_cons (ps_fld (pv 0) (pv 9) rfl)
 (pss_cons (ps_fld (pv 0) (pv 10) rfl)
 (pss_cons (ps_fld (pv 0) (pv 11) rfl)
 (pss_cons (ps_expr (pe_callC c_need_field (hr.mono (by decide)) (by rfl) (passes_call KL.def_takes fun _ _ _ _ h => h) (pa_cons (pe_methC0 c_Field_may_be_held (pv 0) (hr.mono (by decide)) pass0) (pa_cons (pv 1) (pa_cons pe_str pa_nil)))))
 (pss_one (ps_expr (pe_callC c_need_field (hr.mono (by decide)) (by rfl) (passes_call KL.def_takes fun _ _ _ _ h => h) (pa_cons (pe_methC0 c_Field_may_be_committed (pv 0) (hr.mono (by decide)) pass0) (pa_cons (pv 1) (pa_cons pe_str pa_nil)))))))))))))))))))))))), at_start (σ := [some (.ref p), some v0, some v1, some v2, some v3, some v4, some v5, some v6, some v7, some v8, some v9, some v10, none, none, none]) rfl ?_⟩
    have h0 := hv.at' 0 rfl rfl
    have h1 := hv.at' 1 rfl rfl
    have h2 := hv.at' 2 rfl rfl
    have h3 := hv.at' 3 rfl rfl
    have h4 := hv.at' 4 rfl rfl
    have h5 := hv.at' 5 rfl rfl
    have h6 := hv.at' 6 rfl rfl
    have h7 := hv.at' 7 rfl rfl
    have h8 := hv.at' 8 rfl rfl
    have h9 := hv.at' 9 rfl rfl
    have h10 := hv.at' 10 rfl rfl
    clear hv
    have eK : (cxOf (L2.CX P w) P w K mg base ["self", "name", "low", "size", "reading", "writing", "device", "reset", "lock", "key", "commit", "held", "fits", "reason", "other"] "Field.__init__" (defScope s_Field___init__) f cdv A outer s H E).K = K := rfl
    simp only [eK]
    walk_at "rd"
    refine ⟨v0, t0, rfl, h0, sm t0 (by simp), fun H1 s1 => ?_⟩
    walk_at "rd"
    refine ⟨_, _, _, rfl, fun z0 => ?_, fun z0 d H' s' hd => x1 "name" (by rw [fres, if_pos z0]) d H' (Keep.same (s1.trans s')) hd⟩
    have ev0 := str_at h0 z0
    have n0 : ¬ isNm t0 = false := by rw [z0]; simp
    walk_at "rd"
    refine ⟨v1, t1, 0, 31, rfl, TrAt.up s1 _ _ h1, ?_⟩
    walk_at "rd"
    have nop : placeB t1 t2 = false → fres t0 t1 t2 t3 t4 t5 t6 t7 t8 t9 t10 = .fld "place" := fun z => by rw [fres, if_neg n0, if_pos z]
    refine r_iteB (fun y1 => ?_) (fun y1 => ?_)
    rotate_left
    · walk_at "rd"
      refine ⟨_, _, _, rfl, fun z => (by cases z), fun _ d H' s' hd => x1 "place" (nop (by unfold placeB; rw [y1]; rfl)) d H' (Keep.same (s1.trans s')) hd⟩
    walk_at "rd"
    refine ⟨v2, t2, 1, 16, rfl, TrAt.up s1 _ _ h2, ?_⟩
    walk_at "rd"
    refine r_iteB (fun y2 => ?_) (fun y2 => ?_)
    rotate_left
    · walk_at "rd"
      refine ⟨_, _, _, rfl, fun z => (by cases z), fun _ d H' s' hd => x1 "place" (nop (by unfold placeB; rw [y2, Bool.and_false]; rfl)) d H' (Keep.same (s1.trans s')) hd⟩
    obtain ⟨i1, rfl, l1, u1⟩ := isNum_of y1
    obtain ⟨i2, rfl, l2, u2⟩ := isNum_of y2
    obtain rfl := sc_at h1
    obtain rfl := sc_at h2
    dsimp only [Sc.v]
    have ep : placeB (.sc (.int i1)) (.sc (.int i2)) = decide (i1 + i2 ≤ 32) := by
      show (_ && _ && decide (i1 + i2 ≤ 32)) = _
      rw [y1, y2]
      rfl
    walk_at "rd"
    refine ⟨_, _, _, rfl, fun z2 => ?_, fun z2 d H' s' hd => x1 "place" (nop (by rw [ep]; exact z2)) d H' (Keep.same (s1.trans s')) hd⟩
    have np : ¬ placeB (.sc (.int i1)) (.sc (.int i2)) = false := by rw [ep, z2]; simp
    walk_at "rd"
    refine fun kk dk nk nd ne => ?_
    have sk : Same H (upd (upd H1 dk (.own kk)) kk (.ins CK dk [])) := s1.trans ((same_new nd).trans (same_new (by rw [upd_ne ne.symm]; exact nk)))
    refine ⟨kk, dk, v3, v4, v5, t3, t4, t5, rfl, upd_same, TrAt.up sk _ _ h3, TrAt.up sk _ _ h4, TrAt.up sk _ _ h5, fun y H' d s' hd => ?_, fun y y' H' d s' hd => ?_, fun y y' y'' H' d s' hd => ?_, fun r w' d e3 e4 e5 m3 m4 m5 H2 kat kp => ?_⟩
    · exact x2 0 v3 (by rw [fres, if_neg n0, if_neg np, if_pos y]) rfl d H' (Keep.same (sk.trans s')) hd
    · exact x2 1 v4 (by rw [fres, if_neg n0, if_neg np, if_neg (by rw [y]; simp), if_pos y']) rfl d H' (Keep.same (sk.trans s')) hd
    · exact x2 2 v5 (by rw [fres, if_neg n0, if_neg np, if_neg (by rw [y]; simp), if_neg (by rw [y']; simp), if_pos y'']) rfl d H' (Keep.same (sk.trans s')) hd
    subst e3 e4 e5
    obtain rfl := sc_at h3
    obtain rfl := sc_at h4
    obtain rfl := sc_at h5
    have q3 : ¬ Tr.isIn RD (.sc (.str r)) = false := by show ¬ decide (r ∈ RD) = false; rw [decide_eq_true m3]; simp
    have q4 : ¬ Tr.isIn WR (.sc (.str w')) = false := by show ¬ decide (w' ∈ WR) = false; rw [decide_eq_true m4]; simp
    have q5 : ¬ Tr.isIn DV (.sc (.str d)) = false := by show ¬ decide (d ∈ DV) = false; rw [decide_eq_true m5]; simp
    have s2 : Same H H2 := by
      refine s1.trans (fun b o e => ?_)
      have nb : b ≠ kk := fun z => by rw [z, nk] at e; cases e
      exact kp b o (by rw [upd_ne nb]; exact same_new nd _ _ e) nb
    clear kp sk nk nd ne
    dsimp only [Sc.v]
    walk_at "rd"
    have hp2 := s2 _ _ hp
    have dp : Keep p H (upd H2 p (.ins CF dx (putF "kind" (.ref kk) []))) := fun b o e nb => by rw [upd_ne nb]; exact s2 _ _ e
    have kat3 : KindAt CK (upd H2 p (.ins CF dx (putF "kind" (.ref kk) []))) kk r w' d := kat.kp (fun b o e nb => by rw [upd_ne nb]; exact e) hp2 (show 0 < 2 by decide)
    have ki3 : Ki H (upd H2 p (.ins CF dx (putF "kind" (.ref kk) []))) := (Ki.same s2).tr (Ki.mut hp2)
    refine ⟨p, CF, dx, _, rfl, hp2, T.clF, T.na _ (by decide), (by decide), ?_⟩
    have hp3 : upd H2 p (.ins CF dx (putF "kind" (.ref kk) [])) p = some (.ins CF dx (putF "kind" (.ref kk) [])) := upd_same
    generalize upd H2 p (.ins CF dx (putF "kind" (.ref kk) [])) = H3 at dp kat3 ki3 hp3 ⊢
    walk_at "rd"
    refine ⟨v6, t6, i2, d, rfl, TrAt.ki ki3 _ _ h6, by omega, by omega, ?_⟩
    walk_at "rd"
    refine ⟨_, _, _, rfl, fun z6 => ?_, fun z6 d' H' s' hd => x1 "reset" (by rw [fres, if_neg n0, if_neg np, if_neg q3, if_neg q4, if_neg q5]; exact if_pos z6) d' H' (dp.tr (Keep.same s')) hd⟩
    have nr : ¬ resetB (toI (.sc (.int i2))) (toS (.sc (.str d))) t6 = false := by show ¬ resetB i2 d t6 = false; rw [z6]; simp
    walk_at "rd"
    refine ⟨by walk_at "sz", fun c1 n1 => ?_⟩
    walk_at "rd"
    refine ⟨by walk_at "sz", fun c2 n2 => ?_⟩
    walk_at "rd"
    refine ⟨by walk_at "sz", fun c3 n3 => ?_⟩
    walk_at "rd"
    refine ⟨by walk_at "sz", fun c4 n4 => ?_⟩
    walk_at "rd"
    refine ⟨by walk_at "sz", fun c5 n5 => ?_⟩
    have s8 := ((((same_new (o := .tup [.str "lock", v7]) n1).trans (same_new (o := .tup [.str "key", v8]) n2)).trans (same_new (o := .tup [.str "commit", v9]) n3)).trans (same_new (o := .tup [.str "held", v10]) n4)).trans (same_new (o := .tup [.ref c1, .ref c2, .ref c3, .ref c4]) n5)
    generalize hH8 : (upd (upd (upd (upd (upd H3 c1 (.tup [.str "lock", v7])) c2 (.tup [.str "key", v8])) c3 (.tup [.str "commit", v9])) c4 (.tup [.str "held", v10])) c5 (.tup [.ref c1, .ref c2, .ref c3, .ref c4])) = H8 at s8 ⊢
    have g1 : H8 c1 = some (.tup [.str "lock", v7]) := by rw [← hH8]; walk_at "hp"
    have g2 : H8 c2 = some (.tup [.str "key", v8]) := by rw [← hH8]; walk_at "hp"
    have g3 : H8 c3 = some (.tup [.str "commit", v9]) := by rw [← hH8]; walk_at "hp"
    have g4 : H8 c4 = some (.tup [.str "held", v10]) := by rw [← hH8]; walk_at "hp"
    have g5 : H8 c5 = some (.tup [.ref c1, .ref c2, .ref c3, .ref c4]) := by rw [← hH8]; walk_at "hp"
    clear hH8 n1 n2 n3 n4 n5
    have kiH : Ki H H8 := ki3.tr (Ki.same s8)
    have kp8 : Keep p H H8 := dp.tr (Keep.same s8)
    have nt : ∀ {t : Tr}, optB t = true → ¬ optB t = false := fun h => by rw [h]; simp
    refine ⟨c5, rfl, ⟨_, SqT.of g5⟩, forW (walk_tup (xs := [.ref c1, .ref c2, .ref c3, .ref c4])) (fun i σ H' => ∃ y13 y14, σ = [some (.ref p), some v0, some (.int i1), some (.int i2), some (.str r), some (.str w'), some (.str d), some v6, some v7, some v8, some v9, some v10, some (.bl (decide (i1 + i2 ≤ 32))), y13, y14] ∧ Same H8 H' ∧ (1 ≤ i → optB t7 = true) ∧ (2 ≤ i → optB t8 = true) ∧ (3 ≤ i → optB t9 = true) ∧ (4 ≤ i → optB t10 = true))
      ⟨none, none, rfl, Same.refl _, fun z => absurd z (by decide), fun z => absurd z (by decide), fun z => absurd z (by decide), fun z => absurd z (by decide)⟩ (fun i σ H' _ ⟨_, _, _, e, _⟩ => SqT.of (e _ _ g5)) ?_ ?_⟩
    · rintro i x σ' _ H' hi0 ⟨y13, y14, rfl, sH, i1, i2, i3, i4⟩ ⟨rfl, hi⟩
      match i, hi, i1, i2, i3, i4 with
      | 0, hi, i1, i2, i3, i4 =>
        obtain rfl : x = .ref c1 := (Option.some.inj hi).symm
        refine ⟨_, _, rfl, SqT.of (sH _ _ g1), rfl, _, _, rfl, _, _, rfl, rfl, ?_⟩
        walk_at "rd"
        rw [non_at h7]
        refine r_iteB (fun a => ?_) (fun a => ?_)
        · have o : optB t7 = true := by unfold optB; rw [a]; rfl
          walk_at "rd"
          refine ⟨_, _, _, rfl, fun _ => ?_, fun z => (by cases z)⟩
          walk_at "rd"
          exact ⟨_, _, rfl, sH, fun _ => o, fun y => absurd y (by decide), fun y => absurd y (by decide), fun y => absurd y (by decide)⟩
        · walk_at "rd"
          refine ⟨v7, t7, rfl, TrAt.ki (kiH.tr (Ki.same sH)) _ _ h7, sm t7 (by simp), fun H5 s5 => ?_⟩
          walk_at "rd"
          refine ⟨_, _, _, rfl, fun z => ?_, fun z d' H' s' hd => x1 "lock" (by rw [fres, if_neg n0, if_neg np, if_neg q3, if_neg q4, if_neg q5, if_neg nr]; exact if_pos (by unfold optB; rw [a, z]; rfl)) d' H' (kp8.tr (Keep.same ((sH.trans s5).trans s'))) hd⟩
          have o : optB t7 = true := by unfold optB; rw [z, Bool.or_true]
          walk_at "rd"
          exact ⟨_, _, rfl, sH.trans s5, fun _ => o, fun y => absurd y (by decide), fun y => absurd y (by decide), fun y => absurd y (by decide)⟩
      | 1, hi, i1, i2, i3, i4 =>
        obtain rfl : x = .ref c2 := (Option.some.inj hi).symm
        refine ⟨_, _, rfl, SqT.of (sH _ _ g2), rfl, _, _, rfl, _, _, rfl, rfl, ?_⟩
        walk_at "rd"
        rw [non_at h8]
        refine r_iteB (fun a => ?_) (fun a => ?_)
        · have o : optB t8 = true := by unfold optB; rw [a]; rfl
          walk_at "rd"
          refine ⟨_, _, _, rfl, fun _ => ?_, fun z => (by cases z)⟩
          walk_at "rd"
          exact ⟨_, _, rfl, sH, fun _ => i1 (by decide), fun _ => o, fun y => absurd y (by decide), fun y => absurd y (by decide)⟩
        · walk_at "rd"
          refine ⟨v8, t8, rfl, TrAt.ki (kiH.tr (Ki.same sH)) _ _ h8, sm t8 (by simp), fun H5 s5 => ?_⟩
          walk_at "rd"
          refine ⟨_, _, _, rfl, fun z => ?_, fun z d' H' s' hd => x1 "key" (by rw [fres, if_neg n0, if_neg np, if_neg q3, if_neg q4, if_neg q5, if_neg nr, if_neg (nt (i1 (by decide)))]; exact if_pos (by unfold optB; rw [a, z]; rfl)) d' H' (kp8.tr (Keep.same ((sH.trans s5).trans s'))) hd⟩
          have o : optB t8 = true := by unfold optB; rw [z, Bool.or_true]
          walk_at "rd"
          exact ⟨_, _, rfl, sH.trans s5, fun _ => i1 (by decide), fun _ => o, fun y => absurd y (by decide), fun y => absurd y (by decide)⟩
      | 2, hi, i1, i2, i3, i4 =>
        obtain rfl : x = .ref c3 := (Option.some.inj hi).symm
        refine ⟨_, _, rfl, SqT.of (sH _ _ g3), rfl, _, _, rfl, _, _, rfl, rfl, ?_⟩
        walk_at "rd"
        rw [non_at h9]
        refine r_iteB (fun a => ?_) (fun a => ?_)
        · have o : optB t9 = true := by unfold optB; rw [a]; rfl
          walk_at "rd"
          refine ⟨_, _, _, rfl, fun _ => ?_, fun z => (by cases z)⟩
          walk_at "rd"
          exact ⟨_, _, rfl, sH, fun _ => i1 (by decide), fun _ => i2 (by decide), fun _ => o, fun y => absurd y (by decide)⟩
        · walk_at "rd"
          refine ⟨v9, t9, rfl, TrAt.ki (kiH.tr (Ki.same sH)) _ _ h9, sm t9 (by simp), fun H5 s5 => ?_⟩
          walk_at "rd"
          refine ⟨_, _, _, rfl, fun z => ?_, fun z d' H' s' hd => x1 "commit" (by rw [fres, if_neg n0, if_neg np, if_neg q3, if_neg q4, if_neg q5, if_neg nr, if_neg (nt (i1 (by decide))), if_neg (nt (i2 (by decide)))]; exact if_pos (by unfold optB; rw [a, z]; rfl)) d' H' (kp8.tr (Keep.same ((sH.trans s5).trans s'))) hd⟩
          have o : optB t9 = true := by unfold optB; rw [z, Bool.or_true]
          walk_at "rd"
          exact ⟨_, _, rfl, sH.trans s5, fun _ => i1 (by decide), fun _ => i2 (by decide), fun _ => o, fun y => absurd y (by decide)⟩
      | 3, hi, i1, i2, i3, i4 =>
        obtain rfl : x = .ref c4 := (Option.some.inj hi).symm
        refine ⟨_, _, rfl, SqT.of (sH _ _ g4), rfl, _, _, rfl, _, _, rfl, rfl, ?_⟩
        walk_at "rd"
        rw [non_at h10]
        refine r_iteB (fun a => ?_) (fun a => ?_)
        · have o : optB t10 = true := by unfold optB; rw [a]; rfl
          walk_at "rd"
          refine ⟨_, _, _, rfl, fun _ => ?_, fun z => (by cases z)⟩
          walk_at "rd"
          exact ⟨_, _, rfl, sH, fun _ => i1 (by decide), fun _ => i2 (by decide), fun _ => i3 (by decide), fun _ => o⟩
        · walk_at "rd"
          refine ⟨v10, t10, rfl, TrAt.ki (kiH.tr (Ki.same sH)) _ _ h10, sm t10 (by simp), fun H5 s5 => ?_⟩
          walk_at "rd"
          refine ⟨_, _, _, rfl, fun z => ?_, fun z d' H' s' hd => x1 "held" (by rw [fres, if_neg n0, if_neg np, if_neg q3, if_neg q4, if_neg q5, if_neg nr, if_neg (nt (i1 (by decide))), if_neg (nt (i2 (by decide))), if_neg (nt (i3 (by decide)))]; exact if_pos (by unfold optB; rw [a, z]; rfl)) d' H' (kp8.tr (Keep.same ((sH.trans s5).trans s'))) hd⟩
          have o : optB t10 = true := by unfold optB; rw [z, Bool.or_true]
          walk_at "rd"
          exact ⟨_, _, rfl, sH.trans s5, fun _ => i1 (by decide), fun _ => i2 (by decide), fun _ => i3 (by decide), fun _ => o⟩
      | i + 4, hi, _, _, _, _ => exact absurd hi0 (by simp)
    · rintro σ' H9 ⟨y13, y14, rfl, sH, o7, o8, o9, o10⟩
      replace o7 := o7 (by simp)
      replace o8 := o8 (by simp)
      replace o9 := o9 (by simp)
      replace o10 := o10 (by simp)
      have hp9 := (s8.trans sH) _ _ hp3
      have kp9 : Keep p H H9 := kp8.tr (Keep.same sH)
      have kat9 := kat3.up (s8.trans sH)
      have e6 : ∃ i6, t6 = .sc (.int i6) := by
        unfold resetB at z6
        split at z6
        · obtain ⟨i6, e, _⟩ := isNum_of z6; exact ⟨i6, e⟩
        · obtain ⟨i6, e, _⟩ := isNum_of z6; exact ⟨i6, e⟩
      obtain ⟨i6, rfl⟩ := e6
      obtain rfl := sc_at h6
      obtain rfl := opt_at h7 o7
      obtain rfl := opt_at h8 o8
      obtain rfl := opt_at h9 o9
      obtain rfl := opt_at h10 o10
      subst ev0
      walk_at "rd"
      refine ⟨p, CF, dx, _, rfl, hp9, T.clF, T.na _ (by decide), (putF_lt0 (by decide)), ?_⟩
      walk_at "rd"
      refine ⟨p, CF, dx, _, rfl, upd_same, T.clF, T.na _ (by decide), (putF_lt0 (putF_lt (by decide))), ?_⟩
      walk_at "rd"
      refine ⟨p, CF, dx, _, rfl, upd_same, T.clF, T.na _ (by decide), (putF_lt0 (putF_lt (putF_lt (by decide)))), ?_⟩
      walk_at "rd"
      refine ⟨p, CF, dx, _, rfl, upd_same, T.clF, T.na _ (by decide), (putF_lt0 (putF_lt (putF_lt (putF_lt (by decide))))), ?_⟩
      walk_at "rd"
      refine ⟨p, CF, dx, _, rfl, upd_same, T.clF, T.na _ (by decide), (putF_lt0 (putF_lt (putF_lt (putF_lt (putF_lt (by decide)))))), ?_⟩
      walk_at "rd"
      refine ⟨p, CF, dx, _, rfl, upd_same, T.clF, T.na _ (by decide), (putF_lt0 (putF_lt (putF_lt (putF_lt (putF_lt (putF_lt (by decide))))))), ?_⟩
      walk_at "rd"
      refine ⟨p, CF, dx, _, rfl, upd_same, T.clF, T.na _ (by decide), (putF_lt0 (putF_lt (putF_lt (putF_lt (putF_lt (putF_lt (putF_lt (by decide)))))))), ?_⟩
      walk_at "rd"
      refine ⟨p, CF, dx, _, rfl, upd_same, T.clF, T.na _ (by decide), (putF_lt0 (putF_lt (putF_lt (putF_lt (putF_lt (putF_lt (putF_lt (putF_lt (by decide))))))))), ?_⟩
      walk_at "rd"
      refine ⟨p, CF, dx, _, rfl, upd_same, T.clF, T.na _ (by decide), (putF_lt0 (putF_lt (putF_lt (putF_lt (putF_lt (putF_lt (putF_lt (putF_lt (putF_lt (by decide)))))))))), ?_⟩
      walk_at "rd"
      refine ⟨p, CF, dx, _, rfl, upd_same, T.clF, T.na _ (by decide), (putF_lt0 (putF_lt (putF_lt (putF_lt (putF_lt (putF_lt (putF_lt (putF_lt (putF_lt (putF_lt (by decide))))))))))), ?_⟩
      walk_at "rd"
      refine ⟨p, CF, dx, _, rfl, upd_same, T.clF, T.na _ (by decide), (putF_lt0 (putF_lt (putF_lt (putF_lt (putF_lt (putF_lt (putF_lt (putF_lt (putF_lt (putF_lt (putF_lt (by decide)))))))))))), ?_⟩
      have fin : ∀ Hf : Hp, Hf p = some (.ins CF dx (flF kk (mkF t0 (.sc (.int i1)) (.sc (.int i2)) (.sc (.str r)) (.sc (.str w')) (.sc (.str d)) (.sc (.int i6)) t7 t8 t9 t10))) → True := fun _ _ => trivial
      walk_at "rd"
      refine ⟨p, dx, _, rfl, upd_same, rfl, p, dx, kk, mkF t0 (.sc (.int i1)) (.sc (.int i2)) (.sc (.str r)) (.sc (.str w')) (.sc (.str d)) (.sc (.int i6)) t7 t8 t9 t10, rfl, upd_same, fun H10 s10 => ?_⟩
      have hp10 : H10 p = some (.ins CF dx (flF kk (mkF t0 (.sc (.int i1)) (.sc (.int i2)) (.sc (.str r)) (.sc (.str w')) (.sc (.str d)) (.sc (.int i6)) t7 t8 t9 t10))) := s10 _ _ upd_same
      have kq : Keep p H9 H10 := fun b o e hb => s10 _ _ (by rw [upd_ne hb, upd_ne hb, upd_ne hb, upd_ne hb, upd_ne hb, upd_ne hb, upd_ne hb, upd_ne hb, upd_ne hb, upd_ne hb, upd_ne hb]; exact e)
      clear s10 fin
      walk_at "rd"
      refine ⟨_, _, _, rfl, fun zh => ?_, fun zh d' H' s' hd => x1 "held" (by rw [fres, if_neg n0, if_neg np, if_neg q3, if_neg q4, if_neg q5, if_neg nr, if_neg (nt o7), if_neg (nt o8), if_neg (nt o9), if_neg (nt o10), if_pos zh]) d' H' ((kp9.tr kq).tr (Keep.same s')) hd⟩
      have nh : ¬ heldB (mkF t0 (.sc (.int i1)) (.sc (.int i2)) (.sc (.str r)) (.sc (.str w')) (.sc (.str d)) (.sc (.int i6)) t7 t8 t9 t10) = false := by rw [zh]; simp
      walk_at "rd"
      refine ⟨p, dx, _, rfl, hp10, rfl, p, dx, kk, _, rfl, hp10, ?_⟩
      walk_at "rd"
      refine ⟨_, _, _, rfl, fun zc => ?_, fun zc d' H' s' hd => x1 "commit" (by rw [fres, if_neg n0, if_neg np, if_neg q3, if_neg q4, if_neg q5, if_neg nr, if_neg (nt o7), if_neg (nt o8), if_neg (nt o9), if_neg (nt o10), if_neg nh, if_pos zc]) d' H' ((kp9.tr kq).tr (Keep.same s')) hd⟩
      walk_at "rd"
      refine q _ (by rw [fres, if_neg n0, if_neg np, if_neg q3, if_neg q4, if_neg q5, if_neg nr, if_neg (nt o7), if_neg (nt o8), if_neg (nt o9), if_neg (nt o10), if_neg nh, if_neg (by rw [zc]; simp)]) _ ⟨dx, kk, hp10, kat9.kp kq hp9 (show 1 < 2 by decide)⟩ (kp9.tr kq)
theorem scal_oS (a b : Option Str) : scal (oS a) (oS b) = true := by cases a <;> cases b <;> rfl
theorem oS_inj {a b : Option Str} (h : oS a = oS b) : a = b := by
  cases a <;> cases b
  · rfl
  · cases h
  · cases h
  · rw [V.str.inj h]
theorem ok_eqF {f CK CF : Addr} {fd : FuncData} (F : Fun K "__eq__" "Field.__eq__" s_Field___eq__ f fd) (T : TxtFd K mg CK CF) (eq_Kind : OwnM P w K mg base 1 CK "__eq__" ["self", "other"] (spEqK2 CK)) : FnOk P w K mg base CX0 2 f fd ["self", "other"] (spEqF CK CF) := by
  refine F.ok sc_Field___eq__ (fun vs H Q E h => ?_) (fun cdv A outer s H vs Q E hr h => ?_)
  · rcases h with ⟨p, p', x, x', rfl, _⟩ | ⟨p, z, rfl, _⟩ <;> rfl
  · rcases h with ⟨p, p', x, x', rfl, ⟨dx, kk, h1, h2⟩, ⟨dx', kk', h1', h2'⟩, q⟩ | ⟨p, z, rfl, q⟩
    · refine ⟨_, (pss_one (ps_ret (pe_and (pe_callB call_isi (by rfl) T.z_isinstance (by decide +kernel) (pa_cons (pv 1) (pa_cons (pe_glob (v := .ref _) (by rfl) T.mg_Field rfl) pa_nil))) (pe_and (pe_cmpR op_eq (pe_fld (pv 0) rfl) (pe_fld (pv 1) rfl) (nomark _)) (pe_and (pe_cmpR op_eq (pe_fld (pv 0) rfl) (pe_fld (pv 1) rfl) (nomark _)) (pe_and (pe_cmpR op_eq (pe_fld (pv 0) rfl) (pe_fld (pv 1) rfl) (nomark _)) (pe_and (pe_cmpR (KO.op_eqO eq_Kind (hr.mono (by decide))) (pe_fld (pv 0) rfl) (pe_fld (pv 1) rfl) (nomark _)) (pe_and (pe_cmpR op_eq (pe_fld (pv 0) rfl) (pe_fld (pv 1) rfl) (nomark _)) (pe_and (pe_cmpR op_eq (pe_fld (pv 0) rfl) (pe_fld (pv 1) rfl) (nomark _)) (pe_and (pe_cmpR op_eq (pe_fld (pv 0) rfl) (pe_fld (pv 1) rfl) (nomark _)) (pe_and (pe_cmpR op_eq (pe_fld (pv 0) rfl) (pe_fld (pv 1) rfl) (nomark _)) (pe_one (pe_cmpR op_eq (pe_fld (pv 0) rfl) (pe_fld (pv 1) rfl) (nomark _)))))))))))))), at_start (σ := [some (.ref p), some (.ref p')]) rfl ?_⟩
      dsimp only [cx_K]
      have cl := T.clF
      have n_name := T.na "name" (by decide)
      have n_low := T.na "low" (by decide)
      have n_size := T.na "size" (by decide)
      have n_kind := T.na "kind" (by decide)
      have n_reset := T.na "reset" (by decide)
      have n_lock := T.na "lock" (by decide)
      have n_key := T.na "key" (by decide)
      have n_commit := T.na "commit" (by decide)
      have n_held := T.na "held" (by decide)
      walk_at "rd"
      refine ⟨_, _, _, _, true, rfl, .own CF, T.tyF h1', T.isiF, ?_⟩
      walk_at "rd"
      refine r_iteS2 (fun e1 => ?_) (fun e1 => ?_)
      rotate_left
      · walk_at "rd"
        rw [decide_eq_false (fun z => e1 (by rw [z]))] at q
        exact q
      walk_at "rd"
      refine r_iteI2 (fun e2 => ?_) (fun e2 => ?_)
      rotate_left
      · walk_at "rd"
        rw [decide_eq_false (fun z => e2 (by rw [z]))] at q
        exact q
      walk_at "rd"
      refine r_iteI2 (fun e3 => ?_) (fun e3 => ?_)
      rotate_left
      · walk_at "rd"
        rw [decide_eq_false (fun z => e3 (by rw [z]))] at q
        exact q
      walk_at "rd"
      obtain ⟨dk, st, gk⟩ := id h2
      obtain ⟨dk', st', gk'⟩ := id h2'
      refine ⟨kk, dk, _, kk', CK, dk', _, rfl, rfl, gk.1, gk'.1, T.nfK, kk, kk', _, _, _, _, _, _, rfl, h2, h2', ?_⟩
      walk_at "rd"
      refine r_iteB (fun e4 => ?_) (fun e4 => ?_)
      rotate_left
      · walk_at "rd"
        rw [decide_eq_false (fun z => (of_decide_eq_false e4) (by rw [z]; exact ⟨rfl, rfl, rfl⟩))] at q
        exact q
      walk_at "rd"
      refine r_iteI2 (fun e5 => ?_) (fun e5 => ?_)
      rotate_left
      · walk_at "rd"
        rw [decide_eq_false (fun z => e5 (by rw [z]))] at q
        exact q
      walk_at "rd"
      refine ⟨scal_oS _ _, ?_⟩
      walk_at "rd"
      refine r_ite2 (fun e6 => ?_) (fun e6 => ?_)
      rotate_left
      · walk_at "rd"
        rw [decide_eq_false (fun z => e6 (by rw [z]))] at q
        exact q
      walk_at "rd"
      refine ⟨scal_oS _ _, ?_⟩
      walk_at "rd"
      refine r_ite2 (fun e7 => ?_) (fun e7 => ?_)
      rotate_left
      · walk_at "rd"
        rw [decide_eq_false (fun z => e7 (by rw [z]))] at q
        exact q
      walk_at "rd"
      refine ⟨scal_oS _ _, ?_⟩
      walk_at "rd"
      refine r_ite2 (fun e8 => ?_) (fun e8 => ?_)
      rotate_left
      · walk_at "rd"
        rw [decide_eq_false (fun z => e8 (by rw [z]))] at q
        exact q
      walk_at "rd"
      refine ⟨scal_oS _ _, ?_⟩
      have ee : decide (oS x.held = oS x'.held) = decide (x = x') := by
        by_cases z : x = x'
        · rw [z, decide_eq_true rfl, decide_eq_true rfl]
        · rw [decide_eq_false z, decide_eq_false (fun y => z ?_)]
          obtain ⟨a1, a2, a3⟩ := of_decide_eq_true e4
          have b1 := oS_inj e6
          have b2 := oS_inj e7
          have b3 := oS_inj e8
          have b4 := oS_inj y
          cases x
          cases x'
          simp only at e1 e2 e3 a1 a2 a3 e5 b1 b2 b3 b4 ⊢
          subst e1 e2 e3 a1 a2 a3 e5 b1 b2 b3 b4
          rfl
      rw [ee]
      exact q
    · refine ⟨_, (pss_one (ps_ret (pe_and (pe_callB call_isi (by rfl) T.z_isinstance (by decide +kernel) (pa_cons (pv 1) (pa_cons (pe_glob (v := .ref _) (by rfl) T.mg_Field rfl) pa_nil))) (pe_and (pe_cmpR op_eq (pe_fld (pv 0) rfl) (pe_fld (pv 1) rfl) (nomark _)) (pe_and (pe_cmpR op_eq (pe_fld (pv 0) rfl) (pe_fld (pv 1) rfl) (nomark _)) (pe_and (pe_cmpR op_eq (pe_fld (pv 0) rfl) (pe_fld (pv 1) rfl) (nomark _)) (pe_and (pe_cmpR (KO.op_eqO eq_Kind (hr.mono (by decide))) (pe_fld (pv 0) rfl) (pe_fld (pv 1) rfl) (nomark _)) (pe_and (pe_cmpR op_eq (pe_fld (pv 0) rfl) (pe_fld (pv 1) rfl) (nomark _)) (pe_and (pe_cmpR op_eq (pe_fld (pv 0) rfl) (pe_fld (pv 1) rfl) (nomark _)) (pe_and (pe_cmpR op_eq (pe_fld (pv 0) rfl) (pe_fld (pv 1) rfl) (nomark _)) (pe_and (pe_cmpR op_eq (pe_fld (pv 0) rfl) (pe_fld (pv 1) rfl) (nomark _)) (pe_one (pe_cmpR op_eq (pe_fld (pv 0) rfl) (pe_fld (pv 1) rfl) (nomark _)))))))))))))), at_start (σ := [some (.ref p), some (.str z)]) rfl ?_⟩
      dsimp only [cx_K]
      walk_at "rd"
      refine ⟨_, _, _, _, false, rfl, .own CF, .base (.str z), T.kitS, ?_⟩
      walk_at "rd"
      exact q

end
end K20


namespace K20
open PySem L2 KB KO KY KV KTr
/-! ### _law_same: equal trees of bounded depth -/
inductive Bd : Nat → Tr → Prop
  | sc {n : Nat} (s : Sc) (h : ∀ x, s = .str x → x.length ≤ 1000) : Bd n (.sc s)
  | tup {n : Nat} {l : List Tr} (k : l.length ≤ 1000) (h : ∀ t ∈ l, Bd n t) : Bd (n + 1) (.tup l)
  | lst {n : Nat} {l : List Tr} (k : l.length ≤ 1000) (h : ∀ t ∈ l, Bd n t) : Bd (n + 1) (.lst l)
  | dct {n : Nat} (l : List (Key × Sc)) (nd : (l.map (·.1)).Nodup) : Bd n (.dct l)
theorem Bd.up {n : Nat} {t : Tr} (h : Bd n t) : Bd (n + 1) t := by
  induction h with
  | sc s h => exact .sc s h
  | tup k _ ih => exact .tup k ih
  | lst k _ ih => exact .lst k ih
  | dct l nd => exact .dct l nd
def spSame (n : Nat) : Sp := fun vs H Q _ => ∃ (x y : V) (t : Tr), vs = [x, y] ∧ TrAt H x t ∧ TrAt H y t ∧ Bd n t ∧ ∀ H', Same H H' → Q (.bl true) H'
def spNo : Sp := fun _ _ _ _ => False
def spSameN : Nat → Sp
  | 0 => spNo
  | n + 1 => spSame n
theorem kit2 {K : PySem.W.Frag} {A B C : String} (hA : A ∈ BT) (hB : B ∈ BT) (hC : C ∈ BT) : PySem.W.kitAny K (.type A) [.type B, .type C] = some (isaB A B || isaB A C) := by
  have h1 : PySem.W.kitOne K (.type A) (.type B) = some (isaB A B) := kit_ty (kit_BT A hA B hB)
  have h2 : PySem.W.kitOne K (.type A) (.type C) = some (isaB A C) := kit_ty (kit_BT A hA C hC)
  unfold PySem.W.kitAny
  rw [h1]
  cases isaB A B
  · dsimp only
    unfold PySem.W.kitAny
    rw [h2]
    cases isaB A C <;> rfl
  · rfl
theorem r_isT2 {K : PySem.W.Frag} {H : Hp} {Q : VK} {v : V} {t : Tr} {tp : Addr} {B C : String} (h : TrAt H v t) (e : H tp = some (.tup [.ty B, .ty C])) (hB : B ∈ BT) (hC : C ∈ BT) (q : Q (.bl (isaB t.ty B || isaB t.ty C)) H) : rIsiT K [v, .ref tp] H Q :=
  ⟨v, tp, [.ty B, .ty C], .type t.ty, [.type B, .type C], _, rfl, e, .cons (.ty _) (.cons (.ty _) .nil), h.tyX, kit2 t.ty_in hB hC, q⟩


section
variable {P : Program} {w : World} {K : PySem.W.Frag} {mg : Str → Option Value} {base : Heap}
theorem fn_no {f : Addr} {fd : FuncData} {ps : List Str} {k : Nat} : FnOk P w K mg base CX0 k f fd ps spNo := ⟨fun _ _ _ _ z => z.elim, fun _ _ _ _ _ _ _ _ _ _ _ _ _ z => z.elim⟩
theorem ok_same1 {f : Addr} {fd : FuncData} {n : Nat} (F : Fun K "_law_same" "_law_same" s__law_same f fd) (T : Txt mg) (c__law_same : KB.Callee P w K mg base CX0 n "_law_same" ["_law_told", "_law_due_here"] (spSameN n)) : FnOk P w K mg base CX0 (n + 1) f fd ["_law_told", "_law_due_here"] (spSame n) := by
  refine F.ok sc__law_same (fun vs H Q E h => ?_) (fun cdv A outer s H vs Q E hr h => ?_)
  · obtain ⟨x, y, t, rfl, _⟩ := h
    rfl
  · obtain ⟨x, y, t, rfl, h1, h2, bd, q⟩ := h
    refine ⟨_, (pss_cons (ps_if (pt_val (pe_callB call_isiT (by rfl) T.z_isinstance (by decide +kernel) (pa_cons (pv 1) (pa_cons (pe_tup (pa_cons (pe_bltn (v := .ty "tuple") (by rfl) T.z_tuple (by decide +kernel) rfl) (pa_cons (pe_bltn (v := .ty "list") (by rfl) T.z_list (by decide +kernel) rfl) pa_nil))) pa_nil)))) (pss_cons (ps_if (PW.pt (pw_or (pt_cmpR op_ne (pe_callB call_isi (by rfl) T.z_isinstance (by decide +kernel) (pa_cons (pv 1) (pa_cons (pe_bltn (v := .ty "tuple") (by rfl) T.z_tuple (by decide +kernel) rfl) pa_nil))) (pe_callB call_isi (by rfl) T.z_isinstance (by decide +kernel) (pa_cons (pv 0) (pa_cons (pe_bltn (v := .ty "tuple") (by rfl) T.z_tuple (by decide +kernel) rfl) pa_nil))) (nomark _)) (pw_or1 (pt_cmpR op_ne (pe_callB call_isi (by rfl) T.z_isinstance (by decide +kernel) (pa_cons (pv 1) (pa_cons (pe_bltn (v := .ty "list") (by rfl) T.z_list (by decide +kernel) rfl) pa_nil))) (pe_callB call_isi (by rfl) T.z_isinstance (by decide +kernel) (pa_cons (pv 0) (pa_cons (pe_bltn (v := .ty "list") (by rfl) T.z_list (by decide +kernel) rfl) pa_nil))) (nomark _))))) (pss_one (ps_ret pe_bl))
 pss_nil)
 (pss_cons (ps_if (pt_cmpR op_ne (pe_callB call_len_seq (by rfl) T.z_len (by decide +kernel) (pa_cons (pv 0) pa_nil)) (pe_callB call_len_seq (by rfl) T.z_len (by decide +kernel) (pa_cons (pv 1) pa_nil)) (nomark _)) (pss_one (ps_ret pe_bl))
 pss_nil)
 (pss_one (ps_ret (pe_callB (cr_all rfl) (by rfl) T.z_all (by decide +kernel) (pa_cons (pe_lc (own := [("_law_one", 2), ("_law_other", 3)]) (g := gTup K 2 (gCons (gName 2) (gCons (gName 3) gNil))) (tt := tYes) (by rfl) sc__law_same.nd (RZ.pi_zipA (by rfl) T.z_zip (pa_cons (pv 0) (pa_cons (pv 1) pa_nil))) (blkOk_by (own := [("_law_one", 2), ("_law_other", 3)]) (N := ["_law_told", "_law_due_here", "_law_one", "_law_other"]) (sc := defScope s__law_same) (by decide +kernel)) (fun _ _ _ _ _ => (pg_tup rfl (pgs_cons (pg_name (i := 2) sc__law_same.nd rfl (by first | exact Or.inl rfl | exact Or.inr rfl)) (pgs_cons (pg_name (i := 3) sc__law_same.nd rfl (by first | exact Or.inl rfl | exact Or.inr rfl)) pgs_nil)))) (fun _ _ _ _ _ => pts_nil) (fun _ _ _ _ _ => (pe_callC c__law_same (hr.mono (Nat.le_refl _)) (by rfl) pass0 (pa_cons (pv 2) (pa_cons (pv 3) pa_nil))))) pa_nil))))))
 pss_nil)
 (pss_cons (ps_if (pt_cmpR op_isN (pv 1) pe_non (nomark _)) (pss_one (ps_ret (pe_cmpR op_isN (pv 0) pe_non (nomark _))))
 pss_nil)
 (pss_cons (ps_if (pt_val (pe_callB call_isi (by rfl) T.z_isinstance (by decide +kernel) (pa_cons (pv 1) (pa_cons (pe_bltn (v := .ty "bool") (by rfl) T.z_bool (by decide +kernel) rfl) pa_nil)))) (pss_one (ps_ret (pe_and (pe_callB call_isi (by rfl) T.z_isinstance (by decide +kernel) (pa_cons (pv 0) (pa_cons (pe_bltn (v := .ty "bool") (by rfl) T.z_bool (by decide +kernel) rfl) pa_nil))) (pe_one (pe_cmpR (KTr.op_eqT hr) (pv 0) (pv 1) (nomark _))))))
 pss_nil)
 (pss_cons (ps_if (pt_val (pe_callB call_isi (by rfl) T.z_isinstance (by decide +kernel) (pa_cons (pv 1) (pa_cons (pe_bltn (v := .ty "int") (by rfl) T.z_int (by decide +kernel) rfl) pa_nil)))) (pss_one (ps_ret (pe_and (pe_callB call_isi (by rfl) T.z_isinstance (by decide +kernel) (pa_cons (pv 0) (pa_cons (pe_bltn (v := .ty "int") (by rfl) T.z_int (by decide +kernel) rfl) pa_nil))) (pe_and (pe_not (pe_callB call_isi (by rfl) T.z_isinstance (by decide +kernel) (pa_cons (pv 0) (pa_cons (pe_bltn (v := .ty "bool") (by rfl) T.z_bool (by decide +kernel) rfl) pa_nil)))) (pe_one (pe_cmpR (KTr.op_eqT hr) (pv 0) (pv 1) (nomark _)))))))
 pss_nil)
 (pss_cons (ps_if (pt_val (pe_callB call_isi (by rfl) T.z_isinstance (by decide +kernel) (pa_cons (pv 1) (pa_cons (pe_bltn (v := .ty "dict") (by rfl) T.z_dict (by decide +kernel) rfl) pa_nil)))) (pss_one (ps_ret (pe_and (pe_callB call_isi (by rfl) T.z_isinstance (by decide +kernel) (pa_cons (pv 0) (pa_cons (pe_bltn (v := .ty "dict") (by rfl) T.z_dict (by decide +kernel) rfl) pa_nil))) (pe_one (pe_cmpR (KTr.op_eqT hr) (pv 0) (pv 1) (nomark _))))))
 pss_nil)
 (pss_one (ps_ret (pe_and (pe_callB call_isi (by rfl) T.z_isinstance (by decide +kernel) (pa_cons (pv 0) (pa_cons (pe_bltn (v := .ty "str") (by rfl) T.z_str (by decide +kernel) rfl) pa_nil))) (pe_one (pe_cmpR (KTr.op_eqT hr) (pv 0) (pv 1) (nomark _))))))))))), at_start (σ := [some x, some y, none, none]) rfl ?_⟩
    try dsimp only [cx_K]
    walk_at "rd"
    refine ⟨by walk_at "sz", fun tp ntp => ?_⟩
    have s1 := same_new (o := .tup [.ty "tuple", .ty "list"]) ntp
    have h1' := TrAt.up s1 _ _ h1
    have h2' := TrAt.up s1 _ _ h2
    walk_at "rd"
    refine r_isT2 h2' upd_same (by decide) (by decide) ?_
    generalize upd H tp (.tup [.ty "tuple", .ty "list"]) = H1 at s1 h1' h2' ⊢
    have is : ∀ {v : V} {T : String}, TrAt H1 v t → T ∈ BT → ∀ {Q : VK}, Q (.bl (isaB t.ty T)) H1 → rIsi K [v, .ty T] H1 Q := fun h hT _ q => r_isT h hT q
    cases bd with
    | sc sv sz =>
      obtain rfl := sc_at h1
      obtain rfl := sc_at h2
      cases sv with
      | non =>
        rw [show (isaB (Tr.sc Sc.non).ty "tuple" || isaB (Tr.sc Sc.non).ty "list") = false from rfl]
        dsimp only [Sc.v]
        walk_at "rd"
        refine r_ite2 (fun _ => ?_) (fun z => absurd rfl z)
        walk_at "rd"
        rw [decide_eq_true (rfl : V.non = V.non)]
        exact q _ s1
      | bl b =>
        rw [show (isaB (Tr.sc (Sc.bl b)).ty "tuple" || isaB (Tr.sc (Sc.bl b)).ty "list") = false from rfl]
        dsimp only [Sc.v]
        walk_at "rd"
        refine r_ite2 (fun z => nomatch z) (fun _ => ?_)
        walk_at "rd"
        refine r_isT h2' (by decide) ?_
        rw [show isaB (Tr.sc (Sc.bl b)).ty "bool" = true from rfl]
        walk_at "rd"
        refine r_isT h2' (by decide) ?_
        rw [show isaB (Tr.sc (Sc.bl b)).ty "bool" = true from rfl]
        walk_at "rd"
        exact ⟨_, h1', h2', .sc _ (fun _ z => by cases z), .inl ⟨_, rfl⟩, q _ s1⟩
      | int i =>
        rw [show (isaB (Tr.sc (Sc.int i)).ty "tuple" || isaB (Tr.sc (Sc.int i)).ty "list") = false from rfl]
        dsimp only [Sc.v]
        walk_at "rd"
        refine r_ite2 (fun z => nomatch z) (fun _ => ?_)
        walk_at "rd"
        refine r_isT h2' (by decide) ?_
        rw [show isaB (Tr.sc (Sc.int i)).ty "bool" = false from rfl]
        walk_at "rd"
        refine r_isT h2' (by decide) ?_
        rw [show isaB (Tr.sc (Sc.int i)).ty "int" = true from rfl]
        walk_at "rd"
        refine r_isT h2' (by decide) ?_
        rw [show isaB (Tr.sc (Sc.int i)).ty "int" = true from rfl]
        walk_at "rd"
        refine r_isT h2' (by decide) ?_
        rw [show isaB (Tr.sc (Sc.int i)).ty "bool" = false from rfl]
        walk_at "rd"
        exact ⟨_, h1', h2', .sc _ (fun _ z => by cases z), .inl ⟨_, rfl⟩, q _ s1⟩
      | str z =>
        rw [show (isaB (Tr.sc (Sc.str z)).ty "tuple" || isaB (Tr.sc (Sc.str z)).ty "list") = false from rfl]
        dsimp only [Sc.v]
        walk_at "rd"
        refine r_ite2 (fun z => nomatch z) (fun _ => ?_)
        walk_at "rd"
        refine r_isT h2' (by decide) ?_
        rw [show isaB (Tr.sc (Sc.str z)).ty "bool" = false from rfl]
        walk_at "rd"
        refine r_isT h2' (by decide) ?_
        rw [show isaB (Tr.sc (Sc.str z)).ty "int" = false from rfl]
        walk_at "rd"
        refine r_isT h2' (by decide) ?_
        rw [show isaB (Tr.sc (Sc.str z)).ty "dict" = false from rfl]
        walk_at "rd"
        refine r_isT h2' (by decide) ?_
        rw [show isaB (Tr.sc (Sc.str z)).ty "str" = true from rfl]
        walk_at "rd"
        exact ⟨_, h1', h2', .sc _ sz, .inl ⟨_, rfl⟩, q _ s1⟩
    | dct l nd =>
      cases h1' with
      | dct e1 =>
        cases h2' with
        | dct e2 =>
          have h1' := TrAt.dct e1
          have h2' := TrAt.dct e2
          rw [show (isaB (Tr.dct l).ty "tuple" || isaB (Tr.dct l).ty "list") = false from rfl]
          walk_at "rd"
          refine r_ite2 (fun z => nomatch z) (fun _ => ?_)
          walk_at "rd"
          refine r_isT h2' (by decide) ?_
          rw [show isaB (Tr.dct l).ty "bool" = false from rfl]
          walk_at "rd"
          refine r_isT h2' (by decide) ?_
          rw [show isaB (Tr.dct l).ty "int" = false from rfl]
          walk_at "rd"
          refine r_isT h2' (by decide) ?_
          rw [show isaB (Tr.dct l).ty "dict" = true from rfl]
          walk_at "rd"
          refine r_isT h1' (by decide) ?_
          rw [show isaB (Tr.dct l).ty "dict" = true from rfl]
          walk_at "rd"
          exact ⟨_, h1', h2', .dct _ nd, .inr ⟨_, rfl⟩, q _ s1⟩
    | @tup m l lk hb =>
      cases h1' with
      | @tup a xs _ e1 r1 =>
        cases h2' with
        | @tup b ys _ e2 r2 =>
          have h1' := TrAt.tup e1 r1
          have h2' := TrAt.tup e2 r2
          rw [show (isaB (Tr.tup l).ty "tuple" || isaB (Tr.tup l).ty "list") = true from rfl]
          walk_at "rd"
          refine r_isT h2' (by decide) ?_
          rw [show isaB (Tr.tup l).ty "tuple" = true from rfl]
          walk_at "rd"
          refine r_isT h1' (by decide) ?_
          rw [show isaB (Tr.tup l).ty "tuple" = true from rfl]
          walk_at "rd"
          refine r_iteN2 (fun z => absurd rfl z) (fun _ => ?_)
          walk_at "rd"
          refine r_isT h2' (by decide) ?_
          rw [show isaB (Tr.tup l).ty "list" = false from rfl]
          walk_at "rd"
          refine r_isT h1' (by decide) ?_
          rw [show isaB (Tr.tup l).ty "list" = false from rfl]
          walk_at "rd"
          refine r_iteN2 (fun z => absurd rfl z) (fun _ => ?_)
          walk_at "rd"
          refine ⟨a, xs, rfl, .inr (SqT.of e1), ?_⟩
          walk_at "rd"
          refine ⟨b, ys, rfl, .inr (SqT.of e2), ?_⟩
          walk_at "rd"
          refine r_iteN2 (fun z => absurd (by rw [r1.len, r2.len]) z) (fun _ => ?_)
          walk_at "rd"
          unfold RZ.iZipA
          walk_at "rd"
          refine ⟨a, b, xs, ys, rfl, .inr ⟨SqT.of e1, SqT.of e2, ?_⟩⟩
          refine KD.lc_made (walk_zipT (xs := xs) (ys := ys) (n := l.length) (by rw [r1.len, r2.len, Nat.min_self])) (fun i v H' => v = .bl true) (by omega) (fun i v Ha Hb z _ => z) (fun H' sm => ⟨SqT.of (sm _ _ e1), SqT.of (sm _ _ e2)⟩) (fun i x0 Ha Ha' N B' hi sa y qN => ?_) (fun D Hd ys nD sd eD ly hy => ?_)
          · obtain ⟨t2, xv, yv, rfl, nt, rfl, hxv, hyv⟩ := y
            dsimp only at hxv hyv
            obtain ⟨u, hu, ux⟩ := r1.get hxv
            have uy := r2.at' i hyv hu
            have sc := sa.trans (same_new (o := .tup [xv, yv]) nt)
            have mu : u ∈ l := List.mem_of_getElem? hu
            refine r_gtup (SqT.of upd_same) rfl ?_
            have st := same_new (o := .tup [xv, yv]) nt
            generalize upd Ha t2 (.tup [xv, yv]) = Hb at sc st ⊢
            walk_at "rd"
            refine ⟨rfl, KD.r_yes (iteT ?_)⟩
            walk_at "rd"
            exact ⟨xv, yv, u, rfl, TrAt.up sc _ _ ux, TrAt.up sc _ _ uy, hb u mu, fun H' sh => qN _ _ (st.trans sh) rfl⟩
          · obtain rfl : ys = (List.replicate l.length true).map V.bl := by
              refine List.ext_getElem? fun i => ?_
              rw [List.getElem?_map, List.getElem?_replicate]
              by_cases hi : i < l.length
              · obtain ⟨z, hz⟩ : ∃ z, ys[i]? = some z := ⟨_, List.getElem?_eq_getElem (by omega)⟩
                rw [hz, hy i z hz, if_pos hi]
                rfl
              · rw [if_neg hi, List.getElem?_eq_none (by omega)]
                rfl
            refine ⟨D, _, rfl, SqL.of eD, ?_⟩
            rw [show (List.replicate l.length true).all id = true by simp]
            exact q _ (s1.trans sd)
    | @lst m l lk hb =>
      cases h1' with
      | @lst a xs _ e1 r1 =>
        cases h2' with
        | @lst b ys _ e2 r2 =>
          have h1' := TrAt.lst e1 r1
          have h2' := TrAt.lst e2 r2
          rw [show (isaB (Tr.lst l).ty "tuple" || isaB (Tr.lst l).ty "list") = true from rfl]
          walk_at "rd"
          refine r_isT h2' (by decide) ?_
          rw [show isaB (Tr.lst l).ty "tuple" = false from rfl]
          walk_at "rd"
          refine r_isT h1' (by decide) ?_
          rw [show isaB (Tr.lst l).ty "tuple" = false from rfl]
          walk_at "rd"
          refine r_iteN2 (fun z => absurd rfl z) (fun _ => ?_)
          walk_at "rd"
          refine r_isT h2' (by decide) ?_
          rw [show isaB (Tr.lst l).ty "list" = true from rfl]
          walk_at "rd"
          refine r_isT h1' (by decide) ?_
          rw [show isaB (Tr.lst l).ty "list" = true from rfl]
          walk_at "rd"
          refine r_iteN2 (fun z => absurd rfl z) (fun _ => ?_)
          walk_at "rd"
          refine r_iteN2 (fun z => absurd (by rw [r1.len, r2.len]) z) (fun _ => ?_)
          walk_at "rd"
          unfold RZ.iZipA
          walk_at "rd"
          refine ⟨a, b, xs, ys, rfl, .inl ⟨SqL.of e1, SqL.of e2, ?_⟩⟩
          refine KD.lc_made (walk_zip (xs := xs) (ys := ys) (n := l.length) (by rw [r1.len, r2.len, Nat.min_self])) (fun i v H' => v = .bl true) (by omega) (fun i v Ha Hb z _ => z) (fun H' sm => ⟨SqL.of (sm _ _ e1), SqL.of (sm _ _ e2)⟩) (fun i x0 Ha Ha' N B' hi sa y qN => ?_) (fun D Hd ys nD sd eD ly hy => ?_)
          · obtain ⟨t2, xv, yv, rfl, nt, rfl, hxv, hyv⟩ := y
            dsimp only at hxv hyv
            obtain ⟨u, hu, ux⟩ := r1.get hxv
            have uy := r2.at' i hyv hu
            have sc := sa.trans (same_new (o := .tup [xv, yv]) nt)
            have mu : u ∈ l := List.mem_of_getElem? hu
            refine r_gtup (SqT.of upd_same) rfl ?_
            have st := same_new (o := .tup [xv, yv]) nt
            generalize upd Ha t2 (.tup [xv, yv]) = Hb at sc st ⊢
            walk_at "rd"
            refine ⟨rfl, KD.r_yes (iteT ?_)⟩
            walk_at "rd"
            exact ⟨xv, yv, u, rfl, TrAt.up sc _ _ ux, TrAt.up sc _ _ uy, hb u mu, fun H' sh => qN _ _ (st.trans sh) rfl⟩
          · obtain rfl : ys = (List.replicate l.length true).map V.bl := by
              refine List.ext_getElem? fun i => ?_
              rw [List.getElem?_map, List.getElem?_replicate]
              by_cases hi : i < l.length
              · obtain ⟨z, hz⟩ : ∃ z, ys[i]? = some z := ⟨_, List.getElem?_eq_getElem (by omega)⟩
                rw [hz, hy i z hz, if_pos hi]
                rfl
              · rw [if_neg hi, List.getElem?_eq_none (by omega)]
                rfl
            refine ⟨D, _, rfl, SqL.of eD, ?_⟩
            rw [show (List.replicate l.length true).all id = true by simp]
            exact q _ (s1.trans sd)

end
end K20


namespace K20
open PySem L2 KB KO KY KV KTr
/-! ### drawn names -/
def NmS (z : Str) : Prop := madeB CAPS INNS z = true
def spLName : Sp := fun vs H Q _ => ∃ (pen c : Addr) (k : Nat), vs = [.ref pen] ∧ PenC H pen c (k + 9) ∧ ∀ z H', NmS z → PenC H' pen c k → Keep pen H H' → Q (.str z) H'
theorem caps_get : ∀ i < 26, INNS.cps.toList[i]? = CAPS.cps.toList[i]? := by decide +kernel
theorem caps_inns : ∀ c ∈ CAPS.cps.toList, c ∈ INNS.cps.toList := by decide +kernel
theorem names_len : INNS.cps.toList.length = 37 ∧ CAPS.cps.toList.length = 26 ∧ INNS.length = 37 := by decide +kernel
theorem nm_of {z : Str} {c : Nat} {cs : List Nat} (e : z.cps.toList = c :: cs) (h1 : c ∈ CAPS.cps.toList) (h2 : cs.length ≤ 7) (h3 : ∀ x ∈ cs, x ∈ INNS.cps.toList) : NmS z := by
  unfold NmS madeB
  rw [e, decide_eq_true (by simp; omega), Bool.true_and]
  show (decide (c ∈ CAPS.cps.toList) && _) = true
  rw [decide_eq_true h1, Bool.true_and, List.tail_cons, List.all_eq_true]
  exact fun x m => decide_eq_true (h3 x m)
theorem NmS.len {z : Str} (h : NmS z) : z.length ≤ 8 := by
  unfold NmS madeB at h
  rw [Bool.and_eq_true, Bool.and_eq_true, decide_eq_true_eq] at h
  have := h.1.1.2
  rw [Array.length_toList] at this
  exact this


section
variable {P : Program} {w : World} {K : PySem.W.Frag} {mg : Str → Option Value} {base : Heap}
theorem ok_lname {f : Addr} {fd : FuncData} (F : Fun K "_law_name" "_law_name" s__law_name f fd) (T : Txt mg) (c__law_draw : KB.Callee P w K mg base CX0 1 "_law_draw" ["_law_pen_here", "_law_many"] spDraw) : FnOk P w K mg base CX0 2 f fd ["_law_pen_here"] spLName := by
  refine F.ok sc__law_name (fun vs H Q E h => ?_) (fun cdv A outer s H vs Q E hr h => ?_)
  · obtain ⟨pen, c, k, rfl, _⟩ := h
    rfl
  · obtain ⟨pen, c, k, rfl, pn, q⟩ := h
    refine ⟨_, (pss_cons (ps_set (i := 1) sc__law_name.nd rfl (by first | exact Or.inl rfl | exact Or.inr rfl) pe_str)
 (pss_one (ps_ret (pe_op op_add_str (pe_ix ix_str (pv 1) (pe_callC c__law_draw (hr.mono (by decide)) (by rfl) pass0 (pa_cons (pv 0) (pa_cons pe_int pa_nil))) (fun _ _ => rfl)) (pe_join pe_str (pe_lc (own := [("_law_step", 2)]) (g := gName 2) (tt := tYes) (by rfl) sc__law_name.nd (pi_range1 rfl T.z_range (pa_cons (pe_callC c__law_draw (hr.mono (by decide)) (by rfl) pass0 (pa_cons (pv 0) (pa_cons pe_int pa_nil))) pa_nil)) (blkOk_by (own := [("_law_step", 2)]) (N := ["_law_pen_here", "_law_signs", "_law_step"]) (sc := defScope s__law_name) (by decide +kernel)) (fun _ _ _ _ _ => (pg_name (i := 2) sc__law_name.nd rfl (by first | exact Or.inl rfl | exact Or.inr rfl))) (fun _ _ _ _ _ => pts_nil) (fun _ _ _ _ _ => (pe_ix ix_str (pv 1) (pe_callC c__law_draw (hr.mono (by decide)) (by rfl) pass0 (pa_cons (pv 0) (pa_cons pe_int pa_nil))) (fun _ _ => rfl))))))))), at_start (σ := [some (.ref pen), none, none]) rfl ?_⟩
    try dsimp only [cx_K]
    walk_at "rd"
    refine ⟨pen, c, 26, k + 8, rfl, by decide, by decide, pn, fun r1 H1 a1 b1 pn1 kp1 => ?_⟩
    obtain ⟨n1, rfl⟩ : ∃ n : Nat, r1 = (n : Int) := ⟨r1.toNat, by omega⟩
    obtain ⟨c1, hc1, at1⟩ : ∃ c ∈ CAPS.cps.toList, INNS.cps.toList[n1]? = some c := by
      have hl : n1 < CAPS.cps.toList.length := by rw [names_len.2.1]; omega
      exact ⟨_, List.getElem_mem hl, by rw [caps_get n1 (by omega), List.getElem?_eq_getElem hl]⟩
    refine r_ixS (by decide) (atI_nat at1) ?_
    walk_at "rd"
    refine ⟨pen, c, 8, k + 7, rfl, by decide, by decide, pn1, fun r2 H2 a2 b2 pn2 kp2 => ?_⟩
    walk_at "rd"
    refine ⟨by omega, by omega, ?_⟩
    refine lc_pen (walk_range (lo := 0) (n := r2.toNat)) (pen := pen) (c := c) (fun i v _ => ∃ cc, cc ∈ INNS.cps.toList ∧ v = .str (sign cc)) (fun i => k + 7 - i) (by omega) pn2 (fun i v H H' r _ => r) (fun _ _ => trivial) (fun i x Ha Ha' N B hi kpa pna y qN => ?_) (fun D Hd ys nD kpd pnd eD ly hy => ?_)
    · obtain ⟨rfl, rfl⟩ := y
      walk_at "rd"
      refine ⟨rfl, KD.r_yes (iteT ?_)⟩
      walk_at "rd"
      refine ⟨pen, c, 37, k + 7 - (i + 1), rfl, by omega, by omega, pna.mono (by omega), fun r H a b pn' kp' => ?_⟩
      obtain ⟨cc, hc, at3⟩ := atI_mem (xs := INNS.cps.toList) a (by rw [names_len.1]; exact b)
      refine r_ixS (by decide) at3 ?_
      exact qN _ _ kp' pn' ⟨cc, hc, rfl⟩
    obtain ⟨cs, rfl, lc, hcs⟩ := choose_list (f := fun cc => V.str (sign cc)) (Pr := fun _ cc => cc ∈ INNS.cps.toList) ys hy
    refine ⟨"", D, cs.map sign, rfl, rfl, .inl (SqL.of (by rw [eD, List.map_map]; rfl)), ?_, ?_⟩
    · rw [sum_signs, List.length_map]
      rw [show (Str.ofString "").length = 0 from rfl, Nat.mul_zero]
      omega
    have ej : (Txt.join "" (cs.map sign)).cps.toList = cs := by rw [TL.join_eq]; exact join_signs cs
    generalize Txt.join "" (cs.map sign) = jz at ej
    have lj : jz.length = cs.length := by
      have := congrArg List.length ej
      rw [Array.length_toList] at this
      exact this
    refine ⟨⟨#[c1]⟩, jz, rfl, rfl, ?_, ?_⟩
    · rw [lj]
      show 1 + _ ≤ _
      have : (1000 : Nat) ≤ sizeLine := by decide
      omega
    refine q _ _ (nm_of (c := c1) (cs := cs) ?_ hc1 (by omega) ?_) (pnd.mono (by omega)) ((kp1.tr kp2).tr kpd)
    · show (#[c1] ++ jz.cps).toList = _
      rw [Array.toList_append, ej]
      rfl
    · intro x m
      obtain ⟨i, hi, e⟩ := List.getElem_of_mem m
      exact hcs i x (by rw [List.getElem?_eq_getElem hi, e])

theorem nm_all {z : Str} (h1 : 1 ≤ z.length) (h8 : z.length ≤ 8) (hc : z.cps.toList.headD 0 ∈ CAPS.cps.toList) : isNm (.sc (.str z)) = z.cps.toList.all fun c => decide (c ∈ INNS.cps.toList) := by
  have ez : z.cps.toList.length = z.length := Array.length_toList
  show (decide _ && decide _ && _) = _
  rw [decide_eq_true (by rw [ez]; omega), decide_eq_true hc, Bool.true_and, Bool.true_and]
  match e : z.cps.toList, hc with
  | [], _ => rfl
  | a :: l, hc =>
    have : a ∈ INNS.cps.toList := caps_inns a hc
    rw [List.tail_cons, List.all_cons, decide_eq_true this, Bool.true_and]
theorem ok_lisname {f : Addr} {fd : FuncData} {k : Nat} (F : Fun K "_law_is_name" "_law_is_name" s__law_is_name f fd) (T : Txt mg) : FnOk P w K mg base CX0 (k + 1) f fd ["_law_value"] spIsName := by
  refine F.ok sc__law_is_name (fun vs H Q E h => ?_) (fun cdv A outer s H vs Q E hr h => ?_)
  · obtain ⟨v, t, rfl, _⟩ := h
    rfl
  · obtain ⟨v, t, rfl, ht, sm, q⟩ := h
    refine ⟨_, (pss_cons (ps_set (i := 1) sc__law_is_name.nd rfl (by first | exact Or.inl rfl | exact Or.inr rfl) pe_str)
 (pss_cons (ps_if (PW.pt (pw_or (pt_not (pt_val (pe_callB call_isi (by rfl) T.z_isinstance (by decide +kernel) (pa_cons (pv 0) (pa_cons (pe_bltn (v := .ty "str") (by rfl) T.z_str (by decide +kernel) rfl) pa_nil))))) (pw_or (pt_not (pt_chain op_le op_le pe_int (pe_callB call_len_str (by rfl) T.z_len (by decide +kernel) (pa_cons (pv 0) pa_nil)) pe_int)) (pw_or1 (pt_cmpR op_notIn_sign (pe_ix ix_str (pv 0) pe_int (fun _ _ => rfl)) (pv 1) (by rfl)))))) (pss_one (ps_ret pe_bl))
 pss_nil)
 (pss_one (ps_ret (pe_callB (cr_all rfl) (by rfl) T.z_all (by decide +kernel) (pa_cons (pe_lc (own := [("_law_sign", 2)]) (g := gName 2) (tt := tYes) (by rfl) sc__law_is_name.nd (pi_str (pv 0)) (blkOk_by (own := [("_law_sign", 2)]) (N := ["_law_value", "_law_capitals", "_law_sign"]) (sc := defScope s__law_is_name) (by decide +kernel)) (fun _ _ _ _ _ => (pg_name (i := 2) sc__law_is_name.nd rfl (by first | exact Or.inl rfl | exact Or.inr rfl))) (fun _ _ _ _ _ => pts_nil) (fun _ _ _ _ _ => (pe_cmpR op_in_sign (pv 2) (pe_op op_add_str (pv 1) pe_str) (by rfl)))) pa_nil)))))), at_start (σ := [some v, none, none]) rfl ?_⟩
    try dsimp only [cx_K]
    walk_at "rd"
    refine r_isT ht (by decide) ?_
    rcases str_or t with ⟨z, rfl⟩ | ⟨no, nm⟩
    · obtain rfl : v = .str z := sc_at ht
      rw [show isaB (Tr.sc (Sc.str z)).ty "str" = true from rfl]
      walk_at "rd"
      have lz : z.length ≤ 1000 := by
        cases sm with
        | sc s h => exact h z rfl
      have l0 : z.length ≤ sizeLine := Nat.le_trans lz (by decide)
      have ez : z.cps.toList.length = z.length := Array.length_toList
      have bad : ¬ (1 ≤ z.length ∧ z.length ≤ 8 ∧ z.cps.toList.headD 0 ∈ CAPS.cps.toList) → isNm (.sc (.str z)) = false := fun np => by
        cases e : isNm (.sc (.str z)) with
        | false => rfl
        | true =>
          have e : (decide _ && decide _ && _) = true := e
          rw [Bool.and_eq_true, Bool.and_eq_true, decide_eq_true_eq, decide_eq_true_eq, ez] at e
          exact absurd ⟨e.1.1.1, e.1.1.2, e.1.2⟩ np
      refine KC.r_chain ?_
      walk_at "rd"
      refine ⟨z, rfl, l0, ?_⟩
      walk_at "rd"
      refine r_ite2 (fun y1 => ?_) (fun y1 => ?_)
      rotate_left
      · walk_at "rd"
        rw [bad (fun y => y1 (by omega))] at q
        exact q _ (Same.refl _)
      walk_at "rd"
      refine r_iteN2 (fun y2 => ?_) (fun y2 => ?_)
      · walk_at "rd"
        rw [bad (fun y => y2 (by omega))] at q
        exact q _ (Same.refl _)
      walk_at "rd"
      refine r_ixS l0 (ix0 (by omega)) ?_
      walk_at "rd"
      refine ⟨_, CAPS, rfl, rfl, ?_⟩
      walk_at "rd"
      refine r_iteBN (fun y3 => ?_) (fun y3 => ?_)
      · walk_at "rd"
        rw [bad (fun y => (of_decide_eq_false y3) y.2.2)] at q
        exact q _ (Same.refl _)
      rw [nm_all (by omega) (by omega) (of_decide_eq_true y3)] at q
      walk_at "rd"
      refine lc_all (walk_str (z := z)) (j := 2) (fun i => .str ⟨#[z.cps.toList.getD i 0]⟩) (fun _ => true) (fun i => .bl (decide (z.cps.toList.getD i 0 ∈ INNS.cps.toList))) (by rw [size_get, ez]; omega) (fun i H x H' hi y => ⟨y.1, by obtain ⟨_, c, hc, rfl⟩ := y; rw [str_get hc]⟩) (fun _ _ => trivial) (fun x => rfl) (fun i H' hi s QT q => q _ (Same.refl _)) (fun i H' hi _ s Q q => ?_) (fun D H' nD sD eD => ?_)
      · walk_at "rd"
        refine ⟨CAPS, "0123456789_", rfl, rfl, by decide, ?_⟩
        exact ⟨_, INNS, rfl, rfl, q _ (Same.refl _)⟩
      · rw [size_get, given_bl z.cps.toList 0 (fun c => decide (c ∈ INNS.cps.toList))] at eD
        refine ⟨D, _, rfl, SqL.of eD, ?_⟩
        rw [List.all_map]
        exact q _ sD
    · rw [no]
      walk_at "rd"
      rw [show isNm t = false from nm _ _] at q
      exact q _ (Same.refl _)

end
end K20


namespace K20
open PySem L2 KB KO KY KV KTr
/-! ### registers -/
inductive Th where
  | fld (x : FdV) | tr (t : Tr)
def ThAt (CK CF : Addr) (H : Hp) (v : V) : Th → Prop
  | .fld x => ∃ p, v = .ref p ∧ FieldAt CK CF H p x
  | .tr t => TrAt H v t
def Th.isF : Th → Bool
  | .fld _ => true
  | .tr _ => false
theorem ThAt.up {CK CF : Addr} {H H' : Hp} {v : V} {t : Th} (h : ThAt CK CF H v t) (s : Same H H') : ThAt CK CF H' v t := by
  cases t with
  | fld x => obtain ⟨p, e, f⟩ := h; exact ⟨p, e, f.up s⟩
  | tr t => exact TrAt.up s _ _ h
inductive ThsAt (CK CF : Addr) (H : Hp) : List V → List Th → Prop
  | nil : ThsAt CK CF H [] []
  | cons {v : V} {t : Th} {vs : List V} {ts : List Th} (h : ThAt CK CF H v t) (r : ThsAt CK CF H vs ts) : ThsAt CK CF H (v :: vs) (t :: ts)
theorem ThsAt.up {CK CF : Addr} {H H' : Hp} (s : Same H H') : ∀ {vs : List V} {ts : List Th}, ThsAt CK CF H vs ts → ThsAt CK CF H' vs ts
  | _, _, .nil => .nil
  | _, _, .cons h r => .cons (h.up s) (ThsAt.up s r)
theorem ThsAt.len {CK CF : Addr} {H : Hp} : ∀ {vs : List V} {ts : List Th}, ThsAt CK CF H vs ts → vs.length = ts.length
  | _, _, .nil => rfl
  | _, _, .cons _ r => by rw [List.length_cons, List.length_cons, ThsAt.len r]
theorem ThsAt.get {CK CF : Addr} {H : Hp} : ∀ {vs : List V} {ts : List Th} {i : Nat} {v : V}, ThsAt CK CF H vs ts → vs[i]? = some v → ∃ t, ts[i]? = some t ∧ ThAt CK CF H v t
  | _, _, _, _, .nil, e => by simp at e
  | _, _, 0, _, .cons h _, e => by cases e; exact ⟨_, rfl, h⟩
  | _, _, i + 1, _, .cons _ r, e => ThsAt.get (i := i) r e
theorem ThsAt.getD {CK CF : Addr} {H : Hp} {vs : List V} {ts : List Th} (h : ThsAt CK CF H vs ts) {i : Nat} (hi : i < vs.length) : ∃ v t, vs[i]? = some v ∧ ts[i]? = some t ∧ ts.getD i (.tr (.sc .non)) = t ∧ ThAt CK CF H v t := by
  have e := List.getElem?_eq_getElem hi
  obtain ⟨t, et, r⟩ := h.get e
  exact ⟨_, t, e, et, by rw [List.getD_eq_getElem?_getD, et]; rfl, r⟩
/-- fields at places -/
inductive FsAt (CK CF : Addr) (H : Hp) : List V → List FdV → Prop
  | nil : FsAt CK CF H [] []
  | cons {p : Addr} {x : FdV} {vs : List V} {xs : List FdV} (h : FieldAt CK CF H p x) (r : FsAt CK CF H vs xs) : FsAt CK CF H (.ref p :: vs) (x :: xs)
theorem FsAt.up {CK CF : Addr} {H H' : Hp} (s : Same H H') : ∀ {vs : List V} {xs : List FdV}, FsAt CK CF H vs xs → FsAt CK CF H' vs xs
  | _, _, .nil => .nil
  | _, _, .cons h r => .cons (h.up s) (FsAt.up s r)
theorem FsAt.len {CK CF : Addr} {H : Hp} : ∀ {vs : List V} {xs : List FdV}, FsAt CK CF H vs xs → vs.length = xs.length
  | _, _, .nil => rfl
  | _, _, .cons _ r => by rw [List.length_cons, List.length_cons, FsAt.len r]
theorem FsAt.get {CK CF : Addr} {H : Hp} : ∀ {vs : List V} {xs : List FdV} {i : Nat} {v : V}, FsAt CK CF H vs xs → vs[i]? = some v → ∃ p x, v = .ref p ∧ xs[i]? = some x ∧ FieldAt CK CF H p x
  | _, _, _, _, .nil, e => by simp at e
  | _, _, 0, _, .cons h _, e => by cases e; exact ⟨_, _, rfl, rfl, h⟩
  | _, _, i + 1, _, .cons _ r, e => FsAt.get (i := i) r e
theorem ths_fs {CK CF : Addr} {H : Hp} : ∀ {vs : List V} {ts : List Th}, ThsAt CK CF H vs ts → ts.all Th.isF = true → ∃ xs, FsAt CK CF H vs xs ∧ ts = xs.map Th.fld
  | _, _, .nil, _ => ⟨[], .nil, rfl⟩
  | _, _, .cons (t := .fld x) ⟨p, e, f⟩ r, h => by
    rw [List.all_cons, Bool.and_eq_true] at h
    obtain ⟨xs, a, b⟩ := ths_fs r h.2
    subst e
    exact ⟨x :: xs, .cons f a, by rw [b]; rfl⟩
  | _, _, .cons (t := .tr t) _ r, h => by
    rw [List.all_cons, Bool.and_eq_true] at h
    exact absurd h.1 (by simp [Th.isF])
theorem fs_ths {CK CF : Addr} {H : Hp} : ∀ {vs : List V} {xs : List FdV}, FsAt CK CF H vs xs → ThsAt CK CF H vs (xs.map Th.fld)
  | _, _, .nil => .nil
  | _, _, .cons h r => .cons ⟨_, rfl, h⟩ (fs_ths r)
theorem FsAt.rev {CK CF : Addr} {H : Hp} : ∀ {vs : List V} {xs : List FdV}, FsAt CK CF H vs xs → FsAt CK CF H vs.reverse xs.reverse := by
  have app : ∀ {vs ws : List V} {xs ys : List FdV}, FsAt CK CF H vs xs → FsAt CK CF H ws ys → FsAt CK CF H (vs ++ ws) (xs ++ ys) := by
    intro vs ws xs ys a b
    induction a with
    | nil => exact b
    | cons h r ih => exact .cons h ih
  intro vs xs a
  induction a with
  | nil => exact .nil
  | cons h r ih =>
    rw [List.reverse_cons, List.reverse_cons]
    exact app ih (.cons h .nil)
theorem FieldAt.det {CK CF : Addr} {H : Hp} {p : Addr} {x y : FdV} (h : FieldAt CK CF H p x) (g : FieldAt CK CF H p y) : x = y := by
  obtain ⟨dx, k, e, _⟩ := h
  obtain ⟨dy, k', e', _⟩ := g
  rw [e] at e'
  have e2 := Option.some.inj e'
  simp only [flF, HO.ins.injEq, List.cons.injEq, Prod.mk.injEq, V.str.injEq, V.int.injEq, V.ref.injEq, true_and, and_true] at e2
  obtain ⟨-, a0, a1, a2, a3, a4, a5, a6, a7, a8, a9, a10, a11⟩ := e2
  cases x
  cases y
  simp only at *
  rw [a1, a2, a3, a4, a5, a6, a7, oS_inj a8, oS_inj a9, oS_inj a10, oS_inj a11]
def isBl : Tr → Bool
  | .sc (.bl _) => true
  | _ => false
inductive RR where
  | err (rs : Str) | ok
def regres (t0 : Tr) (ths : List Th) (tw : Tr) : RR := if isNm t0 = false then .err "name" else if ths.all Th.isF = false then .err "fields" else if isBl tw = false then .err "whole" else .ok
def keyres (t0 : Tr) (ts : List Tr) : RR := if isNm t0 = false then .err "name" else if decide (1 ≤ ts.length ∧ ts.length ≤ 3) = false then .err "constants" else if ts.all (isNum 0 4294967295) = false then .err "constants" else .ok
/-- a class of registers -/
structure RCls (K : PySem.W.Frag) (C : Addr) : Prop where
  cl : Cls K C
  n_name : NoAttr K C "name"
  n_fields : NoAttr K C "fields"
  n_whole : NoAttr K C "whole"
structure TxtRg (K : PySem.W.Frag) (mg : Str → Option Value) (CK CF CR CQ : Addr) : Prop extends TxtFd K mg CK CF where
  rc : RCls K CR
  qc : RCls K CQ
  n_constants : NoAttr K CQ "constants"
  kitB : ∀ A ∈ BT, PySem.W.kitOne K (.type A) (.ref CF) = some false
  tyR : ∀ {H : Hp} {a dx : Addr} {fs : List (Str × V)}, H a = some (.ins CR dx fs) → TyX K H (.ref a) (.ref CR)
  tyQ : ∀ {H : Hp} {a dx : Addr} {fs : List (Str × V)}, H a = some (.ins CQ dx fs) → TyX K H (.ref a) (.ref CQ)
  isRR : PySem.W.kitOne K (.ref CR) (.ref CR) = some true
  isQR : PySem.W.kitOne K (.ref CQ) (.ref CR) = some true
  isRQ : PySem.W.kitOne K (.ref CR) (.ref CQ) = some false
  isQQ : PySem.W.kitOne K (.ref CQ) (.ref CQ) = some true
  isSR : PySem.W.kitOne K (.type "str") (.ref CR) = some false
  isSQ : PySem.W.kitOne K (.type "str") (.ref CQ) = some false
  nfF : PySem.W.notFirst K CF (.ref CF) = true
  mg_Register : mg "Register" = some (.ref CR)
  mg_KeyRegister : mg "KeyRegister" = some (.ref CQ)
  g_GREATEST : ∃ tk, mg "GREATEST" = some (.int 4294967295 tk)
  g_MOST_CONSTANTS : ∃ tk, mg "MOST_CONSTANTS" = some (.int 3 tk)
  z_super : mg "super" = none
def flR (v : V) (t : Addr) (w : V) : List (Str × V) := [("name", v), ("fields", .ref t), ("whole", w)]
def flQ (v : V) (t c : Addr) : List (Str × V) := [("name", v), ("fields", .ref t), ("whole", .bl false), ("constants", .ref c)]
/-- Register.__init__(self, name, whole, fields) -/
def spRegB (K : PySem.W.Frag) (CK CF eM : Addr) : Sp := fun vs H Q E => ∃ (p dx t C : Addr) (v0 vw : V) (items : List V) (t0 tw : Tr) (ths : List Th), vs = [.ref p, v0, vw, .ref t] ∧ H p = some (.ins C dx []) ∧ RCls K C ∧ H t = some (.tup items) ∧ TrAt H v0 t0 ∧ Sm t0 ∧ TrAt H vw tw ∧ ThsAt CK CF H items ths ∧ items.length ≤ 1000 ∧
  (∀ rs, regres t0 ths tw = .err rs → ∀ d H', Keep p H H' → H' d = some (.xd [("reason", .str rs), ("name", v0)]) → E (.ref eM) (some d) H') ∧
  (regres t0 ths tw = .ok → ∀ H', H' p = some (.ins C dx (flR v0 t vw)) → Keep p H H' → Q .non H')
def gRg (us ws : List V) : List V := us ++ ws
def gRgD (us _ : List V) : List V := us ++ [.bl false]
def spReg (K : PySem.W.Frag) (CK CF eM : Addr) : KSt.SpK := KSt.spStar (spRegB K CK CF eM) 2 gRg
def spRegD (K : PySem.W.Frag) (CK CF eM : Addr) : KSt.SpK := KSt.spStar (spRegB K CK CF eM) 2 gRgD
/-- KeyRegister.__init__(self, name, constants) -/
def spKeyB (CQ eM : Addr) : Sp := fun vs H Q E => ∃ (p dx t : Addr) (v0 : V) (items : List V) (t0 : Tr) (ts : List Tr), vs = [.ref p, v0, .ref t] ∧ H p = some (.ins CQ dx []) ∧ H t = some (.tup items) ∧ TrAt H v0 t0 ∧ Sm t0 ∧ TrsAt H items ts ∧ items.length ≤ 1000 ∧
  (∀ rs, keyres t0 ts = .err rs → ∀ d H', Keep p H H' → H' d = some (.xd [("reason", .str rs), ("name", v0)]) → E (.ref eM) (some d) H') ∧
  (keyres t0 ts = .ok → ∀ q H', H' p = some (.ins CQ dx (flQ v0 q t)) → H' q = some (.tup []) → Keep p H H' → Q .non H')
def gSt (us _ : List V) : List V := us
def spKey (CQ eM : Addr) : KSt.SpK := KSt.spStar (spKeyB CQ eM) 2 gSt
inductive RgV where
  | reg (nm : Str) (fs : List FdV) (wh : Bool) | key (nm : Str) (cs : List Int)
  deriving DecidableEq
def RgAt (CK CF CR CQ : Addr) (H : Hp) (p : Addr) : RgV → Prop
  | .reg nm fs wh => ∃ dx t items, H p = some (.ins CR dx (flR (.str nm) t (.bl wh))) ∧ H t = some (.tup items) ∧ FsAt CK CF H items fs
  | .key nm cs => ∃ dx t c, H p = some (.ins CQ dx (flQ (.str nm) t c)) ∧ H t = some (.tup []) ∧ H c = some (.tup (cs.map V.int))
theorem RgAt.up {CK CF CR CQ : Addr} {H H' : Hp} {p : Addr} {x : RgV} (h : RgAt CK CF CR CQ H p x) (s : Same H H') : RgAt CK CF CR CQ H' p x := by
  cases x with
  | reg nm fs wh => obtain ⟨dx, t, items, a, b, c⟩ := h; exact ⟨dx, t, items, s _ _ a, s _ _ b, c.up s⟩
  | key nm cs => obtain ⟨dx, t, c, a, b, e⟩ := h; exact ⟨dx, t, c, s _ _ a, s _ _ b, s _ _ e⟩
def spIsKey (C : Addr) (b : Bool) : Sp := fun vs H Q _ => ∃ p dx fs, vs = [.ref p] ∧ H p = some (.ins C dx fs) ∧ Q (.bl b) H
def spEqR (CK CF CR : Addr) : Sp := fun vs H Q _ => (∃ (p q dx t dy u : Addr) (items jtems : List V) (nm mn : Str) (fs gs : List FdV) (wh hw : Bool), vs = [.ref p, .ref q] ∧ H p = some (.ins CR dx (flR (.str nm) t (.bl wh))) ∧ H t = some (.tup items) ∧ FsAt CK CF H items fs ∧
  H q = some (.ins CR dy (flR (.str mn) u (.bl hw))) ∧ H u = some (.tup jtems) ∧ FsAt CK CF H jtems gs ∧ ∀ H', Same H H' → Q (.bl (decide (nm = mn ∧ fs = gs ∧ wh = hw))) H') ∨ ∃ (p : Addr) (z : Str), vs = [.ref p, .str z] ∧ Q (.bl false) H
def spEqQ (CR CQ : Addr) : Sp := fun vs H Q _ => ∃ (p dx t c : Addr) (nm : Str) (cs : List Int) (y : V), vs = [.ref p, y] ∧ H p = some (.ins CQ dx (flQ (.str nm) t c)) ∧ H c = some (.tup (cs.map V.int)) ∧
  ((∃ (q dy u e : Addr) (mn : Str) (ds : List Int), y = .ref q ∧ H q = some (.ins CQ dy (flQ (.str mn) u e)) ∧ H e = some (.tup (ds.map V.int)) ∧ ∀ H', Same H H' → Q (.bl (decide (nm = mn ∧ cs = ds))) H') ∨
   (∃ (q dy : Addr) (fs : List (Str × V)), y = .ref q ∧ H q = some (.ins CR dy fs) ∧ Q (.bl false) H) ∨ ∃ z : Str, y = .str z ∧ Q (.bl false) H)
theorem yat {xs : List V} {i : Nat} {H : Hp} {x : V} {H' : Hp} (y : YAt xs i H x H') : H' = H ∧ x = xs.getD i .non := by
  obtain ⟨rfl, e⟩ := y
  exact ⟨rfl, by rw [List.getD_eq_getElem?_getD, e]; rfl⟩
theorem bl_or {H : Hp} {v : V} {t : Tr} (h : TrAt H v t) : (∃ b, v = .bl b ∧ t = .sc (.bl b)) ∨ ((∀ b, decide (v = V.bl b) = false) ∧ isBl t = false) := by
  cases h with
  | sc s =>
    cases s with
    | bl b => exact .inl ⟨b, rfl, rfl⟩
    | non => exact .inr ⟨fun b => decide_eq_false (by simp [Sc.v]), rfl⟩
    | int => exact .inr ⟨fun b => decide_eq_false (by simp [Sc.v]), rfl⟩
    | str => exact .inr ⟨fun b => decide_eq_false (by simp [Sc.v]), rfl⟩
  | tup => exact .inr ⟨fun b => decide_eq_false (by simp), rfl⟩
  | lst => exact .inr ⟨fun b => decide_eq_false (by simp), rfl⟩
  | dct => exact .inr ⟨fun b => decide_eq_false (by simp), rfl⟩
theorem cx_sup {CXx : CXT} {P : Program} {w : World} {K : PySem.W.Frag} {mg : Str → Option Value} {base : Heap} {N : List Str} {ql : Str} {sc : Scope} {f cda cc : Addr} {A : Around} {out : List Env} {st : Shared} {h : Hp} {W : XK} : (KX.supCx CXx P w K mg base N ql sc f cda cc A out st h W).K = K := rfl


section
variable {P : Program} {w : World} {K : PySem.W.Frag} {mg : Str → Option Value} {base : Heap}
theorem ok_iskey {f C : Addr} {fd : FuncData} {k : Nat} (F : Fun K "is_key" "Register.is_key" s_Register_is_key f fd) : FnOk P w K mg base CX0 (k + 1) f fd ["self"] (spIsKey C false) := by
  refine F.ok sc_Register_is_key (fun vs H Q E h => ?_) (fun cdv A outer s H vs Q E hr h => ?_)
  · obtain ⟨p, dx, fs, rfl, _⟩ := h
    rfl
  · obtain ⟨p, dx, fs, rfl, hp, q⟩ := h
    refine ⟨_, (pss_one (ps_ret pe_bl)), at_start (σ := [some (.ref p)]) rfl ?_⟩
    try dsimp only [cx_K]
    walk_at "rd"
    exact q
theorem r_isF {CK CF CR CQ : Addr} (T : TxtRg K mg CK CF CR CQ) {H : Hp} {v : V} {t : Th} {Q : VK} (h : ThAt CK CF H v t) (q : Q (.bl t.isF) H) : rIsi K [v, .ref CF] H Q := by
  cases t with
  | fld x =>
    obtain ⟨p, rfl, dx, k, e, _⟩ := h
    exact ⟨_, _, _, _, true, rfl, .own CF, T.tyF e, T.isiF, q⟩
  | tr t => exact ⟨_, _, _, _, false, rfl, .own CF, TrAt.tyX h, T.kitB _ t.ty_in, q⟩
theorem ok_regB {f CK CF CR CQ eM : Addr} {cdv dV kV doc pm ct oc : Value} {an od : Option Addr} {osl : Array (Option Value)} {ks : List Str} {g : List Value → List Value → List Value} {gV : List V → List V → List V}
    (lk : K.lookup f = some ⟨oc, od, .func (PySem.W.fnOf "__init__" "Register.__init__" (defArgs s_Register___init__) (defBody s_Register___init__) (defScope s_Register___init__) dV kV doc pm an cdv ct), osl⟩) (hcd : PySem.W.codeIn K cdv "Register.__init__" = true)
    (hb : KSt.BStar K (PySem.W.fnOf "__init__" "Register.__init__" (defArgs s_Register___init__) (defBody s_Register___init__) (defScope s_Register___init__) dV kV doc pm an cdv ct) ["self", "name", "whole"] "fields" 2 ks g)
    (hg : ∀ {vs us zs ws}, Vals vs us → Vals zs ws → Vals (gV vs zs) (g us ws)) (hgl : ∀ vs zs, vs.length = 2 → zs.length = ks.length → (gV vs zs).length = 3)
    (T : TxtRg K mg CK CF CR CQ) (c_is_name : KB.Callee P w K mg base CX0 2 "is_name" ["value"] spIsName) (e_InvalidMap : KX2.ErrMk2 P w K mg base eM "InvalidMap" "name" "reason") :
    KSt.FnK P w K mg base (L2.CX P w) 4 f ks (KSt.spStar (spRegB K CK CF eM) 2 gV) := by
  refine KSt.fn_starK (ps := ["self", "name", "whole"]) (pv := "fields") lk hcd sc_Register___init__ StX.cxUp hb hg hgl (fun A outer s H vs Q E hr h => ?_)
  obtain ⟨p, dx, t, C, v0, vw, items, t0, tw, ths, rfl, hp, rc, ht, h0, sm, hw, hi, li, x1, q⟩ := h
  refine ⟨_, (pss_cons (ps_if (pt_not (pt_val (pe_callC c_is_name (hr.mono (by decide)) (by rfl) pass0 (pa_cons (pv 1) pa_nil)))) (pss_one (ps_raise rfl KL.def_takes (KX2.pmkC2 e_InvalidMap (hr.mono (by decide)) (by rfl) (pa_cons (pv 1) (pa_cons pe_str pa_nil)))))
 pss_nil)
 (pss_cons (ps_if (pt_not (pt_val (pe_callB (cr_all rfl) (by rfl) T.z_all (by decide +kernel) (pa_cons (pe_lc (own := [("field", 4)]) (g := gName 4) (tt := tYes) (by rfl) sc_Register___init__.nd (pi_tup (pv 3)) (blkOk_by (own := [("field", 4)]) (N := ["self", "name", "whole", "fields", "field"]) (sc := defScope s_Register___init__) (by decide +kernel)) (fun _ _ _ _ _ => (pg_name (i := 4) sc_Register___init__.nd rfl (by first | exact Or.inl rfl | exact Or.inr rfl))) (fun _ _ _ _ _ => pts_nil) (fun _ _ _ _ _ => (pe_callB (KIx.call_isiW K rfl) (by rfl) T.z_isinstance (by decide +kernel) (pa_cons (pv 4) (pa_cons (pe_glob (v := .ref _) (by rfl) T.mg_Field rfl) pa_nil))))) pa_nil)))) (pss_one (ps_raise rfl KL.def_takes (KX2.pmkC2 e_InvalidMap (hr.mono (by decide)) (by rfl) (pa_cons (pv 1) (pa_cons pe_str pa_nil)))))
 pss_nil)
 (pss_cons (ps_if (PW.pt (pw_and (pt_cmpR KSt.op_notB (pv 2) pe_bl (nomark _)) (pw_and1 (pt_cmpR KSt.op_notB (pv 2) pe_bl (nomark _))))) (pss_one (ps_raise rfl KL.def_takes (KX2.pmkC2 e_InvalidMap (hr.mono (by decide)) (by rfl) (pa_cons (pv 1) (pa_cons pe_str pa_nil)))))
 pss_nil)
 (pss_cons (ps_fld (pv 0) (pv 1) rfl)
 (pss_cons (ps_fld (pv 0) (pv 3) rfl)
 (pss_one (ps_fld (pv 0) (pv 2) rfl))))))), at_start (σ := [some (.ref p), some v0, some vw, some (.ref t), none]) rfl ?_⟩
  have eK : (cxOf (L2.CX P w) P w K mg base ["self", "name", "whole", "fields", "field"] "Register.__init__" (defScope s_Register___init__) f cdv A outer s H E).K = K := rfl
  try simp only [eK]
  walk_at "rd"
  refine ⟨v0, t0, rfl, h0, sm, fun H1 s1 => ?_⟩
  walk_at "rd"
  refine r_iteBN (fun z => ?_) (fun z => ?_)
  · walk_at "rd"
    refine KX2.r_raise2 (KX2.mono_v _) KX2.mono_c ?_
    walk_at "rd"
    exact fun d H' s' hd => x1 "name" (if_pos z) d H' (Keep.same (s1.trans s')) hd
  walk_at "rd"
  have hi1 := hi.up s1
  refine ⟨t, rfl, ⟨_, SqT.of (s1 _ _ ht)⟩, lc_all (walk_tup (xs := items)) (j := 4) (fun i => items.getD i .non) (fun _ => true) (fun i => .bl (ths.getD i (.tr (.sc .non))).isF) (by omega) (fun i H x H' hi y => yat y) (fun H' s => SqT.of (s _ _ (s1 _ _ ht))) (fun x => rfl) (fun i H' hi s QT q => q _ (Same.refl _)) (fun i H' hi2 _ s2 Q2 q2 => ?_) (fun D H2 nD s2 eD => ?_)⟩
  · obtain ⟨v, th, e1, e2, e3, r⟩ := hi1.getD hi2
    walk_at "rd"
    rw [List.getD_eq_getElem?_getD, e1]
    refine r_isF T (r.up s2) ?_
    rw [e3] at q2
    exact q2 _ (Same.refl _)
  rw [hi.len, given_bl ths (.tr (.sc .non)) Th.isF] at eD
  refine ⟨D, _, rfl, SqL.of eD, ?_⟩
  rw [all_id]
  have s12 := s1.trans s2
  walk_at "rd"
  refine r_iteBN (fun z2 => ?_) (fun z2 => ?_)
  · walk_at "rd"
    refine KX2.r_raise2 (KX2.mono_v _) KX2.mono_c ?_
    walk_at "rd"
    exact fun d H' s' hd => x1 "fields" (by unfold regres; rw [if_neg (by rw [z]; simp), if_pos z2]) d H' (Keep.same (s12.trans s')) hd
  have e1 : regres t0 ths tw = if isBl tw = false then .err "whole" else .ok := by unfold regres; rw [if_neg (by rw [z]; simp), if_neg (by rw [z2]; simp)]
  rw [e1] at x1 q
  have hp2 := s12 _ _ hp
  have fin : isBl tw = true → Q .non (upd (upd (upd H2 p (.ins C dx (putF "name" v0 []))) p (.ins C dx (putF "fields" (.ref t) (putF "name" v0 [])))) p (.ins C dx (putF "whole" vw (putF "fields" (.ref t) (putF "name" v0 []))))) := fun e => by
    refine q (by rw [e]; rfl) _ upd_same fun b o eb nb => ?_
    rw [upd_ne nb, upd_ne nb, upd_ne nb]
    exact s12 _ _ eb
  have cl := rc.cl
  have n0 := rc.n_name
  have n1 := rc.n_fields
  have n2 := rc.n_whole
  walk_at "rd"
  refine ⟨_, rfl, ?_⟩
  rcases bl_or hw with ⟨b, rfl, rfl⟩ | ⟨nb, e⟩
  · cases b with
    | true =>
      rw [decide_eq_true rfl]
      walk_at "rd"
      refine ⟨p, C, dx, _, rfl, hp2, cl, n0, (by decide), ?_⟩
      walk_at "rd"
      refine ⟨p, C, dx, _, rfl, upd_same, cl, n1, putF_lt0 (by decide), ?_⟩
      walk_at "rd"
      refine ⟨p, C, dx, _, rfl, upd_same, cl, n2, putF_lt0 (putF_lt (by decide)), ?_⟩
      exact fin rfl
    | false =>
      rw [decide_eq_false (by simp)]
      walk_at "rd"
      refine ⟨_, rfl, ?_⟩
      rw [decide_eq_true rfl]
      walk_at "rd"
      refine ⟨p, C, dx, _, rfl, hp2, cl, n0, (by decide), ?_⟩
      walk_at "rd"
      refine ⟨p, C, dx, _, rfl, upd_same, cl, n1, putF_lt0 (by decide), ?_⟩
      walk_at "rd"
      refine ⟨p, C, dx, _, rfl, upd_same, cl, n2, putF_lt0 (putF_lt (by decide)), ?_⟩
      exact fin rfl
  · rw [nb]
    walk_at "rd"
    refine ⟨_, rfl, ?_⟩
    rw [nb]
    walk_at "rd"
    refine KX2.r_raise2 (KX2.mono_v _) KX2.mono_c ?_
    walk_at "rd"
    exact fun d H' s' hd => x1 "whole" (by rw [e]; rfl) d H' (Keep.same (s12.trans s')) hd
theorem ok_keyB {f CK CF CR CQ eM : Addr} {fd : FuncData} {cda cc D : Addr} {g : List Value → List Value → List Value} (F : KN.SupF P K f fd "__init__" "KeyRegister.__init__" (defArgs s_KeyRegister___init__) (defBody s_KeyRegister___init__) (defScope s_KeyRegister___init__) cda cc D)
    (hb : KSt.BStar K fd ["self", "name"] "constants" 2 [] g) (hg : ∀ {vs us zs ws}, Vals vs us → Vals zs ws → Vals (gSt vs zs) (g us ws))
    (T : TxtRg K mg CK CF CR CQ) (cs : KSt.SupR P w K mg base (L2.CX P w) 4 CQ D "__init__" (fun vs H Q E => spRegD K CK CF eM vs [] H Q E)) (c_is_number : KB.Callee P w K mg base CX0 1 "is_number" ["value", "least", "most"] spIsNum) (e_InvalidMap : KX2.ErrMk2 P w K mg base eM "InvalidMap" "name" "reason") :
    KSt.FnK P w K mg base (L2.CX P w) 6 f [] (spKey CQ eM) := by
  refine KSt.sup_starK (ps := ["self", "name"]) (pv := "constants") F sc_KeyRegister___init__ StX.cxUp hb hg (fun vs zs h _ => h) (fun A outer s H vs Q E hr h => ?_)
  obtain ⟨p, dx, t, v0, items, t0, ts, rfl, hp, ht, h0, sm, hi, li, x1, q⟩ := h
  have hm := T.z_super
  obtain ⟨k1, gGR⟩ := T.g_GREATEST
  obtain ⟨k2, gMC⟩ := T.g_MOST_CONSTANTS
  refine ⟨_, (KN.pssa_cons (KN.psa_expr (KSt.pea_superR F sc_KeyRegister___init__ rfl rfl (by decide) hm cs (hr.mono (by decide)) (passes_call KSt.sup_takes fun _ _ _ _ h => h) (pa_cons (pv 1) pa_nil)) rfl) (KN.pssa_any (pss_cons (ps_if (pt_not (pt_chain op_le op_le pe_int (pe_callB call_len_seq (by rfl) T.z_len (by decide +kernel) (pa_cons (pv 2) pa_nil)) (pe_glob (v := .int _) (by rfl) gMC ⟨_, rfl⟩))) (pss_one (ps_raise rfl KSt.sup_takes (KX2.pmkC2 e_InvalidMap (hr.mono (by decide)) (by rfl) (pa_cons (pv 1) (pa_cons pe_str pa_nil)))))
 pss_nil)
 (pss_cons (ps_if (pt_not (pt_val (pe_callB (cr_all rfl) (by rfl) T.z_all (by decide +kernel) (pa_cons (pe_lc (own := [("constant", 3)]) (g := gName 3) (tt := tYes) (by rfl) sc_KeyRegister___init__.nd (pi_tup (pv 2)) (blkOk_by (own := [("constant", 3)]) (N := ["self", "name", "constants", "constant"]) (sc := defScope s_KeyRegister___init__) (by decide +kernel)) (fun _ _ _ _ _ => (pg_name (i := 3) sc_KeyRegister___init__.nd rfl (by first | exact Or.inl rfl | exact Or.inr rfl))) (fun _ _ _ _ _ => pts_nil) (fun _ _ _ _ _ => (pe_callC c_is_number (hr.mono (by decide)) (by rfl) pass0 (pa_cons (pv 3) (pa_cons pe_int (pa_cons (pe_glob (v := .int _) (by rfl) gGR ⟨_, rfl⟩) pa_nil)))))) pa_nil)))) (pss_one (ps_raise rfl KSt.sup_takes (KX2.pmkC2 e_InvalidMap (hr.mono (by decide)) (by rfl) (pa_cons (pv 1) (pa_cons pe_str pa_nil)))))
 pss_nil)
 (pss_one (ps_fld (pv 0) (pv 2) rfl)))))), at_start (σ := [some (.ref p), some v0, some (.ref t), none]) rfl ?_⟩
  try dsimp only [cx_sup]
  walk_at "rd"
  refine KN.r_sup rfl hp ?_
  walk_at "rd"
  have bad : ∀ {rs : Str}, isNm t0 = true → keyres t0 ts = .err rs → rs = "constants" := fun z e => by
    unfold keyres at e
    rw [if_neg (by rw [z]; simp)] at e
    split at e
    · cases e; rfl
    · split at e
      · cases e; rfl
      · cases e
  refine ⟨[.ref p, v0], [], rfl, rfl, by decide, fun q0 nq => ?_⟩
  have sq := same_new (o := .tup []) nq
  have nqp : q0 ≠ p := (ne_of_none hp nq).symm
  have ntp : t ≠ p := fun z => by rw [z, hp] at ht; cases ht
  refine ⟨p, dx, q0, CQ, v0, .bl false, [], t0, .sc (.bl false), [], rfl, upd_new nq hp, T.qc, upd_same, TrAt.up sq _ _ h0, sm, .sc (.bl _), .nil, by decide, fun rs e d H' kp hd => ?_, fun e H1 e1 kp => ?_⟩
  · have z : isNm t0 = false ∧ rs = "name" := by
      unfold regres at e
      split at e
      · rename_i z; cases e; exact ⟨z, rfl⟩
      · cases e
    obtain ⟨z, rfl⟩ := z
    exact x1 "name" (if_pos z) d H' ((Keep.same sq).tr kp) hd
  have z : isNm t0 = true := by
    unfold regres at e
    split at e
    · cases e
    · rename_i z; exact eq_true_of_ne_false z
  have k1 : Keep p H H1 := (Keep.same sq).tr kp
  have eq1 : H1 q0 = some (.tup []) := kp _ _ upd_same nqp
  have et1 : H1 t = some (.tup items) := k1 _ _ ht ntp
  have ki1 : Ki H H1 := Ki.keep k1 hp
  have hi1 : TrsAt H1 items ts := TrsAt.ki ki1 _ _ hi
  have li2 := hi.len
  have e0 : keyres t0 ts = if decide (1 ≤ ts.length ∧ ts.length ≤ 3) = false then .err "constants" else if ts.all (isNum 0 4294967295) = false then .err "constants" else .ok := by unfold keyres; rw [if_neg (by rw [z]; simp)]
  clear e kp sq nq hi ki1
  walk_at "rd"
  refine KC.r_chain ?_
  walk_at "rd"
  refine ⟨t, items, rfl, .inr (SqT.of et1), ?_⟩
  walk_at "rd"
  refine r_ite2 (fun y1 => ?_) (fun y1 => ?_)
  rotate_left
  · walk_at "rd"
    refine KX2.r_raise2 (KX2.mono_v _) KX2.mono_c ?_
    walk_at "rd"
    exact fun d H' s' hd => x1 "constants" (by rw [e0]; exact if_pos (decide_eq_false (by omega))) d H' (k1.tr (Keep.same s')) hd
  walk_at "rd"
  refine r_iteN2 (fun y2 => ?_) (fun y2 => ?_)
  · walk_at "rd"
    refine KX2.r_raise2 (KX2.mono_v _) KX2.mono_c ?_
    walk_at "rd"
    exact fun d H' s' hd => x1 "constants" (by rw [e0]; exact if_pos (decide_eq_false (by omega))) d H' (k1.tr (Keep.same s')) hd
  rw [decide_eq_true (show 1 ≤ ts.length ∧ ts.length ≤ 3 by omega)] at e0
  simp only [Bool.true_eq_false, if_false] at e0
  walk_at "rd"
  refine ⟨t, rfl, ⟨_, SqT.of et1⟩, lc_all (walk_tup (xs := items)) (j := 3) (fun i => items.getD i .non) (fun _ => true) (fun i => .bl (isNum 0 4294967295 (ts.getD i (.sc .non)))) (by omega) (fun i H x H' hi y => yat y) (fun H' s => SqT.of (s _ _ et1)) (fun x => rfl) (fun i H' hi s QT q => q _ (Same.refl _)) (fun i H' hi2 _ s2 Q2 q2 => ?_) (fun D H2 nD s2 eD => ?_)⟩
  · have e1 := List.getElem?_eq_getElem hi2
    obtain ⟨tv, etv, r⟩ := hi1.get e1
    walk_at "rd"
    rw [List.getD_eq_getElem?_getD, e1]
    refine ⟨_, tv, 0, 4294967295, rfl, TrAt.up s2 _ _ r, ?_⟩
    rw [show ts.getD i (.sc .non) = tv by rw [List.getD_eq_getElem?_getD, etv]; rfl] at q2
    exact q2 _ (Same.refl _)
  rw [li2, given_bl ts (.sc .non) (isNum 0 4294967295)] at eD
  refine ⟨D, _, rfl, SqL.of eD, ?_⟩
  rw [all_id]
  walk_at "rd"
  refine r_iteBN (fun z2 => ?_) (fun z2 => ?_)
  · walk_at "rd"
    refine KX2.r_raise2 (KX2.mono_v _) KX2.mono_c ?_
    walk_at "rd"
    exact fun d H' s' hd => x1 "constants" (by rw [e0]; exact if_pos z2) d H' (k1.tr (Keep.same (s2.trans s'))) hd
  walk_at "rd"
  refine ⟨p, CQ, dx, _, rfl, s2 _ _ e1, T.qc.cl, T.n_constants, (show 3 < 1000 by decide), ?_⟩
  walk_at "rd"
  refine q (by rw [e0, z2]; rfl) q0 _ upd_same (by rw [upd_ne nqp]; exact s2 _ _ eq1) fun b o eb nb => ?_
  rw [upd_ne nb]
  exact s2 _ _ (k1 _ _ eb nb)

end
end K20


namespace K20
open PySem L2 KB KO KY KV KTr
/-! ### == of registers -/
theorem all_eq {α : Type} [DecidableEq α] (fs gs : List α) : ((List.range (min fs.length gs.length)).all (fun j => decide (fs[j]? = gs[j]?)) && decide (fs.length = gs.length)) = decide (fs = gs) := by
  by_cases e : fs = gs
  · subst e
    simp
  · rw [decide_eq_false e]
    by_cases l : fs.length = gs.length
    · rw [decide_eq_true l, Bool.and_true]
      cases h : (List.range (min fs.length gs.length)).all (fun j => decide (fs[j]? = gs[j]?)) with
      | false => rfl
      | true =>
        refine absurd (List.ext_getElem? fun j => ?_) e
        rw [List.all_eq_true] at h
        by_cases hj : j < fs.length
        · exact of_decide_eq_true (h j (List.mem_range.mpr (by omega)))
        · rw [List.getElem?_eq_none (by omega), List.getElem?_eq_none (by omega)]
    · rw [decide_eq_false l, Bool.and_false]
theorem eqT_shaped2 (ns : List Int) : SeqAt.shaped (.tuple (ns.map PyData.int)) = true := KB.eqT_shaped ns
theorem r_eqIntsT {K : PySem.W.Frag} {H : Hp} {Q : VK} {a b : Addr} {ns ms : List Int} (h : SqT K H a (ns.map V.int)) (h' : SqT K H b (ms.map V.int)) (q : Q (.bl (decide (ns = ms))) H) : rEqD K (.ref a) (.ref b) H Q :=
  ⟨_, _, .tup h (dp_ints ns), .tup h' (dp_ints ms), KB.eqT_shaped ns, KB.eqT_shaped ms, (show Q (.bl (PyData.eqvAll (ns.map PyData.int) (ms.map PyData.int))) H by rw [eqv_ints]; exact q)⟩
structure RegOps (P : Program) (w : World) (K : PySem.W.Frag) (mg : Str → Option Value) (base : Heap) (CK CF CR CQ : Addr) : Prop where
  eqR : KO.OwnM P w K mg base 4 CR "__eq__" ["self", "other"] (spEqR CK CF CR)
  eqQ : KO.OwnM P w K mg base 4 CQ "__eq__" ["self", "other"] (spEqQ CR CQ)
  neR : KSt.OwnNeK P w K mg base 4 CR ["self", "other"] (spEqR CK CF CR)
  neQ : KSt.OwnNeK P w K mg base 4 CQ ["self", "other"] (spEqQ CR CQ)
  nfR : PySem.W.notFirst K CR (.ref CR) = true
  nfRs : PySem.W.notFirst K CR (.type "str") = true
  nfQ : PySem.W.notFirst K CQ (.ref CQ) = true
  nfQR : PySem.W.notFirst K CQ (.ref CR) = true
  nfQs : PySem.W.notFirst K CQ (.type "str") = true
  sub : PySem.W.subIn K (.ref CQ) (.ref CR) = some true
  ne : CR ≠ CQ
def rEqReg (CK CF CR CQ : Addr) : R2 := fun x y H Q => ∃ p a, x = .ref p ∧ RgAt CK CF CR CQ H p a ∧ ((∃ q b, y = .ref q ∧ RgAt CK CF CR CQ H q b ∧ ∀ H', Same H H' → Q (.bl (decide (a = b))) H') ∨ ∃ z, y = .str z ∧ Q (.bl false) H)
def RgV.isKey : RgV → Bool
  | .reg .. => false
  | .key .. => true
def rNeReg (CK CF CR CQ : Addr) : R2 := fun x y H Q => ∃ p a q b, x = .ref p ∧ y = .ref q ∧ RgAt CK CF CR CQ H p a ∧ RgAt CK CF CR CQ H q b ∧ a.isKey = b.isKey ∧ ∀ H', Same H H' → Q (.bl (!decide (a = b))) H'
theorem RegOps.op_eq {X : Cx} {CK CF CR CQ : Addr} (R : RegOps X.prog X.w X.K X.mg X.base CK CF CR CQ) {k : Nat} (room : Room (k + 4) X.A) : OpR X (compareOp .Eq) (rEqReg CK CF CR CQ) := by
  have rm := room.mono (show 4 ≤ k + 4 by omega)
  intro pins st σ h x y v u Z inv rx ry pre
  obtain ⟨p, a, rfl, ha, ⟨q, b, rfl, hb, z⟩ | ⟨zz, rfl, z⟩⟩ := pre
  · cases a with
    | reg nm fs wh =>
      obtain ⟨dx, t, items, h1, h2, h3⟩ := ha
      cases b with
      | reg mn gs hw =>
        obtain ⟨dy, u', jt, g1, g2, g3⟩ := hb
        refine KO.op_eqO R.eqR rm pins st σ h _ _ v u Z inv rx ry ⟨p, dx, _, q, CR, dy, _, rfl, rfl, h1, g1, R.nfR, .inl ⟨p, q, dx, t, dy, u', items, jt, nm, mn, fs, gs, wh, hw, rfl, h1, h2, h3, g1, g2, g3, fun H' s => ?_⟩⟩
        rw [show decide (nm = mn ∧ fs = gs ∧ wh = hw) = decide (RgV.reg nm fs wh = RgV.reg mn gs hw) from decide_eq_decide.mpr (by simp)]
        exact z H' s
      | key mn ds =>
        obtain ⟨dy, u', c, g1, g2, g3⟩ := hb
        refine KSt.op_eqRefl R.eqQ R.ne R.sub rm pins st σ h _ _ v u Z inv rx ry ⟨p, dx, _, q, dy, _, rfl, rfl, h1, g1, q, dy, u', c, mn, ds, .ref p, rfl, g1, g3, .inr (.inl ⟨p, dx, _, rfl, h1, ?_⟩)⟩
        rw [show false = decide (RgV.reg nm fs wh = RgV.key mn ds) from (decide_eq_false (by simp)).symm]
        exact z _ (Same.refl _)
    | key nm cs =>
      obtain ⟨dx, t, c, h1, h2, h3⟩ := ha
      cases b with
      | reg mn gs hw =>
        obtain ⟨dy, u', jt, g1, g2, g3⟩ := hb
        refine KO.op_eqO R.eqQ rm pins st σ h _ _ v u Z inv rx ry ⟨p, dx, _, q, CR, dy, _, rfl, rfl, h1, g1, R.nfQR, p, dx, t, c, nm, cs, .ref q, rfl, h1, h3, .inr (.inl ⟨q, dy, _, rfl, g1, ?_⟩)⟩
        rw [show false = decide (RgV.key nm cs = RgV.reg mn gs hw) from (decide_eq_false (by simp)).symm]
        exact z _ (Same.refl _)
      | key mn ds =>
        obtain ⟨dy, u', c2, g1, g2, g3⟩ := hb
        refine KO.op_eqO R.eqQ rm pins st σ h _ _ v u Z inv rx ry ⟨p, dx, _, q, CQ, dy, _, rfl, rfl, h1, g1, R.nfQ, p, dx, t, c, nm, cs, .ref q, rfl, h1, h3, .inl ⟨q, dy, u', c2, mn, ds, rfl, g1, g3, fun H' s => ?_⟩⟩
        rw [show decide (nm = mn ∧ cs = ds) = decide (RgV.key nm cs = RgV.key mn ds) from decide_eq_decide.mpr (by simp)]
        exact z H' s
  · cases a with
    | reg nm fs wh =>
      obtain ⟨dx, t, items, h1, h2, h3⟩ := ha
      exact KL.op_eqOth R.eqR rm pins st σ h _ _ v u Z inv rx ry ⟨p, dx, _, "str", rfl, h1, .str _, .inl rfl, R.nfRs, .inr ⟨p, zz, rfl, z⟩⟩
    | key nm cs =>
      obtain ⟨dx, t, c, h1, h2, h3⟩ := ha
      exact KL.op_eqOth R.eqQ rm pins st σ h _ _ v u Z inv rx ry ⟨p, dx, _, "str", rfl, h1, .str _, .inl rfl, R.nfQs, p, dx, t, c, nm, cs, .str zz, rfl, h1, h3, .inr (.inr ⟨zz, rfl, z⟩)⟩
theorem RegOps.op_ne {X : Cx} {CK CF CR CQ : Addr} (R : RegOps X.prog X.w X.K X.mg X.base CK CF CR CQ) {k : Nat} (room : Room (k + 5) X.A) : OpR X (compareOp .NotEq) (rNeReg CK CF CR CQ) := by
  have rm := room.mono (show 5 ≤ k + 5 by omega)
  intro pins st σ h x y v u Z inv rx ry pre
  obtain ⟨p, a, q, b, rfl, rfl, ha, hb, ek, z⟩ := pre
  cases a with
  | reg nm fs wh =>
    cases b with
    | reg mn gs hw =>
      obtain ⟨dx, t, items, h1, h2, h3⟩ := ha
      obtain ⟨dy, u', jt, g1, g2, g3⟩ := hb
      refine KSt.op_neK R.neR rm pins st σ h _ _ v u Z inv rx ry ⟨p, dx, _, q, dy, _, rfl, rfl, h1, g1, .inl ⟨p, q, dx, t, dy, u', items, jt, nm, mn, fs, gs, wh, hw, rfl, h1, h2, h3, g1, g2, g3, fun H' s => ⟨_, rfl, ?_⟩⟩⟩
      rw [show decide (nm = mn ∧ fs = gs ∧ wh = hw) = decide (RgV.reg nm fs wh = RgV.reg mn gs hw) from decide_eq_decide.mpr (by simp)]
      exact z H' s
    | key => cases ek
  | key nm cs =>
    cases b with
    | reg => cases ek
    | key mn ds =>
      obtain ⟨dx, t, c, h1, h2, h3⟩ := ha
      obtain ⟨dy, u', c2, g1, g2, g3⟩ := hb
      refine KSt.op_neK R.neQ rm pins st σ h _ _ v u Z inv rx ry ⟨p, dx, _, q, dy, _, rfl, rfl, h1, g1, p, dx, t, c, nm, cs, .ref q, rfl, h1, h3, .inl ⟨q, dy, u', c2, mn, ds, rfl, g1, g3, fun H' s => ⟨_, rfl, ?_⟩⟩⟩
      rw [show decide (nm = mn ∧ cs = ds) = decide (RgV.key nm cs = RgV.key mn ds) from decide_eq_decide.mpr (by simp)]
      exact z H' s
def numOk (cs : List Int) : Prop := ∀ c ∈ cs, 0 ≤ c ∧ c ≤ 4294967295
def spRegOf (K : PySem.W.Frag) (CK CF CR CQ : Addr) : Sp := fun vs H Q _ => ∃ (c : V) (L : Addr) (nm : Str) (items : List V) (fs : List FdV) (wh : Bool), vs = [c, .str nm, .ref L, .bl wh] ∧ NmS nm ∧ (SqT K H L items ∨ SqL K H L items) ∧ FsAt CK CF H items fs ∧ items.length ≤ 1000 ∧ ∀ p H', RgAt CK CF CR CQ H' p (.reg nm fs wh) → Same H H' → Q (.ref p) H'
def spKeyOf (K : PySem.W.Frag) (CK CF CR CQ : Addr) : Sp := fun vs H Q _ => ∃ (c : V) (L : Addr) (nm : Str) (cs : List Int), vs = [c, .str nm, .ref L] ∧ NmS nm ∧ (SqT K H L (cs.map V.int) ∨ SqL K H L (cs.map V.int)) ∧ 1 ≤ cs.length ∧ cs.length ≤ 3 ∧ numOk cs ∧ ∀ p H', RgAt CK CF CR CQ H' p (.key nm cs) → Same H H' → Q (.ref p) H'
theorem reg_ok {nm : Str} {fs : List FdV} {wh : Bool} (h : NmS nm) : regres (.sc (.str nm)) (fs.map Th.fld) (.sc (.bl wh)) = .ok := by
  unfold regres
  rw [show isNm (.sc (.str nm)) = true from h, show (fs.map Th.fld).all Th.isF = true by simp [Th.isF]]
  rfl
theorem key_ok {nm : Str} {cs : List Int} (h : NmS nm) (l1 : 1 ≤ cs.length) (l3 : cs.length ≤ 3) (n : numOk cs) : keyres (.sc (.str nm)) (cs.map fun c => .sc (.int c)) = .ok := by
  unfold keyres
  rw [show isNm (.sc (.str nm)) = true from h, List.length_map, decide_eq_true (show 1 ≤ cs.length ∧ cs.length ≤ 3 from ⟨l1, l3⟩), show (cs.map fun c => Tr.sc (.int c)).all (isNum 0 4294967295) = true by
    rw [List.all_map, List.all_eq_true]
    exact fun c m => decide_eq_true (n c m)]
  rfl
theorem trs_ints {H : Hp} : ∀ cs : List Int, TrsAt H (cs.map V.int) (cs.map fun c => .sc (.int c))
  | [] => .nil
  | c :: cs => .cons (.sc (.int c)) (trs_ints cs)
theorem nm_sm {z : Str} (h : NmS z) : Sm (.sc (.str z)) := .sc _ fun _ e => by cases e; exact Nat.le_trans h.len (by decide)


section
variable {P : Program} {w : World} {K : PySem.W.Frag} {mg : Str → Option Value} {base : Heap}
theorem ok_eqR {f CK CF CR CQ : Addr} {fd : FuncData} (F : Fun K "__eq__" "Register.__eq__" s_Register___eq__ f fd) (T : TxtRg K mg CK CF CR CQ) (c_Register_is_key : KB.CalleeM P w K mg base CX0 1 CR "is_key" ["self"] (spIsKey CR false)) (eq_Field : KO.OwnM P w K mg base 2 CF "__eq__" ["self", "other"] (spEqF CK CF)) : FnOk P w K mg base CX0 4 f fd ["self", "other"] (spEqR CK CF CR) := by
  refine F.ok sc_Register___eq__ (fun vs H Q E h => ?_) (fun cdv A outer s H vs Q E hr h => ?_)
  · rcases h with ⟨p, q, dx, t, dy, u, items, jt, nm, mn, fs, gs, wh, hw, rfl, _⟩ | ⟨p, z, rfl, _⟩ <;> rfl
  have cl := T.rc.cl
  have n0 := T.rc.n_name
  have n1 := T.rc.n_fields
  have n2 := T.rc.n_whole
  rcases h with ⟨p, q, dx, t, dy, u, items, jt, nm, mn, fs, gs, wh, hw, rfl, hp, ht, hf, hq, hu, hg, z⟩ | ⟨p, zz, rfl, z⟩
  · refine ⟨_, (pss_one (ps_ret (pe_and (pe_callB call_isi (by rfl) T.z_isinstance (by decide +kernel) (pa_cons (pv 1) (pa_cons (pe_glob (v := .ref _) (by rfl) T.mg_Register rfl) pa_nil))) (pe_and (pe_not (pe_methC0 c_Register_is_key (pv 1) (hr.mono (by decide)) pass0)) (pe_and (pe_not (pe_methC0 c_Register_is_key (pv 0) (hr.mono (by decide)) pass0)) (pe_and (pe_cmpR op_eq (pe_fld (pv 0) rfl) (pe_fld (pv 1) rfl) (nomark _)) (pe_and (pe_cmpR (KSt.op_eqTupO eq_Field (hr.mono (by decide))) (pe_fld (pv 0) rfl) (pe_fld (pv 1) rfl) (nomark _)) (pe_one (pe_cmpR op_eq (pe_fld (pv 0) rfl) (pe_fld (pv 1) rfl) (nomark _)))))))))), at_start (σ := [some (.ref p), some (.ref q)]) rfl ?_⟩
    try dsimp only [cx_K]
    walk_at "rd"
    refine ⟨_, _, _, _, true, rfl, .own CR, T.tyR hq, T.isRR, ?_⟩
    walk_at "rd"
    refine ⟨q, dy, _, rfl, hq, rfl, ?_⟩
    walk_at "rd"
    refine ⟨q, dy, _, rfl, hq, ?_⟩
    walk_at "rd"
    refine ⟨p, dx, _, rfl, hp, rfl, ?_⟩
    walk_at "rd"
    refine ⟨p, dx, _, rfl, hp, ?_⟩
    refine ⟨_, rfl, _, rfl, ?_⟩
    rw [show (!false) = true from rfl, if_pos rfl]
    walk_at "rd"
    refine r_iteS2 (fun e => ?_) (fun e => ?_)
    · subst e
      walk_at "rd"
      refine ⟨t, u, items, jt, fun j => decide (fs[j]? = gs[j]?), rfl, rfl, SqT.of ht, SqT.of hu, fun j a b ea eb => ?_, fun H1 s1 => ?_⟩
      · obtain ⟨pa, x, rfl, ex, fx⟩ := hf.get ea
        obtain ⟨pb, y, rfl, ey, fy⟩ := hg.get eb
        have er : decide (fs[j]? = gs[j]?) = decide (x = y) := by rw [ex, ey]; exact decide_eq_decide.mpr (by simp)
        have fx' := fx
        have fy' := fy
        obtain ⟨d1, k1, h1, _⟩ := fx'
        obtain ⟨d2, k2, h2, _⟩ := fy'
        refine .inr ⟨pa, d1, _, pb, CF, d2, _, rfl, rfl, h1, h2, T.nfF, fun e2 => ?_, fun H' s' Q2 q2 => .inl ⟨pa, pb, x, y, rfl, fx.up s', fy.up s', ?_⟩⟩
        · subst e2
          exact er.trans (decide_eq_true (fx.det fy))
        · exact KB.val_to (q2 _ (Same.refl _)) (congrArg V.bl er)
      · rw [hf.len, hg.len, all_eq]
        refine ⟨_, rfl, ?_⟩
        refine r_ite2 (fun e2 => ?_) (fun e2 => ?_)
        · walk_at "rd"
          have hp1 := s1 _ _ hp
          have hq1 := s1 _ _ hq
          walk_at "rd"
          rw [show decide (V.bl wh = V.bl hw) = decide (nm = nm ∧ fs = gs ∧ wh = hw) from decide_eq_decide.mpr (by simp [e2])]
          exact z _ s1
        · rw [show false = decide (nm = nm ∧ fs = gs ∧ wh = hw) from (decide_eq_false fun k => e2 k.2.1).symm]
          exact z _ s1
    · rw [show false = decide (nm = mn ∧ fs = gs ∧ wh = hw) from (decide_eq_false fun k => e k.1).symm]
      exact z _ (Same.refl _)
  · refine ⟨_, (pss_one (ps_ret (pe_and (pe_callB call_isi (by rfl) T.z_isinstance (by decide +kernel) (pa_cons (pv 1) (pa_cons (pe_glob (v := .ref _) (by rfl) T.mg_Register rfl) pa_nil))) (pe_and (pe_not (pe_methC0 c_Register_is_key (pv 1) (hr.mono (by decide)) pass0)) (pe_and (pe_not (pe_methC0 c_Register_is_key (pv 0) (hr.mono (by decide)) pass0)) (pe_and (pe_cmpR op_eq (pe_fld (pv 0) rfl) (pe_fld (pv 1) rfl) (nomark _)) (pe_and (pe_cmpR (KSt.op_eqTupO eq_Field (hr.mono (by decide))) (pe_fld (pv 0) rfl) (pe_fld (pv 1) rfl) (nomark _)) (pe_one (pe_cmpR op_eq (pe_fld (pv 0) rfl) (pe_fld (pv 1) rfl) (nomark _)))))))))), at_start (σ := [some (.ref p), some (.str zz)]) rfl ?_⟩
    try dsimp only [cx_K]
    walk_at "rd"
    refine ⟨_, _, _, _, false, rfl, .own CR, .base (.str zz), T.isSR, ?_⟩
    walk_at "rd"
    exact z
theorem ok_eqQ {f CK CF CR CQ : Addr} {fd : FuncData} (F : Fun K "__eq__" "KeyRegister.__eq__" s_KeyRegister___eq__ f fd) (T : TxtRg K mg CK CF CR CQ) : FnOk P w K mg base CX0 4 f fd ["self", "other"] (spEqQ CR CQ) := by
  refine F.ok sc_KeyRegister___eq__ (fun vs H Q E h => ?_) (fun cdv A outer s H vs Q E hr h => ?_)
  · obtain ⟨p, dx, t, c, nm, cs, y, rfl, _⟩ := h
    rfl
  have cl := T.qc.cl
  have n0 := T.qc.n_name
  have n1 := T.n_constants
  obtain ⟨p, dx, t, c, nm, cs, y, rfl, hp, hc, h⟩ := h
  refine ⟨_, (pss_one (ps_ret (pe_and (pe_callB call_isi (by rfl) T.z_isinstance (by decide +kernel) (pa_cons (pv 1) (pa_cons (pe_glob (v := .ref _) (by rfl) T.mg_KeyRegister rfl) pa_nil))) (pe_and (pe_cmpR op_eq (pe_fld (pv 0) rfl) (pe_fld (pv 1) rfl) (nomark _)) (pe_one (pe_cmpR (op_eqD hr.units) (pe_fld (pv 0) rfl) (pe_fld (pv 1) rfl) (nomark _))))))), at_start (σ := [some (.ref p), some y]) rfl ?_⟩
  try dsimp only [cx_K]
  walk_at "rd"
  rcases h with ⟨q, dy, u, e, mn, ds, rfl, hq, he, z⟩ | ⟨q, dy, fs, rfl, hq, z⟩ | ⟨zz, rfl, z⟩
  · refine ⟨_, _, _, _, true, rfl, .own CQ, T.tyQ hq, T.isQQ, ?_⟩
    walk_at "rd"
    refine r_iteS2 (fun e => ?_) (fun e => ?_)
    · subst e
      walk_at "rd"
      refine r_eqIntsT (SqT.of hc) (SqT.of he) ?_
      rw [show decide (cs = ds) = decide (nm = nm ∧ cs = ds) from decide_eq_decide.mpr (by simp)]
      exact z _ (Same.refl _)
    · rw [show false = decide (nm = mn ∧ cs = ds) from (decide_eq_false fun k => e k.1).symm]
      exact z _ (Same.refl _)
  · refine ⟨_, _, _, _, false, rfl, .own CQ, T.tyR hq, T.isRQ, ?_⟩
    walk_at "rd"
    exact z
  · refine ⟨_, _, _, _, false, rfl, .own CQ, .base (.str zz), T.isSQ, ?_⟩
    walk_at "rd"
    exact z

end
end K20


namespace K20
open PySem L2 KB KO KY KV KTr
/-! ### registers made anew -/
theorem nm_inv {t : Tr} (h : isNm t = true) : ∃ nm, t = .sc (.str nm) ∧ NmS nm := by
  cases t with
  | sc s =>
    cases s with
    | str nm => exact ⟨nm, rfl, h⟩
    | _ => cases h
  | _ => cases h
theorem bl_inv {t : Tr} (h : isBl t = true) : ∃ b, t = .sc (.bl b) := by
  cases t with
  | sc s =>
    cases s with
    | bl b => exact ⟨b, rfl⟩
    | _ => cases h
  | _ => cases h
theorem regres_ok {t0 tw : Tr} {ths : List Th} (h : regres t0 ths tw = .ok) : isNm t0 = true ∧ ths.all Th.isF = true ∧ isBl tw = true := by
  unfold regres at h
  cases e1 : isNm t0
  · rw [if_pos e1] at h
    cases h
  · rw [if_neg (by rw [e1]; simp)] at h
    cases e2 : ths.all Th.isF
    · rw [if_pos e2] at h
      cases h
    · rw [if_neg (by rw [e2]; simp)] at h
      cases e3 : isBl tw
      · rw [if_pos e3] at h
        cases h
      · exact ⟨rfl, rfl, rfl⟩
theorem num_inv {H : Hp} : ∀ {vs : List V} {ts : List Tr}, TrsAt H vs ts → ts.all (isNum 0 4294967295) = true → ∃ cs : List Int, vs = cs.map V.int ∧ ts = cs.map (fun c => .sc (.int c)) ∧ numOk cs
  | _, _, .nil, _ => ⟨[], rfl, rfl, fun c m => by cases m⟩
  | _, _, .cons (t := t) h r, e => by
    rw [List.all_cons, Bool.and_eq_true] at e
    obtain ⟨cs, e1, e2, e3⟩ := num_inv r e.2
    have e4 := e.1
    cases h with
    | sc s =>
      cases s with
      | int c =>
        refine ⟨c :: cs, by rw [e1]; rfl, by rw [e2]; rfl, fun x m => ?_⟩
        rcases List.mem_cons.mp m with rfl | m
        · exact of_decide_eq_true e4
        · exact e3 x m
      | _ => cases e4
    | _ => cases e4
theorem keyres_ok {t0 : Tr} {ts : List Tr} (h : keyres t0 ts = .ok) : isNm t0 = true ∧ (1 ≤ ts.length ∧ ts.length ≤ 3) ∧ ts.all (isNum 0 4294967295) = true := by
  unfold keyres at h
  cases e1 : isNm t0
  · rw [if_pos e1] at h
    cases h
  · rw [if_neg (by rw [e1]; simp)] at h
    by_cases e2 : 1 ≤ ts.length ∧ ts.length ≤ 3
    · rw [if_neg (by rw [decide_eq_true e2]; simp)] at h
      cases e3 : ts.all (isNum 0 4294967295)
      · rw [if_pos e3] at h
        cases h
      · exact ⟨rfl, e2, rfl⟩
    · rw [if_pos (decide_eq_false e2)] at h
      cases h
theorem fld_inj : ∀ {a b : List FdV}, a.map Th.fld = b.map Th.fld → a = b
  | [], [], _ => rfl
  | x :: a, y :: b, e => by
    rw [List.map_cons, List.map_cons, List.cons.injEq] at e
    rw [Th.fld.inj e.1, fld_inj e.2]
  | [], _ :: _, e => by cases e
  | _ :: _, [], e => by cases e
theorem int_inj : ∀ {a b : List Int}, (a.map fun c => Tr.sc (.int c)) = (b.map fun c => Tr.sc (.int c)) → a = b
  | [], [], _ => rfl
  | x :: a, y :: b, e => by
    rw [List.map_cons, List.map_cons, List.cons.injEq] at e
    rw [Sc.int.inj (Tr.sc.inj e.1), int_inj e.2]
  | [], _ :: _, e => by cases e
  | _ :: _, [], e => by cases e
/-- what making a register promises -/
def RegP (CK CF CR CQ eM : Addr) (v0 : V) (t0 tw : Tr) (ths : List Th) (H : Hp) (Q : VK) (E : XK) : Prop :=
  (∀ rs, regres t0 ths tw = .err rs → ∀ d H', Same H H' → H' d = some (.xd [("reason", .str rs), ("name", v0)]) → E (.ref eM) (some d) H') ∧
  ∀ nm fs wh, v0 = .str nm → t0 = .sc (.str nm) → NmS nm → ths = fs.map Th.fld → tw = .sc (.bl wh) → ∀ p H', RgAt CK CF CR CQ H' p (.reg nm fs wh) → Same H H' → Q (.ref p) H'
def KeyP (CK CF CR CQ eM : Addr) (v0 : V) (t0 : Tr) (ts : List Tr) (H : Hp) (Q : VK) (E : XK) : Prop :=
  (∀ rs, keyres t0 ts = .err rs → ∀ d H', Same H H' → H' d = some (.xd [("reason", .str rs), ("name", v0)]) → E (.ref eM) (some d) H') ∧
  ∀ nm cs, v0 = .str nm → t0 = .sc (.str nm) → NmS nm → ts = cs.map (fun c => .sc (.int c)) → numOk cs → 1 ≤ cs.length → cs.length ≤ 3 → ∀ p H', RgAt CK CF CR CQ H' p (.key nm cs) → Same H H' → Q (.ref p) H'
theorem same_made {H : Hp} {x dx C : Addr} (nx : H x = none) (nd : H dx = none) (ne : dx ≠ x) : Same H (upd (upd H dx (.own x)) x (.ins C dx [])) := (same_new nd).trans (same_new (by rw [upd_ne ne.symm]; exact nx))
theorem same_keep {H H0 H' : Hp} {x : Addr} (nx : H x = none) (s : Same H H0) (k : Keep x H0 H') : Same H H' := fun b o eb => k b o (s b o eb) fun z => by rw [z, nx] at eb; cases eb
theorem reg_newB {K : PySem.W.Frag} {CK CF CR CQ eM : Addr} {H : Hp} {v0 vw : V} {items : List V} {t0 tw : Tr} {ths : List Th} {x dx q : Addr} {Q : VK} {E : XK} (rc : RCls K CR) (nx : H x = none) (nd : H dx = none) (ne : dx ≠ x)
    (nq : upd (upd H dx (.own x)) x (.ins CR dx []) q = none) (hi : ThsAt CK CF H items ths) (h0 : TrAt H v0 t0) (sm : Sm t0) (hw : TrAt H vw tw) (li : items.length ≤ 1000) (h : RegP CK CF CR CQ eM v0 t0 tw ths H Q E) :
    spRegB K CK CF eM [V.ref x, v0, vw, V.ref q] (upd (upd (upd H dx (.own x)) x (.ins CR dx [])) q (.tup items)) (fun v H3 => v = .non ∧ Q (.ref x) H3) E := by
  have s0 : Same H (upd (upd (upd H dx (.own x)) x (.ins CR dx [])) q (.tup items)) := (same_made nx nd ne).trans (same_new nq)
  have nqx : q ≠ x := fun z => by rw [z, upd_same] at nq; cases nq
  refine ⟨x, dx, q, CR, v0, vw, items, t0, tw, ths, rfl, upd_new nq upd_same, rc, upd_same, TrAt.up s0 _ _ h0, sm, TrAt.up s0 _ _ hw, hi.up s0, li, fun rs e d H' kp hd => h.1 rs e d H' (same_keep nx s0 kp) hd, fun e H' hp kp => ⟨rfl, ?_⟩⟩
  obtain ⟨e1, e2, e3⟩ := regres_ok e
  obtain ⟨nm, rfl, nmo⟩ := nm_inv e1
  obtain ⟨wh, rfl⟩ := bl_inv e3
  cases h0
  cases hw
  obtain ⟨fs, hf, rfl⟩ := ths_fs hi e2
  have s1 := same_keep nx s0 kp
  exact h.2 nm fs wh rfl rfl nmo rfl rfl x H' ⟨dx, q, items, hp, kp _ _ upd_same nqx, hf.up s1⟩ s1
theorem reg_new {K : PySem.W.Frag} {CK CF CR CQ eM : Addr} {H : Hp} {v0 vw : V} {items : List V} {t0 tw : Tr} {ths : List Th} {x dx : Addr} {Q : VK} {E : XK} (rc : RCls K CR) (nx : H x = none) (nd : H dx = none) (ne : dx ≠ x)
    (hi : ThsAt CK CF H items ths) (h0 : TrAt H v0 t0) (sm : Sm t0) (hw : TrAt H vw tw) (li : items.length ≤ 1000) (h : RegP CK CF CR CQ eM v0 t0 tw ths H Q E) :
    spReg K CK CF eM (V.ref x :: v0 :: items) [vw] (upd (upd H dx (.own x)) x (.ins CR dx [])) (fun v H3 => v = .non ∧ Q (.ref x) H3) E :=
  ⟨[V.ref x, v0], items, rfl, rfl, Nat.le_trans li (by decide), fun q nq => reg_newB rc nx nd ne nq hi h0 sm hw li h⟩
theorem reg_newD {K : PySem.W.Frag} {CK CF CR CQ eM : Addr} {H : Hp} {v0 : V} {items : List V} {t0 : Tr} {ths : List Th} {x dx : Addr} {Q : VK} {E : XK} (rc : RCls K CR) (nx : H x = none) (nd : H dx = none) (ne : dx ≠ x)
    (hi : ThsAt CK CF H items ths) (h0 : TrAt H v0 t0) (sm : Sm t0) (li : items.length ≤ 1000) (h : RegP CK CF CR CQ eM v0 t0 (.sc (.bl false)) ths H Q E) :
    spRegD K CK CF eM (V.ref x :: v0 :: items) [] (upd (upd H dx (.own x)) x (.ins CR dx [])) (fun v H3 => v = .non ∧ Q (.ref x) H3) E :=
  ⟨[V.ref x, v0], items, rfl, rfl, Nat.le_trans li (by decide), fun q nq => reg_newB (vw := .bl false) rc nx nd ne nq hi h0 sm (.sc (.bl _)) li h⟩
theorem key_new {CK CF CR CQ eM : Addr} {H : Hp} {v0 : V} {items : List V} {t0 : Tr} {ts : List Tr} {x dx : Addr} {Q : VK} {E : XK} (nx : H x = none) (nd : H dx = none) (ne : dx ≠ x)
    (hi : TrsAt H items ts) (h0 : TrAt H v0 t0) (sm : Sm t0) (li : items.length ≤ 1000) (h : KeyP CK CF CR CQ eM v0 t0 ts H Q E) :
    spKey CQ eM (V.ref x :: v0 :: items) [] (upd (upd H dx (.own x)) x (.ins CQ dx [])) (fun v H3 => v = .non ∧ Q (.ref x) H3) E := by
  refine ⟨[V.ref x, v0], items, rfl, rfl, Nat.le_trans li (by decide), fun q nq => ?_⟩
  have s0 : Same H (upd (upd (upd H dx (.own x)) x (.ins CQ dx [])) q (.tup items)) := (same_made nx nd ne).trans (same_new nq)
  have nqx : q ≠ x := fun z => by rw [z, upd_same] at nq; cases nq
  refine ⟨x, dx, q, v0, items, t0, ts, rfl, upd_new nq upd_same, upd_same, TrAt.up s0 _ _ h0, sm, TrsAt.up s0 _ _ hi, li, fun rs e d H' kp hd => h.1 rs e d H' (same_keep nx s0 kp) hd, fun e f H' hp hf kp => ⟨rfl, ?_⟩⟩
  obtain ⟨e1, e2, e3⟩ := keyres_ok e
  obtain ⟨nm, rfl, nmo⟩ := nm_inv e1
  cases h0
  obtain ⟨cs, rfl, rfl, no⟩ := num_inv hi e3
  rw [List.length_map] at e2
  have s1 := same_keep nx s0 kp
  exact h.2 nm cs rfl rfl nmo rfl no e2.1 e2.2 x H' ⟨dx, f, q, hp, hf, kp _ _ upd_same nqx⟩ s1
def spLPlain (CK CF CR CQ eM : Addr) : Sp := fun vs H Q E => ∃ (v0 vw : V) (L : Addr) (items : List V) (t0 tw : Tr) (ths : List Th), vs = [v0, .ref L, vw] ∧ H L = some (.lst items) ∧ ThsAt CK CF H items ths ∧ TrAt H v0 t0 ∧ Sm t0 ∧ TrAt H vw tw ∧ items.length ≤ 5 ∧ RegP CK CF CR CQ eM v0 t0 tw ths H Q E
def spLKey (CK CF CR CQ eM : Addr) : Sp := fun vs H Q E => ∃ (v0 : V) (L : Addr) (items : List V) (t0 : Tr) (ts : List Tr), vs = [v0, .ref L] ∧ H L = some (.lst items) ∧ TrsAt H items ts ∧ TrAt H v0 t0 ∧ Sm t0 ∧ items.length ≤ 4 ∧ KeyP CK CF CR CQ eM v0 t0 ts H Q E


section
variable {P : Program} {w : World} {K : PySem.W.Frag} {mg : Str → Option Value} {base : Heap}
theorem ok_regof {f CK CF CR CQ eM : Addr} {fd : FuncData} (F : FunD K "of" "Register.of" (defArgs s_Register_of) (defBody s_Register_of) (defScope s_Register_of) [.bl false] [] f fd) (rc : RCls K CR) (rk_Register_whole : KSt.CalleeIK P w K mg base (L2.CX P w) 4 CR "Register" ["whole"] (spReg K CK CF eM)) : FnOk P w K mg base CX0 6 f fd ["cls", "name", "fields", "whole"] (spRegOf K CK CF CR CQ) := by
  refine F.ok sc_Register_of (fun vs H Q E h => ?_) (fun cdv A outer s H vs Q E hr h => ?_)
  · obtain ⟨c, L, nm, items, fs, wh, rfl, _⟩ := h
    rfl
  · obtain ⟨c, L, nm, items, fs, wh, rfl, ok, hL, hf, li, q⟩ := h
    obtain ⟨t', drv, rdg⟩ : ∃ t', PSs (cxOf CX0 P w K mg base ["cls", "name", "fields", "whole"] "Register.of" (defScope s_Register_of) f cdv A outer s H E).nox (defBody s_Register_of) t' ∧ t' { nx := fun _ H' => Q .non H', rt := Q } (start ["cls", "name", "fields", "whole"] [c, .str nm, .ref L, .bl wh]) H := by
      refine ⟨_, (pss_one (ps_ret (KSt.pe_makeRKS rk_Register_whole (hr.mono (by decide)) (by rfl) passL (pa_cons (pv 1) (StX.pa_star (pv 2) pa_nil)) (pk_cons (pv 3) pk_nil)))), at_start (σ := [some c, some (.str nm), some (.ref L), some (.bl wh)]) rfl ?_⟩
      try dsimp only [cx_K]
      walk_at "rd"
      refine KSt.r_makeRK ?_
      walk_at "rd"
      refine ⟨_, rfl, L, items, rfl, hL, ?_⟩
      walk_at "rd"
      refine ⟨rfl, fun x dx nx nd ne => ?_⟩
      rw [List.append_nil]
      refine reg_new (CQ := CQ) rc nx nd ne (fs_ths hf) (.sc (.str nm)) (nm_sm ok) (.sc (.bl wh)) li ⟨fun rs e => ?_, fun n' fs' wh' e1 _ _ e3 e4 p H' hr' s' => ?_⟩
      · rw [reg_ok ok] at e
        cases e
      · cases e1
        cases e4
        rw [← fld_inj e3] at hr'
        exact q p H' hr' s'
    exact ⟨t', drv.nox, rdg⟩
theorem ok_keyof {f CK CF CR CQ eM : Addr} {fd : FuncData} (F : Fun K "of" "KeyRegister.of" s_KeyRegister_of f fd) (r0_KeyRegister : KSt.CalleeIK P w K mg base (L2.CX P w) 6 CQ "KeyRegister" [] (spKey CQ eM)) : FnOk P w K mg base CX0 8 f fd ["cls", "name", "constants"] (spKeyOf K CK CF CR CQ) := by
  refine F.ok sc_KeyRegister_of (fun vs H Q E h => ?_) (fun cdv A outer s H vs Q E hr h => ?_)
  · obtain ⟨c, L, nm, cs, rfl, _⟩ := h
    rfl
  · obtain ⟨c, L, nm, cs, rfl, ok, hL, l1, l3, no, q⟩ := h
    refine ⟨_, (pss_one (ps_ret (KSt.pe_makeRS r0_KeyRegister (hr.mono (by decide)) (by rfl) passL (pa_cons (pv 1) (StX.pa_star (pv 2) pa_nil))))), at_start (σ := [some c, some (.str nm), some (.ref L)]) rfl ?_⟩
    try dsimp only [cx_K]
    walk_at "rd"
    refine KSt.r_makeRK ?_
    walk_at "rd"
    refine ⟨_, rfl, L, _, rfl, hL, ?_⟩
    walk_at "rd"
    refine ⟨rfl, fun x dx nx nd ne => ?_⟩
    rw [List.append_nil]
    refine key_new (CK := CK) (CF := CF) (CR := CR) (CQ := CQ) nx nd ne (trs_ints cs) (.sc (.str nm)) (nm_sm ok) (by rw [List.length_map]; omega) ⟨fun rs e => ?_, fun n' cs' e1 _ _ e3 _ _ _ p H' hr' s' => ?_⟩
    · rw [key_ok ok l1 l3 no] at e
      cases e
    · cases e1
      rw [← int_inj e3] at hr'
      exact q p H' hr' s'
theorem ok_lplain {f CK CF CR CQ eM : Addr} {fd : FuncData} (F : Fun K "_law_plain" "_law_plain" s__law_plain f fd) (T : Txt mg) (rc : RCls K CR) (rk_Register_whole : KSt.CalleeIK P w K mg base (L2.CX P w) 4 CR "Register" ["whole"] (spReg K CK CF eM)) : FnOk P w K mg base (L2.CX P w) 6 f fd ["_law_title", "_law_fields", "_law_full"] (spLPlain CK CF CR CQ eM) := by
  refine F.okX sc__law_plain (fun vs H Q E h => ?_) (fun cdv A outer s H vs Q E hr h => ?_)
  · obtain ⟨v0, vw, L, items, t0, tw, ths, rfl, _⟩ := h
    rfl
  · obtain ⟨v0, vw, L, items, t0, tw, ths, rfl, hL, hi, h0, sm, hw, li, z⟩ := h
    refine ⟨_, (pss_cons (ps_if (pt_cmpR (KSt.op_eqNil hr) (pv 1) (pe_lst pa_nil) (nomark _)) (pss_one (ps_ret (KSt.pe_makeRK rk_Register_whole (hr.mono (by decide)) (by rfl) (passes_call KL.def_takes fun _ _ _ _ h => h) (pa_cons (pv 0) pa_nil) (pk_cons (pv 2) pk_nil))))
 pss_nil)
 (pss_cons (ps_if (pt_cmpR op_eq (pe_callB call_len_seq (by rfl) T.z_len (by decide +kernel) (pa_cons (pv 1) pa_nil)) pe_int (nomark _)) (pss_one (ps_ret (KSt.pe_makeRK rk_Register_whole (hr.mono (by decide)) (by rfl) (passes_call KL.def_takes fun _ _ _ _ h => h) (pa_cons (pv 0) (pa_cons (pe_ix ix_list (pv 1) pe_int (fun _ _ => rfl)) pa_nil)) (pk_cons (pv 2) pk_nil))))
 pss_nil)
 (pss_cons (ps_if (pt_cmpR op_eq (pe_callB call_len_seq (by rfl) T.z_len (by decide +kernel) (pa_cons (pv 1) pa_nil)) pe_int (nomark _)) (pss_one (ps_ret (KSt.pe_makeRK rk_Register_whole (hr.mono (by decide)) (by rfl) (passes_call KL.def_takes fun _ _ _ _ h => h) (pa_cons (pv 0) (pa_cons (pe_ix ix_list (pv 1) pe_int (fun _ _ => rfl)) (pa_cons (pe_ix ix_list (pv 1) pe_int (fun _ _ => rfl)) pa_nil))) (pk_cons (pv 2) pk_nil))))
 pss_nil)
 (pss_cons (ps_if (pt_cmpR op_eq (pe_callB call_len_seq (by rfl) T.z_len (by decide +kernel) (pa_cons (pv 1) pa_nil)) pe_int (nomark _)) (pss_one (ps_ret (KSt.pe_makeRK rk_Register_whole (hr.mono (by decide)) (by rfl) (passes_call KL.def_takes fun _ _ _ _ h => h) (pa_cons (pv 0) (pa_cons (pe_ix ix_list (pv 1) pe_int (fun _ _ => rfl)) (pa_cons (pe_ix ix_list (pv 1) pe_int (fun _ _ => rfl)) (pa_cons (pe_ix ix_list (pv 1) pe_int (fun _ _ => rfl)) pa_nil)))) (pk_cons (pv 2) pk_nil))))
 pss_nil)
 (pss_cons (ps_if (pt_cmpR op_eq (pe_callB call_len_seq (by rfl) T.z_len (by decide +kernel) (pa_cons (pv 1) pa_nil)) pe_int (nomark _)) (pss_one (ps_ret (KSt.pe_makeRK rk_Register_whole (hr.mono (by decide)) (by rfl) (passes_call KL.def_takes fun _ _ _ _ h => h) (pa_cons (pv 0) (pa_cons (pe_ix ix_list (pv 1) pe_int (fun _ _ => rfl)) (pa_cons (pe_ix ix_list (pv 1) pe_int (fun _ _ => rfl)) (pa_cons (pe_ix ix_list (pv 1) pe_int (fun _ _ => rfl)) (pa_cons (pe_ix ix_list (pv 1) pe_int (fun _ _ => rfl)) pa_nil))))) (pk_cons (pv 2) pk_nil))))
 pss_nil)
 (pss_one (ps_ret (KSt.pe_makeRK rk_Register_whole (hr.mono (by decide)) (by rfl) (passes_call KL.def_takes fun _ _ _ _ h => h) (pa_cons (pv 0) (pa_cons (pe_ix ix_list (pv 1) pe_int (fun _ _ => rfl)) (pa_cons (pe_ix ix_list (pv 1) pe_int (fun _ _ => rfl)) (pa_cons (pe_ix ix_list (pv 1) pe_int (fun _ _ => rfl)) (pa_cons (pe_ix ix_list (pv 1) pe_int (fun _ _ => rfl)) (pa_cons (pe_ix ix_list (pv 1) pe_int (fun _ _ => rfl)) pa_nil)))))) (pk_cons (pv 2) pk_nil))))))))), at_start (σ := [some v0, some (.ref L), some vw]) rfl ?_⟩
    try dsimp only [KC.cx_KX]
    walk_at "rd"
    refine ⟨by decide, fun p np => ?_⟩
    have sp := same_new (o := .lst []) np
    refine ⟨L, p, items, rfl, rfl, SqL.of (sp _ _ hL), SqL.of upd_same, _, rfl, ?_⟩
    replace hL := sp _ _ hL
    replace hi := hi.up sp
    replace h0 := TrAt.up sp _ _ h0
    replace hw := TrAt.up sp _ _ hw
    replace z : RegP CK CF CR CQ eM v0 t0 tw ths (upd H p (.lst [])) Q E := ⟨fun rs e d H' s' => z.1 rs e d H' (sp.trans s'), fun nm fs wh a1 a2 a3 a4 a5 q H' hr' s' => z.2 nm fs wh a1 a2 a3 a4 a5 q H' hr' (sp.trans s')⟩
    generalize upd H p (.lst []) = H1 at *
    rcases items with _ | ⟨a0, _ | ⟨a1, _ | ⟨a2, _ | ⟨a3, _ | ⟨a4, _ | ⟨a5, r⟩⟩⟩⟩⟩⟩
    · walk_at "rd"
      refine r_iteT rfl ?_
      walk_at "rd"
      refine KSt.r_makeRK ?_
      walk_at "rd"
      exact ⟨rfl, fun x dx nx nd ne => reg_new (CQ := CQ) rc nx nd ne hi h0 sm hw (Nat.le_trans li (by decide)) z⟩
    · walk_at "rd"
      refine r_iteF (by simp) ?_
      walk_at "rd"
      refine r_iteT rfl ?_
      walk_at "rd"
      refine KSt.r_makeRK ?_
      walk_at "rd"
      exact ⟨rfl, fun x dx nx nd ne => reg_new (CQ := CQ) rc nx nd ne hi h0 sm hw (Nat.le_trans li (by decide)) z⟩
    · walk_at "rd"
      refine r_iteF (by simp) ?_
      walk_at "rd"
      refine r_iteF (by simp) ?_
      walk_at "rd"
      refine r_iteT rfl ?_
      walk_at "rd"
      refine KSt.r_makeRK ?_
      walk_at "rd"
      exact ⟨rfl, fun x dx nx nd ne => reg_new (CQ := CQ) rc nx nd ne hi h0 sm hw (Nat.le_trans li (by decide)) z⟩
    · walk_at "rd"
      refine r_iteF (by simp) ?_
      walk_at "rd"
      refine r_iteF (by simp) ?_
      walk_at "rd"
      refine r_iteF (by simp) ?_
      walk_at "rd"
      refine r_iteT rfl ?_
      walk_at "rd"
      refine KSt.r_makeRK ?_
      walk_at "rd"
      exact ⟨rfl, fun x dx nx nd ne => reg_new (CQ := CQ) rc nx nd ne hi h0 sm hw (Nat.le_trans li (by decide)) z⟩
    · walk_at "rd"
      refine r_iteF (by simp) ?_
      walk_at "rd"
      refine r_iteF (by simp) ?_
      walk_at "rd"
      refine r_iteF (by simp) ?_
      walk_at "rd"
      refine r_iteF (by simp) ?_
      walk_at "rd"
      refine r_iteT rfl ?_
      walk_at "rd"
      refine KSt.r_makeRK ?_
      walk_at "rd"
      exact ⟨rfl, fun x dx nx nd ne => reg_new (CQ := CQ) rc nx nd ne hi h0 sm hw (Nat.le_trans li (by decide)) z⟩
    · walk_at "rd"
      refine r_iteF (by simp) ?_
      walk_at "rd"
      refine r_iteF (by simp) ?_
      walk_at "rd"
      refine r_iteF (by simp) ?_
      walk_at "rd"
      refine r_iteF (by simp) ?_
      walk_at "rd"
      refine r_iteF (by simp) ?_
      walk_at "rd"
      refine KSt.r_makeRK ?_
      walk_at "rd"
      exact ⟨rfl, fun x dx nx nd ne => reg_new (CQ := CQ) rc nx nd ne hi h0 sm hw (Nat.le_trans li (by decide)) z⟩
    · simp only [List.length_cons] at li
      omega
theorem ok_lkey {f CK CF CR CQ eM : Addr} {fd : FuncData} (F : Fun K "_law_key" "_law_key" s__law_key f fd) (T : Txt mg) (r0_KeyRegister : KSt.CalleeIK P w K mg base (L2.CX P w) 6 CQ "KeyRegister" [] (spKey CQ eM)) : FnOk P w K mg base (L2.CX P w) 8 f fd ["_law_title", "_law_numbers"] (spLKey CK CF CR CQ eM) := by
  refine F.okX sc__law_key (fun vs H Q E h => ?_) (fun cdv A outer s H vs Q E hr h => ?_)
  · obtain ⟨v0, L, items, t0, ts, rfl, _⟩ := h
    rfl
  · obtain ⟨v0, L, items, t0, ts, rfl, hL, hi, h0, sm, li, z⟩ := h
    refine ⟨_, (pss_cons (ps_if (pt_cmpR (KSt.op_eqNil hr) (pv 1) (pe_lst pa_nil) (nomark _)) (pss_one (ps_ret (KSt.pe_makeR0 r0_KeyRegister (hr.mono (by decide)) (by rfl) (passes_call KL.def_takes fun _ _ _ _ h => h) (pa_cons (pv 0) pa_nil))))
 pss_nil)
 (pss_cons (ps_if (pt_cmpR op_eq (pe_callB call_len_seq (by rfl) T.z_len (by decide +kernel) (pa_cons (pv 1) pa_nil)) pe_int (nomark _)) (pss_one (ps_ret (KSt.pe_makeR0 r0_KeyRegister (hr.mono (by decide)) (by rfl) (passes_call KL.def_takes fun _ _ _ _ h => h) (pa_cons (pv 0) (pa_cons (pe_ix ix_list (pv 1) pe_int (fun _ _ => rfl)) pa_nil)))))
 pss_nil)
 (pss_cons (ps_if (pt_cmpR op_eq (pe_callB call_len_seq (by rfl) T.z_len (by decide +kernel) (pa_cons (pv 1) pa_nil)) pe_int (nomark _)) (pss_one (ps_ret (KSt.pe_makeR0 r0_KeyRegister (hr.mono (by decide)) (by rfl) (passes_call KL.def_takes fun _ _ _ _ h => h) (pa_cons (pv 0) (pa_cons (pe_ix ix_list (pv 1) pe_int (fun _ _ => rfl)) (pa_cons (pe_ix ix_list (pv 1) pe_int (fun _ _ => rfl)) pa_nil))))))
 pss_nil)
 (pss_cons (ps_if (pt_cmpR op_eq (pe_callB call_len_seq (by rfl) T.z_len (by decide +kernel) (pa_cons (pv 1) pa_nil)) pe_int (nomark _)) (pss_one (ps_ret (KSt.pe_makeR0 r0_KeyRegister (hr.mono (by decide)) (by rfl) (passes_call KL.def_takes fun _ _ _ _ h => h) (pa_cons (pv 0) (pa_cons (pe_ix ix_list (pv 1) pe_int (fun _ _ => rfl)) (pa_cons (pe_ix ix_list (pv 1) pe_int (fun _ _ => rfl)) (pa_cons (pe_ix ix_list (pv 1) pe_int (fun _ _ => rfl)) pa_nil)))))))
 pss_nil)
 (pss_one (ps_ret (KSt.pe_makeR0 r0_KeyRegister (hr.mono (by decide)) (by rfl) (passes_call KL.def_takes fun _ _ _ _ h => h) (pa_cons (pv 0) (pa_cons (pe_ix ix_list (pv 1) pe_int (fun _ _ => rfl)) (pa_cons (pe_ix ix_list (pv 1) pe_int (fun _ _ => rfl)) (pa_cons (pe_ix ix_list (pv 1) pe_int (fun _ _ => rfl)) (pa_cons (pe_ix ix_list (pv 1) pe_int (fun _ _ => rfl)) pa_nil)))))))))))), at_start (σ := [some v0, some (.ref L)]) rfl ?_⟩
    try dsimp only [KC.cx_KX]
    walk_at "rd"
    refine ⟨by decide, fun p np => ?_⟩
    have sp := same_new (o := .lst []) np
    refine ⟨L, p, items, rfl, rfl, SqL.of (sp _ _ hL), SqL.of upd_same, _, rfl, ?_⟩
    replace hL := sp _ _ hL
    replace hi := TrsAt.up sp _ _ hi
    replace h0 := TrAt.up sp _ _ h0
    replace z : KeyP CK CF CR CQ eM v0 t0 ts (upd H p (.lst [])) Q E := ⟨fun rs e d H' s' => z.1 rs e d H' (sp.trans s'), fun nm cs a1 a2 a3 a4 a5 a6 a7 q H' hr' s' => z.2 nm cs a1 a2 a3 a4 a5 a6 a7 q H' hr' (sp.trans s')⟩
    generalize upd H p (.lst []) = H1 at *
    rcases items with _ | ⟨a0, _ | ⟨a1, _ | ⟨a2, _ | ⟨a3, _ | ⟨a4, r⟩⟩⟩⟩⟩
    · walk_at "rd"
      refine r_iteT rfl ?_
      walk_at "rd"
      refine KSt.r_makeRK ?_
      walk_at "rd"
      exact ⟨rfl, fun x dx nx nd ne => key_new (CK := CK) (CF := CF) (CR := CR) (CQ := CQ) nx nd ne hi h0 sm (Nat.le_trans li (by decide)) z⟩
    · walk_at "rd"
      refine r_iteF (by simp) ?_
      walk_at "rd"
      refine r_iteT rfl ?_
      walk_at "rd"
      refine KSt.r_makeRK ?_
      walk_at "rd"
      exact ⟨rfl, fun x dx nx nd ne => key_new (CK := CK) (CF := CF) (CR := CR) (CQ := CQ) nx nd ne hi h0 sm (Nat.le_trans li (by decide)) z⟩
    · walk_at "rd"
      refine r_iteF (by simp) ?_
      walk_at "rd"
      refine r_iteF (by simp) ?_
      walk_at "rd"
      refine r_iteT rfl ?_
      walk_at "rd"
      refine KSt.r_makeRK ?_
      walk_at "rd"
      exact ⟨rfl, fun x dx nx nd ne => key_new (CK := CK) (CF := CF) (CR := CR) (CQ := CQ) nx nd ne hi h0 sm (Nat.le_trans li (by decide)) z⟩
    · walk_at "rd"
      refine r_iteF (by simp) ?_
      walk_at "rd"
      refine r_iteF (by simp) ?_
      walk_at "rd"
      refine r_iteF (by simp) ?_
      walk_at "rd"
      refine r_iteT rfl ?_
      walk_at "rd"
      refine KSt.r_makeRK ?_
      walk_at "rd"
      exact ⟨rfl, fun x dx nx nd ne => key_new (CK := CK) (CF := CF) (CR := CR) (CQ := CQ) nx nd ne hi h0 sm (Nat.le_trans li (by decide)) z⟩
    · walk_at "rd"
      refine r_iteF (by simp) ?_
      walk_at "rd"
      refine r_iteF (by simp) ?_
      walk_at "rd"
      refine r_iteF (by simp) ?_
      walk_at "rd"
      refine r_iteF (by simp) ?_
      walk_at "rd"
      refine KSt.r_makeRK ?_
      walk_at "rd"
      exact ⟨rfl, fun x dx nx nd ne => key_new (CK := CK) (CF := CF) (CR := CR) (CQ := CQ) nx nd ne hi h0 sm (Nat.le_trans li (by decide)) z⟩
    · simp only [List.length_cons] at li
      omega

end
end K20


namespace K20
open PySem L2 KB KO KY KV KTr
/-! ### any value -/
/-- what a drawn value is: short, two deep at most -/
structure Ok (t : Tr) : Prop where
  sm : Sm t
  bd : Bd 2 t
def tLen (m : Nat) (t : Tr) : Prop := ∀ z, t = .sc (.str z) → z.length ≤ m
def spLOdd : Sp := fun vs H Q _ => ∃ (pen c : Addr) (k : Nat), vs = [.ref pen] ∧ PenC H pen c (k + 1) ∧ ∀ v t H', TrAt H' v t → Ok t → tLen 9 t → PenC H' pen c k → Keep pen H H' → Q v H'
def okN (m : Nat) : Nat → Tr → Bool
  | _, .sc (.str z) => decide (z.length ≤ m)
  | _, .sc _ => true
  | _, .dct l => decide (l.map (·.1)).Nodup
  | 0, _ => false
  | n + 1, .tup l => decide (l.length ≤ 1000) && l.all (okN m n)
  | n + 1, .lst l => decide (l.length ≤ 2) && l.all (okN m n)
theorem okN_of {m : Nat} (hm : m ≤ 1000) : ∀ (n : Nat) (t : Tr), okN m n t = true → Bd n t ∧ Sm t := by
  intro n
  induction n with
  | zero =>
    intro t h
    cases t with
    | sc s =>
      have z : ∀ x, s = .str x → x.length ≤ 1000 := fun x e => by
        subst e
        unfold okN at h
        have := of_decide_eq_true h
        omega
      exact ⟨.sc s z, .sc s z⟩
    | dct l => unfold okN at h; exact ⟨.dct l (of_decide_eq_true h), .dct l (of_decide_eq_true h)⟩
    | tup l => unfold okN at h; cases h
    | lst l => unfold okN at h; cases h
  | succ n ih =>
    intro t h
    cases t with
    | sc s =>
      have z : ∀ x, s = .str x → x.length ≤ 1000 := fun x e => by
        subst e
        unfold okN at h
        have := of_decide_eq_true h
        omega
      exact ⟨.sc s z, .sc s z⟩
    | dct l => unfold okN at h; exact ⟨.dct l (of_decide_eq_true h), .dct l (of_decide_eq_true h)⟩
    | tup l =>
      unfold okN at h
      rw [Bool.and_eq_true, decide_eq_true_eq, List.all_eq_true] at h
      exact ⟨.tup h.1 fun t m => (ih t (h.2 t m)).1, .tup fun t m => (ih t (h.2 t m)).2⟩
    | lst l =>
      unfold okN at h
      rw [Bool.and_eq_true, decide_eq_true_eq, List.all_eq_true] at h
      exact ⟨.lst (by omega) fun t m => (ih t (h.2 t m)).1, .lst h.1 fun t m => (ih t (h.2 t m)).2⟩
theorem okN_len {m n : Nat} {t : Tr} (h : okN m n t = true) : tLen m t := fun z e => by
  subst e
  cases n <;> (unfold okN at h; exact of_decide_eq_true h)
theorem fr_keep {H H' : Hp} {p c : Addr} {k : Nat} (s : Keep p H H') (pn : PenC H p c k) : Fr H H' := fun b o e n => s b o e fun z => by
  obtain ⟨ns, at_, left, h1, _⟩ := pn
  rw [z, h1] at e
  have := n _ (Option.some.inj e).symm
  simp at this

/-! ### the eleven arguments -/
structure Parts (H : Hp) (LP : Addr) (vs : List V) (ts : List Tr) (m : Nat) : Prop where
  at_ : H LP = some (.lst vs)
  tr : TrsAt H vs ts
  len : ts.length = 11
  ok : ∀ t ∈ ts, Ok t
  nm : ∀ t, ts[0]? = some t → tLen m t
def oT : Option Str → Tr
  | none => .sc .non
  | some z => .sc (.str z)
theorem oS_at {H : Hp} (o : Option Str) : TrAt H (oS o) (oT o) := by
  cases o with
  | none => exact .sc .non
  | some z => exact .sc (.str z)
theorem oSs_at {H : Hp} : ∀ os : List (Option Str), TrsAt H (os.map oS) (os.map oT)
  | [] => .nil
  | o :: os => .cons (oS_at o) (oSs_at os)
theorem trs_app {H : Hp} : ∀ {xs ys : List V} {l m : List Tr}, TrsAt H xs l → TrsAt H ys m → TrsAt H (xs ++ ys) (l ++ m)
  | _, _, _, _, .nil, h => h
  | _, _, _, _, .cons a r, h => .cons a (trs_app r h)
theorem ok_int (i : Int) : Ok (.sc (.int i)) := ⟨.sc _ fun _ z => (by cases z), .sc _ fun _ z => (by cases z)⟩
theorem ok_non : Ok (.sc .non) := ⟨.sc _ fun _ z => (by cases z), .sc _ fun _ z => (by cases z)⟩
theorem ok_str {z : Str} (h : z.length ≤ 1000) : Ok (.sc (.str z)) := ⟨.sc _ fun _ e => (by cases e; exact h), .sc _ fun _ e => (by cases e; exact h)⟩
def shortO (o : Option Str) : Prop := ∀ z, o = some z → z.length ≤ 8
theorem ok_o {o : Option Str} (h : shortO o) : Ok (oT o) := by
  cases o with
  | none => exact ok_non
  | some z => exact ok_str (Nat.le_trans (h z rfl) (by decide))
def spRight : Sp := fun vs H Q _ => ∃ (pen c : Addr) (k : Nat), vs = [.ref pen] ∧ PenC H pen c (k + 70) ∧ ∀ LP vs ts H', Parts H' LP vs ts 9 → PenC H' pen c k → Keep pen H H' → H LP = none → Q (.ref LP) H'
theorem pow16 {n : Nat} (h : n ≤ 16) : (2 : Int) ^ n ≤ 65536 ∧ (1 : Int) ≤ 2 ^ n := by
  have : ∀ m ≤ 16, (2 : Int) ^ m ≤ 65536 ∧ (1 : Int) ≤ 2 ^ m := by decide
  exact this n h
theorem keep_free {pen c a : Addr} {k : Nat} {H H' : Hp} (s : Keep pen H H') (pn : PenC H' pen c k) (n : H' a = none) : H a = none := by
  cases e : H a with
  | none => rfl
  | some o =>
    have := s a o e (pn.ne n)
    rw [n] at this
    cases this
theorem pen_len {pen c b : Addr} {k : Nat} {H : Hp} {xs : List V} (pn : PenC H pen c k) (e : H b = some (.lst xs)) (n : xs.length ≠ 3) : b ≠ pen := fun z => by
  obtain ⟨ns, at_, left, h1, _⟩ := pn
  rw [z, h1] at e
  cases e
  exact n rfl

/-! ### the first error, told by the law -/
theorem Parts.g {H : Hp} {LP : Addr} {vs : List V} {ts : List Tr} {m : Nat} (h : Parts H LP vs ts m) (i : Nat) {v : V} {t : Tr} (e1 : vs[i]? = some v := by rfl) (e2 : ts[i]? = some t := by rfl) : TrAt H v t := h.tr.at' i e1 e2
theorem Parts.o {H : Hp} {LP : Addr} {vs : List V} {ts : List Tr} {m : Nat} (h : Parts H LP vs ts m) (i : Nat) {t : Tr} (e2 : ts[i]? = some t := by rfl) : Ok t := h.ok _ (List.mem_of_getElem? e2)
theorem eleven {α : Type} {l : List α} (h : l.length = 11) : ∃ a0 a1 a2 a3 a4 a5 a6 a7 a8 a9 a10, l = [a0, a1, a2, a3, a4, a5, a6, a7, a8, a9, a10] := by
  match l, h with
  | [a0, a1, a2, a3, a4, a5, a6, a7, a8, a9, a10], _ => exact ⟨_, _, _, _, _, _, _, _, _, _, _, rfl⟩
def fresL : List Tr → FR
  | [t0, t1, t2, t3, t4, t5, t6, t7, t8, t9, t10] => fres t0 t1 t2 t3 t4 t5 t6 t7 t8 t9 t10
  | _ => .fld ""
theorem opt_of {t : Tr} (h : optB t = true) : ∃ o : Option Str, t = oT o ∧ ∀ z, o = some z → NmS z := by
  unfold optB at h
  rcases Bool.or_eq_true _ _ ▸ h with h | h
  · refine ⟨none, ?_, fun z e => by cases e⟩
    cases t with
    | sc s => cases s <;> first | rfl | cases h
    | tup => cases h
    | lst => cases h
    | dct => cases h
  · obtain ⟨z, rfl, hz⟩ := isMade_of h
    exact ⟨some z, rfl, fun y e => by cases e; exact hz⟩
theorem toO_oT (o : Option Str) : toO (oT o) = o := by cases o <;> rfl
theorem isNo_oT (o : Option Str) : isNo (oT o) = decide (o = none) := by cases o <;> rfl
def oSc : Option Str → Sc
  | none => .non
  | some z => .str z
theorem oSc_v (o : Option Str) : (oSc o).v = oS o := by cases o <;> rfl
theorem num0 {m : Int} {t : Tr} (h : isNum 0 m t = false) (h0 : 0 ≤ m) : isNum 0 0 t = false := by
  cases t with
  | sc s =>
    cases s with
    | int i =>
      have h := of_decide_eq_false h
      exact decide_eq_false fun z => h ⟨z.1, by omega⟩
    | non => rfl
    | bl => rfl
    | str => rfl
  | tup => rfl
  | lst => rfl
  | dct => rfl
def spLDue : Sp := fun vs0 H Q _ => ∃ (LP : Addr) (m : Nat) (vs : List V) (ts : List Tr), vs0 = [.ref LP] ∧ Parts H LP vs ts m ∧
  (∀ rs, fresL ts = .fld rs → ∀ H', Same H H' → Q (.str rs) H') ∧
  (∀ i v, fresL ts = .knd i → vs[3 + i]? = some v → ∀ p H', Same H H' → H' p = some (.lst [v]) → Q (.ref p) H') ∧
  (∀ x, fresL ts = .ok x → ∀ H', Same H H' → Q .non H')
theorem okw : ∀ z ∈ (["keep", "none", "store", "still", "take", "clear1", "clear0", "set1", "flip1", "once", "raise", "end", "drift"] : List Str), PyData.strOk z = true := by decide +kernel
theorem nm_ok {z : Str} (h : NmS z) : PyData.strOk z = true := by
  unfold NmS madeB at h
  rw [Bool.and_eq_true, Bool.and_eq_true, decide_eq_true_eq, decide_eq_true_eq, List.all_eq_true] at h
  have big : ∀ c ∈ INNS.cps.toList, c < 0x110000 := by decide +kernel
  unfold PyData.strOk
  rw [← Array.all_toList, List.all_eq_true]
  intro c hc
  refine decide_eq_true ?_
  match e : z.cps.toList, hc with
  | a :: l, hc =>
    rw [e] at h
    rcases List.mem_cons.mp hc with rfl | hc
    · exact big _ (caps_inns _ h.1.2)
    · exact big _ (of_decide_eq_true (h.2 c hc))

/-! ### right arguments -/
def attrV (x : FdV) : List V := [.str x.nm, .int x.low, .int x.size, .str x.r, .str x.w, .str x.d, .int x.reset, oS x.lock, oS x.key, oS x.commit, oS x.held]
def attrT (x : FdV) : List Tr := [.sc (.str x.nm), .sc (.int x.low), .sc (.int x.size), .sc (.str x.r), .sc (.str x.w), .sc (.str x.d), .sc (.int x.reset), oT x.lock, oT x.key, oT x.commit, oT x.held]
def nmO (o : Option Str) : Prop := ∀ z, o = some z → NmS z
def resetR (size : Int) (d : Str) (i : Int) : Prop := 0 ≤ i ∧ i ≤ (if d = "raise" then 0 else 1 * 2 ^ size.toNat - 1)
structure Rt (x : FdV) : Prop where
  nm : NmS x.nm
  l0 : 0 ≤ x.low
  l1 : x.low ≤ 31
  s0 : 1 ≤ x.size
  s1 : x.size ≤ 16
  pl : x.low + x.size ≤ 32
  r : x.r ∈ RD
  w : x.w ∈ WR
  d : x.d ∈ DV
  re : resetR x.size x.d x.reset
  n7 : nmO x.lock
  n8 : nmO x.key
  n9 : nmO x.commit
  n10 : nmO x.held
  he : heldB x = true
  co : commitB x = true
theorem optB_oT {o : Option Str} (h : nmO o) : optB (oT o) = true := by
  cases o with
  | none => rfl
  | some z => exact h z rfl
theorem resetB_iff {size i : Int} {d : Str} : resetB size d (.sc (.int i)) = true ↔ resetR size d i := by
  unfold resetB resetR
  split
  · exact decide_eq_true_iff
  · exact decide_eq_true_iff
theorem Rt.res {x : FdV} (h : Rt x) : fresL (attrT x) = .ok x := by
  show fres _ _ _ _ _ _ _ _ _ _ _ = _
  have e0 : isNm (.sc (.str x.nm)) = true := h.nm
  have e1 : placeB (.sc (.int x.low)) (.sc (.int x.size)) = true := by
    show (decide _ && decide _ && decide _) = true
    rw [decide_eq_true (show 0 ≤ x.low ∧ x.low ≤ 31 from ⟨h.l0, h.l1⟩), decide_eq_true (show 1 ≤ x.size ∧ x.size ≤ 16 from ⟨h.s0, h.s1⟩)]
    exact decide_eq_true h.pl
  have e3 : (Tr.sc (.str x.r)).isIn RD = true := decide_eq_true h.r
  have e4 : (Tr.sc (.str x.w)).isIn WR = true := decide_eq_true h.w
  have e5 : (Tr.sc (.str x.d)).isIn DV = true := decide_eq_true h.d
  have e6 : resetB (toI (.sc (.int x.size))) (toS (.sc (.str x.d))) (.sc (.int x.reset)) = true := resetB_iff.mpr h.re
  have em : mkF (.sc (.str x.nm)) (.sc (.int x.low)) (.sc (.int x.size)) (.sc (.str x.r)) (.sc (.str x.w)) (.sc (.str x.d)) (.sc (.int x.reset)) (oT x.lock) (oT x.key) (oT x.commit) (oT x.held) = x := by
    unfold mkF
    rw [toO_oT, toO_oT, toO_oT, toO_oT]
    rfl
  unfold fres
  rw [e0, e1, e3, e4, e5, e6, optB_oT h.n7, optB_oT h.n8, optB_oT h.n9, optB_oT h.n10, em, h.he, h.co]
  rfl
theorem kind_of {zs : List Str} {t : Tr} (h : t.isIn zs = true) : ∃ z, t = .sc (.str z) ∧ z ∈ zs := Tr.isIn_str h
theorem res_ok {t0 t1 t2 t3 t4 t5 t6 t7 t8 t9 t10 : Tr} {x : FdV} (h : fresL [t0, t1, t2, t3, t4, t5, t6, t7, t8, t9, t10] = .ok x) : Rt x ∧ [t0, t1, t2, t3, t4, t5, t6, t7, t8, t9, t10] = attrT x := by
  replace h : fres t0 t1 t2 t3 t4 t5 t6 t7 t8 t9 t10 = .ok x := h
  unfold fres at h
  by_cases a0 : isNm t0 = false
  · rw [if_pos a0] at h; cases h
  rw [if_neg a0] at h
  by_cases a1 : placeB t1 t2 = false
  · rw [if_pos a1] at h; cases h
  rw [if_neg a1] at h
  by_cases a3 : t3.isIn RD = false
  · rw [if_pos a3] at h; cases h
  rw [if_neg a3] at h
  by_cases a4 : t4.isIn WR = false
  · rw [if_pos a4] at h; cases h
  rw [if_neg a4] at h
  by_cases a5 : t5.isIn DV = false
  · rw [if_pos a5] at h; cases h
  rw [if_neg a5] at h
  by_cases a6 : resetB (toI t2) (toS t5) t6 = false
  · rw [if_pos a6] at h; cases h
  rw [if_neg a6] at h
  by_cases a7 : optB t7 = false
  · rw [if_pos a7] at h; cases h
  rw [if_neg a7] at h
  by_cases a8 : optB t8 = false
  · rw [if_pos a8] at h; cases h
  rw [if_neg a8] at h
  by_cases a9 : optB t9 = false
  · rw [if_pos a9] at h; cases h
  rw [if_neg a9] at h
  by_cases a10 : optB t10 = false
  · rw [if_pos a10] at h; cases h
  rw [if_neg a10] at h
  by_cases a11 : heldB (mkF t0 t1 t2 t3 t4 t5 t6 t7 t8 t9 t10) = false
  · rw [if_pos a11] at h; cases h
  rw [if_neg a11] at h
  by_cases a12 : commitB (mkF t0 t1 t2 t3 t4 t5 t6 t7 t8 t9 t10) = false
  · rw [if_pos a12] at h; cases h
  rw [if_neg a12] at h
  replace a0 := eq_true_of_ne_false a0
  replace a1 := eq_true_of_ne_false a1
  replace a3 := eq_true_of_ne_false a3
  replace a4 := eq_true_of_ne_false a4
  replace a5 := eq_true_of_ne_false a5
  replace a6 := eq_true_of_ne_false a6
  replace a7 := eq_true_of_ne_false a7
  replace a8 := eq_true_of_ne_false a8
  replace a9 := eq_true_of_ne_false a9
  replace a10 := eq_true_of_ne_false a10
  replace a11 := eq_true_of_ne_false a11
  replace a12 := eq_true_of_ne_false a12
  have h := FR.ok.inj h
  obtain ⟨z, rfl, hz⟩ := isMade_of a0
  unfold placeB at a1
  rw [Bool.and_eq_true, Bool.and_eq_true] at a1
  obtain ⟨i1, rfl, b1, c1⟩ := isNum_of a1.1.1
  obtain ⟨i2, rfl, b2, c2⟩ := isNum_of a1.1.2
  obtain ⟨r, rfl, hr⟩ := Tr.isIn_str a3
  obtain ⟨w, rfl, hw⟩ := Tr.isIn_str a4
  obtain ⟨d, rfl, hd⟩ := Tr.isIn_str a5
  obtain ⟨i6, rfl⟩ : ∃ i6, t6 = .sc (.int i6) := by
    unfold resetB at a6
    split at a6
    · obtain ⟨i, e, _⟩ := isNum_of a6; exact ⟨i, e⟩
    · obtain ⟨i, e, _⟩ := isNum_of a6; exact ⟨i, e⟩
  obtain ⟨o7, rfl, m7⟩ := opt_of a7
  obtain ⟨o8, rfl, m8⟩ := opt_of a8
  obtain ⟨o9, rfl, m9⟩ := opt_of a9
  obtain ⟨o10, rfl, m10⟩ := opt_of a10
  have em : mkF (.sc (.str z)) (.sc (.int i1)) (.sc (.int i2)) (.sc (.str r)) (.sc (.str w)) (.sc (.str d)) (.sc (.int i6)) (oT o7) (oT o8) (oT o9) (oT o10) = ⟨z, i1, i2, r, w, d, i6, o7, o8, o9, o10⟩ := by
    unfold mkF
    rw [toO_oT, toO_oT, toO_oT, toO_oT]
    rfl
  rw [em] at h a11 a12
  subst h
  exact ⟨⟨hz, b1, c1, b2, c2, of_decide_eq_true a1.2, hr, hw, hd, resetB_iff.mp a6, m7, m8, m9, m10, a11, a12⟩, rfl⟩
theorem fld_len {t0 t1 t2 t3 t4 t5 t6 t7 t8 t9 t10 : Tr} {rs : Str} (h : fresL [t0, t1, t2, t3, t4, t5, t6, t7, t8, t9, t10] = .fld rs) : rs.length ≤ 1000 := by
  replace h : fres t0 t1 t2 t3 t4 t5 t6 t7 t8 t9 t10 = .fld rs := h
  unfold fres at h
  by_cases a0 : isNm t0 = false
  · rw [if_pos a0] at h; cases h; decide
  rw [if_neg a0] at h
  by_cases a1 : placeB t1 t2 = false
  · rw [if_pos a1] at h; cases h; decide
  rw [if_neg a1] at h
  by_cases a2 : t3.isIn RD = false
  · rw [if_pos a2] at h; cases h
  rw [if_neg a2] at h
  by_cases a3 : t4.isIn WR = false
  · rw [if_pos a3] at h; cases h
  rw [if_neg a3] at h
  by_cases a4 : t5.isIn DV = false
  · rw [if_pos a4] at h; cases h
  rw [if_neg a4] at h
  by_cases a5 : resetB (toI t2) (toS t5) t6 = false
  · rw [if_pos a5] at h; cases h; decide
  rw [if_neg a5] at h
  by_cases a6 : optB t7 = false
  · rw [if_pos a6] at h; cases h; decide
  rw [if_neg a6] at h
  by_cases a7 : optB t8 = false
  · rw [if_pos a7] at h; cases h; decide
  rw [if_neg a7] at h
  by_cases a8 : optB t9 = false
  · rw [if_pos a8] at h; cases h; decide
  rw [if_neg a8] at h
  by_cases a9 : optB t10 = false
  · rw [if_pos a9] at h; cases h; decide
  rw [if_neg a9] at h
  by_cases a10 : heldB (mkF t0 t1 t2 t3 t4 t5 t6 t7 t8 t9 t10) = false
  · rw [if_pos a10] at h; cases h; decide
  rw [if_neg a10] at h
  by_cases a11 : commitB (mkF t0 t1 t2 t3 t4 t5 t6 t7 t8 t9 t10) = false
  · rw [if_pos a11] at h; cases h; decide
  rw [if_neg a11] at h
  cases h
theorem knd_lt {t0 t1 t2 t3 t4 t5 t6 t7 t8 t9 t10 : Tr} {i : Nat} (h : fresL [t0, t1, t2, t3, t4, t5, t6, t7, t8, t9, t10] = .knd i) : i < 3 := by
  replace h : fres t0 t1 t2 t3 t4 t5 t6 t7 t8 t9 t10 = .knd i := h
  unfold fres at h
  by_cases a0 : isNm t0 = false
  · rw [if_pos a0] at h; cases h
  rw [if_neg a0] at h
  by_cases a1 : placeB t1 t2 = false
  · rw [if_pos a1] at h; cases h
  rw [if_neg a1] at h
  by_cases a2 : t3.isIn RD = false
  · rw [if_pos a2] at h; cases h; decide
  rw [if_neg a2] at h
  by_cases a3 : t4.isIn WR = false
  · rw [if_pos a3] at h; cases h; decide
  rw [if_neg a3] at h
  by_cases a4 : t5.isIn DV = false
  · rw [if_pos a4] at h; cases h; decide
  rw [if_neg a4] at h
  by_cases a5 : resetB (toI t2) (toS t5) t6 = false
  · rw [if_pos a5] at h; cases h
  rw [if_neg a5] at h
  by_cases a6 : optB t7 = false
  · rw [if_pos a6] at h; cases h
  rw [if_neg a6] at h
  by_cases a7 : optB t8 = false
  · rw [if_pos a7] at h; cases h
  rw [if_neg a7] at h
  by_cases a8 : optB t9 = false
  · rw [if_pos a8] at h; cases h
  rw [if_neg a8] at h
  by_cases a9 : optB t10 = false
  · rw [if_pos a9] at h; cases h
  rw [if_neg a9] at h
  by_cases a10 : heldB (mkF t0 t1 t2 t3 t4 t5 t6 t7 t8 t9 t10) = false
  · rw [if_pos a10] at h; cases h
  rw [if_neg a10] at h
  by_cases a11 : commitB (mkF t0 t1 t2 t3 t4 t5 t6 t7 t8 t9 t10) = false
  · rw [if_pos a11] at h; cases h
  rw [if_neg a11] at h
  cases h
theorem trs_attr {H : Hp} (x : FdV) : TrsAt H (attrV x) (attrT x) := .cons (.sc (.str _)) (.cons (.sc (.int _)) (.cons (.sc (.int _)) (.cons (.sc (.str _)) (.cons (.sc (.str _)) (.cons (.sc (.str _)) (.cons (.sc (.int _)) (.cons (oS_at _) (.cons (oS_at _) (.cons (oS_at _) (.cons (oS_at _) .nil))))))))))
theorem attr_of {H : Hp} : ∀ {vs : List V} {x : FdV}, TrsAt H vs (attrT x) → vs = attrV x := by
  intro vs x h
  have g : ∀ {o : Option Str} {v : V}, TrAt H v (oT o) → v = oS o := fun {o v} h => by cases o <;> exact sc_at h
  obtain ⟨v0, v1, v2, v3, v4, v5, v6, v7, v8, v9, v10, rfl⟩ := eleven (show vs.length = 11 from h.len)
  obtain rfl := sc_at (h.at' 0 rfl rfl)
  obtain rfl := sc_at (h.at' 1 rfl rfl)
  obtain rfl := sc_at (h.at' 2 rfl rfl)
  obtain rfl := sc_at (h.at' 3 rfl rfl)
  obtain rfl := sc_at (h.at' 4 rfl rfl)
  obtain rfl := sc_at (h.at' 5 rfl rfl)
  obtain rfl := sc_at (h.at' 6 rfl rfl)
  obtain rfl := g (h.at' 7 rfl rfl)
  obtain rfl := g (h.at' 8 rfl rfl)
  obtain rfl := g (h.at' 9 rfl rfl)
  obtain rfl := g (h.at' 10 rfl rfl)
  rfl
theorem Rt.oks {x : FdV} (h : Rt x) : ∀ t ∈ attrT x, Ok t := by
  have ws : ∀ z ∈ RD ++ WR ++ DV, z.length ≤ 1000 := by decide +kernel
  have os : ∀ {o : Option Str}, nmO o → Ok (oT o) := fun {o} m => ok_o fun z e => (m z e).len
  intro t m
  simp only [attrT, List.mem_cons, List.not_mem_nil, or_false] at m
  rcases m with rfl | rfl | rfl | rfl | rfl | rfl | rfl | rfl | rfl | rfl | rfl
  · exact ok_str (Nat.le_trans h.nm.len (by decide))
  · exact ok_int _
  · exact ok_int _
  · exact ok_str (ws _ (List.mem_append_left _ (List.mem_append_left _ h.r)))
  · exact ok_str (ws _ (List.mem_append_left _ (List.mem_append_right _ h.w)))
  · exact ok_str (ws _ (List.mem_append_right _ h.d))
  · exact ok_int _
  · exact os h.n7
  · exact os h.n8
  · exact os h.n9
  · exact os h.n10
/-- a list of right arguments -/
def AttrAt (H : Hp) (LP : Addr) (x : FdV) : Prop := H LP = some (.lst (attrV x)) ∧ Rt x
theorem AttrAt.parts {H : Hp} {LP : Addr} {x : FdV} (h : AttrAt H LP x) : Parts H LP (attrV x) (attrT x) 9 := ⟨h.1, trs_attr x, rfl, h.2.oks, fun t e z y => by cases e; cases y; exact Nat.le_trans h.2.nm.len (by decide)⟩
def spLMake (CK CF : Addr) : Sp := fun vs H Q _ => ∃ (LP : Addr) (x : FdV), vs = [.ref LP] ∧ AttrAt H LP x ∧ ∀ p H', FieldAt CK CF H' p x → Same H H' → Q (.ref p) H'
def spLAttr (CK CF : Addr) : Sp := fun vs H Q _ => ∃ (p : Addr) (x : FdV), vs = [.ref p] ∧ FieldAt CK CF H p x ∧ ∀ l H', H' l = some (.lst (attrV x)) → Same H H' → Q (.ref l) H'
structure TxtR (K : PySem.W.Frag) (mg : Str → Option Value) (CB eF eK eM : Addr) : Prop extends TxtN mg where
  mg_BitError : mg "BitError" = some (.ref CB)
  mg_InvalidField : mg "InvalidField" = some (.ref eF)
  mg_InvalidKind : mg "InvalidKind" = some (.ref eK)
  mg_InvalidMap : mg "InvalidMap" = some (.ref eM)
  hFF : PySem.W.exmOne K (.ref eF) (.ref eF) = some true
  hKF : PySem.W.exmOne K (.ref eK) (.ref eF) = some false
  hKK : PySem.W.exmOne K (.ref eK) (.ref eK) = some true
  excF : ExcC K eF
  excK : ExcC K eK
  xfF : XfC K eF
  xfK : XfC K eK
  nofN : PySem.W.findIn K (.ref eF) "name" = some none
  nofR : PySem.W.findIn K (.ref eF) "reason" = some none
  nofV : PySem.W.findIn K (.ref eK) "value" = some none
  kFB : PySem.W.kitOne K (.ref eF) (.ref CB) = some true
  kKB : PySem.W.kitOne K (.ref eK) (.ref CB) = some true
  kFK : PySem.W.kitAny K (.ref eF) [.ref eK, .ref eM] = some false
  kKF : PySem.W.kitAny K (.ref eK) [.ref eF, .ref eM] = some false
def spLRefused : Sp := fun vs0 H Q _ => ∃ (LP : Addr) (m : Nat) (vs : List V) (ts : List Tr), vs0 = [.ref LP] ∧ Parts H LP vs ts m ∧
  (∀ rs v0, fresL ts = .fld rs → vs[0]? = some v0 → ∀ p H', Same H H' → H' p = some (.tup [.str "field", v0, .str rs, .bl true, .bl false]) → Q (.ref p) H') ∧
  (∀ i v, fresL ts = .knd i → vs[3 + i]? = some v → ∀ p H', Same H H' → H' p = some (.tup [.str "kind", v, .bl true, .bl false]) → Q (.ref p) H') ∧
  (∀ x, fresL ts = .ok x → ∀ H', Same H H' → Q .non H')
def gRev (us ws : List V) : List V := us ++ ws.reverse
def gApp (us ws : List V) : List V := us ++ ws

/-! ### the drawn things of a register -/
def ThOk : Th → Prop
  | .fld _ => True
  | .tr t => Ok t ∧ tLen 9 t
theorem KindAt.fr {C : Addr} {H H' : Hp} {p : Addr} {r w d : Str} (h : KindAt C H p r w d) (s : Fr H H') : KindAt C H' p r w d := by
  obtain ⟨dx, st, h1, h2⟩ := h
  exact ⟨dx, st, s.ins h1, s.tup h2⟩
theorem FieldAt.fr {CK CF : Addr} {H H' : Hp} {p : Addr} {x : FdV} (h : FieldAt CK CF H p x) (s : Fr H H') : FieldAt CK CF H' p x := by
  obtain ⟨dx, k, e, g⟩ := h
  exact ⟨dx, k, s.ins e, g.fr s⟩
theorem FieldAt.sn {CK CF : Addr} {H H' : Hp} {p : Addr} {x : FdV} (h : FieldAt CK CF H p x) (s : KD.SameN H H') : FieldAt CK CF H' p x := by
  obtain ⟨dx, k, e, dk, st, h1, h2⟩ := h
  exact ⟨dx, k, s _ _ e (fun _ z => by cases z), dk, st, s _ _ h1 (fun _ z => by cases z), s.tup h2⟩
theorem ThAt.fr {CK CF : Addr} {H H' : Hp} {v : V} {t : Th} (h : ThAt CK CF H v t) (o : ThOk t) (s : Fr H H') : ThAt CK CF H' v t := by
  cases t with
  | fld x => obtain ⟨p, e, f⟩ := h; exact ⟨p, e, f.fr s⟩
  | tr t => exact TrAt.fr s _ _ o.1.sm h
theorem ThsAt.fr {CK CF : Addr} {H H' : Hp} (s : Fr H H') : ∀ {vs : List V} {ts : List Th}, ThsAt CK CF H vs ts → (∀ t ∈ ts, ThOk t) → ThsAt CK CF H' vs ts
  | _, _, .nil, _ => .nil
  | _, _, .cons h r, o => .cons (h.fr (o _ List.mem_cons_self) s) (ThsAt.fr s r fun t m => o t (List.mem_cons_of_mem _ m))
def Th.tree : Th → Tr
  | .fld _ => .sc .non
  | .tr t => t
theorem ths_trs {CK CF : Addr} {H : Hp} : ∀ {vs : List V} {ts : List Th}, ThsAt CK CF H vs ts → (∀ t ∈ ts, ∃ u, t = Th.tr u) → TrsAt H vs (ts.map Th.tree)
  | _, _, .nil, _ => .nil
  | _, _, .cons h r, o => by
    obtain ⟨u, rfl⟩ := o _ List.mem_cons_self
    exact .cons h (ths_trs r fun t m => o t (List.mem_cons_of_mem _ m))
theorem trs_ths {CK CF : Addr} {H : Hp} : ∀ {vs : List V} {ts : List Tr}, TrsAt H vs ts → ThsAt CK CF H vs (ts.map Th.tr)
  | _, _, .nil => .nil
  | _, _, .cons h r => .cons h (trs_ths r)
theorem ThsAt.app {CK CF : Addr} {H : Hp} : ∀ {vs ws : List V} {ts us : List Th}, ThsAt CK CF H vs ts → ThsAt CK CF H ws us → ThsAt CK CF H (vs ++ ws) (ts ++ us)
  | _, _, _, _, .nil, b => b
  | _, _, _, _, .cons h r, b => .cons h (ThsAt.app r b)
theorem ThsAt.drop {CK CF : Addr} {H : Hp} : ∀ {vs : List V} {ts : List Th} (n : Nat), ThsAt CK CF H vs ts → ThsAt CK CF H (vs.drop n) (ts.drop n)
  | _, _, 0, h => h
  | _, _, _ + 1, .nil => .nil
  | _, _, n + 1, .cons _ r => ThsAt.drop n r
theorem ThsAt.take {CK CF : Addr} {H : Hp} : ∀ {vs : List V} {ts : List Th} (n : Nat), ThsAt CK CF H vs ts → ThsAt CK CF H (vs.take n) (ts.take n)
  | _, _, 0, _ => .nil
  | _, _, _ + 1, .nil => .nil
  | _, _, n + 1, .cons h r => .cons h (ThsAt.take n r)
structure TgOk (ik : Bool) (ths : List Th) : Prop where
  len : ths.length ≤ if ik then 4 else 5
  ok : ∀ t ∈ ths, ThOk t
  tr : ik = true → ∀ t ∈ ths, ∃ u, t = Th.tr u
  lo : ∀ (i : Nat) (x : FdV), ths[i]? = some (.fld x) → x.low = 5 * (i : Int)
theorem TgOk.le {ik : Bool} {ths : List Th} (h : TgOk ik ths) : ths.length ≤ 5 := by
  have := h.len
  cases ik <;> simp at this <;> omega
/-- the reason of the first error -/
def rres (ik : Bool) (t0 tw : Tr) (ths : List Th) : RR := if ik then keyres t0 (ths.map Th.tree) else regres t0 ths tw
def rrV : RR → V
  | .err rs => .str rs
  | .ok => .non
def spRThings (CK CF : Addr) : Sp := fun vs H Q _ => ∃ (pen c : Addr) (k : Nat) (ik : Bool), vs = [.ref pen, .bl ik] ∧ PenC H pen c (k + 60) ∧ ∀ L items ths H', H' L = some (.lst items) → ThsAt CK CF H' items ths → TgOk ik ths → L ≠ pen → L ≠ c → PenC H' pen c k → Keep pen H H' → Q (.ref L) H'
/-- name, things, whole: as they stand -/
structure Args3 (CK CF : Addr) (H : Hp) (v0 vw : V) (L : Addr) (items : List V) (t0 tw : Tr) (ths : List Th) (ik : Bool) : Prop where
  n : TrAt H v0 t0
  w : TrAt H vw tw
  l : H L = some (.lst items)
  i : ThsAt CK CF H items ths
  g : TgOk ik ths
  o0 : Ok t0
  ow : Ok tw
theorem Args3.fr {CK CF : Addr} {H H' : Hp} {v0 vw : V} {L : Addr} {items : List V} {t0 tw : Tr} {ths : List Th} {ik : Bool} (h : Args3 CK CF H v0 vw L items t0 tw ths ik) (s : Fr H H') (e : H' L = some (.lst items)) : Args3 CK CF H' v0 vw L items t0 tw ths ik :=
  ⟨TrAt.fr s _ _ h.o0.sm h.n, TrAt.fr s _ _ h.ow.sm h.w, e, h.i.fr s h.g.ok, h.g, h.o0, h.ow⟩
theorem Args3.up {CK CF : Addr} {H H' : Hp} {v0 vw : V} {L : Addr} {items : List V} {t0 tw : Tr} {ths : List Th} {ik : Bool} (h : Args3 CK CF H v0 vw L items t0 tw ths ik) (s : Same H H') : Args3 CK CF H' v0 vw L items t0 tw ths ik := h.fr (Fr.same s) (s _ _ h.l)
theorem Args3.pen {CK CF : Addr} {H H' : Hp} {v0 vw : V} {L pen c : Addr} {k : Nat} {items : List V} {t0 tw : Tr} {ths : List Th} {ik : Bool} (h : Args3 CK CF H v0 vw L items t0 tw ths ik) (pn : PenC H pen c k) (s : Keep pen H H') (n : L ≠ pen) : Args3 CK CF H' v0 vw L items t0 tw ths ik :=
  h.fr (fr_keep s pn) (s _ _ h.l n)
theorem Args3.llen {CK CF : Addr} {H : Hp} {v0 vw : V} {L : Addr} {items : List V} {t0 tw : Tr} {ths : List Th} {ik : Bool} (h : Args3 CK CF H v0 vw L items t0 tw ths ik) : items.length ≤ 5 := by
  rw [h.i.len]
  exact h.g.le
def spRSpoil (CK CF : Addr) : Sp := fun vs H Q _ => ∃ (pen c : Addr) (k : Nat) (v0 vw : V) (L : Addr) (items : List V) (t0 tw : Tr) (ths : List Th) (ik : Bool), vs = [.ref pen, v0, .ref L, vw] ∧ PenC H pen c (k + 3) ∧ Args3 CK CF H v0 vw L items t0 tw ths ik ∧ L ≠ pen ∧ L ≠ c ∧
  ∀ D v0' vw' L' items' t0' tw' ths' H', H' D = some (.tup [v0', .ref L', vw']) → Args3 CK CF H' v0' vw' L' items' t0' tw' ths' ik → L' ≠ pen → L' ≠ c → PenC H' pen c k → Keep pen H H' → Q (.ref D) H'
def spRDue (CK CF : Addr) : Sp := fun vs H Q _ => ∃ (v0 vw : V) (L : Addr) (items : List V) (t0 tw : Tr) (ths : List Th) (ik : Bool), vs = [v0, .ref L, vw, .bl ik] ∧ Args3 CK CF H v0 vw L items t0 tw ths ik ∧ ∀ H', Same H H' → Q (rrV (rres ik t0 tw ths)) H'
def gRst (us ws : List V) : List V := us ++ [.str "keep", .str "store", .str "still"] ++ ws ++ [.non, .non, .non, .non]
theorem ok_of_sm {t : Tr} (h : okN 9 2 t = true) : Ok t := ⟨(okN_of (by decide) _ _ h).2, (okN_of (by decide) _ _ h).1⟩
theorem fld_new {CK CF eF eK : Addr} {H : Hp} {x dx : Addr} (nx : H x = none) (nd : H dx = none) (ne : dx ≠ x) {y : FdV} (rt : Rt y) {Q : VK} {E : XK} (q : ∀ H', FieldAt CK CF H' x y → Same H H' → Q (.ref x) H') :
    spField CK CF eF eK (V.ref x :: attrV y) (upd (upd H dx (.own x)) x (.ins CF dx [])) (fun v H3 => v = .non ∧ Q (.ref x) H3) E := by
  refine ⟨x, dx, _, _, _, _, _, _, _, _, _, _, _, _, _, _, _, _, _, _, _, _, _, _, rfl, upd_same, ⟨trs_attr y, fun t m => (rt.oks t m).sm⟩, fun rs e => ?_, fun i v e => ?_, fun x' e H' fa kp => ?_⟩
  · cases rt.res.symm.trans e
  · cases rt.res.symm.trans e
  · obtain rfl : y = x' := FR.ok.inj (rt.res.symm.trans e)
    exact ⟨rfl, q H' fa (same_keep nx (same_made nx nd ne) kp)⟩
theorem nmO_none' : nmO none := fun y e => by cases e
theorem rt_new {nm : Str} {low size re : Int} (n : NmS nm) (l0 : 0 ≤ low) (l1 : low ≤ 20) (s0 : 1 ≤ size) (s1 : size ≤ 5) (r0 : 0 ≤ re) (r1 : re ≤ 1) : Rt ⟨nm, low, size, "keep", "store", "still", re, none, none, none, none⟩ := by
  refine ⟨n, l0, by dsimp only; omega, s0, by dsimp only; omega, by dsimp only; omega, (by decide : ("keep" : Str) ∈ RD), (by decide : ("store" : Str) ∈ WR), (by decide : ("still" : Str) ∈ DV), ⟨r0, ?_⟩, nmO_none', nmO_none', nmO_none', nmO_none', rfl, rfl⟩
  dsimp only
  rw [if_neg (by decide)]
  obtain ⟨m, rfl⟩ : ∃ m : Nat, size = (m : Int) + 1 := ⟨(size - 1).toNat, by omega⟩
  rw [show ((m : Int) + 1).toNat = m + 1 by omega, Int.pow_succ]
  have := (pow16 (n := m) (by omega)).2
  omega


section
variable {P : Program} {w : World} {K : PySem.W.Frag} {mg : Str → Option Value} {base : Heap}
theorem ok_lodd {f : Addr} {fd : FuncData} (F : Fun K "_law_odd" "_law_odd" s__law_odd f fd) (T : Txt mg) (c__law_draw : KB.Callee P w K mg base CX0 1 "_law_draw" ["_law_pen_here", "_law_many"] spDraw) : FnOk P w K mg base CX0 2 f fd ["_law_pen_here"] spLOdd := by
  refine F.ok sc__law_odd (fun vs H Q E h => ?_) (fun cdv A outer s H vs Q E hr h => ?_)
  · obtain ⟨pen, c, k, rfl, _⟩ := h
    rfl
  · obtain ⟨pen, c, k, rfl, pn, q⟩ := h
    refine ⟨_, (pss_cons (ps_set (i := 1) sc__law_odd.nd rfl (by first | exact Or.inl rfl | exact Or.inr rfl) (pe_lst (pa_cons pe_non (pa_cons pe_bl (pa_cons pe_bl (pa_cons (pe_un un_neg pe_int) (pa_cons pe_int (pa_cons pe_int (pa_cons pe_int (pa_cons (pe_op op_sub (pe_op op_pow pe_int pe_int) pe_int) (pa_cons (pe_op op_pow pe_int pe_int) (pa_cons (pe_op op_pow pe_int pe_int) (pa_cons pe_str (pa_cons pe_str (pa_cons pe_str (pa_cons pe_str (pa_cons (pe_op KA.op_mulS pe_str pe_int) (pa_cons (pe_tup (pa_cons pe_str pa_nil)) (pa_cons (pe_lst (pa_cons pe_str pa_nil)) (pa_cons (pe_disp (pps_cons pe_str pe_int pps_nil) (by rfl) (by rfl) (fun z => by cases z) (by decide)) (pa_cons (pe_lst pa_nil) (pa_cons (pe_tup pa_nil) (pa_cons pe_str pa_nil)))))))))))))))))))))))
 (pss_one (ps_ret (pe_ix ix_list (pv 1) (pe_callC c__law_draw (hr.mono (by decide)) (by rfl) pass0 (pa_cons (pv 0) (pa_cons (pe_callB call_len_seq (by rfl) T.z_len (by decide +kernel) (pa_cons (pv 1) pa_nil)) pa_nil))) (fun _ _ => rfl))))), at_start (σ := [some (.ref pen), none]) rfl ?_⟩
    try dsimp only [cx_K]
    walk_at "rd"
    refine ⟨"A", 9, rfl, rfl, by decide, by decide, by decide, ?_⟩
    rw [show KA.mulS "A" 9 = "AAAAAAAAA" from by decide +kernel]
    walk_at "rd"
    refine ⟨by walk_at "sz", fun c1 n1 => ?_⟩
    have s1 := same_new (o := .tup [.str "A"]) n1
    have t1 : TrAt (upd H c1 (.tup [.str "A"])) (.ref c1) (.tup [.sc (.str "A")]) := .tup upd_same (.cons (.sc (.str "A")) .nil)
    generalize upd H c1 (.tup [.str "A"]) = H1 at s1 t1 ⊢
    have ss := s1
    clear s1 n1
    walk_at "rd"
    refine ⟨by walk_at "sz", fun c2 n2 => ?_⟩
    have s2 := same_new (o := .lst [.str "A"]) n2
    have t2 : TrAt (upd H1 c2 (.lst [.str "A"])) (.ref c2) (.lst [.sc (.str "A")]) := .lst upd_same (.cons (.sc (.str "A")) .nil)
    generalize upd H1 c2 (.lst [.str "A"]) = H2 at s2 t2 ⊢
    replace t1 := TrAt.up s2 _ _ t1
    replace ss := ss.trans s2
    clear s2 n2
    walk_at "rd"
    intro c3 n3
    refine ⟨upd_same, [(Sum.inr "A", (.int 1 : V))], rfl, by decide, ?_⟩
    rw [show upd (upd H2 c3 (.dK [])) c3 (.dK (mergeK [] [(Sum.inr "A", (.int 1 : V))])) = upd H2 c3 (.dK [(Sum.inr "A", (.int 1 : V))]) from upd_upd]
    have s3 := same_new (o := .dK [(Sum.inr "A", (.int 1 : V))]) n3
    have t3 : TrAt (upd H2 c3 (.dK [(Sum.inr "A", (.int 1 : V))])) (.ref c3) (.dct [(Sum.inr "A", (.int 1 : Sc))]) := .dct upd_same
    generalize upd H2 c3 (.dK [(Sum.inr "A", (.int 1 : V))]) = H3 at s3 t3 ⊢
    replace t1 := TrAt.up s3 _ _ t1
    replace t2 := TrAt.up s3 _ _ t2
    replace ss := ss.trans s3
    clear s3 n3
    walk_at "rd"
    refine ⟨by walk_at "sz", fun c4 n4 => ?_⟩
    have s4 := same_new (o := .lst []) n4
    have t4 : TrAt (upd H3 c4 (.lst [])) (.ref c4) (.lst []) := .lst upd_same .nil
    generalize upd H3 c4 (.lst []) = H4 at s4 t4 ⊢
    replace t1 := TrAt.up s4 _ _ t1
    replace t2 := TrAt.up s4 _ _ t2
    replace t3 := TrAt.up s4 _ _ t3
    replace ss := ss.trans s4
    clear s4 n4
    walk_at "rd"
    refine ⟨by walk_at "sz", fun c5 n5 => ?_⟩
    have s5 := same_new (o := .tup []) n5
    have t5 : TrAt (upd H4 c5 (.tup [])) (.ref c5) (.tup []) := .tup upd_same .nil
    generalize upd H4 c5 (.tup []) = H5 at s5 t5 ⊢
    replace t1 := TrAt.up s5 _ _ t1
    replace t2 := TrAt.up s5 _ _ t2
    replace t3 := TrAt.up s5 _ _ t3
    replace t4 := TrAt.up s5 _ _ t4
    replace ss := ss.trans s5
    clear s5 n5
    walk_at "rd"
    have al : TrsAt H5 [.non, .bl true, .bl false, .int (-1), .int 0, .int 1, .int 255, .int (2 ^ Int.toNat 32 - 1), .int (2 ^ Int.toNat 32), .int (10 ^ Int.toNat 59), .str "", .str "a", .str "A", .str "A B", .str "AAAAAAAAA", .ref c1, .ref c2, .ref c3, .ref c4, .ref c5, .str "True"] [.sc (.non), .sc (.bl true), .sc (.bl false), .sc (.int (-1)), .sc (.int 0), .sc (.int 1), .sc (.int 255), .sc (.int (2 ^ Int.toNat 32 - 1)), .sc (.int (2 ^ Int.toNat 32)), .sc (.int (10 ^ Int.toNat 59)), .sc (.str ""), .sc (.str "a"), .sc (.str "A"), .sc (.str "A B"), .sc (.str "AAAAAAAAA"), .tup [.sc (.str "A")], .lst [.sc (.str "A")], .dct [(Sum.inr "A", (.int 1 : Sc))], .lst [], .tup [], .sc (.str "True")] := (.cons (.sc (.non)) (.cons (.sc (.bl true)) (.cons (.sc (.bl false)) (.cons (.sc (.int (-1))) (.cons (.sc (.int 0)) (.cons (.sc (.int 1)) (.cons (.sc (.int 255)) (.cons (.sc (.int (2 ^ Int.toNat 32 - 1))) (.cons (.sc (.int (2 ^ Int.toNat 32))) (.cons (.sc (.int (10 ^ Int.toNat 59))) (.cons (.sc (.str "")) (.cons (.sc (.str "a")) (.cons (.sc (.str "A")) (.cons (.sc (.str "A B")) (.cons (.sc (.str "AAAAAAAAA")) (.cons t1 (.cons t2 (.cons t3 (.cons t4 (.cons t5 (.cons (.sc (.str "True")) .nil)))))))))))))))))))))
    have ok : ∀ t ∈ ([.sc (.non), .sc (.bl true), .sc (.bl false), .sc (.int (-1)), .sc (.int 0), .sc (.int 1), .sc (.int 255), .sc (.int (2 ^ Int.toNat 32 - 1)), .sc (.int (2 ^ Int.toNat 32)), .sc (.int (10 ^ Int.toNat 59)), .sc (.str ""), .sc (.str "a"), .sc (.str "A"), .sc (.str "A B"), .sc (.str "AAAAAAAAA"), .tup [.sc (.str "A")], .lst [.sc (.str "A")], .dct [(Sum.inr "A", (.int 1 : Sc))], .lst [], .tup [], .sc (.str "True")] : List Tr), okN 9 2 t = true := by decide +kernel
    have ll : ([.sc (.non), .sc (.bl true), .sc (.bl false), .sc (.int (-1)), .sc (.int 0), .sc (.int 1), .sc (.int 255), .sc (.int (2 ^ Int.toNat 32 - 1)), .sc (.int (2 ^ Int.toNat 32)), .sc (.int (10 ^ Int.toNat 59)), .sc (.str ""), .sc (.str "a"), .sc (.str "A"), .sc (.str "A B"), .sc (.str "AAAAAAAAA"), .tup [.sc (.str "A")], .lst [.sc (.str "A")], .dct [(Sum.inr "A", (.int 1 : Sc))], .lst [], .tup [], .sc (.str "True")] : List Tr).length = 21 := rfl
    refine ⟨by walk_at "sz", fun L nL => ?_⟩
    have eL : upd H5 L (.lst [.non, .bl true, .bl false, .int (-1), .int 0, .int 1, .int 255, .int (2 ^ Int.toNat 32 - 1), .int (2 ^ Int.toNat 32), .int (10 ^ Int.toNat 59), .str "", .str "a", .str "A", .str "A B", .str "AAAAAAAAA", .ref c1, .ref c2, .ref c3, .ref c4, .ref c5, .str "True"]) L = some (.lst [.non, .bl true, .bl false, .int (-1), .int 0, .int 1, .int 255, .int (2 ^ Int.toNat 32 - 1), .int (2 ^ Int.toNat 32), .int (10 ^ Int.toNat 59), .str "", .str "a", .str "A", .str "A B", .str "AAAAAAAAA", .ref c1, .ref c2, .ref c3, .ref c4, .ref c5, .str "True"]) := upd_same
    have sL := same_new (o := .lst [.non, .bl true, .bl false, .int (-1), .int 0, .int 1, .int 255, .int (2 ^ Int.toNat 32 - 1), .int (2 ^ Int.toNat 32), .int (10 ^ Int.toNat 59), .str "", .str "a", .str "A", .str "A B", .str "AAAAAAAAA", .ref c1, .ref c2, .ref c3, .ref c4, .ref c5, .str "True"]) nL
    generalize ([.sc (.non), .sc (.bl true), .sc (.bl false), .sc (.int (-1)), .sc (.int 0), .sc (.int 1), .sc (.int 255), .sc (.int (2 ^ Int.toNat 32 - 1)), .sc (.int (2 ^ Int.toNat 32)), .sc (.int (10 ^ Int.toNat 59)), .sc (.str ""), .sc (.str "a"), .sc (.str "A"), .sc (.str "A B"), .sc (.str "AAAAAAAAA"), .tup [.sc (.str "A")], .lst [.sc (.str "A")], .dct [(Sum.inr "A", (.int 1 : Sc))], .lst [], .tup [], .sc (.str "True")] : List Tr) = ts at al ok ll
    generalize ([.non, .bl true, .bl false, .int (-1), .int 0, .int 1, .int 255, .int (2 ^ Int.toNat 32 - 1), .int (2 ^ Int.toNat 32), .int (10 ^ Int.toNat 59), .str "", .str "a", .str "A", .str "A B", .str "AAAAAAAAA", .ref c1, .ref c2, .ref c3, .ref c4, .ref c5, .str "True"] : List V) = vs at al eL sL ⊢
    replace al := TrsAt.up sL _ _ al
    have lv := al.len
    generalize upd H5 L (.lst vs) = HL at eL sL al ⊢
    replace sL := ss.trans sL
    walk_at "rd"
    have pnL := pn.up sL
    have nLp := (pn.up ss).ne nL
    refine ⟨pen, c, _, k, rfl, by omega, by omega, pnL, fun r Hd a b pn' kp' => ?_⟩
    obtain ⟨n, rfl⟩ : ∃ n : Nat, r = (n : Int) := ⟨r.toNat, by omega⟩
    have hn : n < vs.length := by omega
    have hx := List.getElem?_eq_getElem hn
    obtain ⟨t, ht, at1⟩ := al.get hx
    have o := ok t (List.mem_of_getElem? ht)
    obtain ⟨o1, o2⟩ := okN_of (by decide) _ _ o
    refine r_ixL (SqL.of (kp' _ _ eL nLp)) (atI_nat hx) ?_
    exact q _ t Hd (TrAt.fr (fr_keep kp' pnL) _ _ o2 at1) ⟨o2, o1⟩ (okN_len o) pn' ((Keep.same sL).tr kp')

end
end K20


namespace K20
open PySem L2 KB KO KY KV KTr

section
variable {P : Program} {w : World} {K : PySem.W.Frag} {mg : Str → Option Value} {base : Heap}
theorem fs_of {CK CF : Addr} {H : Hp} : ∀ (ys : List V) (j : Nat), (∀ (i : Nat) (v : V), ys[i]? = some v → ∃ p, (∃ x : FdV, FieldAt CK CF H p x ∧ x.low = 5 * ((j + i : Nat) : Int)) ∧ v = .ref p) → ∃ fs : List FdV, FsAt CK CF H ys fs ∧ fs.length = ys.length ∧ ∀ (i : Nat) (x : FdV), fs[i]? = some x → x.low = 5 * ((j + i : Nat) : Int)
  | [], _, _ => ⟨[], .nil, rfl, fun i x e => by simp at e⟩
  | y :: ys, j, h => by
    obtain ⟨p, ⟨x, hx, lx⟩, rfl⟩ := h 0 y rfl
    obtain ⟨fs, a, b, c⟩ := fs_of ys (j + 1) fun i v e => by
      have := h (i + 1) v e
      rw [show j + (i + 1) = j + 1 + i by omega] at this
      exact this
    refine ⟨x :: fs, .cons hx a, by rw [List.length_cons, List.length_cons, b], fun i z e => ?_⟩
    cases i with
    | zero => cases e; exact lx
    | succ i =>
      have := c i z e
      rw [show j + 1 + i = j + (i + 1) by omega] at this
      exact this
theorem ok_rthings {f CK CF eF eK : Addr} {fd : FuncData} (F : Fun K "_law_things" "_law_things" s__law_things f fd) (T : Txt mg) (c__law_draw : KB.Callee P w K mg base CX0 1 "_law_draw" ["_law_pen_here", "_law_many"] spDraw) (c__law_name : KB.Callee P w K mg base CX0 2 "_law_name" ["_law_pen_here"] spLName)
    (mkn3_Field : KTr.CalleeIN P w K mg base (L2.CX P w) 5 CF "Field" ["self", "name", "low", "size", "reading", "writing", "device", "reset", "lock", "key", "commit", "held"] (spField CK CF eF eK) 3 ["reset"] gRst) : FnOk P w K mg base CX0 7 f fd ["_law_pen_here", "_law_is_key"] (spRThings CK CF) := by
  refine F.ok sc__law_things (fun vs H Q E h => ?_) (fun cdv A outer s H vs Q E hr h => ?_)
  · obtain ⟨pen, c, k, ik, rfl, _⟩ := h
    rfl
  · obtain ⟨pen, c, k, ik, rfl, pn, q⟩ := h
    refine ⟨_, (pss_cons (ps_if (pt_val (pv 1)) (pss_cons (ps_set (i := 2) sc__law_things.nd rfl (by first | exact Or.inl rfl | exact Or.inr rfl) (pe_ix ix_list (pe_lst (pa_cons pe_int (pa_cons (pe_op op_pow pe_int pe_int) (pa_cons (pe_op op_pow pe_int pe_int) pa_nil)))) (pe_callC c__law_draw (hr.mono (by decide)) (by rfl) pass0 (pa_cons (pv 0) (pa_cons pe_int pa_nil))) (fun _ _ => rfl)))
 (pss_one (ps_ret (pe_lc (own := [("_law_step", 3)]) (g := gName 3) (tt := tYes) (by rfl) sc__law_things.nd (pi_range1 rfl T.z_range (pa_cons (pe_ix ix_list (pe_lst (pa_cons pe_int (pa_cons pe_int (pa_cons pe_int (pa_cons pe_int (pa_cons pe_int pa_nil)))))) (pe_callC c__law_draw (hr.mono (by decide)) (by rfl) pass0 (pa_cons (pv 0) (pa_cons pe_int pa_nil))) (fun _ _ => rfl)) pa_nil)) (blkOk_by (own := [("_law_step", 3)]) (N := ["_law_pen_here", "_law_is_key", "_law_top", "_law_step", "_law_many", "_law_k"]) (sc := defScope s__law_things) (by decide +kernel)) (fun _ _ _ _ _ => (pg_name (i := 3) sc__law_things.nd rfl (by first | exact Or.inl rfl | exact Or.inr rfl))) (fun _ _ _ _ _ => pts_nil) (fun _ _ _ _ _ => (pe_ix (KIx.ix_listW K rfl) (pe_lst (pa_cons (pe_op op_sub (pv 2) pe_int) (pa_cons (pe_callC c__law_draw (hr.mono (by decide)) (by rfl) pass0 (pa_cons (pv 0) (pa_cons (pv 2) pa_nil))) pa_nil))) (pe_callC c__law_draw (hr.mono (by decide)) (by rfl) pass0 (pa_cons (pv 0) (pa_cons pe_int pa_nil))) (fun _ _ => rfl)))))))
 pss_nil)
 (pss_cons (ps_set (i := 4) sc__law_things.nd rfl (by first | exact Or.inl rfl | exact Or.inr rfl) (pe_callC c__law_draw (hr.mono (by decide)) (by rfl) pass0 (pa_cons (pv 0) (pa_cons pe_int pa_nil))))
 (pss_one (ps_ret (pe_lc (own := [("_law_k", 5)]) (g := gName 5) (tt := tYes) (by rfl) sc__law_things.nd (pi_range1 rfl T.z_range (pa_cons (pv 4) pa_nil)) (blkOk_by (own := [("_law_k", 5)]) (N := ["_law_pen_here", "_law_is_key", "_law_top", "_law_step", "_law_many", "_law_k"]) (sc := defScope s__law_things) (by decide +kernel)) (fun _ _ _ _ _ => (pg_name (i := 5) sc__law_things.nd rfl (by first | exact Or.inl rfl | exact Or.inr rfl))) (fun _ _ _ _ _ => pts_nil) (fun _ _ _ _ _ => (KTr.pe_makeNC mkn3_Field (hr.mono (by decide)) (by rfl) passL (pa_cons (pe_callC c__law_name (hr.mono (by decide)) (by rfl) pass0 (pa_cons (pv 0) pa_nil)) (pa_cons (pe_op op_mul pe_int (pv 5)) (pa_cons (pe_op op_add pe_int (pe_callC c__law_draw (hr.mono (by decide)) (by rfl) pass0 (pa_cons (pv 0) (pa_cons pe_int pa_nil)))) pa_nil))) (pk_cons (pe_callC c__law_draw (hr.mono (by decide)) (by rfl) pass0 (pa_cons (pv 0) (pa_cons pe_int pa_nil))) pk_nil)))))))), at_start (σ := [some (.ref pen), some (.bl ik), none, none, none, none]) rfl ?_⟩
    try dsimp only [cx_K]
    walk_at "rd"
    cases ik with
    | true =>
      walk_at "rd"
      refine ⟨by decide, fun p np => ?_⟩
      have sp := same_new (o := .lst [V.int 256, V.int (2 ^ Int.toNat 16), V.int (2 ^ Int.toNat 32)]) np
      have npp := pn.ne np
      walk_at "rd"
      refine ⟨pen, c, 3, k + 59, rfl, by decide, by decide, pn.up sp, fun r1 H1 a1 b1 pn1 kp1 => ?_⟩
      have ep := kp1 _ _ upd_same npp
      obtain ⟨n1, rfl⟩ : ∃ n : Nat, r1 = (n : Int) := ⟨r1.toNat, by omega⟩
      obtain ⟨top, ht, t0, t1⟩ : ∃ top : Int, ([V.int 256, V.int (2 ^ Int.toNat 16), V.int (2 ^ Int.toNat 32)] : List V)[n1]? = some (.int top) ∧ 1 ≤ top ∧ top ≤ 4294967296 := by
        match n1, b1 with
        | 0, _ => exact ⟨_, rfl, by decide, by decide⟩
        | 1, _ => exact ⟨_, rfl, by decide, by decide⟩
        | 2, _ => exact ⟨_, rfl, by decide, by decide⟩
        | n + 3, b => omega
      refine r_ixL (SqL.of ep) (atI_nat ht) ?_
      replace kp1 := (Keep.same sp).tr kp1
      clear ep npp sp np ht
      walk_at "rd"
      refine ⟨by decide, fun p np => ?_⟩
      have sp := same_new (o := .lst [V.int 1, V.int 2, V.int 3, V.int 0, V.int 4]) np
      have npp := pn1.ne np
      walk_at "rd"
      refine ⟨pen, c, 5, k + 58, rfl, by decide, by decide, pn1.up sp, fun r2 H2 a2 b2 pn2 kp2 => ?_⟩
      have ep := kp2 _ _ upd_same npp
      obtain ⟨n2, rfl⟩ : ∃ n : Nat, r2 = (n : Int) := ⟨r2.toNat, by omega⟩
      obtain ⟨m, hm, m4⟩ : ∃ m : Nat, ([V.int 1, V.int 2, V.int 3, V.int 0, V.int 4] : List V)[n2]? = some (.int (m : Int)) ∧ m ≤ 4 := by
        match n2, b2 with
        | 0, _ => exact ⟨1, rfl, by decide⟩
        | 1, _ => exact ⟨2, rfl, by decide⟩
        | 2, _ => exact ⟨3, rfl, by decide⟩
        | 3, _ => exact ⟨0, rfl, by decide⟩
        | 4, _ => exact ⟨4, rfl, by decide⟩
        | n + 5, b => omega
      refine r_ixL (SqL.of ep) (atI_nat hm) ?_
      replace kp2 := (Keep.same sp).tr kp2
      clear ep npp sp np hm
      walk_at "rd"
      refine ⟨by omega, by omega, ?_⟩
      rw [Int.toNat_natCast]
      refine lc_pen (walk_range (lo := 0) (n := m)) (pen := pen) (c := c) (fun i v _ => ∃ z : Int, (0 ≤ z ∧ z ≤ 4294967295) ∧ v = .int z) (fun i => k + 58 - 2 * i) (by omega) pn2 (fun i v H H' r _ => r) (fun _ _ => trivial) (fun i x Ha Ha' N B hi kpa pna y qN => ?_) (fun D Hd ys nD kpd pnd eD ly hy => ?_)
      · obtain ⟨rfl, rfl⟩ := y
        walk_at "rd"
        refine ⟨rfl, KD.r_yes (iteT ?_)⟩
        walk_at "rd"
        refine ⟨pen, c, top, k + 58 - 2 * i - 1, rfl, by omega, by omega, pna.mono (by omega), fun r H3 a3 b3 pn3 kp3 => ?_⟩
        walk_at "rd"
        refine ⟨by walk_at "sz", fun p np => ?_⟩
        have sp := same_new (o := .lst [V.int (top - 1), V.int r]) np
        have npp := pn3.ne np
        walk_at "rd"
        refine ⟨pen, c, 2, k + 58 - 2 * (i + 1), rfl, by decide, by decide, (pn3.up sp).mono (by omega), fun r4 H4 a4 b4 pn4 kp4 => ?_⟩
        have ep := kp4 _ _ upd_same npp
        have kk := (kp3.tr (Keep.same sp)).tr kp4
        obtain ⟨n4, rfl⟩ : ∃ n : Nat, r4 = (n : Int) := ⟨r4.toNat, by omega⟩
        match n4, b4 with
        | 0, _ => exact r_ixL (SqL.of ep) (atI_nat (j := 0) rfl) (qN _ _ kk pn4 ⟨_, ⟨by omega, by omega⟩, rfl⟩)
        | 1, _ => exact r_ixL (SqL.of ep) (atI_nat (j := 1) rfl) (qN _ _ kk pn4 ⟨_, ⟨by omega, by omega⟩, rfl⟩)
        | n + 2, b => omega
      obtain ⟨cs, rfl, lc, hcs⟩ := choose_list (f := V.int) (Pr := fun _ z => 0 ≤ z ∧ z ≤ 4294967295) ys hy
      refine q D (cs.map V.int) ((cs.map fun z => Tr.sc (.int z)).map Th.tr) Hd eD (trs_ths (trs_ints cs)) ⟨?_, fun t m' => ?_, fun _ t m' => ?_, fun i x e => ?_⟩ (pn2.ne nD) (pn2.nec nD) (pnd.mono (by omega)) ((kp1.tr kp2).tr kpd)
      · rw [List.length_map] at ly
        rw [List.length_map, List.length_map]
        show _ ≤ 4
        omega
      · rw [List.map_map] at m'
        obtain ⟨z, _, rfl⟩ := List.mem_map.mp m'
        exact ⟨ok_int z, fun _ y => by cases y⟩
      · obtain ⟨u, _, rfl⟩ := List.mem_map.mp m'
        exact ⟨u, rfl⟩
      · rw [List.map_map, List.getElem?_map] at e
        cases z : cs[i]? with
        | none => rw [z] at e; cases e
        | some y => rw [z] at e; cases e
    | false =>
      walk_at "rd"
      refine ⟨pen, c, 6, k + 59, rfl, by decide, by decide, pn, fun r1 H1 a1 b1 pn1 kp1 => ?_⟩
      obtain ⟨m, rfl⟩ : ∃ n : Nat, r1 = (n : Int) := ⟨r1.toNat, by omega⟩
      walk_at "rd"
      refine ⟨by omega, by omega, ?_⟩
      rw [Int.toNat_natCast]
      refine lc_pen (walk_range (lo := 0) (n := m)) (pen := pen) (c := c) (fun i v H => ∃ p : Addr, (∃ x : FdV, FieldAt CK CF H p x ∧ x.low = 5 * ((0 + i : Nat) : Int)) ∧ v = .ref p) (fun i => k + 59 - 11 * i) (by omega) pn1 (fun i v H H' ⟨p, ⟨x, hx, l⟩, e⟩ s => ⟨p, ⟨x, hx.sn s, l⟩, e⟩) (fun _ _ => trivial) (fun i x Ha Ha' N B hi kpa pna y qN => ?_) (fun D Hd ys nD kpd pnd eD ly hy => ?_)
      · obtain ⟨rfl, rfl⟩ := y
        walk_at "rd"
        refine ⟨rfl, KD.r_yes (iteT ?_)⟩
        walk_at "rd"
        refine ⟨pen, c, k + 59 - 11 * i - 9, rfl, pna.mono (by omega), fun z H2 nz pn2 kp2 => ?_⟩
        walk_at "rd"
        refine ⟨pen, c, 5, k + 59 - 11 * i - 10, rfl, by decide, by decide, pn2.mono (by omega), fun r3 H3 a3 b3 pn3 kp3 => ?_⟩
        walk_at "rd"
        refine ⟨pen, c, 2, k + 59 - 11 * (i + 1), rfl, by decide, by decide, pn3.mono (by omega), fun r4 H4 a4 b4 pn4 kp4 => ?_⟩
        walk_at "rd"
        refine ⟨rfl, rfl, fun x dx nx nd ne => ?_⟩
        refine fld_new (y := ⟨z, 5 * (0 + (i : Int)), 1 + r3, "keep", "store", "still", r4, none, none, none, none⟩) nx nd ne (rt_new nz (by omega) (by omega) (by omega) (by omega) (by omega) (by omega)) fun H' fa s' => ?_
        exact qN _ _ (((kp2.tr kp3).tr kp4).tr (Keep.same s')) (pn4.up s') ⟨x, ⟨_, fa, by dsimp only; omega⟩, rfl⟩
      obtain ⟨fs, hf, lf, ll⟩ := fs_of ys 0 hy
      refine q D ys (fs.map Th.fld) Hd eD (fs_ths hf) ⟨?_, fun t m' => ?_, fun e => (by cases e), fun i x e => ?_⟩ (pn1.ne nD) (pn1.nec nD) (pnd.mono (by omega)) (kp1.tr kpd)
      · rw [List.length_map]
        show _ ≤ 5
        omega
      · obtain ⟨u, _, rfl⟩ := List.mem_map.mp m'
        trivial
      · rw [List.getElem?_map] at e
        cases z : fs[i]? with
        | none => rw [z] at e; cases e
        | some y =>
          rw [z] at e
          cases e
          have := ll i x z
          omega
theorem cutV_drop (xs : List V) (n : Nat) : cutV xs (some (n : Int)) none = xs.drop n := by
  unfold cutV
  rw [HT.sIx_none, HT.sIx_nat]
  by_cases h : n ≤ xs.length
  · rw [Nat.min_eq_left h, List.take_of_length_le (by rw [List.length_drop]; omega)]
  · rw [Nat.min_eq_right (by omega), List.drop_of_length_le (Nat.le_refl _), List.drop_of_length_le (by omega), List.take_nil]
theorem TgOk.put {ik : Bool} {ths : List Th} (h : TgOk ik ths) (n : Nat) (hn : n < ths.length) {t : Tr} (o : Ok t ∧ tLen 9 t) : TgOk ik (ths.take n ++ [.tr t] ++ ths.drop (n + 1)) := by
  refine ⟨?_, fun u m => ?_, fun e u m => ?_, fun i x e => ?_⟩
  · have := h.len
    simp only [List.length_append, List.length_take, List.length_drop, List.length_cons, List.length_nil]
    omega
  · rw [List.mem_append, List.mem_append] at m
    rcases m with (m | m) | m
    · exact h.ok u (List.mem_of_mem_take m)
    · rw [List.mem_singleton.mp m]
      exact o
    · exact h.ok u (List.mem_of_mem_drop m)
  · rw [List.mem_append, List.mem_append] at m
    rcases m with (m | m) | m
    · exact h.tr e u (List.mem_of_mem_take m)
    · exact ⟨t, List.mem_singleton.mp m⟩
    · exact h.tr e u (List.mem_of_mem_drop m)
  · have lt : (ths.take n).length = n := by rw [List.length_take]; omega
    by_cases h1 : i < n
    · rw [List.append_assoc, List.getElem?_append_left (by omega), List.getElem?_take, if_pos h1] at e
      exact h.lo i x e
    · rw [List.append_assoc, List.getElem?_append_right (by omega), lt] at e
      cases z : i - n with
      | zero => rw [z] at e; cases e
      | succ j =>
        rw [z] at e
        have e2 : (ths.drop (n + 1))[j]? = some (.fld x) := e
        rw [List.getElem?_drop, show n + 1 + j = i by omega] at e2
        exact h.lo i x e2
theorem ok_rspoil {f CK CF : Addr} {fd : FuncData} (F : Fun K "_law_spoil" "_law_spoil" s__law_spoil f fd) (T : Txt mg) (c__law_draw : KB.Callee P w K mg base CX0 1 "_law_draw" ["_law_pen_here", "_law_many"] spDraw) (c__law_odd : KB.Callee P w K mg base CX0 2 "_law_odd" ["_law_pen_here"] spLOdd) : FnOk P w K mg base CX0 3 f fd ["_law_pen_here", "_law_title", "_law_things_here", "_law_full"] (spRSpoil CK CF) := by
  refine F.ok sc__law_spoil (fun vs H Q E h => ?_) (fun cdv A outer s H vs Q E hr h => ?_)
  · obtain ⟨pen, c, k, v0, vw, L, items, t0, tw, ths, ik, rfl, _⟩ := h
    rfl
  · obtain ⟨pen, c, k, v0, vw, L, items, t0, tw, ths, ik, rfl, pn, ar, nLp, nLc, q⟩ := h
    refine ⟨_, (pss_cons (ps_set (i := 4) sc__law_spoil.nd rfl (by first | exact Or.inl rfl | exact Or.inr rfl) (pe_callC c__law_draw (hr.mono (by decide)) (by rfl) pass0 (pa_cons (pv 0) (pa_cons pe_int pa_nil))))
 (pss_cons (ps_if (pt_cmpR op_eq (pv 4) pe_int (nomark _)) (pss_one (ps_ret (pe_tup (pa_cons (pe_callC c__law_odd (hr.mono (by decide)) (by rfl) pass0 (pa_cons (pv 0) pa_nil)) (pa_cons (pv 2) (pa_cons (pv 3) pa_nil))))))
 pss_nil)
 (pss_cons (ps_if (pt_cmpR op_eq (pv 4) pe_int (nomark _)) (pss_one (ps_ret (pe_tup (pa_cons (pv 1) (pa_cons (pv 2) (pa_cons (pe_callC c__law_odd (hr.mono (by decide)) (by rfl) pass0 (pa_cons (pv 0) pa_nil)) pa_nil))))))
 pss_nil)
 (pss_cons (ps_if (pt_cmpR (KSt.op_eqNil hr) (pv 2) (pe_lst pa_nil) (nomark _)) (pss_one (ps_ret (pe_tup (pa_cons (pv 1) (pa_cons (pv 2) (pa_cons (pv 3) pa_nil))))))
 pss_nil)
 (pss_cons (ps_set (i := 5) sc__law_spoil.nd rfl (by first | exact Or.inl rfl | exact Or.inr rfl) (pe_callC c__law_draw (hr.mono (by decide)) (by rfl) pass0 (pa_cons (pv 0) (pa_cons (pe_callB call_len_seq (by rfl) T.z_len (by decide +kernel) (pa_cons (pv 2) pa_nil)) pa_nil))))
 (pss_one (ps_ret (pe_tup (pa_cons (pv 1) (pa_cons (pe_op op_cat (pe_op op_cat (pe_slice sl_list (pv 2) po_none (po_some (pv 5))) (pe_lst (pa_cons (pe_callC c__law_odd (hr.mono (by decide)) (by rfl) pass0 (pa_cons (pv 0) pa_nil)) pa_nil))) (pe_slice sl_list (pv 2) (po_some (pe_op op_add (pv 5) pe_int)) po_none)) (pa_cons (pv 3) pa_nil))))))))))), at_start (σ := [some (.ref pen), some v0, some (.ref L), some vw, none, none]) rfl ?_⟩
    try dsimp only [cx_K]
    walk_at "rd"
    refine ⟨pen, c, 4, k + 2, rfl, by decide, by decide, pn, fun ch H1 a1 b1 pn1 kp1 => ?_⟩
    replace ar := ar.pen pn kp1 nLp
    walk_at "rd"
    refine r_iteI2 (fun e => ?_) (fun e => ?_)
    · walk_at "rd"
      refine ⟨pen, c, k + 1, rfl, pn1, fun v t H2 r o l pn2 kp2 => ?_⟩
      replace ar := ar.pen pn1 kp2 nLp
      walk_at "rd"
      refine ⟨by walk_at "sz", fun D nD => ?_⟩
      have s2 := same_new (o := .tup [v, .ref L, vw]) nD
      exact q D v vw L items t tw ths _ upd_same ({ ar with n := r, o0 := o }.up s2) nLp nLc ((pn2.mono (by omega)).up s2) ((kp1.tr kp2).tr (Keep.same s2))
    walk_at "rd"
    refine r_iteI2 (fun e => ?_) (fun e => ?_)
    · walk_at "rd"
      refine ⟨pen, c, k + 1, rfl, pn1, fun v t H2 r o l pn2 kp2 => ?_⟩
      replace ar := ar.pen pn1 kp2 nLp
      walk_at "rd"
      refine ⟨by walk_at "sz", fun D nD => ?_⟩
      have s2 := same_new (o := .tup [v0, .ref L, v]) nD
      exact q D v0 v L items t0 t ths _ upd_same ({ ar with w := r, ow := o }.up s2) nLp nLc ((pn2.mono (by omega)).up s2) ((kp1.tr kp2).tr (Keep.same s2))
    walk_at "rd"
    refine ⟨by decide, fun p np => ?_⟩
    have sp := same_new (o := .lst []) np
    refine ⟨L, p, items, rfl, rfl, SqL.of (sp _ _ ar.l), SqL.of upd_same, _, rfl, ?_⟩
    replace ar := ar.up sp
    replace pn1 := pn1.up sp
    replace kp1 := kp1.tr (Keep.same sp)
    generalize upd H1 p (.lst []) = H2 at *
    refine r_ite2 (fun e => ?_) (fun e => ?_)
    · walk_at "rd"
      refine ⟨by walk_at "sz", fun D nD => ?_⟩
      have s2 := same_new (o := .tup [v0, .ref L, vw]) nD
      exact q D v0 vw L items t0 tw ths _ upd_same (ar.up s2) nLp nLc ((pn1.mono (by omega)).up s2) (kp1.tr (Keep.same s2))
    walk_at "rd"
    refine ⟨L, items, rfl, .inl (SqL.of ar.l), ?_⟩
    walk_at "rd"
    have ll := ar.llen
    have l1 : 1 ≤ items.length := by
      cases items with
      | nil => exact absurd rfl e
      | cons => simp
    refine ⟨pen, c, items.length, k + 1, rfl, by omega, by omega, pn1, fun at_ H3 a3 b3 pn3 kp3 => ?_⟩
    replace ar := ar.pen pn1 kp3 nLp
    obtain ⟨n, rfl⟩ : ∃ n : Nat, at_ = (n : Int) := ⟨at_.toNat, by omega⟩
    walk_at "rd"
    refine r_slL (SqL.of ar.l) fun c1 n1 => ?_
    have s4 := same_new (o := .lst (cutV items none (some (n : Int)))) n1
    have n1p := pn3.ne n1
    walk_at "rd"
    rw [cutV_take] at s4 ⊢
    have e1 : upd H3 c1 (.lst (items.take n)) c1 = some (.lst (items.take n)) := upd_same
    replace ar := ar.up s4
    replace pn3 := pn3.up s4
    replace kp3 := kp3.tr (Keep.same s4)
    generalize upd H3 c1 (.lst (items.take n)) = H4 at *
    refine ⟨pen, c, k, rfl, pn3, fun v t H5 r o l pn5 kp5 => ?_⟩
    replace ar := ar.pen pn3 kp5 nLp
    have e5 := kp5 _ _ e1 n1p
    have kpA := (kp1.tr kp3).tr kp5
    walk_at "rd"
    refine ⟨by walk_at "sz", fun c2 n2 => ?_⟩
    have s6 := same_new (o := .lst [v]) n2
    have lt : (items.take n).length ≤ 5 := by rw [List.length_take]; omega
    have ld : (items.drop (n + 1)).length ≤ 5 := by rw [List.length_drop]; omega
    refine r_cat (s6 _ _ e5) upd_same (Nat.le_trans (show _ ≤ 6 by simp; omega) (by decide)) fun c3 n3 => ?_
    have s7 := s6.trans (same_new (o := .lst (items.take n ++ [v])) n3)
    walk_at "rd"
    rw [show (n : Int) + 1 = ((n + 1 : Nat) : Int) by omega]
    refine r_slL (SqL.of (s7 _ _ ar.l)) fun c4 n4 => ?_
    rw [cutV_drop] at *
    have s8 := same_new (o := .lst (items.drop (n + 1))) n4
    refine r_cat (s8 _ _ upd_same) upd_same (Nat.le_trans (show _ ≤ 11 by simp only [List.length_append, List.length_cons, List.length_nil]; omega) (by decide)) fun c5 n5 => ?_
    have s9 := s7.trans (s8.trans (same_new (o := .lst (items.take n ++ [v] ++ items.drop (n + 1))) n5))
    walk_at "rd"
    refine ⟨by walk_at "sz", fun D nD => ?_⟩
    have s10 := s9.trans (same_new (o := .tup [v0, .ref c5, vw]) nD)
    have nc5 : c5 ≠ D := fun z => by rw [← z, upd_same] at nD; cases nD
    have u := ar.up s10
    exact q D v0 vw c5 (items.take n ++ [v] ++ items.drop (n + 1)) t0 tw (ths.take n ++ [.tr t] ++ ths.drop (n + 1)) _ upd_same
      { n := u.n, w := u.w, l := by rw [upd_ne nc5]; exact upd_same, i := ((u.i.take n).app (.cons (t := Th.tr t) (TrAt.up s10 _ _ r) .nil)).app (u.i.drop (n + 1)), g := ar.g.put n (by rw [← ar.i.len]; omega) ⟨o, l⟩, o0 := u.o0, ow := u.ow }
      ((pn5.up (s7.trans s8)).ne n5) ((pn5.up (s7.trans s8)).nec n5) (pn5.up s10) (kpA.tr (Keep.same s10))
theorem rres_name {ik : Bool} {t0 tw : Tr} {ths : List Th} (z : isNm t0 = false) : rres ik t0 tw ths = .err "name" := by
  cases ik
  · exact if_pos z
  · exact if_pos z
theorem ok_rdue {f CK CF CR CQ : Addr} {fd : FuncData} (F : Fun K "_law_due" "_law_due" s__law_due f fd) (T : TxtRg K mg CK CF CR CQ) (c__law_is_name : KB.Callee P w K mg base CX0 1 "_law_is_name" ["_law_value"] spIsName) : FnOk P w K mg base CX0 2 f fd ["_law_title", "_law_things_here", "_law_full", "_law_is_key"] (spRDue CK CF) := by
  refine F.ok sc__law_due (fun vs H Q E h => ?_) (fun cdv A outer s H vs Q E hr h => ?_)
  · obtain ⟨v0, vw, L, items, t0, tw, ths, ik, rfl, _⟩ := h
    rfl
  · obtain ⟨v0, vw, L, items, t0, tw, ths, ik, rfl, ar, q⟩ := h
    refine ⟨_, (pss_cons (ps_if (pt_not (pt_val (pe_callC c__law_is_name (hr.mono (by decide)) (by rfl) pass0 (pa_cons (pv 0) pa_nil)))) (pss_one (ps_ret pe_str))
 pss_nil)
 (pss_cons (ps_if (pt_not (pt_val (pv 3))) (pss_cons (ps_if (pt_not (pt_val (pe_callB (cr_all rfl) (by rfl) T.z_all (by decide +kernel) (pa_cons (pe_lc (own := [("_law_one", 4)]) (g := gName 4) (tt := tYes) (by rfl) sc__law_due.nd (pi_list (pv 1)) (blkOk_by (own := [("_law_one", 4)]) (N := ["_law_title", "_law_things_here", "_law_full", "_law_is_key", "_law_one", "_law_fits"]) (sc := defScope s__law_due) (by decide +kernel)) (fun _ _ _ _ _ => (pg_name (i := 4) sc__law_due.nd rfl (by first | exact Or.inl rfl | exact Or.inr rfl))) (fun _ _ _ _ _ => pts_nil) (fun _ _ _ _ _ => (pe_callB (KIx.call_isiW K rfl) (by rfl) T.z_isinstance (by decide +kernel) (pa_cons (pv 4) (pa_cons (pe_glob (v := .ref _) (by rfl) T.mg_Field rfl) pa_nil))))) pa_nil)))) (pss_one (ps_ret pe_str))
 pss_nil)
 (pss_one (ps_ret (pe_ifExp (PW.pt (pw_or (pt_cmpR KSt.op_isB (pv 2) pe_bl (nomark _)) (pw_or1 (pt_cmpR KSt.op_isB (pv 2) pe_bl (nomark _))))) pe_non pe_str))))
 pss_nil)
 (pss_cons (ps_setLc (i := 5) (own := [("_law_one", 4)]) (g := gName 4) (tt := tYes) (by rfl) sc__law_due.nd rfl rfl (sw_true rfl rfl rfl (by decide +kernel)) (pi_list (pv 1)) (blkOk_by (own := [("_law_one", 4)]) (N := ["_law_title", "_law_things_here", "_law_full", "_law_is_key", "_law_one", "_law_fits"]) (sc := defScope s__law_due) (by decide +kernel)) (fun _ _ _ _ _ => (pg_name (i := 4) sc__law_due.nd rfl (by first | exact Or.inl rfl | exact Or.inr rfl))) (fun _ _ _ _ _ => pts_nil) (fun _ _ _ _ _ => (pe_and (pe_callB (KIx.call_isiW K rfl) (by rfl) T.z_isinstance (by decide +kernel) (pa_cons (pv 4) (pa_cons (pe_bltn (v := .ty "int") (by rfl) T.z_int (by decide +kernel) rfl) pa_nil))) (pe_and (pe_not (pe_callB (KIx.call_isiW K rfl) (by rfl) T.z_isinstance (by decide +kernel) (pa_cons (pv 4) (pa_cons (pe_bltn (v := .ty "bool") (by rfl) T.z_bool (by decide +kernel) rfl) pa_nil)))) (pe_one (pe_chain op_le op_lt pe_int (pv 4) (pe_op op_pow pe_int pe_int)))))))
 (pss_one (ps_ret (pe_ifExp (PW.pt (pw_and (pt_chain op_le op_le pe_int (pe_callB call_len_seq (by rfl) T.z_len (by decide +kernel) (pa_cons (pv 1) pa_nil)) pe_int) (pw_and1 (pt_val (pe_callB (cr_all rfl) (by rfl) T.z_all (by decide +kernel) (pa_cons (pv 5) pa_nil)))))) pe_non pe_str)))))), at_start (σ := [some v0, some (.ref L), some vw, some (.bl ik), none, none]) rfl ?_⟩
    try dsimp only [cx_K]
    walk_at "rd"
    refine ⟨v0, t0, rfl, ar.n, ar.o0.sm, fun H1 s1 => ?_⟩
    walk_at "rd"
    refine r_iteBN (fun z => ?_) (fun z => ?_)
    · walk_at "rd"
      rw [rres_name z] at q
      exact q _ s1
    walk_at "rd"
    have ar1 := ar.up s1
    have hi1 := ar1.i
    have ll := ar.llen
    cases ik with
    | false =>
      walk_at "rd"
      refine ⟨L, rfl, ⟨_, SqL.of ar1.l⟩, lc_all (walk_list (xs := items)) (j := 4) (fun i => items.getD i .non) (fun _ => true) (fun i => .bl (ths.getD i (.tr (.sc .non))).isF) (by omega) (fun i H x H' hi y => yat y) (fun H' s => SqL.of (s _ _ ar1.l)) (fun x => rfl) (fun i H' hi s QT q => q _ (Same.refl _)) (fun i H' hi2 _ s2 Q2 q2 => ?_) (fun D H2 nD s2 eD => ?_)⟩
      · obtain ⟨v, th, e1, e2, e3, r⟩ := hi1.getD hi2
        walk_at "rd"
        rw [List.getD_eq_getElem?_getD, e1]
        refine r_isF T (r.up s2) ?_
        rw [e3] at q2
        exact q2 _ (Same.refl _)
      rw [hi1.len, given_bl ths (.tr (.sc .non)) Th.isF] at eD
      refine ⟨D, _, rfl, SqL.of eD, ?_⟩
      rw [all_id]
      have s12 := s1.trans s2
      walk_at "rd"
      refine r_iteBN (fun z2 => ?_) (fun z2 => ?_)
      · walk_at "rd"
        rw [show rres false t0 tw ths = .err "fields" from by show regres t0 ths tw = _; unfold regres; rw [if_neg (by rw [z]; simp), if_pos z2]] at q
        exact q _ s12
      have e1 : rres false t0 tw ths = if isBl tw = false then .err "whole" else .ok := by show regres t0 ths tw = _; unfold regres; rw [if_neg (by rw [z]; simp), if_neg (by rw [z2]; simp)]
      rw [e1] at q
      walk_at "rd"
      refine ⟨_, rfl, ?_⟩
      rcases bl_or ar.w with ⟨b, rfl, rfl⟩ | ⟨nb, e⟩
      · cases b with
        | true =>
          rw [decide_eq_true rfl]
          walk_at "rd"
          exact q _ s12
        | false =>
          rw [decide_eq_false (by simp)]
          walk_at "rd"
          refine ⟨_, rfl, ?_⟩
          rw [decide_eq_true rfl]
          walk_at "rd"
          exact q _ s12
      · rw [nb]
        walk_at "rd"
        refine ⟨_, rfl, ?_⟩
        rw [nb]
        walk_at "rd"
        rw [e] at q
        exact q _ s12
    | true =>
      walk_at "rd"
      have hk := ths_trs hi1 (ar.g.tr rfl)
      have lk : (ths.map Th.tree).length = ths.length := List.length_map _
      rw [show rres true t0 tw ths = keyres t0 (ths.map Th.tree) from rfl] at q
      generalize ths.map Th.tree = ts at hk lk q
      refine ⟨L, rfl, ⟨_, SqL.of ar1.l⟩, lc_all (walk_list (xs := items)) (j := 4) (fun i => items.getD i .non) (fun _ => true) (fun i => .bl (isNum 0 4294967295 (ts.getD i (.sc .non)))) (by omega) (fun i H x H' hi y => yat y) (fun H' s => SqL.of (s _ _ ar1.l)) (fun x => rfl) (fun i H' hi s QT q => q _ (Same.refl _)) (fun i H' hi2 _ s2 Q2 q2 => ?_) (fun D H2 nD s2 eD => ?_)⟩
      · have e1 := List.getElem?_eq_getElem hi2
        obtain ⟨tv, etv, r⟩ := hk.get e1
        walk_at "rd"
        rw [List.getD_eq_getElem?_getD, e1]
        rw [show ts.getD i (.sc .non) = tv by rw [List.getD_eq_getElem?_getD, etv]; rfl] at q2
        refine r_isT (TrAt.up s2 _ _ r) (by decide) ?_
        refine ⟨_, rfl, ?_⟩
        rcases int_or tv with ⟨z3, rfl⟩ | ⟨no, nm⟩
        · rw [show (some items[i]).getD V.non = V.int z3 from sc_at r]
          rw [show isaB (Tr.sc (Sc.int z3)).ty "int" = true from rfl]
          walk_at "rd"
          refine r_isT (.sc (.int z3)) (by decide) ?_
          rw [show isaB (Tr.sc (Sc.int z3)).ty "bool" = false from rfl]
          walk_at "rd"
          refine KC.r_chain ?_
          walk_at "rd"
          refine r_ite2 (fun y1 => ?_) (fun y1 => ?_)
          · walk_at "rd"
            have e : isNum 0 4294967295 (.sc (.int z3)) = decide (z3 < 2 ^ Int.toNat 32) := by
              show decide (0 ≤ z3 ∧ z3 ≤ 4294967295) = _
              rw [show (2 : Int) ^ Int.toNat 32 = 4294967296 from by decide]
              exact decide_eq_decide.mpr ⟨fun h => by omega, fun h => ⟨y1, by omega⟩⟩
            rw [e] at q2
            exact q2 _ (Same.refl _)
          · walk_at "rd"
            rw [show isNum 0 4294967295 (.sc (.int z3)) = false from decide_eq_false (fun y => y1 y.1)] at q2
            exact q2 _ (Same.refl _)
        · rw [nm] at q2
          cases e : isaB tv.ty "int" with
          | false =>
            walk_at "rd"
            exact q2 _ (Same.refl _)
          | true =>
            rw [e, Bool.true_and] at no
            walk_at "rd"
            refine r_isT (TrAt.up s2 _ _ r) (by decide) ?_
            rw [show isaB tv.ty "bool" = true from by revert no; cases isaB tv.ty "bool" <;> simp]
            walk_at "rd"
            exact q2 _ (Same.refl _)
      walk_at "rd"
      have s12 := s1.trans s2
      have li2 : items.length = ts.length := by rw [ar.i.len, lk]
      rw [li2, given_bl ts (.sc .non) (isNum 0 4294967295)] at eD
      refine KC.r_chain ?_
      walk_at "rd"
      refine ⟨L, items, rfl, .inl (SqL.of (s2 _ _ ar1.l)), ?_⟩
      walk_at "rd"
      have e0 : keyres t0 ts = if decide (1 ≤ ts.length ∧ ts.length ≤ 3) = false then .err "constants" else if ts.all (isNum 0 4294967295) = false then .err "constants" else .ok := by unfold keyres; rw [if_neg (by rw [z]; simp)]
      rw [e0] at q
      refine r_ite2 (fun y1 => ?_) (fun y1 => ?_)
      rotate_left
      · walk_at "rd"
        rw [if_pos (decide_eq_false (by omega))] at q
        exact q _ s12
      walk_at "rd"
      refine r_ite2 (fun y2 => ?_) (fun y2 => ?_)
      rotate_left
      · walk_at "rd"
        rw [if_pos (decide_eq_false (by omega))] at q
        exact q _ s12
      rw [if_neg (by rw [decide_eq_true (show 1 ≤ ts.length ∧ ts.length ≤ 3 by omega)]; simp)] at q
      walk_at "rd"
      refine ⟨D, _, rfl, SqL.of eD, ?_⟩
      rw [all_id]
      refine ⟨_, rfl, ?_⟩
      cases z2 : ts.all (isNum 0 4294967295) with
      | true =>
        walk_at "rd"
        rw [z2] at q
        exact q _ s12
      | false =>
        walk_at "rd"
        rw [z2] at q
        exact q _ s12

end
end K20


namespace K20
open PySem L2 KB KO KY KV KTr
/-! ### what the law asks of registers -/
structure TxtRR (K : PySem.W.Frag) (mg : Str → Option Value) (CB eM eF : Addr) : Prop extends TxtN mg where
  mg_BitError : mg "BitError" = some (.ref CB)
  mg_InvalidField : mg "InvalidField" = some (.ref eF)
  mg_InvalidMap : mg "InvalidMap" = some (.ref eM)
  hMM : PySem.W.exmOne K (.ref eM) (.ref eM) = some true
  excM : ExcC K eM
  xfM : XfC K eM
  nofN : PySem.W.findIn K (.ref eM) "name" = some none
  nofR : PySem.W.findIn K (.ref eM) "reason" = some none
  kMB : PySem.W.kitOne K (.ref eM) (.ref CB) = some true
  kMV : PySem.W.kitOne K (.ref eM) (.type "ValueError") = some true
  kMF : PySem.W.kitOne K (.ref eM) (.ref eF) = some false
def spRRefused (CK CF : Addr) : Sp := fun vs H Q _ => ∃ (v0 vw : V) (L : Addr) (items : List V) (t0 tw : Tr) (ths : List Th) (ik : Bool), vs = [v0, .ref L, vw, .bl ik] ∧ Args3 CK CF H v0 vw L items t0 tw ths ik ∧
  (∀ rs, rres ik t0 tw ths = .err rs → ∀ D H', H' D = some (.tup [v0, .str rs, .bl true, .bl true, .bl false]) → Same H H' → Q (.ref D) H') ∧ (rres ik t0 tw ths = .ok → ∀ H', Same H H' → Q .non H')
/-- a register that was made of these arguments -/
inductive MadeOf : RgV → Bool → Str → List Th → V → Prop
  | reg (nm : Str) (fs : List FdV) (wh : Bool) : MadeOf (.reg nm fs wh) false nm (fs.map Th.fld) (.bl wh)
  | key (nm : Str) (cs : List Int) (vw : V) (no : numOk cs) (l1 : 1 ≤ cs.length) (l3 : cs.length ≤ 3) : MadeOf (.key nm cs) true nm (cs.map fun c => .tr (.sc (.int c))) vw
def spRRight (CK CF CR CQ : Addr) : Sp := fun vs H Q _ => ∃ (p : Addr) (nm : Str) (vw : V) (L : Addr) (items : List V) (tw : Tr) (ths : List Th) (ik : Bool) (r : RgV), vs = [.ref p, .str nm, .ref L, vw, .bl ik] ∧ Args3 CK CF H (.str nm) vw L items (.sc (.str nm)) tw ths ik ∧ NmS nm ∧ RgAt CK CF CR CQ H p r ∧ MadeOf r ik nm ths vw ∧ ∀ H', Same H H' → Q (.bl true) H'
theorem tree_tr : ∀ {ths : List Th}, (∀ t ∈ ths, ∃ u, t = Th.tr u) → (ths.map Th.tree).map Th.tr = ths
  | [], _ => rfl
  | t :: ths, h => by
    obtain ⟨u, rfl⟩ := h _ List.mem_cons_self
    rw [List.map_cons, List.map_cons, tree_tr fun t m => h t (List.mem_cons_of_mem _ m)]
    rfl
theorem trs_inj {H : Hp} : ∀ {vs : List V} {cs : List Int}, TrsAt H vs (cs.map fun c => .sc (.int c)) → vs = cs.map V.int
  | _, [], .nil => rfl
  | _, _ :: _, .cons h r => by
    rw [trs_inj r, List.map_cons]
    cases h
    rfl
theorem fs_inv {CK CF : Addr} {H : Hp} : ∀ {vs : List V} {fs : List FdV}, ThsAt CK CF H vs (fs.map Th.fld) → FsAt CK CF H vs fs
  | _, [], .nil => .nil
  | _, _ :: _, .cons ⟨p, e, f⟩ r => by
    subst e
    exact .cons f (fs_inv r)
theorem ths_ints {CK CF : Addr} {H : Hp} : ∀ {vs : List V} {cs : List Int}, ThsAt CK CF H vs (cs.map fun c => Th.tr (.sc (.int c))) → vs = cs.map V.int
  | _, [], .nil => rfl
  | _, _ :: _, .cons h r => by
    rw [ths_ints r, List.map_cons]
    cases (show TrAt H _ _ from h)
    rfl


section
variable {P : Program} {w : World} {K : PySem.W.Frag} {mg : Str → Option Value} {base : Heap}
theorem ok_rrefused {f CK CF CR CQ CB eM eF : Addr} {fd : FuncData} (F : Fun K "_law_refused" "_law_refused" s__law_refused f fd) (T : TxtRR K mg CB eM eF) (c__law_plain : KB.Callee P w K mg base (L2.CX P w) 6 "_law_plain" ["_law_title", "_law_fields", "_law_full"] (spLPlain CK CF CR CQ eM))
    (c__law_key : KB.Callee P w K mg base (L2.CX P w) 8 "_law_key" ["_law_title", "_law_numbers"] (spLKey CK CF CR CQ eM)) : FnOk P w K mg base CX0 9 f fd ["_law_title", "_law_things_here", "_law_full", "_law_is_key"] (spRRefused CK CF) := by
  refine F.ok sc__law_refused (fun vs H Q E h => ?_) (fun cdv A outer s H vs Q E hr h => ?_)
  · obtain ⟨v0, vw, L, items, t0, tw, ths, ik, rfl, _⟩ := h
    rfl
  · obtain ⟨v0, vw, L, items, t0, tw, ths, ik, rfl, ar, qe, qo⟩ := h
    refine ⟨_, (pss_cons (ps_set (i := 4) sc__law_refused.nd rfl (by first | exact Or.inl rfl | exact Or.inr rfl) pe_non)
 (pss_cons (KX.ps_try_keeps rfl rfl sc__law_refused.nd L2.takes0 rfl (fun W pn xe tk _ => KX.pss_body rfl tk fun E hx => (pss_one (ps_if (pt_val (pv 3)) (pss_one (ps_expr (pe_callC c__law_key (hr.mono (by decide)) (by rfl) hx (pa_cons (pv 0) (pa_cons (pv 1) pa_nil)))))
 (pss_one (ps_expr (pe_callC c__law_plain (hr.mono (by decide)) (by rfl) hx (pa_cons (pv 0) (pa_cons (pv 1) (pa_cons (pv 2) pa_nil))))))))) (KX.HksOk.cons (i := 5) rfl rfl ⟨rfl, by decide, .inl T.mg_InvalidMap⟩ (fun a oe cls d pn hz hf => (by exact (pss_one (ps_set (i := 4) sc__law_refused.nd rfl (by first | exact Or.inl rfl | exact Or.inr rfl) (pe_tup (pa_cons (KIx.pe_xs K rfl hz hf (pv 5)) (pa_cons (KIx.pe_xs K rfl hz hf (pv 5)) (pa_cons (pe_callB (KIx.call_isS K rfl hz hf) (by rfl) T.z_isinstance (by decide +kernel) (pa_cons (pv 5) (pa_cons (pe_glob (v := .ref _) (by rfl) T.mg_BitError rfl) pa_nil))) (pa_cons (pe_callB (KIx.call_isS K rfl hz hf) (by rfl) T.z_isinstance (by decide +kernel) (pa_cons (pv 5) (pa_cons (pe_bltn (v := .ty "ValueError") (by rfl) T.z_ValueError (by decide +kernel) rfl) pa_nil))) (pa_cons (pe_callB (KIx.call_isS K rfl hz hf) (by rfl) T.z_isinstance (by decide +kernel) (pa_cons (pv 5) (pa_cons (pe_glob (v := .ref _) (by rfl) T.mg_InvalidField rfl) pa_nil))) pa_nil)))))))))) KX.HksOk.nil))
 (pss_one (ps_ret (pv 4))))), at_start (σ := [some v0, some (.ref L), some vw, some (.bl ik), none, none]) rfl ?_⟩
    try dsimp only [cx_K]
    walk_at "rd"
    refine ⟨fun cls d H' => Same H H' ∧ ∃ dd rs, cls = .ref eM ∧ d = some dd ∧ rres ik t0 tw ths = .err rs ∧ H' dd = some (.xd [("reason", .str rs), ("name", v0)]), fun cls d σ' H' hl he => ?_, ?_⟩
    · obtain ⟨x0, x1, x2, x3, x4, x5, rfl⟩ : ∃ x0 x1 x2 x3 x4 x5, σ' = [x0, x1, x2, x3, x4, x5] := by
        match σ', hl with
        | [x0, x1, x2, x3, x4, x5], _ => exact ⟨_, _, _, _, _, _, rfl⟩
      obtain ⟨s1, dd, rs, rfl, rfl, er, hd⟩ := he
      refine ⟨true, T.hMM, fun _ a na => ?_, fun z => (by cases z)⟩
      dsimp only [List.set]
      walk_at "rd"
      refine ⟨_, rfl, rfl, eM, dd, _, _, rfl, rfl, hd, T.xfM, T.nofN, rfl, ?_⟩
      walk_at "rd"
      refine ⟨_, rfl, rfl, eM, dd, _, _, rfl, rfl, hd, T.xfM, T.nofR, rfl, ?_⟩
      walk_at "rd"
      refine ⟨eM, dd, _, _, _, true, rfl, rfl, rfl, hd, T.excM, .own _, T.kMB, ?_⟩
      walk_at "rd"
      refine ⟨eM, dd, _, _, _, true, rfl, rfl, rfl, hd, T.excM, .ty _, T.kMV, ?_⟩
      walk_at "rd"
      refine ⟨eM, dd, _, _, _, false, rfl, rfl, rfl, hd, T.excM, .own _, T.kMF, ?_⟩
      walk_at "rd"
      refine ⟨by walk_at "sz", fun c2 n2 => ?_⟩
      walk_at "rd"
      intro ua
      walk_at "rd"
      have n12 : c2 ≠ a := fun z => by rw [← z, upd_same] at ua; cases ua
      have s2 := s1.trans (same_new (o := .tup [v0, .str rs, .bl true, .bl true, .bl false]) n2)
      exact qe rs er c2 _ (by rw [upd_ne n12]; exact upd_same) (s2.trans (same_new (o := KX.exh a (.ref eM) (some dd)) ua))
    · walk_at "rd"
      cases ik with
      | true =>
        walk_at "rd"
        refine ⟨v0, L, items, t0, ths.map Th.tree, rfl, ar.l, ths_trs ar.i (ar.g.tr rfl), ar.n, ar.o0.sm, by rw [ar.i.len]; exact ar.g.len, fun rs e d H' s' hd => ⟨s', d, rs, rfl, rfl, e, hd⟩, fun nm cs e1 e2 e3 e4 e5 l1 l3 p H' hp s' => ?_⟩
        walk_at "rd"
        refine qo ?_ _ s'
        show keyres t0 (ths.map Th.tree) = .ok
        rw [e2, e4]
        exact key_ok e3 l1 l3 e5
      | false =>
        walk_at "rd"
        refine ⟨v0, vw, L, items, t0, tw, ths, rfl, ar.l, ar.i, ar.n, ar.o0.sm, ar.w, by rw [ar.i.len]; exact ar.g.len, fun rs e d H' s' hd => ⟨s', d, rs, rfl, rfl, e, hd⟩, fun nm fs wh e1 e2 e3 e4 e5 p H' hp s' => ?_⟩
        walk_at "rd"
        refine qo ?_ _ s'
        show regres t0 ths tw = .ok
        rw [e2, e4, e5]
        exact reg_ok e3
theorem ok_rright {f CK CF CR CQ : Addr} {fd : FuncData} (F : Fun K "_law_is_right" "_law_is_right" s__law_is_right f fd) (T : TxtRg K mg CK CF CR CQ) (c__law_same : KB.Callee P w K mg base CX0 2 "_law_same" ["_law_told", "_law_due_here"] (spSame 1)) (eq_Field : KO.OwnM P w K mg base 2 CF "__eq__" ["self", "other"] (spEqF CK CF)) : FnOk P w K mg base CX0 5 f fd ["_law_made", "_law_title", "_law_things_here", "_law_full", "_law_is_key"] (spRRight CK CF CR CQ) := by
  refine F.ok sc__law_is_right (fun vs H Q E h => ?_) (fun cdv A outer s H vs Q E hr h => ?_)
  · obtain ⟨p, nm, vw, L, items, tw, ths, ik, r, rfl, _⟩ := h
    rfl
  · obtain ⟨p, nm, vw, L, items, tw, ths, ik, r, rfl, ar, nmo, hp, mo, q⟩ := h
    have cl := T.rc.cl
    have n0 := T.rc.n_name
    have n1 := T.rc.n_fields
    have n2 := T.rc.n_whole
    have cq := T.qc.cl
    have m0 := T.qc.n_name
    have m1 := T.qc.n_fields
    have m2 := T.qc.n_whole
    have m3 := T.n_constants
    refine ⟨_, (pss_cons (ps_if (PW.pt (pw_or (pt_not (pt_val (pe_callB call_isi (by rfl) T.z_isinstance (by decide +kernel) (pa_cons (pv 0) (pa_cons (pe_glob (v := .ref _) (by rfl) T.mg_Register rfl) pa_nil))))) (pw_or (pt_cmpR op_ne (pe_callB call_isi (by rfl) T.z_isinstance (by decide +kernel) (pa_cons (pv 0) (pa_cons (pe_glob (v := .ref _) (by rfl) T.mg_KeyRegister rfl) pa_nil))) (pv 4) (nomark _)) (pw_or1 (pt_not (pt_val (pe_callC c__law_same (hr.mono (by decide)) (by rfl) pass0 (pa_cons (pe_fld (pv 0) rfl) (pa_cons (pv 1) pa_nil))))))))) (pss_one (ps_ret pe_bl))
 pss_nil)
 (pss_cons (ps_if (pt_val (pv 4)) (pss_one (ps_ret (pe_and (pe_callC c__law_same (hr.mono (by decide)) (by rfl) pass0 (pa_cons (pe_fld (pv 0) rfl) (pa_cons (pe_callTy call_tuple_of (by rfl) T.z_tuple (by decide +kernel) (pa_cons (pv 2) pa_nil)) pa_nil))) (pe_and (pe_callC c__law_same (hr.mono (by decide)) (by rfl) pass0 (pa_cons (pe_fld (pv 0) rfl) (pa_cons (pe_tup pa_nil) pa_nil))) (pe_one (pe_cmpR op_is_bl (pe_fld (pv 0) rfl) pe_bl (nomark _)))))))
 pss_nil)
 (pss_cons (ps_if (PW.pt (pw_or (pt_not (pt_val (pe_callB call_isi (by rfl) T.z_isinstance (by decide +kernel) (pa_cons (pe_fld (pv 0) rfl) (pa_cons (pe_bltn (v := .ty "tuple") (by rfl) T.z_tuple (by decide +kernel) rfl) pa_nil))))) (pw_or (pt_cmpR op_ne (pe_callB call_len_seq (by rfl) T.z_len (by decide +kernel) (pa_cons (pe_fld (pv 0) rfl) pa_nil)) (pe_callB call_len_seq (by rfl) T.z_len (by decide +kernel) (pa_cons (pv 2) pa_nil)) (nomark _)) (pw_or1 (pt_not (pt_val (pe_callC c__law_same (hr.mono (by decide)) (by rfl) pass0 (pa_cons (pe_fld (pv 0) rfl) (pa_cons (pv 3) pa_nil))))))))) (pss_one (ps_ret pe_bl))
 pss_nil)
 (pss_one (ps_ret (pe_callB (cr_all rfl) (by rfl) T.z_all (by decide +kernel) (pa_cons (pe_lc (own := [("_law_one", 5), ("_law_other", 6)]) (g := gTup K 2 (gCons (gName 5) (gCons (gName 6) gNil))) (tt := tYes) (by rfl) sc__law_is_right.nd (KZm.pi_zipM (by rfl) T.z_zip (pa_cons (pe_fld (pv 0) rfl) (pa_cons (pv 2) pa_nil))) (blkOk_by (own := [("_law_one", 5), ("_law_other", 6)]) (N := ["_law_made", "_law_title", "_law_things_here", "_law_full", "_law_is_key", "_law_one", "_law_other"]) (sc := defScope s__law_is_right) (by decide +kernel)) (fun _ _ _ _ _ => (pg_tup rfl (pgs_cons (pg_name (i := 5) sc__law_is_right.nd rfl (by first | exact Or.inl rfl | exact Or.inr rfl)) (pgs_cons (pg_name (i := 6) sc__law_is_right.nd rfl (by first | exact Or.inl rfl | exact Or.inr rfl)) pgs_nil)))) (fun _ _ _ _ _ => pts_nil) (fun _ _ _ _ _ => (pe_cmpR op_is_bl (pe_cmpR (KIx.op_eqOW K rfl eq_Field (hr.mono (by decide))) (pv 5) (pv 6) (nomark _)) pe_bl (nomark _)))) pa_nil))))))), at_start (σ := [some (.ref p), some (.str nm), some (.ref L), some vw, some (.bl ik), none, none]) rfl ?_⟩
    try dsimp only [cx_K]
    have bd0 : Bd 1 (.sc (.str nm)) := .sc _ fun x e => by cases e; exact Nat.le_trans nmo.len (by decide)
    cases mo with
    | reg _ fs wh =>
      obtain ⟨dx, t, jt, e1, e2, e3⟩ := hp
      walk_at "rd"
      refine ⟨_, _, _, _, true, rfl, .own CR, T.tyR e1, T.isRR, ?_⟩
      refine ⟨_, rfl, ?_⟩
      walk_at "rd"
      refine ⟨_, _, _, _, false, rfl, .own CQ, T.tyR e1, T.isRQ, ?_⟩
      walk_at "rd"
      refine KB.r_iteNF rfl ?_
      walk_at "rd"
      refine ⟨_, _, _, rfl, .sc (.str nm), .sc (.str nm), bd0, fun H1 s1 => ?_⟩
      have ar1 := ar.up s1
      have f1 := s1 _ _ e1
      have f2 := s1 _ _ e2
      have f3 := e3.up s1
      walk_at "rd"
      refine ⟨_, _, .type "tuple", _, true, rfl, .ty _, .base (.tup f2), kit_ty (by decide +kernel), ?_⟩
      refine ⟨_, rfl, ?_⟩
      walk_at "rd"
      have lf : jt.length = fs.length := f3.len
      have li : items.length = fs.length := by rw [ar1.i.len, List.length_map]
      refine ⟨t, jt, rfl, .inr (SqT.of f2), ?_⟩
      walk_at "rd"
      refine ⟨L, items, rfl, .inl (SqL.of ar1.l), ?_⟩
      walk_at "rd"
      refine KB.r_iteNF (by rw [lf, li]) ?_
      walk_at "rd"
      refine ⟨_, _, _, rfl, .sc (.bl wh), .sc (.bl wh), .sc _ fun _ e => (by cases e), fun H2 s2 => ?_⟩
      have g1 := s2 _ _ f1
      walk_at "rd"
      refine KZm.r_zipM ?_
      walk_at "rd"
      have g2 := s2 _ _ f2
      have ar2 := ar1.up s2
      have f4 := f3.up s2
      have f5 := fs_inv ar2.i
      refine ⟨t, L, jt, items, rfl, SqT.of g2, SqL.of ar2.l, KD.lc_made (KZm.walk_zipM (xs := jt) (ys := items) (n := fs.length) (by rw [lf, li, Nat.min_self])) (fun i v H' => v = .bl true) (by have := ar2.llen; omega) (fun i v Ha Hb z _ => z) (fun H' sm => ⟨SqT.of (sm _ _ g2), SqL.of (sm _ _ ar2.l)⟩) (fun i x0 Ha Ha' N B' hi sa y qN => ?_) (fun D Hd ys nD sd eD ly hy => ?_)⟩
      · obtain ⟨t2, xv, yv, rfl, nt, rfl, hxv, hyv⟩ := y
        dsimp only at hxv hyv
        obtain ⟨pa, xa, rfl, exa, fa⟩ := f4.get hxv
        obtain ⟨pb, xb, rfl, exb, fb⟩ := f5.get hyv
        obtain rfl : xa = xb := by rw [exa] at exb; exact Option.some.inj exb
        have sc := sa.trans (same_new (o := .tup [.ref pa, .ref pb]) nt)
        refine r_gtup (SqT.of upd_same) rfl ?_
        have st := same_new (o := .tup [.ref pa, .ref pb]) nt
        generalize upd Ha t2 (.tup [.ref pa, .ref pb]) = Hb at sc st ⊢
        walk_at "rd"
        refine ⟨rfl, KD.r_yes (iteT ?_)⟩
        walk_at "rd"
        have fa' := fa.up sc
        have fb' := fb.up sc
        obtain ⟨d1, k1, h1, _⟩ := id fa'
        obtain ⟨d2, k2, h2, _⟩ := id fb'
        refine ⟨pa, d1, _, pb, CF, d2, _, rfl, rfl, h1, h2, T.nfF, .inl ⟨pa, pb, xa, xa, rfl, fa', fb', ?_⟩⟩
        rw [decide_eq_true rfl]
        walk_at "rd"
        exact ⟨_, _, rfl, rfl, qN _ _ st rfl⟩
      · obtain rfl : ys = (List.replicate fs.length true).map V.bl := by
          refine List.ext_getElem? fun i => ?_
          rw [List.getElem?_map, List.getElem?_replicate]
          by_cases hi : i < fs.length
          · obtain ⟨z, hz⟩ : ∃ z, ys[i]? = some z := ⟨_, List.getElem?_eq_getElem (by omega)⟩
            rw [hz, hy i z hz, if_pos hi]
            rfl
          · rw [if_neg hi, List.getElem?_eq_none (by omega)]
            rfl
        refine ⟨D, _, rfl, SqL.of eD, ?_⟩
        rw [show (List.replicate fs.length true).all id = true by simp]
        exact q _ (s1.trans (s2.trans sd))
    | key _ cs _ no l1 l3 =>
      obtain ⟨dx, t, c, e1, e2, e3⟩ := hp
      walk_at "rd"
      refine ⟨_, _, _, _, true, rfl, .own CR, T.tyQ e1, T.isQR, ?_⟩
      refine ⟨_, rfl, ?_⟩
      walk_at "rd"
      refine ⟨_, _, _, _, true, rfl, .own CQ, T.tyQ e1, T.isQQ, ?_⟩
      walk_at "rd"
      refine KB.r_iteNF rfl ?_
      walk_at "rd"
      refine ⟨_, _, _, rfl, .sc (.str nm), .sc (.str nm), bd0, fun H1 s1 => ?_⟩
      have ar1 := ar.up s1
      have f1 := s1 _ _ e1
      have f2 := s1 _ _ e2
      have f3 := s1 _ _ e3
      have hI := ths_ints ar1.i
      subst hI
      walk_at "rd"
      refine ⟨L, _, rfl, .inl ⟨SqL.of ar1.l, fun l nl => ?_⟩⟩
      walk_at "rd"
      have s2 := same_new (o := .tup (cs.map V.int)) nl
      have bdc : Bd 1 (.tup (cs.map fun c => .sc (.int c))) := .tup (by rw [List.length_map]; omega) fun t m => by
        obtain ⟨c, _, rfl⟩ := List.mem_map.mp m
        exact .sc _ fun _ e => by cases e
      refine ⟨_, _, _, rfl, .tup (s2 _ _ f3) (trs_ints cs), .tup upd_same (trs_ints cs), bdc, fun H3 s3 => ?_⟩
      have s23 := s2.trans s3
      have g1 := s23 _ _ f1
      have g2 := s23 _ _ f2
      walk_at "rd"
      refine ⟨by walk_at "sz", fun l2 nl2 => ?_⟩
      walk_at "rd"
      have s4 := same_new (o := .tup []) nl2
      refine ⟨_, _, .tup [], rfl, .tup (s4 _ _ g2) .nil, .tup upd_same .nil, .tup (by decide) fun t m => (by cases m), fun H5 s5 => ?_⟩
      have k1 := s5 _ _ (s4 _ _ g1)
      walk_at "rd"
      refine ⟨_, _, rfl, rfl, ?_⟩
      exact q _ (s1.trans (s23.trans (s4.trans s5)))

end
end K20


namespace K20
open PySem L2 KB KO KY KV KTr
/-! ### equal registers -/
theorem RgAt.sn {CK CF CR CQ : Addr} {H H' : Hp} {p : Addr} {x : RgV} (h : RgAt CK CF CR CQ H p x) (s : KD.SameN H H') : RgAt CK CF CR CQ H' p x := by
  have fsn : ∀ {vs : List V} {xs : List FdV}, FsAt CK CF H vs xs → FsAt CK CF H' vs xs := fun a => by
    induction a with
    | nil => exact .nil
    | cons h r ih => exact .cons (h.sn s) ih
  cases x with
  | reg nm fs wh => obtain ⟨dx, t, items, a, b, c⟩ := h; exact ⟨dx, t, items, s.ins a, s.tup b, fsn c⟩
  | key nm cs => obtain ⟨dx, t, c, a, b, e⟩ := h; exact ⟨dx, t, c, s.ins a, s.tup b, s.tup e⟩
inductive RsAt (CK CF CR CQ : Addr) (H : Hp) : List V → List RgV → Prop
  | nil : RsAt CK CF CR CQ H [] []
  | cons {p : Addr} {x : RgV} {vs : List V} {xs : List RgV} (h : RgAt CK CF CR CQ H p x) (r : RsAt CK CF CR CQ H vs xs) : RsAt CK CF CR CQ H (.ref p :: vs) (x :: xs)
theorem RsAt.up {CK CF CR CQ : Addr} {H H' : Hp} (s : Same H H') : ∀ {vs : List V} {xs : List RgV}, RsAt CK CF CR CQ H vs xs → RsAt CK CF CR CQ H' vs xs
  | _, _, .nil => .nil
  | _, _, .cons h r => .cons (h.up s) (RsAt.up s r)
theorem RsAt.sn {CK CF CR CQ : Addr} {H H' : Hp} (s : KD.SameN H H') : ∀ {vs : List V} {xs : List RgV}, RsAt CK CF CR CQ H vs xs → RsAt CK CF CR CQ H' vs xs
  | _, _, .nil => .nil
  | _, _, .cons h r => .cons (h.sn s) (RsAt.sn s r)
theorem RsAt.len {CK CF CR CQ : Addr} {H : Hp} : ∀ {vs : List V} {xs : List RgV}, RsAt CK CF CR CQ H vs xs → vs.length = xs.length
  | _, _, .nil => rfl
  | _, _, .cons _ r => by rw [List.length_cons, List.length_cons, RsAt.len r]
theorem RsAt.get {CK CF CR CQ : Addr} {H : Hp} : ∀ {vs : List V} {xs : List RgV} {i : Nat} {v : V}, RsAt CK CF CR CQ H vs xs → vs[i]? = some v → ∃ p x, v = .ref p ∧ xs[i]? = some x ∧ RgAt CK CF CR CQ H p x
  | _, _, _, _, .nil, e => by simp at e
  | _, _, 0, _, .cons h _, e => by cases e; exact ⟨_, _, rfl, rfl, h⟩
  | _, _, i + 1, _, .cons _ r, e => RsAt.get (i := i) r e
theorem regP_of {CK CF CR CQ eM : Addr} {nm : Str} {fs : List FdV} {wh : Bool} {H : Hp} {Q : VK} {E : XK} (n : NmS nm) (q : ∀ p H', RgAt CK CF CR CQ H' p (.reg nm fs wh) → Same H H' → Q (.ref p) H') : RegP CK CF CR CQ eM (.str nm) (.sc (.str nm)) (.sc (.bl wh)) (fs.map Th.fld) H Q E := by
  refine ⟨fun rs e => ?_, fun n' fs' wh' e1 _ _ e3 e4 p H' hr' s' => ?_⟩
  · rw [reg_ok n] at e
    cases e
  · cases e1
    cases e4
    rw [← fld_inj e3] at hr'
    exact q p H' hr' s'
theorem keyP_of {CK CF CR CQ eM : Addr} {nm : Str} {cs : List Int} {H : Hp} {Q : VK} {E : XK} (n : NmS nm) (no : numOk cs) (l1 : 1 ≤ cs.length) (l3 : cs.length ≤ 3) (q : ∀ p H', RgAt CK CF CR CQ H' p (.key nm cs) → Same H H' → Q (.ref p) H') : KeyP CK CF CR CQ eM (.str nm) (.sc (.str nm)) (cs.map fun c => .sc (.int c)) H Q E := by
  refine ⟨fun rs e => ?_, fun n' cs' e1 _ _ e3 _ _ _ p H' hr' s' => ?_⟩
  · rw [key_ok n l1 l3 no] at e
    cases e
  · cases e1
    rw [← int_inj e3] at hr'
    exact q p H' hr' s'
theorem reg_sureB {K : PySem.W.Frag} {CK CF CR CQ eM : Addr} {H : Hp} {items : List V} {nm : Str} {fs : List FdV} {wh : Bool} {x dx q : Addr} {Z : Hp → Prop} {E : XK} (rc : RCls K CR) (nx : H x = none) (nd : H dx = none) (ne : dx ≠ x)
    (nq : upd (upd H dx (.own x)) x (.ins CR dx []) q = none) (hi : FsAt CK CF H items fs) (nmo : NmS nm) (li : items.length ≤ 1000) (z : ∀ H', RgAt CK CF CR CQ H' x (.reg nm fs wh) → Same H H' → Z H') :
    spRegB K CK CF eM [V.ref x, .str nm, .bl wh, V.ref q] (upd (upd (upd H dx (.own x)) x (.ins CR dx [])) q (.tup items)) (fun v H3 => v = .non ∧ Z H3) E := by
  have s0 : Same H (upd (upd (upd H dx (.own x)) x (.ins CR dx [])) q (.tup items)) := (same_made nx nd ne).trans (same_new nq)
  have nqx : q ≠ x := fun z => by rw [z, upd_same] at nq; cases nq
  refine ⟨x, dx, q, CR, .str nm, .bl wh, items, .sc (.str nm), .sc (.bl wh), fs.map Th.fld, rfl, upd_new nq upd_same, rc, upd_same, .sc (.str nm), nm_sm nmo, .sc (.bl wh), (fs_ths hi).up s0, li, fun rs e => ?_, fun e H' hp kp => ⟨rfl, ?_⟩⟩
  · rw [reg_ok nmo] at e
    cases e
  · have s1 := same_keep nx s0 kp
    exact z H' ⟨dx, q, items, hp, kp _ _ upd_same nqx, hi.up s1⟩ s1
theorem reg_sure {K : PySem.W.Frag} {CK CF CR CQ eM : Addr} {H : Hp} {items : List V} {nm : Str} {fs : List FdV} {wh : Bool} {x dx : Addr} {Z : Hp → Prop} {E : XK} (rc : RCls K CR) (nx : H x = none) (nd : H dx = none) (ne : dx ≠ x)
    (hi : FsAt CK CF H items fs) (nmo : NmS nm) (li : items.length ≤ 1000) (z : ∀ H', RgAt CK CF CR CQ H' x (.reg nm fs wh) → Same H H' → Z H') :
    spReg K CK CF eM (V.ref x :: .str nm :: items) [.bl wh] (upd (upd H dx (.own x)) x (.ins CR dx [])) (fun v H3 => v = .non ∧ Z H3) E :=
  ⟨[V.ref x, .str nm], items, rfl, rfl, Nat.le_trans li (by decide), fun q nq => reg_sureB rc nx nd ne nq hi nmo li z⟩
theorem reg_sureD {K : PySem.W.Frag} {CK CF CR CQ eM : Addr} {H : Hp} {items : List V} {nm : Str} {fs : List FdV} {x dx : Addr} {Z : Hp → Prop} {E : XK} (rc : RCls K CR) (nx : H x = none) (nd : H dx = none) (ne : dx ≠ x)
    (hi : FsAt CK CF H items fs) (nmo : NmS nm) (li : items.length ≤ 1000) (z : ∀ H', RgAt CK CF CR CQ H' x (.reg nm fs false) → Same H H' → Z H') :
    spRegD K CK CF eM (V.ref x :: .str nm :: items) [] (upd (upd H dx (.own x)) x (.ins CR dx [])) (fun v H3 => v = .non ∧ Z H3) E :=
  ⟨[V.ref x, .str nm], items, rfl, rfl, Nat.le_trans li (by decide), fun q nq => reg_sureB rc nx nd ne nq hi nmo li z⟩
theorem key_sure {CK CF CR CQ eM : Addr} {H : Hp} {nm : Str} {cs : List Int} {x dx : Addr} {Z : Hp → Prop} {E : XK} (nx : H x = none) (nd : H dx = none) (ne : dx ≠ x)
    (nmo : NmS nm) (no : numOk cs) (l1 : 1 ≤ cs.length) (l3 : cs.length ≤ 3) (z : ∀ H', RgAt CK CF CR CQ H' x (.key nm cs) → Same H H' → Z H') :
    spKey CQ eM (V.ref x :: .str nm :: cs.map V.int) [] (upd (upd H dx (.own x)) x (.ins CQ dx [])) (fun v H3 => v = .non ∧ Z H3) E := by
  have lc : (cs.map V.int).length ≤ 3 := by rw [List.length_map]; exact l3
  refine ⟨[V.ref x, .str nm], cs.map V.int, rfl, rfl, Nat.le_trans lc (by decide), fun q nq => ?_⟩
  have s0 : Same H (upd (upd (upd H dx (.own x)) x (.ins CQ dx [])) q (.tup (cs.map V.int))) := (same_made nx nd ne).trans (same_new nq)
  have nqx : q ≠ x := fun z => by rw [z, upd_same] at nq; cases nq
  refine ⟨x, dx, q, .str nm, cs.map V.int, .sc (.str nm), cs.map (fun c => .sc (.int c)), rfl, upd_new nq upd_same, upd_same, .sc (.str nm), nm_sm nmo, trs_ints cs, by omega, fun rs e => ?_, fun e f H' hp hf kp => ⟨rfl, ?_⟩⟩
  · rw [key_ok nmo l1 l3 no] at e
    cases e
  · have s1 := same_keep nx s0 kp
    exact z H' ⟨dx, f, q, hp, hf, kp _ _ upd_same nqx⟩ s1
theorem fld_sure {CK CF eF eK : Addr} {H : Hp} {x dx : Addr} (nx : H x = none) (nd : H dx = none) (ne : dx ≠ x) {y : FdV} (rt : Rt y) {Z : Hp → Prop} {E : XK} (q : ∀ H', FieldAt CK CF H' x y → Same H H' → Z H') :
    spField CK CF eF eK (V.ref x :: attrV y) (upd (upd H dx (.own x)) x (.ins CF dx [])) (fun v H3 => v = .non ∧ Z H3) E := by
  refine ⟨x, dx, _, _, _, _, _, _, _, _, _, _, _, _, _, _, _, _, _, _, _, _, _, _, rfl, upd_same, ⟨trs_attr y, fun t m => (rt.oks t m).sm⟩, fun rs e => ?_, fun i v e => ?_, fun x' e H' fa kp => ?_⟩
  · cases rt.res.symm.trans e
  · cases rt.res.symm.trans e
  · obtain rfl : y = x' := FR.ok.inj (rt.res.symm.trans e)
    exact ⟨rfl, q H' fa (same_keep nx (same_made nx nd ne) kp)⟩
def fQF : FdV := ⟨"QF", 3, 2, "keep", "store", "still", 0, none, none, none, none⟩
theorem rt_QF : Rt fQF := rt_new (by unfold NmS; decide +kernel) (by decide) (by decide) (by decide) (by decide) (by decide) (by decide)
def oth (r : RgV) (nm b : Str) (k : Bool) : List RgV := [.reg nm [] false, .key b [7], .reg b [] false, .key nm [7, 7], .reg nm [fQF] (!k), r, .key nm [3, 7, 7]]
def eqs (r : RgV) (nm b : Str) (k : Bool) : List Bool := (oth r nm b k).map fun o => decide (r = o)
def truT : Tr → Bool
  | .sc .non => false
  | .sc (.bl b) => b
  | .sc (.int i) => i != 0
  | .sc (.str z) => (z.length : Int) != 0
  | .tup l => !l.isEmpty
  | .lst l => !l.isEmpty
  | .dct l => !l.isEmpty
theorem empty_len {α β : Type} {a : List α} {b : List β} (h : a.length = b.length) : a.isEmpty = b.isEmpty := by
  cases a <;> cases b <;> simp at h <;> rfl
theorem tru_tr {K : PySem.W.Frag} {H : Hp} {v : V} {t : Tr} (h : TrAt H v t) (o : Ok t) : TruV K v H (truT t) := by
  cases h with
  | sc s =>
    cases s with
    | non => rfl
    | bl b => rfl
    | int i => rfl
    | str z =>
      refine ⟨?_, rfl⟩
      have : z.length ≤ 1000 := by cases o.sm with | sc _ h => exact h z rfl
      exact Nat.le_trans this (by decide)
  | tup e r => exact .inr (.inl ⟨_, SqT.of e, congrArg (!·) (empty_len r.len.symm)⟩)
  | lst e r => exact .inl ⟨_, SqL.of e, congrArg (!·) (empty_len r.len.symm)⟩
  | dct e => exact .inr (.inr ⟨_, e, congrArg (!·) (empty_len (by rw [List.length_map]))⟩)
theorem nm_bes {nm : Str} (h : NmS nm) : NmS ("Q" ++ cutS nm (some 1) none) := by
  have h' := h
  unfold NmS madeB at h'
  rw [Bool.and_eq_true, Bool.and_eq_true, decide_eq_true_eq, List.all_eq_true] at h'
  obtain ⟨⟨⟨l1, l8⟩, _⟩, al⟩ := h'
  have c1 := cut1 (z := nm) (by show 1 ≤ nm.cps.size; rw [← Array.length_toList]; exact l1)
  refine nm_of (c := 81) (cs := nm.cps.toList.tail) ?_ (by decide +kernel) (by rw [List.length_tail]; omega) (fun x m => of_decide_eq_true (al x m))
  show ((Str.ofString "Q").cps ++ (cutS nm (some 1) none).cps).toList = _
  rw [Array.toList_append, c1]
  rfl
theorem set_ev {te : TE} {i : Nat} {rest : TS} {D : Ends} {σ : L2.St} {H : Hp} (R : V → Hp → Prop) (h : ∀ Q : VK, (∀ v H', R v H' → Q v H') → te σ H Q) (k : ∀ v H', R v H' → rest D (σ.set i (some v)) H') : tSeq (tAsg te (gName i)) rest D σ H := h _ fun v H' r => k v H' r
def spREqual (CK CF CR CQ : Addr) : Sp := fun vs H Q _ => ∃ (p : Addr) (nm : Str) (vw : V) (L : Addr) (items : List V) (tw : Tr) (ths : List Th) (ik : Bool) (r : RgV), vs = [.ref p, .str nm, .ref L, vw, .bl ik] ∧ Args3 CK CF H (.str nm) vw L items (.sc (.str nm)) tw ths ik ∧ NmS nm ∧ RgAt CK CF CR CQ H p r ∧ MadeOf r ik nm ths vw ∧ ∀ H', Same H H' → Q (.bl true) H'
theorem RegOps.oq_eq {X : Cx} {CK CF CR CQ : Addr} (R : RegOps X.prog X.w X.K X.mg X.base CK CF CR CQ) (room : Room 4 X.A) : OpR X (compareOp .Eq) (rEqReg CK CF CR CQ) := R.op_eq (k := 0) room
theorem RegOps.oq_ne {X : Cx} {CK CF CR CQ : Addr} (R : RegOps X.prog X.w X.K X.mg X.base CK CF CR CQ) (room : Room 5 X.A) : OpR X (compareOp .NotEq) (rNeReg CK CF CR CQ) := R.op_ne (k := 0) room
theorem bl_tr {H : Hp} {b : Bool} {t : Tr} (h : TrAt H (.bl b) t) : t = .sc (.bl b) := by
  generalize e : V.bl b = v at h
  cases h with
  | sc s =>
    cases s with
    | bl c => cases e; rfl
    | non => cases e
    | int => cases e
    | str => cases e
  | tup => cases e
  | lst => cases e
  | dct => cases e
theorem key_eq (nm mn : Str) (cs ds : List Int) : decide (RgV.key nm cs = RgV.key mn ds) = (decide (nm = mn) && decide (cs = ds)) := by
  rw [← Bool.decide_and]
  exact decide_eq_decide.mpr (by simp)
theorem kr_ne (nm mn : Str) (cs : List Int) (fs : List FdV) (wh : Bool) : decide (RgV.key nm cs = RgV.reg mn fs wh) = false := decide_eq_false fun z => by cases z
theorem rk_ne (nm mn : Str) (cs : List Int) (fs : List FdV) (wh : Bool) : decide (RgV.reg mn fs wh = RgV.key nm cs) = false := decide_eq_false fun z => by cases z
theorem eqs_key (nm b : Str) (cs : List Int) (k : Bool) : eqs (.key nm cs) nm b k = [false, decide (nm = b) && decide (cs = [7]), false, decide (cs = [7, 7]), false, true, decide (cs = [3, 7, 7])] := by
  unfold eqs oth
  simp only [List.map_cons, List.map_nil, key_eq, kr_ne, decide_true, Bool.true_and]
theorem eqs_reg (nm b : Str) (fs : List FdV) (wh : Bool) : eqs (.reg nm fs wh) nm b wh = [decide (RgV.reg nm fs wh = .reg nm [] false), false, decide (RgV.reg nm fs wh = .reg b [] false), false, false, true, false] := by
  unfold eqs oth
  have e : decide (RgV.reg nm fs wh = RgV.reg nm [fQF] (!wh)) = false := decide_eq_false fun z => by
    have := (RgV.reg.inj z).2.2
    cases wh <;> cases this
  simp only [List.map_cons, List.map_nil, rk_ne, decide_true, e]
theorem trs_bls {H : Hp} : ∀ bs : List Bool, TrsAt H (bs.map V.bl) (bs.map fun b => .sc (.bl b))
  | [] => .nil
  | b :: bs => .cons (.sc (.bl b)) (trs_bls bs)
theorem bd_bls (bs : List Bool) (h : bs.length ≤ 1000) : Bd 1 (.lst (bs.map fun b => .sc (.bl b))) := .lst (by rw [List.length_map]; exact h) fun t m => by
  obtain ⟨b, _, rfl⟩ := List.mem_map.mp m
  exact .sc _ fun _ e => by cases e
theorem rev_eq {fs : List FdV} (lo : ∀ (i : Nat) (x : FdV), fs[i]? = some x → x.low = 5 * (i : Int)) : decide (fs.reverse = fs) = decide (fs.length < 2) := by
  refine decide_eq_decide.mpr ⟨fun e => ?_, fun l => ?_⟩
  · by_cases h : fs.length < 2
    · exact h
    · have h1 : fs[0]? = some fs[0] := List.getElem?_eq_getElem (by omega)
      have h2 : fs[fs.length - 1]? = some fs[fs.length - 1] := List.getElem?_eq_getElem (by omega)
      have h3 : fs.reverse[0]? = fs[fs.length - 1]? := by
        rw [List.getElem?_reverse (by omega)]
        simp
      rw [e, h1, h2] at h3
      have l1 := lo _ _ h1
      have l2 := lo _ _ h2
      rw [Option.some.inj h3, l2] at l1
      omega
  · match fs, l with
    | [], _ => rfl
    | [x], _ => rfl
    | x :: y :: r, l => simp at l; omega
theorem reg_eq (nm : Str) (fs gs : List FdV) (wh : Bool) : decide (RgV.reg nm fs wh = RgV.reg nm gs wh) = decide (fs = gs) := decide_eq_decide.mpr (by simp)


section
variable {P : Program} {w : World} {K : PySem.W.Frag} {mg : Str → Option Value} {base : Heap}
theorem ok_requal {f CK CF CR CQ eM eF eK : Addr} {fd : FuncData} (F : Fun K "_law_is_equal_right" "_law_is_equal_right" s__law_is_equal_right f fd) (T : TxtRg K mg CK CF CR CQ) (RG : RegOps P w K mg base CK CF CR CQ)
    (c__law_plain : KB.Callee P w K mg base (L2.CX P w) 6 "_law_plain" ["_law_title", "_law_fields", "_law_full"] (spLPlain CK CF CR CQ eM)) (c__law_key : KB.Callee P w K mg base (L2.CX P w) 8 "_law_key" ["_law_title", "_law_numbers"] (spLKey CK CF CR CQ eM))
    (c__law_same : KB.Callee P w K mg base CX0 2 "_law_same" ["_law_told", "_law_due_here"] (spSame 1)) (r0_Register : KSt.CalleeIK P w K mg base (L2.CX P w) 4 CR "Register" [] (spRegD K CK CF eM)) (rk_Register_whole : KSt.CalleeIK P w K mg base (L2.CX P w) 4 CR "Register" ["whole"] (spReg K CK CF eM))
    (r0_KeyRegister : KSt.CalleeIK P w K mg base (L2.CX P w) 6 CQ "KeyRegister" [] (spKey CQ eM)) (d3_Field : KC.CalleeID P w K mg base (L2.CX P w) 5 CF "Field" ["self", "name", "low", "size", "reading", "writing", "device", "reset", "lock", "key", "commit", "held"] (spField CK CF eF eK) [.str "keep", .str "store", .str "still", .int 0, .non, .non, .non, .non])
    (cm_KeyRegister_of : KP.CalleeC P w K mg base CX0 8 CQ "of" (spKeyOf K CK CF CR CQ)) (cm_Register_of : KP.CalleeC P w K mg base CX0 6 CR "of" (spRegOf K CK CF CR CQ)) (ck_Register_of_2_whole : KU.CalleeCK P w K mg base CX0 6 CR "of" ["cls", "name", "fields", "whole"] (spRegOf K CK CF CR CQ) 3 ["whole"] gApp) :
    FnOk P w K mg base CX0 9 f fd ["_law_made", "_law_title", "_law_things_here", "_law_full", "_law_is_key"] (spREqual CK CF CR CQ) := by
  refine F.ok sc__law_is_equal_right (fun vs H Q E h => ?_) (fun cdv A outer s H vs Q E hr h => ?_)
  · obtain ⟨p, nm, vw, L, items, tw, ths, ik, r, rfl, _⟩ := h
    rfl
  · obtain ⟨p, nm, vw, L, items, tw, ths, ik, r, rfl, ar, nmo, hp, mo, q⟩ := h
    refine ⟨_, (pss_cons (ps_set (i := 5) sc__law_is_equal_right.nd rfl (by first | exact Or.inl rfl | exact Or.inr rfl) (pe_ifExp (pt_val (pv 4)) (pe_callC c__law_key (hr.mono (by decide)) (by rfl) passL (pa_cons (pv 1) (pa_cons (pe_callTy call_list_of (by rfl) T.z_list (by decide +kernel) (pa_cons (pv 2) pa_nil)) pa_nil))) (pe_callC c__law_plain (hr.mono (by decide)) (by rfl) passL (pa_cons (pv 1) (pa_cons (pe_callTy call_list_of (by rfl) T.z_list (by decide +kernel) (pa_cons (pv 2) pa_nil)) (pa_cons (pv 3) pa_nil))))))
 (pss_cons (ps_set (i := 6) sc__law_is_equal_right.nd rfl (by first | exact Or.inl rfl | exact Or.inr rfl) (pe_op op_add_str pe_str (pe_slice sl_str (pv 1) (po_some pe_int) po_none)))
 (pss_cons (ps_set (i := 7) sc__law_is_equal_right.nd rfl (by first | exact Or.inl rfl | exact Or.inr rfl) (pe_lst (pa_cons (KSt.pe_makeR0 r0_Register (hr.mono (by decide)) (by rfl) passL (pa_cons (pv 1) pa_nil)) (pa_cons (KSt.pe_makeR0 r0_KeyRegister (hr.mono (by decide)) (by rfl) passL (pa_cons (pv 6) (pa_cons pe_int pa_nil))) (pa_cons (KSt.pe_makeR0 r0_Register (hr.mono (by decide)) (by rfl) passL (pa_cons (pv 6) pa_nil)) (pa_cons (KSt.pe_makeR0 r0_KeyRegister (hr.mono (by decide)) (by rfl) passL (pa_cons (pv 1) (pa_cons pe_int (pa_cons pe_int pa_nil)))) pa_nil))))))
 (pss_cons (ps_set (i := 7) sc__law_is_equal_right.nd rfl (by first | exact Or.inl rfl | exact Or.inr rfl) (pe_op op_cat (pv 7) (pe_lst (pa_cons (KSt.pe_makeRK rk_Register_whole (hr.mono (by decide)) (by rfl) passL (pa_cons (pv 1) (pa_cons (KC.pe_makeD d3_Field (hr.mono (by decide)) (by rfl) passL (pa_cons pe_str (pa_cons pe_int (pa_cons pe_int pa_nil)))) pa_nil)) (pk_cons (pe_notT (pv 3)) pk_nil)) (pa_cons (pv 5) (pa_cons (KP.pe_cmethC cm_KeyRegister_of (pe_glob (v := .ref _) (by rfl) T.mg_KeyRegister rfl) (hr.mono (by decide)) pass0 (pa_cons (pv 1) (pa_cons (pe_lst (pa_cons pe_int (pa_cons pe_int (pa_cons pe_int pa_nil)))) pa_nil))) pa_nil))))))
 (pss_cons (ps_set (i := 8) sc__law_is_equal_right.nd rfl (by first | exact Or.inl rfl | exact Or.inr rfl) (pe_and (pe_not (pv 4)) (pe_and (pe_cmpR (KSt.op_eqNil hr) (pv 2) (pe_lst pa_nil) (nomark _)) (pe_one (pe_notT (pv 3))))))
 (pss_cons (ps_set (i := 9) sc__law_is_equal_right.nd rfl (by first | exact Or.inl rfl | exact Or.inr rfl) (pe_lst (pa_cons (pv 8) (pa_cons (pe_and (pv 4) (pe_and (pe_cmpR op_eq (pv 1) (pv 6) (nomark _)) (pe_one (pe_cmpR (op_eqD hr.units) (pv 2) (pe_lst (pa_cons pe_int pa_nil)) (nomark _))))) (pa_cons (pe_and (pv 8) (pe_one (pe_cmpR op_eq (pv 1) (pv 6) (nomark _)))) pa_nil)))))
 (pss_cons (ps_set (i := 9) sc__law_is_equal_right.nd rfl (by first | exact Or.inl rfl | exact Or.inr rfl) (pe_op op_cat (pv 9) (pe_lst (pa_cons (pe_and (pv 4) (pe_one (pe_cmpR (op_eqD hr.units) (pv 2) (pe_lst (pa_cons pe_int (pa_cons pe_int pa_nil))) (nomark _)))) (pa_cons pe_bl (pa_cons pe_bl (pa_cons (pe_and (pv 4) (pe_one (pe_cmpR (op_eqD hr.units) (pv 2) (pe_lst (pa_cons pe_int (pa_cons pe_int (pa_cons pe_int pa_nil)))) (nomark _)))) pa_nil)))))))
 (pss_cons (ps_if (PW.pt (pw_or (pt_not (pt_val (pe_callC c__law_same (hr.mono (by decide)) (by rfl) pass0 (pa_cons (pe_lc (own := [("_law_one", 10)]) (g := gName 10) (tt := tYes) (by rfl) sc__law_is_equal_right.nd (pi_list (pv 7)) (blkOk_by (own := [("_law_one", 10)]) (N := ["_law_made", "_law_title", "_law_things_here", "_law_full", "_law_is_key", "_law_twin", "_law_beside", "_law_others", "_law_is_bare", "_law_equal", "_law_one", "_law_passed", "_law_kept", "_law_back", "_law_turned"]) (sc := defScope s__law_is_equal_right) (by decide +kernel)) (fun _ _ _ _ _ => (pg_name (i := 10) sc__law_is_equal_right.nd rfl (by first | exact Or.inl rfl | exact Or.inr rfl))) (fun _ _ _ _ _ => pts_nil) (fun _ _ _ _ _ => (pe_cmpR (RG.oq_eq (hr.mono (by decide))) (pv 0) (pv 10) (nomark _)))) (pa_cons (pv 9) pa_nil))))) (pw_or (pt_cmpR (RG.oq_eq (hr.mono (by decide))) (pv 0) (pv 1) (nomark _)) (pw_or1 (pt_cmpR (RG.oq_ne (hr.mono (by decide))) (pv 0) (pv 5) (nomark _)))))) (pss_one (ps_ret pe_bl))
 pss_nil)
 (pss_cons (ps_set (i := 11) sc__law_is_equal_right.nd rfl (by first | exact Or.inl rfl | exact Or.inr rfl) (pe_callTy call_list_of (by rfl) T.z_list (by decide +kernel) (pa_cons (pv 2) pa_nil)))
 (pss_cons (ps_set (i := 12) sc__law_is_equal_right.nd rfl (by first | exact Or.inl rfl | exact Or.inr rfl) (pe_ifExp (pt_val (pv 4)) (KP.pe_cmethC cm_KeyRegister_of (pe_glob (v := .ref _) (by rfl) T.mg_KeyRegister rfl) (hr.mono (by decide)) pass0 (pa_cons (pv 1) (pa_cons (pv 11) pa_nil))) (KU.pe_cmethK ck_Register_of_2_whole (pe_glob (v := .ref _) (by rfl) T.mg_Register rfl) (hr.mono (by decide)) pass0 (pa_cons (pv 1) (pa_cons (pv 11) pa_nil)) (pk_cons (pv 3) pk_nil))))
 (pss_cons (ps_expr (pe_bm0 PySem.F.plainAttrs_list PySem.F.slot_list_clear PySem.F.type_list_clear mt_clear (pv 11)))
 (pss_cons (ps_if (PW.pt (pw_or (pt_cmpR op_isnot_bl (pe_cmpR (RG.oq_eq (hr.mono (by decide))) (pv 12) (pv 0) (nomark _)) pe_bl (nomark _)) (pw_or1 (pt_cmpR (RG.oq_ne (hr.mono (by decide))) (KP.pe_cmethC cm_KeyRegister_of (pe_glob (v := .ref _) (by rfl) T.mg_KeyRegister rfl) (hr.mono (by decide)) pass0 (pa_cons (pv 1) (pa_cons (pe_tup (pa_cons pe_int (pa_cons pe_int pa_nil))) pa_nil))) (KSt.pe_makeR0 r0_KeyRegister (hr.mono (by decide)) (by rfl) passL (pa_cons (pv 1) (pa_cons pe_int (pa_cons pe_int pa_nil)))) (nomark _))))) (pss_one (ps_ret pe_bl))
 pss_nil)
 (pss_cons (ps_set (i := 13) sc__law_is_equal_right.nd rfl (by first | exact Or.inl rfl | exact Or.inr rfl) (pe_revL (pv 2)))
 (pss_cons (ps_if (PW.pt (pw_and (pt_val (pv 4)) (pw_and1 (pt_not (pt_val (pe_callC c__law_same (hr.mono (by decide)) (by rfl) pass0 (pa_cons (pe_cmpR (RG.oq_eq (hr.mono (by decide))) (KP.pe_cmethC cm_KeyRegister_of (pe_glob (v := .ref _) (by rfl) T.mg_KeyRegister rfl) (hr.mono (by decide)) pass0 (pa_cons (pv 1) (pa_cons (pv 13) pa_nil))) (pv 0) (nomark _)) (pa_cons (pe_cmpR (op_eqD hr.units) (pv 13) (pv 2) (nomark _)) pa_nil)))))))) (pss_one (ps_ret pe_bl))
 pss_nil)
 (Evl.pss_cut (ps_if (pt_not (pt_val (pv 4))) (pss_cons (ps_set (i := 14) sc__law_is_equal_right.nd rfl (by first | exact Or.inl rfl | exact Or.inr rfl) (KP.pe_cmethC cm_Register_of (pe_glob (v := .ref _) (by rfl) T.mg_Register rfl) (hr.mono (by decide)) pass0 (pa_cons (pv 1) (pa_cons (pe_callTy call_tuple_of (by rfl) T.z_tuple (by decide +kernel) (pa_cons (pe_revL (pv 2)) pa_nil)) (pa_cons (pv 3) pa_nil)))))
 (pss_one (ps_if (pt_not (pt_val (pe_callC c__law_same (hr.mono (by decide)) (by rfl) pass0 (pa_cons (pe_cmpR (RG.oq_eq (hr.mono (by decide))) (pv 14) (pv 0) (nomark _)) (pa_cons (pe_cmpR op_lt (pe_callB call_len_seq (by rfl) T.z_len (by decide +kernel) (pa_cons (pv 2) pa_nil)) pe_int (nomark _)) pa_nil))))) (pss_one (ps_ret pe_bl))
 pss_nil)))
 pss_nil)
 (pss_one (ps_ret (pe_callC c__law_same (hr.mono (by decide)) (by rfl) pass0 (pa_cons (pe_lc (own := [("_law_one", 10)]) (g := gName 10) (tt := tYes) (by rfl) sc__law_is_equal_right.nd (pi_list (pv 7)) (blkOk_by (own := [("_law_one", 10)]) (N := ["_law_made", "_law_title", "_law_things_here", "_law_full", "_law_is_key", "_law_twin", "_law_beside", "_law_others", "_law_is_bare", "_law_equal", "_law_one", "_law_passed", "_law_kept", "_law_back", "_law_turned"]) (sc := defScope s__law_is_equal_right) (by decide +kernel)) (fun _ _ _ _ _ => (pg_name (i := 10) sc__law_is_equal_right.nd rfl (by first | exact Or.inl rfl | exact Or.inr rfl))) (fun _ _ _ _ _ => pts_nil) (fun _ _ _ _ _ => (pe_cmpR (RG.oq_eq (hr.mono (by decide))) (pv 10) (pv 0) (nomark _)))) (pa_cons (pv 9) pa_nil)))))))))))))))))))), at_start (σ := [some (.ref p), some (.str nm), some (.ref L), some vw, some (.bl ik), none, none, none, none, none, none, none, none, none, none]) rfl ?_⟩
    try dsimp only [cx_K]
    have smn : Sm (.sc (.str nm)) := nm_sm nmo
    have rc := T.rc
    refine set_ev (fun v H' => ∃ t, v = .ref t ∧ RgAt CK CF CR CQ H' t r ∧ Same H H') (fun Q q => ?_) ?_
    · walk_at "rd"
      cases mo with
      | reg _ fs wh =>
        walk_at "rd"
        refine ⟨L, items, rfl, .inl (SqL.of ar.l), fun l nl => ?_⟩
        have sl := same_new (o := .lst items) nl
        walk_at "rd"
        refine ⟨_, _, l, items, _, _, _, rfl, upd_same, ar.i.up sl, .sc (.str nm), smn, .sc (.bl wh), ar.llen, regP_of nmo fun t H' ht s' => q _ _ ⟨t, rfl, ht, sl.trans s'⟩⟩
      | key _ cs _ no l1 l3 =>
        walk_at "rd"
        refine ⟨L, items, rfl, .inl (SqL.of ar.l), fun l nl => ?_⟩
        have sl := same_new (o := .lst items) nl
        walk_at "rd"
        have hI := ths_ints ar.i
        subst hI
        refine ⟨_, l, _, _, _, rfl, upd_same, trs_ints cs, .sc (.str nm), smn, by rw [List.length_map]; omega, keyP_of nmo no l1 l3 fun t H' ht s' => q _ _ ⟨t, rfl, ht, sl.trans s'⟩⟩
    rintro _ H1 ⟨tw1, rfl, htw, s1⟩
    replace ar := ar.up s1
    replace hp := hp.up s1
    walk_at "rd"
    have nmb := nm_bes nmo
    have lb := nmb.len
    have n7 : numOk [7] := by unfold numOk; decide
    have n77 : numOk [7, 7] := by unfold numOk; decide
    have n377 : numOk [3, 7, 7] := by unfold numOk; decide
    refine ⟨nm, rfl, Nat.le_trans nmo.len (by decide), "Q", _, rfl, rfl, (by have := cutS_length nm (some 1) none; have := nmo.len; have e1 : (Str.ofString "Q").length = 1 := rfl; have : (9 : Nat) ≤ sizeLine := (by decide); omega), ?_⟩
    generalize eb : (Str.ofString "Q" ++ cutS nm (some 1) none) = b at nmb lb
    clear eb
    have smb : Sm (.sc (.str b)) := nm_sm nmb
    refine set_ev (fun v H' => ∃ l x0 x1 x2 x3, v = .ref l ∧ H' l = some (.lst [x0, x1, x2, x3]) ∧ RsAt CK CF CR CQ H' [x0, x1, x2, x3] [.reg nm [] false, .key b [7], .reg b [] false, .key nm [7, 7]] ∧ Same H1 H') (fun Q q => ?_) ?_
    · walk_at "rd"
      refine KSt.r_makeRK ?_
      walk_at "rd"
      refine ⟨rfl, fun a0 dx nx nd ne => reg_sureD (CQ := CQ) (nm := nm) (items := []) (fs := []) rc nx nd ne .nil nmo (by decide) fun G0 h0 g0 => ?_⟩
      walk_at "rd"
      refine KSt.r_makeRK ?_
      walk_at "rd"
      refine ⟨rfl, fun a1 dx nx nd ne => key_sure (CK := CK) (CF := CF) (CR := CR) (CQ := CQ) (nm := b) (cs := [7]) nx nd ne nmb n7 (by decide) (by decide) fun G1 h1 g1 => ?_⟩
      walk_at "rd"
      refine KSt.r_makeRK ?_
      walk_at "rd"
      refine ⟨rfl, fun a2 dx nx nd ne => reg_sureD (CQ := CQ) (nm := b) (items := []) (fs := []) rc nx nd ne .nil nmb (by decide) fun G2 h2 g2 => ?_⟩
      walk_at "rd"
      refine KSt.r_makeRK ?_
      walk_at "rd"
      refine ⟨rfl, fun a3 dx nx nd ne => key_sure (CK := CK) (CF := CF) (CR := CR) (CQ := CQ) (nm := nm) (cs := [7, 7]) nx nd ne nmo n77 (by decide) (by decide) fun G3 h3 g3 => ?_⟩
      walk_at "rd"
      refine ⟨by walk_at "sz", fun l nl => ?_⟩
      have sl := same_new (o := .lst [.ref a0, .ref a1, .ref a2, .ref a3]) nl
      have r23 := g3.trans sl
      have r12 := g2.trans r23
      have r01 := g1.trans r12
      exact q _ _ ⟨l, _, _, _, _, rfl, upd_same, .cons (h0.up r01) (.cons (h1.up r12) (.cons (h2.up r23) (.cons (h3.up sl) .nil))), g0.trans r01⟩
    rintro _ H2 ⟨l1, x0, x1, x2, x3, rfl, e2, h4, s2⟩
    replace ar := ar.up s2
    replace hp := hp.up s2
    replace htw := htw.up s2
    refine set_ev (fun v H' => ∃ l xs, v = .ref l ∧ H' l = some (.lst xs) ∧ RsAt CK CF CR CQ H' xs (oth r nm b (truT tw)) ∧ Same H2 H') (fun Q q => ?_) ?_
    · walk_at "rd"
      refine KSt.r_makeRK ?_
      walk_at "rd"
      refine KIx.r_makeD ?_
      walk_at "rd"
      intro fx dx nx nd ne
      refine fld_sure (y := fQF) nx nd ne rt_QF fun G0 hf g0 => ?_
      walk_at "rd"
      refine ⟨vw, rfl, truT tw, tru_tr (TrAt.up g0 _ _ ar.w) ar.ow, ?_⟩
      walk_at "rd"
      refine ⟨rfl, fun a0 dx nx nd ne => reg_sure (CQ := CQ) (nm := nm) (items := [.ref fx]) (fs := [fQF]) rc nx nd ne (.cons hf .nil) nmo (Nat.le_of_ble_eq_true rfl) fun G1 h0 g1 => ?_⟩
      walk_at "rd"
      refine ⟨rfl, ?_⟩
      walk_at "rd"
      refine ⟨by walk_at "sz", fun lk nlk => ?_⟩
      have gk := same_new (o := .lst [.int 3, .int 7, .int 7]) nlk
      walk_at "rd"
      refine ⟨_, lk, nm, [3, 7, 7], rfl, nmo, .inr (SqL.of upd_same), by decide, by decide, n377, fun a2 G2 h2 g2 => ?_⟩
      walk_at "rd"
      refine ⟨by walk_at "sz", fun lc nlc => ?_⟩
      have gc := same_new (o := .lst [.ref a0, .ref tw1, .ref a2]) nlc
      have r2 := g2.trans gc
      have r1 := gk.trans r2
      have r0 := g1.trans r1
      have r00 := g0.trans r0
      refine r_cat (r00 _ _ e2) upd_same (by walk_at "sz") fun l nl => ?_
      have gl := same_new (o := .lst ([x0, x1, x2, x3] ++ [.ref a0, .ref tw1, .ref a2])) nl
      refine q _ _ ⟨l, _, rfl, upd_same, ?_, r00.trans gl⟩
      have h4' := h4.up (r00.trans gl)
      cases h4' with
      | cons b0 h4' => cases h4' with
        | cons b1 h4' => cases h4' with
          | cons b2 h4' => cases h4' with
            | cons b3 h4' => exact .cons b0 (.cons b1 (.cons b2 (.cons b3 (.cons (h0.up (r1.trans gl)) (.cons (htw.up (r00.trans gl)) (.cons (h2.up (gc.trans gl)) .nil))))))
    rintro _ H3 ⟨l2, xs, rfl, e3, h7, s3⟩
    replace ar := ar.up s3
    replace hp := hp.up s3
    replace htw := htw.up s3
    refine set_ev (fun v H' => v = .bl (decide (r = .reg nm [] false)) ∧ Same H3 H') (fun Q q => ?_) ?_
    · cases mo with
      | reg _ fs wh =>
        walk_at "rd"
        refine ⟨by decide, fun pe np => ?_⟩
        have sp := same_new (o := .lst []) np
        refine ⟨L, pe, items, rfl, rfl, SqL.of (sp _ _ ar.l), SqL.of upd_same, _, rfl, ?_⟩
        have li : items.length = fs.length := by rw [ar.i.len, List.length_map]
        have etw := bl_tr ar.w
        subst etw
        cases fs with
        | nil =>
          obtain rfl : items = [] := List.length_eq_zero_iff.mp li
          walk_at "rd"
          refine r_iteT rfl ?_
          walk_at "rd"
          refine ⟨_, rfl, wh, rfl, ?_⟩
          refine q _ _ ⟨?_, sp⟩
          cases wh
          · exact (congrArg V.bl (decide_eq_true rfl)).symm
          · exact (congrArg V.bl (decide_eq_false (fun z => by cases z))).symm
        | cons x fs =>
          refine r_iteF (fun z => ?_) ?_
          · rw [z] at li
            cases li
          refine q _ _ ⟨?_, sp⟩
          rw [decide_eq_false (fun z => by cases z)]
      | key _ cs _ no c1 c3 =>
        walk_at "rd"
        refine q _ _ ⟨?_, Same.refl _⟩
        rw [decide_eq_false (fun z => by cases z)]
    rintro _ H4 ⟨rfl, s4⟩
    replace ar := ar.up s4
    replace hp := hp.up s4
    replace htw := htw.up s4
    replace h7 := h7.up s4
    replace e3 := s4 _ _ e3
    refine set_ev (fun v H' => ∃ l, v = .ref l ∧ H' l = some (.lst (([decide (r = .reg nm [] false), decide (r = .key b [7]), decide (r = .reg b [] false)] : List Bool).map V.bl)) ∧ Same H4 H') (fun Q q => ?_) ?_
    · cases mo with
      | reg _ fs wh =>
        walk_at "rd"
        rw [rk_ne] at q
        refine r_ite2 (fun e => ?_) (fun e => ?_)
        · walk_at "rd"
          refine ⟨by walk_at "sz", fun l nl => ?_⟩
          refine q _ _ ⟨l, rfl, ?_, same_new nl⟩
          rw [upd_same, show decide (RgV.reg nm fs wh = .reg b [] false) = decide (V.str nm = V.str b) from decide_eq_decide.mpr ⟨fun z => congrArg V.str (RgV.reg.inj z).1, fun z => by rw [← V.str.inj z]; exact e⟩]
          rfl
        · walk_at "rd"
          refine ⟨by walk_at "sz", fun l nl => ?_⟩
          refine q _ _ ⟨l, rfl, ?_, same_new nl⟩
          rw [upd_same, show decide (RgV.reg nm fs wh = .reg b [] false) = false from decide_eq_false fun z => e (by cases z; rfl)]
          rfl
      | key _ cs _ no c1 c3 =>
        have hI := ths_ints ar.i
        subst hI
        rw [kr_ne, kr_ne, key_eq] at q
        rw [kr_ne] at *
        walk_at "rd"
        refine r_iteS2 (fun e => ?_) (fun e => ?_)
        · walk_at "rd"
          refine ⟨by walk_at "sz", fun l0 n0 => ?_⟩
          have g0 := same_new (o := .lst [.int 7]) n0
          refine r_eqInts (ns := cs) (ms := [7]) (SqL.of (g0 _ _ ar.l)) (SqL.of upd_same) ?_
          walk_at "rd"
          refine ⟨by walk_at "sz", fun l nl => ?_⟩
          refine q _ _ ⟨l, rfl, ?_, g0.trans (same_new nl)⟩
          rw [upd_same, decide_eq_true e, Bool.true_and]
          rfl
        · walk_at "rd"
          refine ⟨by walk_at "sz", fun l nl => ?_⟩
          refine q _ _ ⟨l, rfl, ?_, same_new nl⟩
          rw [upd_same, decide_eq_false e, Bool.false_and]
          rfl
    rintro _ H5 ⟨l5, rfl, e5, s5⟩
    replace ar := ar.up s5
    replace hp := hp.up s5
    replace htw := htw.up s5
    replace h7 := h7.up s5
    replace e3 := s5 _ _ e3
    refine set_ev (fun v H' => ∃ l, v = .ref l ∧ H' l = some (.lst ((eqs r nm b (truT tw)).map V.bl)) ∧ Same H5 H') (fun Q q => ?_) ?_
    · cases mo with
      | reg _ fs wh =>
        have etw := bl_tr ar.w
        subst etw
        rw [show truT (.sc (.bl wh)) = wh from rfl, eqs_reg] at q
        walk_at "rd"
        refine ⟨by walk_at "sz", fun l0 n0 => ?_⟩
        have g0 := same_new (o := .lst [V.bl false, V.bl false, V.bl true, V.bl false]) n0
        refine r_cat (g0 _ _ e5) upd_same (by walk_at "sz") fun l nl => ?_
        refine q _ _ ⟨l, rfl, ?_, g0.trans (same_new nl)⟩
        rw [upd_same, rk_ne]
        rfl
      | key _ cs _ no c1 c3 =>
        have hI := ths_ints ar.i
        subst hI
        rw [eqs_key] at q
        walk_at "rd"
        refine ⟨by walk_at "sz", fun l0 n0 => ?_⟩
        have g0 := same_new (o := .lst [.int 7, .int 7]) n0
        refine r_eqInts (ns := cs) (ms := [7, 7]) (SqL.of (g0 _ _ ar.l)) (SqL.of upd_same) ?_
        walk_at "rd"
        refine ⟨by walk_at "sz", fun l9 n9 => ?_⟩
        have g9 := g0.trans (same_new (o := .lst [.int 3, .int 7, .int 7]) n9)
        refine r_eqInts (ns := cs) (ms := [3, 7, 7]) (SqL.of (g9 _ _ ar.l)) (SqL.of upd_same) ?_
        walk_at "rd"
        refine ⟨by walk_at "sz", fun l8 n8 => ?_⟩
        have g8 := g9.trans (same_new (o := .lst [V.bl (decide (cs = [7, 7])), V.bl false, V.bl true, V.bl (decide (cs = [3, 7, 7]))]) n8)
        refine r_cat (g8 _ _ e5) upd_same (by walk_at "sz") fun l nl => ?_
        refine q _ _ ⟨l, rfl, ?_, g8.trans (same_new nl)⟩
        rw [upd_same, kr_ne, kr_ne, key_eq]
        rfl
    rintro _ H6 ⟨l6, rfl, e6, s6⟩
    replace ar := ar.up s6
    replace hp := hp.up s6
    replace htw := htw.up s6
    replace h7 := h7.up s6
    replace e3 := s6 _ _ e3
    walk_at "rd"
    have l7 : (oth r nm b (truT tw)).length = 7 := rfl
    have lx : xs.length = 7 := h7.len
    refine ⟨l2, rfl, ⟨_, SqL.of e3⟩, lc_all (walk_list (xs := xs)) (j := 10) (fun i => xs.getD i .non) (fun _ => true) (fun i => .bl (decide (r = (oth r nm b (truT tw)).getD i r))) (by omega) (fun i H x H' hi y => yat y) (fun H' s => SqL.of (s _ _ e3)) (fun x => rfl) (fun i H' hi s QT q => q _ (Same.refl _)) (fun i H' hi2 _ s2 Q2 q2 => ?_) (fun D H7 nD s7 eD => ?_)⟩
    · have e1 := List.getElem?_eq_getElem hi2
      obtain ⟨qb, xb, eb, ex, hb⟩ := h7.get e1
      walk_at "rd"
      rw [List.getD_eq_getElem?_getD, e1]
      refine ⟨p, r, rfl, hp.up s2, .inl ⟨qb, xb, eb, hb.up s2, fun H' s' => ?_⟩⟩
      rw [show (oth r nm b (truT tw)).getD i r = xb by rw [List.getD_eq_getElem?_getD, ex]; rfl] at q2
      exact q2 _ s'
    rw [h7.len, given_bl (oth r nm b (truT tw)) r (fun o => decide (r = o))] at eD
    walk_at "rd"
    refine ⟨_, _, .lst ((eqs r nm b (truT tw)).map fun b => .sc (.bl b)), rfl, .lst eD (trs_bls _), .lst (s7 _ _ e6) (trs_bls _), bd_bls _ (show 7 ≤ 1000 by decide), fun H8 s8 => ?_⟩
    have s78 := s7.trans s8
    replace ar := ar.up s78
    replace hp := hp.up s78
    replace htw := htw.up s78
    replace h7 := h7.up s78
    replace e3 := s78 _ _ e3
    replace e6 := s78 _ _ e6
    have sA := (((s1.trans s2).trans (s3.trans s4)).trans (s5.trans s6)).trans s78
    clear nD eD
    walk_at "rd"
    refine ⟨p, r, rfl, hp, .inr ⟨nm, rfl, ?_⟩⟩
    refine ⟨_, rfl, ?_⟩
    walk_at "rd"
    refine ⟨p, r, tw1, r, rfl, rfl, hp, htw, rfl, fun H9 s9 => ?_⟩
    rw [decide_eq_true rfl]
    replace ar := ar.up s9
    replace hp := hp.up s9
    replace htw := htw.up s9
    replace h7 := h7.up s9
    replace e3 := s9 _ _ e3
    replace e6 := s9 _ _ e6
    replace sA := sA.trans s9
    refine ⟨_, rfl, ?_⟩
    walk_at "rd"
    refine ⟨L, items, rfl, .inl (SqL.of ar.l), fun lp np => ?_⟩
    have g0 := same_new (o := .lst items) np
    refine set_ev (fun v H' => ∃ t, v = .ref t ∧ RgAt CK CF CR CQ H' t r ∧ Same (upd H9 lp (.lst items)) H') (fun Q q => ?_) ?_
    · cases mo with
      | reg _ fs wh =>
        walk_at "rd"
        refine ⟨rfl, ?_⟩
        walk_at "rd"
        exact ⟨⟨rfl, rfl⟩, _, lp, nm, items, fs, wh, rfl, nmo, .inr (SqL.of upd_same), fs_inv (ar.i.up g0), Nat.le_trans ar.llen (by decide), fun t H' h s => q _ _ ⟨t, rfl, h, s⟩⟩
      | key _ cs _ no c1 c3 =>
        have hI := ths_ints ar.i
        subst hI
        walk_at "rd"
        refine ⟨rfl, ?_⟩
        walk_at "rd"
        exact ⟨_, lp, nm, cs, rfl, nmo, .inr (SqL.of upd_same), c1, c3, no, fun t H' h s => q _ _ ⟨t, rfl, h, s⟩⟩
    rintro _ Hk ⟨kp, rfl, hk, sk⟩
    have ek := sk _ _ upd_same
    walk_at "rd"
    try refine KA.r_bm0 ?_
    walk_at "rd"
    refine ⟨lp, items, rfl, rfl, ek, ?_⟩
    have hk2 := hk.sn (SameN.lset (ys := []) ek)
    have s10 : Same H9 (upd Hk lp (.lst [])) := same_mut (g0.trans sk) np
    generalize upd Hk lp (.lst []) = H10 at s10 hk2 ⊢
    clear g0 ek sk hk
    replace ar := ar.up s10
    replace hp := hp.up s10
    replace htw := htw.up s10
    replace h7 := h7.up s10
    replace e3 := s10 _ _ e3
    replace e6 := s10 _ _ e6
    replace sA := sA.trans s10
    walk_at "rd"
    refine ⟨kp, r, rfl, hk2, .inl ⟨p, r, rfl, hp, fun H11 s11 => ?_⟩⟩
    rw [decide_eq_true rfl]
    refine ⟨_, _, rfl, rfl, _, rfl, ?_⟩
    replace ar := ar.up s11
    replace hp := hp.up s11
    replace h7 := h7.up s11
    replace e3 := s11 _ _ e3
    replace e6 := s11 _ _ e6
    replace sA := sA.trans s11
    walk_at "rd"
    refine ⟨rfl, ?_⟩
    walk_at "rd"
    refine ⟨by walk_at "sz", fun lt nt => ?_⟩
    have g0 := same_new (o := .tup [.int 3, .int 7]) nt
    have n37 : numOk [3, 7] := by unfold numOk; decide
    walk_at "rd"
    refine ⟨_, lt, nm, [3, 7], rfl, nmo, .inl (SqT.of upd_same), by decide, by decide, n37, fun t1 Ha ha sa => ?_⟩
    walk_at "rd"
    refine KSt.r_makeRK ?_
    walk_at "rd"
    refine ⟨rfl, fun t2 dx nx nd ne => key_sure (CK := CK) (CF := CF) (CR := CR) (CQ := CQ) (nm := nm) (cs := [3, 7]) nx nd ne nmo n37 (by decide) (by decide) fun Hb hb sb => ?_⟩
    refine ⟨t1, _, t2, _, rfl, rfl, ha.up sb, hb, rfl, fun H12 s12 => ?_⟩
    rw [decide_eq_true rfl]
    refine ⟨_, rfl, ?_⟩
    have sB := ((g0.trans sa).trans sb).trans s12
    replace ar := ar.up sB
    replace hp := hp.up sB
    replace h7 := h7.up sB
    replace e3 := sB _ _ e3
    replace e6 := sB _ _ e6
    replace sA := sA.trans sB
    clear sB s12 sb sa g0
    walk_at "rd"
    refine ⟨_, rfl, L, items, rfl, SqL.of ar.l, fun lb nb => ?_⟩
    have gb := same_new (o := .lst items.reverse) nb
    have elb : upd H12 lb (.lst items.reverse) lb = some (.lst items.reverse) := upd_same
    replace ar := ar.up gb
    replace hp := hp.up gb
    replace h7 := h7.up gb
    replace e3 := gb _ _ e3
    replace e6 := gb _ _ e6
    replace sA := sA.trans gb
    generalize upd H12 lb (.lst items.reverse) = H13 at *
    walk_at "rd"
    have fin : ∀ (x1 x2 x3 x4 x5 x6 x8 x10 x11 x12 x13 x14 : Option V) (H' : Hp), Same H13 H' → (tRet (tCall (spSame 1) [] E0 (tCons (tLc (iList K (tVar 7)) (gName 10) tYes (tOp (rEqReg CK CF CR CQ) (tVar 10) (tVar 0)) (List.map (fun x => x.snd) [((Str.ofString "_law_one", 10) : Str × Nat)])) (tCons (tVar 9) tNil))))
        { nx := fun x H' => Q V.non H', rt := Q } [some (.ref p), x1, x2, x3, x4, x5, x6, some (.ref l2), x8, some (.ref l6), x10, x11, x12, x13, x14] H' := by
      intro x1 x2 x3 x4 x5 x6 x8 x10 x11 x12 x13 x14 HF sF
      replace hp := hp.up sF
      replace h7 := h7.up sF
      replace e3 := sF _ _ e3
      replace e6 := sF _ _ e6
      walk_at "rd"
      refine ⟨l2, rfl, ⟨_, SqL.of e3⟩, lc_all (walk_list (xs := xs)) (j := 10) (fun i => xs.getD i .non) (fun _ => true) (fun i => .bl (decide ((oth r nm b (truT tw)).getD i r = r))) (by omega) (fun i H x H' hi y => yat y) (fun H' s => SqL.of (s _ _ e3)) (fun x => rfl) (fun i H' hi s QT q => q _ (Same.refl _)) (fun i H' hi2 _ s2 Q2 q2 => ?_) (fun D H7 nD s7 eD => ?_)⟩
      · have e1 := List.getElem?_eq_getElem hi2
        obtain ⟨qb, xb, eb, ex, hb⟩ := h7.get e1
        walk_at "rd"
        rw [List.getD_eq_getElem?_getD, e1]
        refine ⟨qb, xb, eb, hb.up s2, .inl ⟨p, r, rfl, hp.up s2, fun H' s' => ?_⟩⟩
        rw [show (oth r nm b (truT tw)).getD i r = xb by rw [List.getD_eq_getElem?_getD, ex]; rfl] at q2
        exact q2 _ s'
      rw [h7.len, given_bl (oth r nm b (truT tw)) r (fun o => decide (o = r)), show (oth r nm b (truT tw)).map (fun o => decide (o = r)) = eqs r nm b (truT tw) from List.map_congr_left fun o _ => decide_eq_decide.mpr ⟨Eq.symm, Eq.symm⟩] at eD
      walk_at "rd"
      refine ⟨_, _, .lst ((eqs r nm b (truT tw)).map fun b => .sc (.bl b)), rfl, .lst eD (trs_bls _), .lst (s7 _ _ e6) (trs_bls _), bd_bls _ (show 7 ≤ 1000 by decide), fun H8 s8 => ?_⟩
      exact q _ ((sA.trans sF).trans (s7.trans s8))
    cases mo with
    | reg _ fs wh =>
      walk_at "rd"
      refine ⟨fun σ' H' => ∃ x1 x2 x3 x4 x5 x6 x8 x10 x11 x12 x13 x14, σ' = [some (.ref p), x1, x2, x3, x4, x5, x6, some (.ref l2), x8, some (.ref l6), x10, x11, x12, x13, x14] ∧ Same H13 H', ?_, ?_⟩
      · walk_at "rd"
        refine ⟨rfl, ?_⟩
        walk_at "rd"
        refine ⟨_, rfl, L, items, rfl, SqL.of ar.l, fun lr nr => ?_⟩
        have gr := same_new (o := .lst items.reverse) nr
        refine ⟨lr, _, rfl, .inl ⟨SqL.of upd_same, fun lt nt => ?_⟩⟩
        have gt := gr.trans (same_new (o := .tup items.reverse) nt)
        walk_at "rd"
        refine ⟨_, lt, nm, items.reverse, fs.reverse, wh, rfl, nmo, .inl (SqT.of upd_same), (fs_inv (ar.i.up gt)).rev, by rw [List.length_reverse]; exact Nat.le_trans ar.llen (by decide), fun t H' h s => ?_⟩
        have sT := gt.trans s
        walk_at "rd"
        refine ⟨t, _, rfl, h, .inl ⟨p, _, rfl, hp.up sT, fun H2' s2' => ?_⟩⟩
        have sU := sT.trans s2'
        walk_at "rd"
        refine ⟨L, items, rfl, .inl (SqL.of (sU _ _ ar.l)), ?_⟩
        walk_at "rd"
        have lf : items.length = fs.length := by rw [ar.i.len, List.length_map]
        have lo : ∀ (i : Nat) (x : FdV), fs[i]? = some x → x.low = 5 * (i : Int) := fun i x e => ar.g.lo i x (by rw [List.getElem?_map, e]; rfl)
        rw [reg_eq, rev_eq lo, show decide ((items.length : Int) < 2) = decide (fs.length < 2) from decide_eq_decide.mpr (by omega)]
        refine ⟨_, _, _, rfl, .sc (.bl _), .sc (.bl _), .sc _ fun _ e => (by cases e), fun H3' s3' => ?_⟩
        refine ⟨_, rfl, ?_⟩
        walk_at "rd"
        exact ⟨_, _, _, _, _, _, _, _, _, _, _, _, rfl, sU.trans s3'⟩
      · rintro σ' H' ⟨x1, x2, x3, x4, x5, x6, x8, x10, x11, x12, x13, x14, rfl, sF⟩
        exact fin _ _ _ _ _ _ _ _ _ _ _ _ _ sF
    | key _ cs _ no c1 c3 =>
      have hI := ths_ints ar.i
      subst hI
      walk_at "rd"
      refine ⟨rfl, ?_⟩
      walk_at "rd"
      rw [← List.map_reverse] at elb
      refine ⟨_, lb, nm, cs.reverse, rfl, nmo, .inr (SqL.of elb), by rw [List.length_reverse]; exact c1, by rw [List.length_reverse]; exact c3, fun c m => no c (List.mem_reverse.mp m), fun t H' h s => ?_⟩
      walk_at "rd"
      refine ⟨t, _, rfl, h, .inl ⟨p, _, rfl, hp.up s, fun H2' s2' => ?_⟩⟩
      have sU := s.trans s2'
      rw [key_eq, decide_eq_true rfl, Bool.true_and]
      walk_at "rd"
      refine r_eqInts (ns := cs.reverse) (ms := cs) (SqL.of (sU _ _ elb)) (SqL.of (sU _ _ ar.l)) ?_
      walk_at "rd"
      refine ⟨_, _, _, rfl, .sc (.bl _), .sc (.bl _), .sc _ fun _ e => (by cases e), fun H3' s3' => ?_⟩
      have sV := sU.trans s3'
      walk_at "rd"
      refine ⟨fun σ' H' => ∃ x1 x2 x3 x4 x5 x6 x8 x10 x11 x12 x13 x14, σ' = [some (.ref p), x1, x2, x3, x4, x5, x6, some (.ref l2), x8, some (.ref l6), x10, x11, x12, x13, x14] ∧ Same H13 H', ?_, ?_⟩
      · walk_at "rd"
        exact ⟨_, _, _, _, _, _, _, _, _, _, _, _, rfl, sV⟩
      · rintro σ' H' ⟨x1, x2, x3, x4, x5, x6, x8, x10, x11, x12, x13, x14, rfl, sF⟩
        exact fin _ _ _ _ _ _ _ _ _ _ _ _ _ sF

end
end K20


namespace K20
open PySem L2 KB KO KY KV KTr
def spLaw (K : PySem.W.Frag) : Sp := fun vs H Q _ => ∃ (a : Addr) (ns : List Int), vs = [.ref a] ∧ SqL K H a (ns.map V.int) ∧ ns.length ≤ 63 ∧ ∀ H', Q (.bl true) H'

section
variable {P : Program} {w : World} {K : PySem.W.Frag} {mg : Str → Option Value} {base : Heap}
theorem err_len {ik : Bool} {t0 tw : Tr} {ths : List Th} {rs : Str} (h : rres ik t0 tw ths = .err rs) : rs.length ≤ 1000 := by
  have k : ∀ z ∈ (["name", "fields", "whole", "constants"] : List Str), z.length ≤ 1000 := by decide
  refine k rs ?_
  cases ik
  · have h' : regres t0 ths tw = .err rs := h
    unfold regres at h'
    split at h'
    · cases h'; decide
    · split at h'
      · cases h'; decide
      · split at h'
        · cases h'; decide
        · cases h'
  · have h' : keyres t0 (ths.map Th.tree) = .err rs := h
    unfold keyres at h'
    split at h'
    · cases h'; decide
    · split at h'
      · cases h'; decide
      · split at h'
        · cases h'; decide
        · cases h'
theorem ok_law {f CK CF CR CQ eM : Addr} {fd : FuncData} (F : Fun K "law" "law" s_law f fd) (T : TxtRg K mg CK CF CR CQ) (c__law_pen : KB.Callee P w K mg base CX0 1 "_law_pen" ["_law_script"] (spPen K)) (c__law_draw : KB.Callee P w K mg base CX0 1 "_law_draw" ["_law_pen_here", "_law_many"] spDraw) (c__law_name : KB.Callee P w K mg base CX0 2 "_law_name" ["_law_pen_here"] spLName)
    (c__law_things : KB.Callee P w K mg base CX0 7 "_law_things" ["_law_pen_here", "_law_is_key"] (spRThings CK CF)) (c__law_spoil : KB.Callee P w K mg base CX0 3 "_law_spoil" ["_law_pen_here", "_law_title", "_law_things_here", "_law_full"] (spRSpoil CK CF)) (c__law_due : KB.Callee P w K mg base CX0 2 "_law_due" ["_law_title", "_law_things_here", "_law_full", "_law_is_key"] (spRDue CK CF))
    (c__law_refused : KB.Callee P w K mg base CX0 9 "_law_refused" ["_law_title", "_law_things_here", "_law_full", "_law_is_key"] (spRRefused CK CF)) (c__law_same : KB.Callee P w K mg base CX0 4 "_law_same" ["_law_told", "_law_due_here"] (spSame 3)) (c__law_plain : KB.Callee P w K mg base (L2.CX P w) 6 "_law_plain" ["_law_title", "_law_fields", "_law_full"] (spLPlain CK CF CR CQ eM))
    (c__law_key : KB.Callee P w K mg base (L2.CX P w) 8 "_law_key" ["_law_title", "_law_numbers"] (spLKey CK CF CR CQ eM)) (c__law_is_right : KB.Callee P w K mg base CX0 5 "_law_is_right" ["_law_made", "_law_title", "_law_things_here", "_law_full", "_law_is_key"] (spRRight CK CF CR CQ)) (c__law_is_equal_right : KB.Callee P w K mg base CX0 9 "_law_is_equal_right" ["_law_made", "_law_title", "_law_things_here", "_law_full", "_law_is_key"] (spREqual CK CF CR CQ))
    (r0_Register : KSt.CalleeIK P w K mg base (L2.CX P w) 4 CR "Register" [] (spRegD K CK CF eM)) : FnOk P w K mg base CX0 10 f fd ["_law_script"] (spLaw K) := by
  refine F.ok sc_law (fun vs H Q E h => ?_) (fun cdv A outer s H vs Q E hr h => ?_)
  · obtain ⟨a, ns, rfl, _⟩ := h
    rfl
  · obtain ⟨a, ns, rfl, hS, hl, q⟩ := h
    refine ⟨_, (pss_cons (ps_set (i := 1) sc_law.nd rfl (by first | exact Or.inl rfl | exact Or.inr rfl) (pe_callC c__law_pen (hr.mono (by decide)) (by rfl) pass0 (pa_cons (pv 0) pa_nil)))
 (pss_cons (ps_for PassesOwn.never rfl (pi_range1 rfl T.z_range (pa_cons pe_int pa_nil)) (pg_name (i := 2) sc_law.nd rfl (by first | exact Or.inl rfl | exact Or.inr rfl))
 (pss_cons (ps_set (i := 3) sc_law.nd rfl (by first | exact Or.inl rfl | exact Or.inr rfl) (pe_cmpR op_eq (pe_callC c__law_draw (hr.mono (by decide)) (by rfl) pass0 (pa_cons (pv 1) (pa_cons pe_int pa_nil))) pe_int (nomark _)))
 (pss_cons (ps_par (i := 4) (j := 5) (by rfl) sc_law.nd rfl rfl (by decide) rfl rfl (pa_cons (pe_callC c__law_name (hr.mono (by decide)) (by rfl) pass0 (pa_cons (pv 1) pa_nil)) (pa_cons (pe_cmpR op_eq (pe_callC c__law_draw (hr.mono (by decide)) (by rfl) pass0 (pa_cons (pv 1) (pa_cons pe_int pa_nil))) pe_int (nomark _)) pa_nil)) (by rfl))
 (pss_cons (ps_set (i := 6) sc_law.nd rfl (by first | exact Or.inl rfl | exact Or.inr rfl) (pe_callC c__law_things (hr.mono (by decide)) (by rfl) pass0 (pa_cons (pv 1) (pa_cons (pv 3) pa_nil))))
 (pss_cons (ps_for PassesOwn.never rfl (pi_range1 rfl T.z_range (pa_cons (pe_ix ix_list (pe_lst (pa_cons pe_int (pa_cons pe_int (pa_cons pe_int (pa_cons pe_int pa_nil))))) (pe_callC c__law_draw (hr.mono (by decide)) (by rfl) pass0 (pa_cons (pv 1) (pa_cons pe_int pa_nil))) (fun _ _ => rfl)) pa_nil)) (pg_name (i := 7) sc_law.nd rfl (by first | exact Or.inl rfl | exact Or.inr rfl))
 (pss_one (ps_asg (pe_callC c__law_spoil (hr.mono (by decide)) (by rfl) pass0 (pa_cons (pv 1) (pa_cons (pv 4) (pa_cons (pv 6) (pa_cons (pv 5) pa_nil))))) (pg_tup rfl (pgs_cons (pg_name (i := 4) sc_law.nd rfl (by first | exact Or.inl rfl | exact Or.inr rfl)) (pgs_cons (pg_name (i := 6) sc_law.nd rfl (by first | exact Or.inl rfl | exact Or.inr rfl)) (pgs_cons (pg_name (i := 5) sc_law.nd rfl (by first | exact Or.inl rfl | exact Or.inr rfl)) pgs_nil)))))))
 (pss_cons (ps_set (i := 8) sc_law.nd rfl (by first | exact Or.inl rfl | exact Or.inr rfl) (pe_callC c__law_due (hr.mono (by decide)) (by rfl) pass0 (pa_cons (pv 4) (pa_cons (pv 6) (pa_cons (pv 5) (pa_cons (pv 3) pa_nil))))))
 (pss_cons (ps_set (i := 9) sc_law.nd rfl (by first | exact Or.inl rfl | exact Or.inr rfl) (pe_callC c__law_refused (hr.mono (by decide)) (by rfl) pass0 (pa_cons (pv 4) (pa_cons (pv 6) (pa_cons (pv 5) (pa_cons (pv 3) pa_nil))))))
 (pss_one (ps_if (pt_cmpR op_notN (pv 8) pe_non (nomark _)) (pss_one (ps_if (pt_not (pt_val (pe_callC c__law_same (hr.mono (by decide)) (by rfl) pass0 (pa_cons (pv 9) (pa_cons (pe_tup (pa_cons (pv 4) (pa_cons (pv 8) (pa_cons pe_bl (pa_cons pe_bl (pa_cons pe_bl pa_nil)))))) pa_nil))))) (pss_one (ps_ret pe_bl))
 pss_nil))
 (pss_cons (ps_set (i := 10) sc_law.nd rfl (by first | exact Or.inl rfl | exact Or.inr rfl) (pe_ifExp (pt_val (pv 3)) (pe_callC c__law_key (hr.mono (by decide)) (by rfl) passL (pa_cons (pv 4) (pa_cons (pv 6) pa_nil))) (pe_callC c__law_plain (hr.mono (by decide)) (by rfl) passL (pa_cons (pv 4) (pa_cons (pv 6) (pa_cons (pv 5) pa_nil))))))
 (pss_cons (ps_if (PW.pt (pw_or (pt_cmpR op_notN (pv 9) pe_non (nomark _)) (pw_or1 (pt_not (pt_val (pe_callC c__law_is_right (hr.mono (by decide)) (by rfl) pass0 (pa_cons (pv 10) (pa_cons (pv 4) (pa_cons (pv 6) (pa_cons (pv 5) (pa_cons (pv 3) pa_nil))))))))))) (pss_one (ps_ret pe_bl))
 pss_nil)
 (pss_one (ps_if (PW.pt (pw_or (pt_not (pt_val (pe_callC c__law_is_equal_right (hr.mono (by decide)) (by rfl) pass0 (pa_cons (pv 10) (pa_cons (pv 4) (pa_cons (pv 6) (pa_cons (pv 5) (pa_cons (pv 3) pa_nil)))))))) (pw_or1 (pt_cmpR op_isnot_bl (pe_fld (KSt.pe_makeR0 r0_Register (hr.mono (by decide)) (by rfl) passL (pa_cons (pv 4) pa_nil)) rfl) pe_bl (nomark _))))) (pss_one (ps_ret pe_bl))
 pss_nil)))))))))))))
 (pss_one (ps_ret pe_bl)))), at_start (σ := [some (.ref a), none, none, none, none, none, none, none, none, none, none]) rfl ?_⟩
    try dsimp only [cx_K]
    walk_at "rd"
    refine ⟨a, ns, rfl, hS, hl, fun H1 pen c s1 n1 n2 pn => ?_⟩
    clear hS s1 n1 n2
    walk_at "rd"
    refine ⟨by decide, by decide, ?_⟩
    refine forW (walk_range (lo := 0) (n := 6)) (fun i σ H' => ∃ y2 y3 y4 y5 y6 y7 y8 y9 y10, σ = [some (.ref a), some (.ref pen), y2, y3, y4, y5, y6, y7, y8, y9, y10] ∧ PenC H' pen c (1000 - 100 * i)) ⟨_, _, _, _, _, _, _, _, _, rfl, pn.mono (by omega)⟩ (fun _ _ _ _ _ => trivial) ?_ ?_
    rotate_left
    · rintro σ H2 ⟨y2, y3, y4, y5, y6, y7, y8, y9, y10, rfl, _⟩
      walk_at "rd"
      exact q H2
    rintro i x σ' H2 H2' hi ⟨y2, y3, y4, y5, y6, y7, y8, y9, y10, rfl, pn⟩ ⟨rfl, rfl⟩
    clear q
    obtain ⟨k, hk⟩ : ∃ k, 1000 - 100 * i = k + 100 := ⟨900 - 100 * i, by omega⟩
    rw [hk] at pn
    rw [show 1000 - 100 * (i + 1) = k by omega]
    clear hk
    walk_at "rd"
    refine ⟨pen, c, 2, k + 99, rfl, by decide, by decide, pn, fun r0 Ha ra rb pna kpa => ?_⟩
    walk_at "rd"
    rw [decI]
    generalize decide (r0 = 1) = ik
    clear ra rb kpa pn
    refine ⟨pen, c, k + 90, rfl, pna, fun nm Hb nmo pnb kpb => ?_⟩
    walk_at "rd"
    refine ⟨pen, c, 2, k + 89, rfl, by decide, by decide, pnb, fun r1 Hc ra rb pnc kpc => ?_⟩
    walk_at "rd"
    rw [decI]
    generalize decide (r1 = 1) = fu
    clear ra rb kpb kpc pna pnb
    refine ⟨_, _, rfl, ?_⟩
    walk_at "rd"
    refine ⟨pen, c, k + 29, ik, rfl, pnc, fun L items ths Hd eL hi g nLp nLc pnd kpd => ?_⟩
    have ok0 : Ok (.sc (.str nm)) := ok_str (Nat.le_trans nmo.len (by decide))
    have okb : Ok (.sc (.bl fu)) := ⟨.sc _ fun _ z => (by cases z), .sc _ fun _ z => (by cases z)⟩
    have ar : Args3 CK CF Hd (.str nm) (.bl fu) L items (.sc (.str nm)) (.sc (.bl fu)) ths ik := ⟨.sc (.str nm), .sc (.bl fu), eL, hi, g, ok0, okb⟩
    clear pnc kpd eL hi g okb ok0
    walk_at "rd"
    refine ⟨by walk_at "sz", fun z4 nz4 => ?_⟩
    walk_at "rd"
    have s4 := same_new (o := .lst [.int 0, .int 0, .int 1, .int 2]) nz4
    refine ⟨pen, c, 4, k + 28, rfl, by decide, by decide, pnd.up s4, fun r He ra rb pne kpe => ?_⟩
    have e4 : He z4 = some (.lst [.int 0, .int 0, .int 1, .int 2]) := kpe _ _ upd_same (pnd.ne nz4)
    replace ar := (ar.up s4).pen (pnd.up s4) kpe nLp
    clear s4 kpe pnd
    obtain ⟨n, hn, hr2⟩ : ∃ n : Nat, n ≤ 2 ∧ atI [.int 0, .int 0, .int 1, .int 2] r = some (V.int (n : Int)) := by
      have : r = 0 ∨ r = 1 ∨ r = 2 ∨ r = 3 := by omega
      rcases this with rfl | rfl | rfl | rfl
      · exact ⟨0, by decide, rfl⟩
      · exact ⟨0, by decide, rfl⟩
      · exact ⟨1, by decide, rfl⟩
      · exact ⟨2, by decide, rfl⟩
    refine r_ixL (SqL.of e4) hr2 ?_
    walk_at "rd"
    refine ⟨by omega, by omega, ?_⟩
    refine forW (walk_range (lo := 0) (n := n)) (fun j σ H' => ∃ y7 v0 vw L items t0 tw ths, σ = [some (.ref a), some (.ref pen), some (.int (0 + (i : Int))), some (.bl ik), some v0, some vw, some (.ref L), y7, y8, y9, y10] ∧ Args3 CK CF H' v0 vw L items t0 tw ths ik ∧ L ≠ pen ∧ L ≠ c ∧ PenC H' pen c (k + 28 - 3 * j)) ⟨_, _, _, L, items, _, _, ths, rfl, ar, nLp, nLc, pne.mono (by omega)⟩ (fun _ _ _ _ _ => trivial) ?_ ?_
    · rintro j x σ' H6 H6' hj ⟨y7, v0, vw, L, items, t0, tw, ths, rfl, ar, nLp, nLc, pn6⟩ ⟨rfl, rfl⟩
      walk_at "rd"
      obtain ⟨k6, hk6⟩ : ∃ k6, k + 28 - 3 * j = k6 + 3 := ⟨k + 25 - 3 * j, by omega⟩
      have hk7 : k6 = k + 28 - 3 * (j + 1) := by omega
      refine ⟨pen, c, k6, v0, vw, L, items, t0, tw, ths, ik, rfl, hk6 ▸ pn6, ar, nLp, nLc, fun D v0' vw' L' items' t0' tw' ths' H7 eD ar7 nLp' nLc' pn7 kp7 => ?_⟩
      refine r_gtup (SqT.of eD) rfl ?_
      walk_at "rd"
      exact ⟨_, v0', vw', L', items', t0', tw', ths', rfl, ar7, nLp', nLc', hk7 ▸ pn7⟩
    clear ar nLp nLc L items ths
    rintro σ' H6 ⟨y7, v0, vw, L, items, t0, tw, ths, rfl, ar, nLp, nLc, pn6⟩
    have pn6 := pn6.mono (show k ≤ _ by omega)
    clear e4 hr2 hn ra rb pne
    walk_at "rd"
    refine ⟨v0, vw, L, items, t0, tw, ths, ik, rfl, ar, fun H7 s7 => ?_⟩
    replace ar := ar.up s7
    replace pn6 := pn6.up s7
    walk_at "rd"
    refine ⟨v0, vw, L, items, t0, tw, ths, ik, rfl, ar, fun rs er D H8 eD s8 => ?_, fun er H8 s8 => ?_⟩
    · replace ar := ar.up s8
      replace pn6 := pn6.up s8
      have lr := err_len er
      rw [er]
      walk_at "rd"
      rw [show (!decide (rrV (RR.err rs) = V.non)) = true by simp [rrV]]
      walk_at "rd"
      refine ⟨by walk_at "sz", fun q9 n9 => ?_⟩
      have s9 := same_new (o := .tup [v0, rrV (.err rs), .bl true, .bl true, .bl false]) n9
      walk_at "rd"
      have tt : ∀ {H' : Hp}, Same H8 H' → TrsAt H' [v0, .str rs, .bl true, .bl true, .bl false] [t0, .sc (.str rs), .sc (.bl true), .sc (.bl true), .sc (.bl false)] := fun s => .cons (TrAt.up s _ _ ar.n) (.cons (.sc (.str _)) (.cons (.sc (.bl _)) (.cons (.sc (.bl _)) (.cons (.sc (.bl _)) .nil))))
      refine ⟨.ref D, .ref q9, .tup [t0, .sc (.str rs), .sc (.bl true), .sc (.bl true), .sc (.bl false)], rfl, .tup (s9 _ _ eD) (tt s9), .tup upd_same (tt s9), .tup (Nat.le_of_ble_eq_true rfl) (fun t m => ?_), fun H10 s10 => ?_⟩
      · simp only [List.mem_cons, List.not_mem_nil, or_false] at m
        rcases m with rfl | rfl | rfl | rfl | rfl
        · exact ar.o0.bd
        · exact .sc _ (fun _ e => by cases e; exact lr)
        · exact .sc _ (fun _ e => by cases e)
        · exact .sc _ (fun _ e => by cases e)
        · exact .sc _ (fun _ e => by cases e)
      walk_at "rd"
      exact ⟨_, _, _, _, _, _, _, _, _, rfl, (pn6.up s9).up s10⟩
    · replace ar := ar.up s8
      replace pn6 := pn6.up s8
      rw [er]
      walk_at "rd"
      rw [show (!decide (rrV RR.ok = V.non)) = false by simp [rrV]]
      refine iteF ?_
      refine set_ev (fun v H' => ∃ p r nm, v = .ref p ∧ RgAt CK CF CR CQ H' p r ∧ v0 = .str nm ∧ t0 = .sc (.str nm) ∧ NmS nm ∧ MadeOf r ik nm ths vw ∧ Same H8 H') (fun Q q => ?_) ?_
      · cases ik with
        | true =>
          walk_at "rd"
          refine ⟨v0, L, items, t0, ths.map Th.tree, rfl, ar.l, ths_trs ar.i (ar.g.tr rfl), ar.n, ar.o0.sm, by rw [ar.i.len]; exact ar.g.len, fun rs e => ?_, fun nm cs e1 e2 e3 e4 e5 l1 l3 p H' hp s => ?_⟩
          · rw [show keyres t0 (ths.map Th.tree) = .ok from er] at e
            cases e
          · have et : ths = cs.map fun c => Th.tr (.sc (.int c)) := by
              rw [← tree_tr (ar.g.tr rfl), e4, List.map_map]
              rfl
            exact q _ _ ⟨p, _, nm, rfl, hp, e1, e2, e3, et ▸ MadeOf.key nm cs vw e5 l1 l3, s⟩
        | false =>
          walk_at "rd"
          refine ⟨v0, vw, L, items, t0, tw, ths, rfl, ar.l, ar.i, ar.n, ar.o0.sm, ar.w, by rw [ar.i.len]; exact ar.g.len, fun rs e => ?_, fun nm fs wh e1 e2 e3 e4 e5 p H' hp s => ?_⟩
          · rw [show regres t0 ths tw = .ok from er] at e
            cases e
          · have ew : vw = .bl wh := by
              have := ar.w
              rw [e5] at this
              cases this
              rfl
            exact q _ _ ⟨p, _, nm, rfl, hp, e1, e2, e3, ew ▸ e4 ▸ MadeOf.reg nm fs wh, s⟩
      rintro _ H9 ⟨p, rv, nm', rfl, hp, rfl, rfl, nmo', mo, s9⟩
      replace ar := ar.up s9
      replace pn6 := pn6.up s9
      walk_at "rd"
      refine KB.r_iteNF rfl ?_
      walk_at "rd"
      refine ⟨p, nm', vw, L, items, tw, ths, ik, rv, rfl, ar, nmo', hp, mo, fun H10 s10 => ?_⟩
      replace ar := ar.up s10
      replace pn6 := pn6.up s10
      replace hp := hp.up s10
      walk_at "rd"
      refine ⟨p, nm', vw, L, items, tw, ths, ik, rv, rfl, ar, nmo', hp, mo, fun H11 s11 => ?_⟩
      replace pn6 := pn6.up s11
      walk_at "rd"
      refine KSt.r_makeRK ?_
      walk_at "rd"
      refine ⟨rfl, fun a0 dx nx nd ne => reg_sureD (CQ := CQ) (nm := nm') (items := []) (fs := []) T.rc nx nd ne .nil nmo' (by decide) fun H12 h0 s12 => ?_⟩
      replace pn6 := pn6.up s12
      obtain ⟨dx', t', jt', f1, f2, f3⟩ := h0
      have cl := T.rc.cl
      have n2 := T.rc.n_whole
      walk_at "rd"
      refine ⟨_, _, rfl, rfl, _, rfl, ?_⟩
      walk_at "rd"
      exact ⟨_, _, _, _, _, _, _, _, _, rfl, pn6⟩

end
end K20


namespace K20
open PySem L2 KB KO KY KV KTr
abbrev s_I4 : Stmt := inClass (top 3) 0
abbrev s_I6 : Stmt := inClass (top 4) 0
abbrev s_I7 : Stmt := inClass (top 5) 0
theorem fnR_of {P : Program} {w : World} {K : PySem.W.Frag} {mg : Str → Option Value} {base : Heap} {CX : CXT} {k : Nat} {f : Addr} {fd : FuncData} {ps : List Str} {sp : Sp} (F : FnOk P w K mg base CX k f fd ps sp) (b : Binds K fd ps []) : FnR P w K mg base CX k f sp := fun A outer s H us vs Q E hr e0 r h => by
  have z := b s us (e0.mod.kin.keeps fun b o e => (e0.bs b o e).1) (by rw [List.append_nil, ← r.length]; exact F.len _ _ _ _ h)
  rw [List.append_nil] at z
  exact F.run A outer s H ⟨us, []⟩ us vs Q E hr e0 z r h
theorem bstar_kw {K : PySem.W.Frag} {fd : FuncData} {ps : List Str} {pv x : Str} {D : Addr} {v : Value} (kw : PySem.W.nsIn K D x = some (some v))
    (e : ∀ (a b : Value) (rest : List Value), ∃ (β γ : Type) (k1 : Option Value → Sem β) (k2 : β → Sem γ) (k3 : γ → Sem (List (Str × Value))) (a' : β), bindArgs fd ⟨[a, b] ++ rest, []⟩ = ((nsGet D x >>= k1) >>= k2) >>= k3 ∧ k1 (some v) = pure a' ∧ (k2 a' >>= k3) = (newTuple rest >>= fun t => pure (ps.zip ([a, b] ++ [v]) ++ [(pv, t)]))) :
    KSt.BStar K fd ps pv 2 [] (fun us _ => us ++ [v]) := fun M A E Q s us rest ws X l1 l2 h => by
  match us, ws, l1, l2 with
  | [a, b], [], _, _ =>
    obtain ⟨β, γ, k1, k2, k3, a', e1, e2, e3⟩ := e a b rest
    show wpAny M A (bindArgs fd ⟨[a, b] ++ rest, []⟩) Q E s
    rw [e1, bind_assoc]
    refine wpAny_bind (((PySem.W.looks_nsIn (M := M) X kw).andThen (PySem.W.Looks.of_pure e2)).here ?_)
    rw [e3]
    exact h
theorem bstar_0 {K : PySem.W.Frag} {fd : FuncData} {ps : List Str} {pv : Str} (e : ∀ (a b : Value) (rest : List Value), bindArgs fd ⟨[a, b] ++ rest, []⟩ = (newTuple rest >>= fun t => pure (ps.zip [a, b] ++ [(pv, t)]))) : KSt.BStar K fd ps pv 2 [] (fun us _ => us) := fun M A E Q s us rest ws X l1 l2 h => by
  match us, ws, l1, l2 with
  | [a, b], [], _, _ =>
    show wpAny M A (bindArgs fd ⟨[a, b] ++ rest, []⟩) Q E s
    rw [e]
    exact h
theorem bstar_1 {K : PySem.W.Frag} {fd : FuncData} {ps : List Str} {pv x : Str} (e : ∀ (a b c : Value) (rest : List Value), bindArgs fd ⟨[a, b] ++ rest, [(x, c)]⟩ = (newTuple rest >>= fun t => pure (ps.zip ([a, b] ++ [c]) ++ [(pv, t)]))) : KSt.BStar K fd ps pv 2 [x] (fun us ws => us ++ ws) := fun M A E Q s us rest ws X l1 l2 h => by
  match us, ws, l1, l2 with
  | [a, b], [c], _, _ =>
    show wpAny M A (bindArgs fd ⟨[a, b] ++ rest, [(x, c)]⟩) Q E s
    rw [e]
    exact h
theorem sqK {K : PySem.W.Frag} {a : Addr} {dd : Option Addr} {its : Array Value} {n : Nat} {sl : Array (Option Value)} {xs : List V} (h : K.lookup a = some ⟨.type "tuple", dd, .seq its n, sl⟩) (hz : its.size ≤ 100) (r : Vals xs its.toList) : ∀ H, SqT K H a xs :=
  fun _ => .inr ⟨_, its, n, h, rfl, rfl, Nat.le_trans hz (by decide), r⟩
theorem vals_rev : ∀ {xs : List V} {us : List Value}, Vals xs us → Vals xs.reverse us.reverse
  | _, _, .nil => .nil
  | _, _, .cons h t => by
    rw [List.reverse_cons, List.reverse_cons]
    exact (vals_rev t).append (.cons h .nil)
theorem free_only {sc : Scope} {x : Str} (h : ∀ z ∈ sc.names, z.2 = .free → z.1 = x) : ∀ y, sc.names.lookup y = some .free → y = x := fun y e => h (y, .free) (PySem.mem_of_lookup e) rfl
theorem all_mk {l : PySem.W.OpenLaw} {w : World} {K : PySem.W.Frag} {h : Heap} {mg : Str → Option Value} {fa C_Kind t_Kind_READINGS t_Kind_WRITINGS t_Kind_DEVICES C_Field C_Register C_KeyRegister f_Kind___init__ f_Kind___eq__ f_is_made_of f_is_name f_is_number f_need_field f_fits_reset f_Field___init__ D_Field___init__ f_Field_may_be_held f_Field_may_be_committed f_Field___eq__ f_Register___init__ D_Register___init__ f_Register_of p_Register_of DT_Register_of f_Register_is_key f_Register___eq__ f_KeyRegister_of p_KeyRegister_of f_KeyRegister___eq__ f__law_pen f__law_draw f__law_same f__law_name f__law_is_name f__law_odd f__law_plain f__law_key f__law_refused f__law_due f__law_is_right f__law_things f__law_spoil f__law_is_equal_right f_law N_Kind N_Field CB e4 e6 e7 cda4 ccell4 fI4 N_E4 cda6 ccell6 fI6 N_E6 cda7 ccell7 fI7 N_E7 f_KeyRegister___init__ cda_KeyRegister___init__ cc_KeyRegister___init__ : Addr} (X : K.In h) (G : h.Ns mainGlobals mg) (hfa : mg "law" = some (.ref fa))
    {dd_t_Kind_READINGS : Option Addr} {n_t_Kind_READINGS : Nat} {sl_t_Kind_READINGS : Array (Option Value)}
    {k_t_Kind_READINGS_0 k_t_Kind_READINGS_1 : Tok}
    {dd_t_Kind_WRITINGS : Option Addr} {n_t_Kind_WRITINGS : Nat} {sl_t_Kind_WRITINGS : Array (Option Value)}
    {k_t_Kind_WRITINGS_0 k_t_Kind_WRITINGS_1 k_t_Kind_WRITINGS_2 k_t_Kind_WRITINGS_3 k_t_Kind_WRITINGS_4 k_t_Kind_WRITINGS_5 k_t_Kind_WRITINGS_6 : Tok}
    {dd_t_Kind_DEVICES : Option Addr} {n_t_Kind_DEVICES : Nat} {sl_t_Kind_DEVICES : Array (Option Value)}
    {k_t_Kind_DEVICES_0 k_t_Kind_DEVICES_1 k_t_Kind_DEVICES_2 k_t_Kind_DEVICES_3 : Tok}
    {od_Kind___init__ an_Kind___init__ : Option Addr} {sl_Kind___init__ : Array (Option Value)} {oc_Kind___init__ kV_Kind___init__ dc_Kind___init__ pm_Kind___init__ cd_Kind___init__ ct_Kind___init__ : Value}
    {od_Kind___eq__ an_Kind___eq__ : Option Addr} {sl_Kind___eq__ : Array (Option Value)} {oc_Kind___eq__ kV_Kind___eq__ dc_Kind___eq__ pm_Kind___eq__ cd_Kind___eq__ ct_Kind___eq__ : Value}
    {od_is_made_of an_is_made_of : Option Addr} {sl_is_made_of : Array (Option Value)} {oc_is_made_of kV_is_made_of dc_is_made_of pm_is_made_of cd_is_made_of ct_is_made_of : Value}
    {od_is_name an_is_name : Option Addr} {sl_is_name : Array (Option Value)} {oc_is_name kV_is_name dc_is_name pm_is_name cd_is_name ct_is_name : Value}
    {od_is_number an_is_number : Option Addr} {sl_is_number : Array (Option Value)} {oc_is_number kV_is_number dc_is_number pm_is_number cd_is_number ct_is_number : Value}
    {od_need_field an_need_field : Option Addr} {sl_need_field : Array (Option Value)} {oc_need_field kV_need_field dc_need_field pm_need_field cd_need_field ct_need_field : Value}
    {od_fits_reset an_fits_reset : Option Addr} {sl_fits_reset : Array (Option Value)} {oc_fits_reset kV_fits_reset dc_fits_reset pm_fits_reset cd_fits_reset ct_fits_reset : Value}
    {od_Field___init__ an_Field___init__ : Option Addr} {sl_Field___init__ : Array (Option Value)} {oc_Field___init__ dc_Field___init__ pm_Field___init__ cd_Field___init__ ct_Field___init__ : Value}
    {od_Field_may_be_held an_Field_may_be_held : Option Addr} {sl_Field_may_be_held : Array (Option Value)} {oc_Field_may_be_held kV_Field_may_be_held dc_Field_may_be_held pm_Field_may_be_held cd_Field_may_be_held ct_Field_may_be_held : Value}
    {od_Field_may_be_committed an_Field_may_be_committed : Option Addr} {sl_Field_may_be_committed : Array (Option Value)} {oc_Field_may_be_committed kV_Field_may_be_committed dc_Field_may_be_committed pm_Field_may_be_committed cd_Field_may_be_committed ct_Field_may_be_committed : Value}
    {od_Field___eq__ an_Field___eq__ : Option Addr} {sl_Field___eq__ : Array (Option Value)} {oc_Field___eq__ kV_Field___eq__ dc_Field___eq__ pm_Field___eq__ cd_Field___eq__ ct_Field___eq__ : Value}
    {od_Register___init__ an_Register___init__ : Option Addr} {sl_Register___init__ : Array (Option Value)} {oc_Register___init__ dc_Register___init__ pm_Register___init__ cd_Register___init__ ct_Register___init__ : Value}
    {od_Register_of an_Register_of : Option Addr} {sl_Register_of : Array (Option Value)} {oc_Register_of kV_Register_of dc_Register_of pm_Register_of cd_Register_of ct_Register_of : Value}
    {rs_Register_of : List Value}
    {dd_DT_Register_of : Option Addr} {n_DT_Register_of : Nat} {sl_DT_Register_of : Array (Option Value)}
    {od_Register_is_key an_Register_is_key : Option Addr} {sl_Register_is_key : Array (Option Value)} {oc_Register_is_key kV_Register_is_key dc_Register_is_key pm_Register_is_key cd_Register_is_key ct_Register_is_key : Value}
    {od_Register___eq__ an_Register___eq__ : Option Addr} {sl_Register___eq__ : Array (Option Value)} {oc_Register___eq__ kV_Register___eq__ dc_Register___eq__ pm_Register___eq__ cd_Register___eq__ ct_Register___eq__ : Value}
    {od_KeyRegister_of an_KeyRegister_of : Option Addr} {sl_KeyRegister_of : Array (Option Value)} {oc_KeyRegister_of kV_KeyRegister_of dc_KeyRegister_of pm_KeyRegister_of cd_KeyRegister_of ct_KeyRegister_of : Value}
    {rs_KeyRegister_of : List Value}
    {od_KeyRegister___eq__ an_KeyRegister___eq__ : Option Addr} {sl_KeyRegister___eq__ : Array (Option Value)} {oc_KeyRegister___eq__ kV_KeyRegister___eq__ dc_KeyRegister___eq__ pm_KeyRegister___eq__ cd_KeyRegister___eq__ ct_KeyRegister___eq__ : Value}
    {od__law_pen an__law_pen : Option Addr} {sl__law_pen : Array (Option Value)} {oc__law_pen kV__law_pen dc__law_pen pm__law_pen cd__law_pen ct__law_pen : Value}
    {od__law_draw an__law_draw : Option Addr} {sl__law_draw : Array (Option Value)} {oc__law_draw kV__law_draw dc__law_draw pm__law_draw cd__law_draw ct__law_draw : Value}
    {od__law_same an__law_same : Option Addr} {sl__law_same : Array (Option Value)} {oc__law_same kV__law_same dc__law_same pm__law_same cd__law_same ct__law_same : Value}
    {od__law_name an__law_name : Option Addr} {sl__law_name : Array (Option Value)} {oc__law_name kV__law_name dc__law_name pm__law_name cd__law_name ct__law_name : Value}
    {od__law_is_name an__law_is_name : Option Addr} {sl__law_is_name : Array (Option Value)} {oc__law_is_name kV__law_is_name dc__law_is_name pm__law_is_name cd__law_is_name ct__law_is_name : Value}
    {od__law_odd an__law_odd : Option Addr} {sl__law_odd : Array (Option Value)} {oc__law_odd kV__law_odd dc__law_odd pm__law_odd cd__law_odd ct__law_odd : Value}
    {od__law_plain an__law_plain : Option Addr} {sl__law_plain : Array (Option Value)} {oc__law_plain kV__law_plain dc__law_plain pm__law_plain cd__law_plain ct__law_plain : Value}
    {od__law_key an__law_key : Option Addr} {sl__law_key : Array (Option Value)} {oc__law_key kV__law_key dc__law_key pm__law_key cd__law_key ct__law_key : Value}
    {od__law_refused an__law_refused : Option Addr} {sl__law_refused : Array (Option Value)} {oc__law_refused kV__law_refused dc__law_refused pm__law_refused cd__law_refused ct__law_refused : Value}
    {od__law_due an__law_due : Option Addr} {sl__law_due : Array (Option Value)} {oc__law_due kV__law_due dc__law_due pm__law_due cd__law_due ct__law_due : Value}
    {od__law_is_right an__law_is_right : Option Addr} {sl__law_is_right : Array (Option Value)} {oc__law_is_right kV__law_is_right dc__law_is_right pm__law_is_right cd__law_is_right ct__law_is_right : Value}
    {od__law_things an__law_things : Option Addr} {sl__law_things : Array (Option Value)} {oc__law_things kV__law_things dc__law_things pm__law_things cd__law_things ct__law_things : Value}
    {od__law_spoil an__law_spoil : Option Addr} {sl__law_spoil : Array (Option Value)} {oc__law_spoil kV__law_spoil dc__law_spoil pm__law_spoil cd__law_spoil ct__law_spoil : Value}
    {od__law_is_equal_right an__law_is_equal_right : Option Addr} {sl__law_is_equal_right : Array (Option Value)} {oc__law_is_equal_right kV__law_is_equal_right dc__law_is_equal_right pm__law_is_equal_right cd__law_is_equal_right ct__law_is_equal_right : Value}
    {od_law an_law : Option Addr} {sl_law : Array (Option Value)} {oc_law kV_law dc_law pm_law cd_law ct_law : Value}
    {nm_K qq_K : Str} {bs_K : List Value} {hd_K : Bool} {sn_K : List Str} {sub_K : List Value} {ab_K : Bool} {col_K : Option Bool} {dd_K : Option Addr} {k0_K k1_K k2_K k3_K k5_K : Option Value} {nid_K : String}
    {nm_F qq_F : Str} {bs_F : List Value} {hd_F : Bool} {sn_F : List Str} {sub_F : List Value} {ab_F : Bool} {col_F : Option Bool} {dd_F : Option Addr} {k0_F k1_F k2_F k3_F k5_F : Option Value} {nid_F : String}
    {o_K o_N o_F o_M : Obj}
    {tkCA tkIN tkLO tkML tkMS tkWI tkw0 tkw1 tkw2 tkw3 : Tok}
    {o_E4 : Obj} {nm_E4 qq_E4 : Str} {bs_E4 bm_E4 : List Value} {sn_E4 : List Str} {sub_E4 : List Value} {ab_E4 : Bool} {col_E4 : Option Bool} {dd_E4 : Option Addr} {k0_E4 k1_E4 k2_E4 k3_E4 k5_E4 : Option Value} {od_I4 an_I4 cdd_I4 cld_I4 : Option Addr} {sl_I4 ccs_I4 csl_I4 : Array (Option Value)} {oc_I4 kV_I4 dc_I4 pm_I4 ct_I4 ccl_I4 cl_I4 : Value} {vs_I4 : Array Value} {file_I4 : Str} {tf_I4 : Tok}
    {o_E6 : Obj} {nm_E6 qq_E6 : Str} {bs_E6 bm_E6 : List Value} {sn_E6 : List Str} {sub_E6 : List Value} {ab_E6 : Bool} {col_E6 : Option Bool} {dd_E6 : Option Addr} {k0_E6 k1_E6 k2_E6 k3_E6 k5_E6 : Option Value} {od_I6 an_I6 cdd_I6 cld_I6 : Option Addr} {sl_I6 ccs_I6 csl_I6 : Array (Option Value)} {oc_I6 kV_I6 dc_I6 pm_I6 ct_I6 ccl_I6 cl_I6 : Value} {vs_I6 : Array Value} {file_I6 : Str} {tf_I6 : Tok}
    {o_E7 : Obj} {nm_E7 qq_E7 : Str} {bs_E7 bm_E7 : List Value} {sn_E7 : List Str} {sub_E7 : List Value} {ab_E7 : Bool} {col_E7 : Option Bool} {dd_E7 : Option Addr} {k0_E7 k1_E7 k2_E7 k3_E7 k5_E7 : Option Value} {od_I7 an_I7 cdd_I7 cld_I7 : Option Addr} {sl_I7 ccs_I7 csl_I7 : Array (Option Value)} {oc_I7 kV_I7 dc_I7 pm_I7 ct_I7 ccl_I7 cl_I7 : Value} {vs_I7 : Array Value} {file_I7 : Str} {tf_I7 : Tok}
    {tkGR tkMC : Tok}
    {od_KeyRegister___init__ an_KeyRegister___init__ cdd_KeyRegister___init__ cld_KeyRegister___init__ : Option Addr} {sl_KeyRegister___init__ ccs_KeyRegister___init__ csl_KeyRegister___init__ : Array (Option Value)} {oc_KeyRegister___init__ kV_KeyRegister___init__ dc_KeyRegister___init__ pm_KeyRegister___init__ ct_KeyRegister___init__ ccl_KeyRegister___init__ cl_KeyRegister___init__ : Value} {vs_KeyRegister___init__ : Array Value} {file_KeyRegister___init__ : Str} {tf_KeyRegister___init__ : Tok}
    (aC_Kind : PySem.W.nsIn K mainGlobals "Kind" = some (some (.ref C_Kind)))
    (pg_Kind : PySem.W.plainGet K C_Kind Str.empty = true)
    (hd_Kind : PySem.W.hasDictIn K C_Kind = true)
    (po_Kind : PySem.W.plainOver K C_Kind = true)
    (sa_Kind : PySem.W.findIn K (.ref C_Kind) "__setattr__" = some (some (.builtin "object.__setattr__")))
    (mk_Kind : PySem.W.makesIn K C_Kind = true)
    (kc_Kind : PySem.W.keepIn K (.ref C_Kind) = true)
    (n_Kind_reading : PySem.W.findIn K (.ref C_Kind) "reading" = some none)
    (n_Kind_writing : PySem.W.findIn K (.ref C_Kind) "writing" = some none)
    (n_Kind_device : PySem.W.findIn K (.ref C_Kind) "device" = some none)
    (n_Kind_states : PySem.W.findIn K (.ref C_Kind) "states" = some none)
    (rd_Kind : PySem.W.readsIn K C_Kind (.type "type") = true)
    (ga_Kind : PySem.W.specialIn K (.ref C_Kind) "__getattribute__" = some (some (.builtin "type.__getattribute__")))
    (fc_t_Kind_READINGS : PySem.W.findCls K (.ref C_Kind) (.type "type") "READINGS" = some (.val (.ref t_Kind_READINGS)))
    (lk_t_Kind_READINGS : K.lookup t_Kind_READINGS = some ⟨.type "tuple", dd_t_Kind_READINGS, .seq #[.str "keep" k_t_Kind_READINGS_0, .str "take" k_t_Kind_READINGS_1] n_t_Kind_READINGS, sl_t_Kind_READINGS⟩)
    (fc_t_Kind_WRITINGS : PySem.W.findCls K (.ref C_Kind) (.type "type") "WRITINGS" = some (.val (.ref t_Kind_WRITINGS)))
    (lk_t_Kind_WRITINGS : K.lookup t_Kind_WRITINGS = some ⟨.type "tuple", dd_t_Kind_WRITINGS, .seq #[.str "store" k_t_Kind_WRITINGS_0, .str "clear1" k_t_Kind_WRITINGS_1, .str "clear0" k_t_Kind_WRITINGS_2, .str "set1" k_t_Kind_WRITINGS_3, .str "flip1" k_t_Kind_WRITINGS_4, .str "once" k_t_Kind_WRITINGS_5, .str "none" k_t_Kind_WRITINGS_6] n_t_Kind_WRITINGS, sl_t_Kind_WRITINGS⟩)
    (fc_t_Kind_DEVICES : PySem.W.findCls K (.ref C_Kind) (.type "type") "DEVICES" = some (.val (.ref t_Kind_DEVICES)))
    (lk_t_Kind_DEVICES : K.lookup t_Kind_DEVICES = some ⟨.type "tuple", dd_t_Kind_DEVICES, .seq #[.str "still" k_t_Kind_DEVICES_0, .str "raise" k_t_Kind_DEVICES_1, .str "end" k_t_Kind_DEVICES_2, .str "drift" k_t_Kind_DEVICES_3] n_t_Kind_DEVICES, sl_t_Kind_DEVICES⟩)
    (aC_Field : PySem.W.nsIn K mainGlobals "Field" = some (some (.ref C_Field)))
    (pg_Field : PySem.W.plainGet K C_Field Str.empty = true)
    (hd_Field : PySem.W.hasDictIn K C_Field = true)
    (po_Field : PySem.W.plainOver K C_Field = true)
    (sa_Field : PySem.W.findIn K (.ref C_Field) "__setattr__" = some (some (.builtin "object.__setattr__")))
    (mk_Field : PySem.W.makesIn K C_Field = true)
    (kc_Field : PySem.W.keepIn K (.ref C_Field) = true)
    (n_Field_kind : PySem.W.findIn K (.ref C_Field) "kind" = some none)
    (n_Field_name : PySem.W.findIn K (.ref C_Field) "name" = some none)
    (n_Field_low : PySem.W.findIn K (.ref C_Field) "low" = some none)
    (n_Field_size : PySem.W.findIn K (.ref C_Field) "size" = some none)
    (n_Field_reading : PySem.W.findIn K (.ref C_Field) "reading" = some none)
    (n_Field_writing : PySem.W.findIn K (.ref C_Field) "writing" = some none)
    (n_Field_device : PySem.W.findIn K (.ref C_Field) "device" = some none)
    (n_Field_reset : PySem.W.findIn K (.ref C_Field) "reset" = some none)
    (n_Field_lock : PySem.W.findIn K (.ref C_Field) "lock" = some none)
    (n_Field_key : PySem.W.findIn K (.ref C_Field) "key" = some none)
    (n_Field_commit : PySem.W.findIn K (.ref C_Field) "commit" = some none)
    (n_Field_held : PySem.W.findIn K (.ref C_Field) "held" = some none)
    (aC_Register : PySem.W.nsIn K mainGlobals "Register" = some (some (.ref C_Register)))
    (pg_Register : PySem.W.plainGet K C_Register Str.empty = true)
    (hd_Register : PySem.W.hasDictIn K C_Register = true)
    (po_Register : PySem.W.plainOver K C_Register = true)
    (sa_Register : PySem.W.findIn K (.ref C_Register) "__setattr__" = some (some (.builtin "object.__setattr__")))
    (mk_Register : PySem.W.makesIn K C_Register = true)
    (kc_Register : PySem.W.keepIn K (.ref C_Register) = true)
    (n_Register_name : PySem.W.findIn K (.ref C_Register) "name" = some none)
    (n_Register_fields : PySem.W.findIn K (.ref C_Register) "fields" = some none)
    (n_Register_whole : PySem.W.findIn K (.ref C_Register) "whole" = some none)
    (aC_KeyRegister : PySem.W.nsIn K mainGlobals "KeyRegister" = some (some (.ref C_KeyRegister)))
    (pg_KeyRegister : PySem.W.plainGet K C_KeyRegister Str.empty = true)
    (hd_KeyRegister : PySem.W.hasDictIn K C_KeyRegister = true)
    (po_KeyRegister : PySem.W.plainOver K C_KeyRegister = true)
    (sa_KeyRegister : PySem.W.findIn K (.ref C_KeyRegister) "__setattr__" = some (some (.builtin "object.__setattr__")))
    (mk_KeyRegister : PySem.W.makesIn K C_KeyRegister = true)
    (kc_KeyRegister : PySem.W.keepIn K (.ref C_KeyRegister) = true)
    (n_KeyRegister_name : PySem.W.findIn K (.ref C_KeyRegister) "name" = some none)
    (n_KeyRegister_fields : PySem.W.findIn K (.ref C_KeyRegister) "fields" = some none)
    (n_KeyRegister_whole : PySem.W.findIn K (.ref C_KeyRegister) "whole" = some none)
    (n_KeyRegister_constants : PySem.W.findIn K (.ref C_KeyRegister) "constants" = some none)
    (a_Kind___init__ : PySem.W.findIn K (.ref C_Kind) "__init__" = some (some (.ref f_Kind___init__)))
    (i_Kind___init__ : PySem.W.isFn K (.ref f_Kind___init__) = true)
    (l_Kind___init__ : K.lookup f_Kind___init__ = some ⟨oc_Kind___init__, od_Kind___init__, .func (PySem.W.fnOf "__init__" "Kind.__init__" (defArgs s_Kind___init__) (defBody s_Kind___init__) (defScope s_Kind___init__) .none kV_Kind___init__ dc_Kind___init__ pm_Kind___init__ an_Kind___init__ cd_Kind___init__ ct_Kind___init__), sl_Kind___init__⟩)
    (c_Kind___init__ : PySem.W.codeIn K cd_Kind___init__ "Kind.__init__" = true)
    (k_Kind___init__ : PySem.W.keepIn K (.ref f_Kind___init__) = true)
    (a_Kind___eq__ : PySem.W.findIn K (.ref C_Kind) "__eq__" = some (some (.ref f_Kind___eq__)))
    (i_Kind___eq__ : PySem.W.isFn K (.ref f_Kind___eq__) = true)
    (l_Kind___eq__ : K.lookup f_Kind___eq__ = some ⟨oc_Kind___eq__, od_Kind___eq__, .func (PySem.W.fnOf "__eq__" "Kind.__eq__" (defArgs s_Kind___eq__) (defBody s_Kind___eq__) (defScope s_Kind___eq__) .none kV_Kind___eq__ dc_Kind___eq__ pm_Kind___eq__ an_Kind___eq__ cd_Kind___eq__ ct_Kind___eq__), sl_Kind___eq__⟩)
    (c_Kind___eq__ : PySem.W.codeIn K cd_Kind___eq__ "Kind.__eq__" = true)
    (k_Kind___eq__ : PySem.W.keepIn K (.ref f_Kind___eq__) = true)
    (a_is_made_of : PySem.W.nsIn K mainGlobals "is_made_of" = some (some (.ref f_is_made_of)))
    (l_is_made_of : K.lookup f_is_made_of = some ⟨oc_is_made_of, od_is_made_of, .func (PySem.W.fnOf "is_made_of" "is_made_of" (defArgs s_is_made_of) (defBody s_is_made_of) (defScope s_is_made_of) .none kV_is_made_of dc_is_made_of pm_is_made_of an_is_made_of cd_is_made_of ct_is_made_of), sl_is_made_of⟩)
    (c_is_made_of : PySem.W.codeIn K cd_is_made_of "is_made_of" = true)
    (k_is_made_of : PySem.W.keepIn K (.ref f_is_made_of) = true)
    (a_is_name : PySem.W.nsIn K mainGlobals "is_name" = some (some (.ref f_is_name)))
    (l_is_name : K.lookup f_is_name = some ⟨oc_is_name, od_is_name, .func (PySem.W.fnOf "is_name" "is_name" (defArgs s_is_name) (defBody s_is_name) (defScope s_is_name) .none kV_is_name dc_is_name pm_is_name an_is_name cd_is_name ct_is_name), sl_is_name⟩)
    (c_is_name : PySem.W.codeIn K cd_is_name "is_name" = true)
    (k_is_name : PySem.W.keepIn K (.ref f_is_name) = true)
    (a_is_number : PySem.W.nsIn K mainGlobals "is_number" = some (some (.ref f_is_number)))
    (l_is_number : K.lookup f_is_number = some ⟨oc_is_number, od_is_number, .func (PySem.W.fnOf "is_number" "is_number" (defArgs s_is_number) (defBody s_is_number) (defScope s_is_number) .none kV_is_number dc_is_number pm_is_number an_is_number cd_is_number ct_is_number), sl_is_number⟩)
    (c_is_number : PySem.W.codeIn K cd_is_number "is_number" = true)
    (k_is_number : PySem.W.keepIn K (.ref f_is_number) = true)
    (a_need_field : PySem.W.nsIn K mainGlobals "need_field" = some (some (.ref f_need_field)))
    (l_need_field : K.lookup f_need_field = some ⟨oc_need_field, od_need_field, .func (PySem.W.fnOf "need_field" "need_field" (defArgs s_need_field) (defBody s_need_field) (defScope s_need_field) .none kV_need_field dc_need_field pm_need_field an_need_field cd_need_field ct_need_field), sl_need_field⟩)
    (c_need_field : PySem.W.codeIn K cd_need_field "need_field" = true)
    (k_need_field : PySem.W.keepIn K (.ref f_need_field) = true)
    (a_fits_reset : PySem.W.nsIn K mainGlobals "fits_reset" = some (some (.ref f_fits_reset)))
    (l_fits_reset : K.lookup f_fits_reset = some ⟨oc_fits_reset, od_fits_reset, .func (PySem.W.fnOf "fits_reset" "fits_reset" (defArgs s_fits_reset) (defBody s_fits_reset) (defScope s_fits_reset) .none kV_fits_reset dc_fits_reset pm_fits_reset an_fits_reset cd_fits_reset ct_fits_reset), sl_fits_reset⟩)
    (c_fits_reset : PySem.W.codeIn K cd_fits_reset "fits_reset" = true)
    (k_fits_reset : PySem.W.keepIn K (.ref f_fits_reset) = true)
    (a_Field___init__ : PySem.W.findIn K (.ref C_Field) "__init__" = some (some (.ref f_Field___init__)))
    (i_Field___init__ : PySem.W.isFn K (.ref f_Field___init__) = true)
    (l_Field___init__ : K.lookup f_Field___init__ = some ⟨oc_Field___init__, od_Field___init__, .func (PySem.W.fnOf "__init__" "Field.__init__" (defArgs s_Field___init__) (defBody s_Field___init__) (defScope s_Field___init__) .none (.ref D_Field___init__) dc_Field___init__ pm_Field___init__ an_Field___init__ cd_Field___init__ ct_Field___init__), sl_Field___init__⟩)
    (kw_Field___init___reading : PySem.W.nsIn K D_Field___init__ "reading" = some (some (.str "keep" tkw0)))
    (kw_Field___init___writing : PySem.W.nsIn K D_Field___init__ "writing" = some (some (.str "store" tkw1)))
    (kw_Field___init___device : PySem.W.nsIn K D_Field___init__ "device" = some (some (.str "still" tkw2)))
    (kw_Field___init___reset : PySem.W.nsIn K D_Field___init__ "reset" = some (some (.int 0 tkw3)))
    (kw_Field___init___lock : PySem.W.nsIn K D_Field___init__ "lock" = some (some (.none)))
    (kw_Field___init___key : PySem.W.nsIn K D_Field___init__ "key" = some (some (.none)))
    (kw_Field___init___commit : PySem.W.nsIn K D_Field___init__ "commit" = some (some (.none)))
    (kw_Field___init___held : PySem.W.nsIn K D_Field___init__ "held" = some (some (.none)))
    (c_Field___init__ : PySem.W.codeIn K cd_Field___init__ "Field.__init__" = true)
    (k_Field___init__ : PySem.W.keepIn K (.ref f_Field___init__) = true)
    (a_Field_may_be_held : PySem.W.findIn K (.ref C_Field) "may_be_held" = some (some (.ref f_Field_may_be_held)))
    (i_Field_may_be_held : PySem.W.isFn K (.ref f_Field_may_be_held) = true)
    (l_Field_may_be_held : K.lookup f_Field_may_be_held = some ⟨oc_Field_may_be_held, od_Field_may_be_held, .func (PySem.W.fnOf "may_be_held" "Field.may_be_held" (defArgs s_Field_may_be_held) (defBody s_Field_may_be_held) (defScope s_Field_may_be_held) .none kV_Field_may_be_held dc_Field_may_be_held pm_Field_may_be_held an_Field_may_be_held cd_Field_may_be_held ct_Field_may_be_held), sl_Field_may_be_held⟩)
    (c_Field_may_be_held : PySem.W.codeIn K cd_Field_may_be_held "Field.may_be_held" = true)
    (k_Field_may_be_held : PySem.W.keepIn K (.ref f_Field_may_be_held) = true)
    (a_Field_may_be_committed : PySem.W.findIn K (.ref C_Field) "may_be_committed" = some (some (.ref f_Field_may_be_committed)))
    (i_Field_may_be_committed : PySem.W.isFn K (.ref f_Field_may_be_committed) = true)
    (l_Field_may_be_committed : K.lookup f_Field_may_be_committed = some ⟨oc_Field_may_be_committed, od_Field_may_be_committed, .func (PySem.W.fnOf "may_be_committed" "Field.may_be_committed" (defArgs s_Field_may_be_committed) (defBody s_Field_may_be_committed) (defScope s_Field_may_be_committed) .none kV_Field_may_be_committed dc_Field_may_be_committed pm_Field_may_be_committed an_Field_may_be_committed cd_Field_may_be_committed ct_Field_may_be_committed), sl_Field_may_be_committed⟩)
    (c_Field_may_be_committed : PySem.W.codeIn K cd_Field_may_be_committed "Field.may_be_committed" = true)
    (k_Field_may_be_committed : PySem.W.keepIn K (.ref f_Field_may_be_committed) = true)
    (a_Field___eq__ : PySem.W.findIn K (.ref C_Field) "__eq__" = some (some (.ref f_Field___eq__)))
    (i_Field___eq__ : PySem.W.isFn K (.ref f_Field___eq__) = true)
    (l_Field___eq__ : K.lookup f_Field___eq__ = some ⟨oc_Field___eq__, od_Field___eq__, .func (PySem.W.fnOf "__eq__" "Field.__eq__" (defArgs s_Field___eq__) (defBody s_Field___eq__) (defScope s_Field___eq__) .none kV_Field___eq__ dc_Field___eq__ pm_Field___eq__ an_Field___eq__ cd_Field___eq__ ct_Field___eq__), sl_Field___eq__⟩)
    (c_Field___eq__ : PySem.W.codeIn K cd_Field___eq__ "Field.__eq__" = true)
    (k_Field___eq__ : PySem.W.keepIn K (.ref f_Field___eq__) = true)
    (a_Register___init__ : PySem.W.findIn K (.ref C_Register) "__init__" = some (some (.ref f_Register___init__)))
    (i_Register___init__ : PySem.W.isFn K (.ref f_Register___init__) = true)
    (l_Register___init__ : K.lookup f_Register___init__ = some ⟨oc_Register___init__, od_Register___init__, .func (PySem.W.fnOf "__init__" "Register.__init__" (defArgs s_Register___init__) (defBody s_Register___init__) (defScope s_Register___init__) .none (.ref D_Register___init__) dc_Register___init__ pm_Register___init__ an_Register___init__ cd_Register___init__ ct_Register___init__), sl_Register___init__⟩)
    (kw_Register___init___whole : PySem.W.nsIn K D_Register___init__ "whole" = some (some (.bool false)))
    (c_Register___init__ : PySem.W.codeIn K cd_Register___init__ "Register.__init__" = true)
    (k_Register___init__ : PySem.W.keepIn K (.ref f_Register___init__) = true)
    (a_Register_of : PySem.W.findCls K (.ref C_Register) (.type "type") "of" = some (.get (.builtin "classmethod.__get__") (.ref p_Register_of) .none (.ref C_Register)))
    (rc_Register_of : PySem.W.recIn K p_Register_of "classmethod" = some (.ref f_Register_of :: rs_Register_of))
    (fi_Register_of : PySem.W.fnIn K f_Register_of = true)
    (l_Register_of : K.lookup f_Register_of = some ⟨oc_Register_of, od_Register_of, .func (PySem.W.fnOf "of" "Register.of" (defArgs s_Register_of) (defBody s_Register_of) (defScope s_Register_of) (.ref DT_Register_of) kV_Register_of dc_Register_of pm_Register_of an_Register_of cd_Register_of ct_Register_of), sl_Register_of⟩)
    (dt_Register_of : K.lookup DT_Register_of = some ⟨.type "tuple", dd_DT_Register_of, .seq #[.bool false] n_DT_Register_of, sl_DT_Register_of⟩)
    (c_Register_of : PySem.W.codeIn K cd_Register_of "Register.of" = true)
    (k_Register_of : PySem.W.keepIn K (.ref f_Register_of) = true)
    (a_Register_is_key : PySem.W.findIn K (.ref C_Register) "is_key" = some (some (.ref f_Register_is_key)))
    (i_Register_is_key : PySem.W.isFn K (.ref f_Register_is_key) = true)
    (l_Register_is_key : K.lookup f_Register_is_key = some ⟨oc_Register_is_key, od_Register_is_key, .func (PySem.W.fnOf "is_key" "Register.is_key" (defArgs s_Register_is_key) (defBody s_Register_is_key) (defScope s_Register_is_key) .none kV_Register_is_key dc_Register_is_key pm_Register_is_key an_Register_is_key cd_Register_is_key ct_Register_is_key), sl_Register_is_key⟩)
    (c_Register_is_key : PySem.W.codeIn K cd_Register_is_key "Register.is_key" = true)
    (k_Register_is_key : PySem.W.keepIn K (.ref f_Register_is_key) = true)
    (a_Register___eq__ : PySem.W.findIn K (.ref C_Register) "__eq__" = some (some (.ref f_Register___eq__)))
    (i_Register___eq__ : PySem.W.isFn K (.ref f_Register___eq__) = true)
    (l_Register___eq__ : K.lookup f_Register___eq__ = some ⟨oc_Register___eq__, od_Register___eq__, .func (PySem.W.fnOf "__eq__" "Register.__eq__" (defArgs s_Register___eq__) (defBody s_Register___eq__) (defScope s_Register___eq__) .none kV_Register___eq__ dc_Register___eq__ pm_Register___eq__ an_Register___eq__ cd_Register___eq__ ct_Register___eq__), sl_Register___eq__⟩)
    (c_Register___eq__ : PySem.W.codeIn K cd_Register___eq__ "Register.__eq__" = true)
    (k_Register___eq__ : PySem.W.keepIn K (.ref f_Register___eq__) = true)
    (a_KeyRegister_of : PySem.W.findCls K (.ref C_KeyRegister) (.type "type") "of" = some (.get (.builtin "classmethod.__get__") (.ref p_KeyRegister_of) .none (.ref C_KeyRegister)))
    (rc_KeyRegister_of : PySem.W.recIn K p_KeyRegister_of "classmethod" = some (.ref f_KeyRegister_of :: rs_KeyRegister_of))
    (fi_KeyRegister_of : PySem.W.fnIn K f_KeyRegister_of = true)
    (l_KeyRegister_of : K.lookup f_KeyRegister_of = some ⟨oc_KeyRegister_of, od_KeyRegister_of, .func (PySem.W.fnOf "of" "KeyRegister.of" (defArgs s_KeyRegister_of) (defBody s_KeyRegister_of) (defScope s_KeyRegister_of) .none kV_KeyRegister_of dc_KeyRegister_of pm_KeyRegister_of an_KeyRegister_of cd_KeyRegister_of ct_KeyRegister_of), sl_KeyRegister_of⟩)
    (c_KeyRegister_of : PySem.W.codeIn K cd_KeyRegister_of "KeyRegister.of" = true)
    (k_KeyRegister_of : PySem.W.keepIn K (.ref f_KeyRegister_of) = true)
    (a_KeyRegister___eq__ : PySem.W.findIn K (.ref C_KeyRegister) "__eq__" = some (some (.ref f_KeyRegister___eq__)))
    (i_KeyRegister___eq__ : PySem.W.isFn K (.ref f_KeyRegister___eq__) = true)
    (l_KeyRegister___eq__ : K.lookup f_KeyRegister___eq__ = some ⟨oc_KeyRegister___eq__, od_KeyRegister___eq__, .func (PySem.W.fnOf "__eq__" "KeyRegister.__eq__" (defArgs s_KeyRegister___eq__) (defBody s_KeyRegister___eq__) (defScope s_KeyRegister___eq__) .none kV_KeyRegister___eq__ dc_KeyRegister___eq__ pm_KeyRegister___eq__ an_KeyRegister___eq__ cd_KeyRegister___eq__ ct_KeyRegister___eq__), sl_KeyRegister___eq__⟩)
    (c_KeyRegister___eq__ : PySem.W.codeIn K cd_KeyRegister___eq__ "KeyRegister.__eq__" = true)
    (k_KeyRegister___eq__ : PySem.W.keepIn K (.ref f_KeyRegister___eq__) = true)
    (a__law_pen : PySem.W.nsIn K mainGlobals "_law_pen" = some (some (.ref f__law_pen)))
    (l__law_pen : K.lookup f__law_pen = some ⟨oc__law_pen, od__law_pen, .func (PySem.W.fnOf "_law_pen" "_law_pen" (defArgs s__law_pen) (defBody s__law_pen) (defScope s__law_pen) .none kV__law_pen dc__law_pen pm__law_pen an__law_pen cd__law_pen ct__law_pen), sl__law_pen⟩)
    (c__law_pen : PySem.W.codeIn K cd__law_pen "_law_pen" = true)
    (k__law_pen : PySem.W.keepIn K (.ref f__law_pen) = true)
    (a__law_draw : PySem.W.nsIn K mainGlobals "_law_draw" = some (some (.ref f__law_draw)))
    (l__law_draw : K.lookup f__law_draw = some ⟨oc__law_draw, od__law_draw, .func (PySem.W.fnOf "_law_draw" "_law_draw" (defArgs s__law_draw) (defBody s__law_draw) (defScope s__law_draw) .none kV__law_draw dc__law_draw pm__law_draw an__law_draw cd__law_draw ct__law_draw), sl__law_draw⟩)
    (c__law_draw : PySem.W.codeIn K cd__law_draw "_law_draw" = true)
    (k__law_draw : PySem.W.keepIn K (.ref f__law_draw) = true)
    (a__law_same : PySem.W.nsIn K mainGlobals "_law_same" = some (some (.ref f__law_same)))
    (l__law_same : K.lookup f__law_same = some ⟨oc__law_same, od__law_same, .func (PySem.W.fnOf "_law_same" "_law_same" (defArgs s__law_same) (defBody s__law_same) (defScope s__law_same) .none kV__law_same dc__law_same pm__law_same an__law_same cd__law_same ct__law_same), sl__law_same⟩)
    (c__law_same : PySem.W.codeIn K cd__law_same "_law_same" = true)
    (k__law_same : PySem.W.keepIn K (.ref f__law_same) = true)
    (a__law_name : PySem.W.nsIn K mainGlobals "_law_name" = some (some (.ref f__law_name)))
    (l__law_name : K.lookup f__law_name = some ⟨oc__law_name, od__law_name, .func (PySem.W.fnOf "_law_name" "_law_name" (defArgs s__law_name) (defBody s__law_name) (defScope s__law_name) .none kV__law_name dc__law_name pm__law_name an__law_name cd__law_name ct__law_name), sl__law_name⟩)
    (c__law_name : PySem.W.codeIn K cd__law_name "_law_name" = true)
    (k__law_name : PySem.W.keepIn K (.ref f__law_name) = true)
    (a__law_is_name : PySem.W.nsIn K mainGlobals "_law_is_name" = some (some (.ref f__law_is_name)))
    (l__law_is_name : K.lookup f__law_is_name = some ⟨oc__law_is_name, od__law_is_name, .func (PySem.W.fnOf "_law_is_name" "_law_is_name" (defArgs s__law_is_name) (defBody s__law_is_name) (defScope s__law_is_name) .none kV__law_is_name dc__law_is_name pm__law_is_name an__law_is_name cd__law_is_name ct__law_is_name), sl__law_is_name⟩)
    (c__law_is_name : PySem.W.codeIn K cd__law_is_name "_law_is_name" = true)
    (k__law_is_name : PySem.W.keepIn K (.ref f__law_is_name) = true)
    (a__law_odd : PySem.W.nsIn K mainGlobals "_law_odd" = some (some (.ref f__law_odd)))
    (l__law_odd : K.lookup f__law_odd = some ⟨oc__law_odd, od__law_odd, .func (PySem.W.fnOf "_law_odd" "_law_odd" (defArgs s__law_odd) (defBody s__law_odd) (defScope s__law_odd) .none kV__law_odd dc__law_odd pm__law_odd an__law_odd cd__law_odd ct__law_odd), sl__law_odd⟩)
    (c__law_odd : PySem.W.codeIn K cd__law_odd "_law_odd" = true)
    (k__law_odd : PySem.W.keepIn K (.ref f__law_odd) = true)
    (a__law_plain : PySem.W.nsIn K mainGlobals "_law_plain" = some (some (.ref f__law_plain)))
    (l__law_plain : K.lookup f__law_plain = some ⟨oc__law_plain, od__law_plain, .func (PySem.W.fnOf "_law_plain" "_law_plain" (defArgs s__law_plain) (defBody s__law_plain) (defScope s__law_plain) .none kV__law_plain dc__law_plain pm__law_plain an__law_plain cd__law_plain ct__law_plain), sl__law_plain⟩)
    (c__law_plain : PySem.W.codeIn K cd__law_plain "_law_plain" = true)
    (k__law_plain : PySem.W.keepIn K (.ref f__law_plain) = true)
    (a__law_key : PySem.W.nsIn K mainGlobals "_law_key" = some (some (.ref f__law_key)))
    (l__law_key : K.lookup f__law_key = some ⟨oc__law_key, od__law_key, .func (PySem.W.fnOf "_law_key" "_law_key" (defArgs s__law_key) (defBody s__law_key) (defScope s__law_key) .none kV__law_key dc__law_key pm__law_key an__law_key cd__law_key ct__law_key), sl__law_key⟩)
    (c__law_key : PySem.W.codeIn K cd__law_key "_law_key" = true)
    (k__law_key : PySem.W.keepIn K (.ref f__law_key) = true)
    (a__law_refused : PySem.W.nsIn K mainGlobals "_law_refused" = some (some (.ref f__law_refused)))
    (l__law_refused : K.lookup f__law_refused = some ⟨oc__law_refused, od__law_refused, .func (PySem.W.fnOf "_law_refused" "_law_refused" (defArgs s__law_refused) (defBody s__law_refused) (defScope s__law_refused) .none kV__law_refused dc__law_refused pm__law_refused an__law_refused cd__law_refused ct__law_refused), sl__law_refused⟩)
    (c__law_refused : PySem.W.codeIn K cd__law_refused "_law_refused" = true)
    (k__law_refused : PySem.W.keepIn K (.ref f__law_refused) = true)
    (a__law_due : PySem.W.nsIn K mainGlobals "_law_due" = some (some (.ref f__law_due)))
    (l__law_due : K.lookup f__law_due = some ⟨oc__law_due, od__law_due, .func (PySem.W.fnOf "_law_due" "_law_due" (defArgs s__law_due) (defBody s__law_due) (defScope s__law_due) .none kV__law_due dc__law_due pm__law_due an__law_due cd__law_due ct__law_due), sl__law_due⟩)
    (c__law_due : PySem.W.codeIn K cd__law_due "_law_due" = true)
    (k__law_due : PySem.W.keepIn K (.ref f__law_due) = true)
    (a__law_is_right : PySem.W.nsIn K mainGlobals "_law_is_right" = some (some (.ref f__law_is_right)))
    (l__law_is_right : K.lookup f__law_is_right = some ⟨oc__law_is_right, od__law_is_right, .func (PySem.W.fnOf "_law_is_right" "_law_is_right" (defArgs s__law_is_right) (defBody s__law_is_right) (defScope s__law_is_right) .none kV__law_is_right dc__law_is_right pm__law_is_right an__law_is_right cd__law_is_right ct__law_is_right), sl__law_is_right⟩)
    (c__law_is_right : PySem.W.codeIn K cd__law_is_right "_law_is_right" = true)
    (k__law_is_right : PySem.W.keepIn K (.ref f__law_is_right) = true)
    (a__law_things : PySem.W.nsIn K mainGlobals "_law_things" = some (some (.ref f__law_things)))
    (l__law_things : K.lookup f__law_things = some ⟨oc__law_things, od__law_things, .func (PySem.W.fnOf "_law_things" "_law_things" (defArgs s__law_things) (defBody s__law_things) (defScope s__law_things) .none kV__law_things dc__law_things pm__law_things an__law_things cd__law_things ct__law_things), sl__law_things⟩)
    (c__law_things : PySem.W.codeIn K cd__law_things "_law_things" = true)
    (k__law_things : PySem.W.keepIn K (.ref f__law_things) = true)
    (a__law_spoil : PySem.W.nsIn K mainGlobals "_law_spoil" = some (some (.ref f__law_spoil)))
    (l__law_spoil : K.lookup f__law_spoil = some ⟨oc__law_spoil, od__law_spoil, .func (PySem.W.fnOf "_law_spoil" "_law_spoil" (defArgs s__law_spoil) (defBody s__law_spoil) (defScope s__law_spoil) .none kV__law_spoil dc__law_spoil pm__law_spoil an__law_spoil cd__law_spoil ct__law_spoil), sl__law_spoil⟩)
    (c__law_spoil : PySem.W.codeIn K cd__law_spoil "_law_spoil" = true)
    (k__law_spoil : PySem.W.keepIn K (.ref f__law_spoil) = true)
    (a__law_is_equal_right : PySem.W.nsIn K mainGlobals "_law_is_equal_right" = some (some (.ref f__law_is_equal_right)))
    (l__law_is_equal_right : K.lookup f__law_is_equal_right = some ⟨oc__law_is_equal_right, od__law_is_equal_right, .func (PySem.W.fnOf "_law_is_equal_right" "_law_is_equal_right" (defArgs s__law_is_equal_right) (defBody s__law_is_equal_right) (defScope s__law_is_equal_right) .none kV__law_is_equal_right dc__law_is_equal_right pm__law_is_equal_right an__law_is_equal_right cd__law_is_equal_right ct__law_is_equal_right), sl__law_is_equal_right⟩)
    (c__law_is_equal_right : PySem.W.codeIn K cd__law_is_equal_right "_law_is_equal_right" = true)
    (k__law_is_equal_right : PySem.W.keepIn K (.ref f__law_is_equal_right) = true)
    (a_law : PySem.W.nsIn K mainGlobals "law" = some (some (.ref f_law)))
    (l_law : K.lookup f_law = some ⟨oc_law, od_law, .func (PySem.W.fnOf "law" "law" (defArgs s_law) (defBody s_law) (defScope s_law) .none kV_law dc_law pm_law an_law cd_law ct_law), sl_law⟩)
    (c_law : PySem.W.codeIn K cd_law "law" = true)
    (k_law : PySem.W.keepIn K (.ref f_law) = true)
    (tyc : PySem.W.findIn K (.ref C_Kind) "__class__" = some (some (.builtin "object.__class__")))
    (tyg : PySem.W.specialIn K (.builtin "object.__class__") "__get__" = some (some (.builtin "getset_descriptor.__get__")))
    (tyt : PySem.W.takesIn K (.builtin "object.__class__") = some true)
    (tym : PySem.W.mroIn K C_Kind (.type "object") = some true)
    (tyi : PySem.W.kitOne K (.ref C_Kind) (.ref C_Kind) = some true)
    (lkK : K.lookup C_Kind = some o_K)
    (lkO : o_K = (excClassObj nm_K qq_K C_Kind N_Kind bs_K [.type "object"] hd_K sn_K sub_K ab_K col_K dd_K k0_K k1_K k2_K k3_K k5_K nid_K))
    (nsK : K.lookup N_Kind = some o_N)
    (nsO : ∀ K2 : PySem.W.Frag, K2.lookup N_Kind = some o_N → PySem.W.nsOkIn K2 N_Kind = true)
    (neq : PySem.W.nsIn K N_Kind "__eq__" = some (some (.ref f_Kind___eq__)))
    (nne : PySem.W.nsIn K N_Kind "__ne__" = some none)
    (foK : oc_Kind___eq__ = .type "function")
    (nfK : PySem.W.notFirst K C_Kind (.ref C_Kind) = true)
    (tycF : PySem.W.findIn K (.ref C_Field) "__class__" = some (some (.builtin "object.__class__")))
    (tymF : PySem.W.mroIn K C_Field (.type "object") = some true)
    (tyiF : PySem.W.kitOne K (.ref C_Field) (.ref C_Field) = some true)
    (lkKF : K.lookup C_Field = some o_F)
    (lkOF : o_F = (excClassObj nm_F qq_F C_Field N_Field bs_F [.type "object"] hd_F sn_F sub_F ab_F col_F dd_F k0_F k1_F k2_F k3_F k5_F nid_F))
    (nsKF : K.lookup N_Field = some o_M)
    (nsOF : ∀ K2 : PySem.W.Frag, K2.lookup N_Field = some o_M → PySem.W.nsOkIn K2 N_Field = true)
    (neqF : PySem.W.nsIn K N_Field "__eq__" = some (some (.ref f_Field___eq__)))
    (nneF : PySem.W.nsIn K N_Field "__ne__" = some none)
    (foKF : oc_Field___eq__ = .type "function")
    (gCA : PySem.W.nsIn K mainGlobals "CAPITALS" = some (some (.str "ABCDEFGHIJKLMNOPQRSTUVWXYZ" tkCA)))
    (gIN : PySem.W.nsIn K mainGlobals "INNER" = some (some (.str "ABCDEFGHIJKLMNOPQRSTUVWXYZ0123456789_" tkIN)))
    (gLO : PySem.W.nsIn K mainGlobals "LONGEST" = some (some (.int 8 tkLO)))
    (gML : PySem.W.nsIn K mainGlobals "MOST_LOW" = some (some (.int 31 tkML)))
    (gMS : PySem.W.nsIn K mainGlobals "MOST_SIZE" = some (some (.int 16 tkMS)))
    (gWI : PySem.W.nsIn K mainGlobals "WIDEST" = some (some (.int 32 tkWI)))
    (nfF : PySem.W.notFirst K C_Field (.ref C_Field) = true)
    (nfF_str : PySem.W.notFirst K C_Field (.type "str") = true)
    (isF_str : PySem.W.kitOne K (.type "str") (.ref C_Field) = some false)
    (aB : PySem.W.nsIn K mainGlobals "BitError" = some (some (.ref CB)))
    (aE4 : PySem.W.nsIn K mainGlobals "InvalidKind" = some (some (.ref e4)))
    (aE6 : PySem.W.nsIn K mainGlobals "InvalidField" = some (some (.ref e6)))
    (aE7 : PySem.W.nsIn K mainGlobals "InvalidMap" = some (some (.ref e7)))
    (xs4 : PySem.W.subIn K (.ref e4) (.type "BaseException") = some true)
    (xv4 : PySem.W.findIn K (.ref e4) "value" = some none)
    (lkE4 : K.lookup e4 = some o_E4)
    (lkF4 : o_E4 = (excClassObj nm_E4 qq_E4 e4 N_E4 bs_E4 bm_E4 true sn_E4 sub_E4 ab_E4 col_E4 dd_E4 k0_E4 k1_E4 k2_E4 k3_E4 k5_E4 "ValueError.__new__"))
    (rvE4 : PySem.HandSPX.refsVE bm_E4 = true)
    (saE4 : PySem.W.findIn K (.ref e4) "__setattr__" = some (some (.builtin "object.__setattr__")))
    (tyE4 : PySem.W.typeIn K (.ref e4) = some (.type "type"))
    (kpE4 : PySem.W.keepIn K (.ref e4) = true)
    (inE4 : PySem.W.findIn K (.ref e4) "__init__" = some (some (.ref fI4)))
    (tiE4 : PySem.W.typeIn K (.ref fI4) = some (.type "function"))
    (lIK4 : K.lookup fI4 = some ⟨oc_I4, od_I4, .func (PySem.W.ksFn "__init__" "InvalidKind.__init__" (defArgs s_I4) (defBody s_I4) (defScope s_I4) .none kV_I4 dc_I4 pm_I4 an_I4 (.ref cda4) ct_I4 ccell4), sl_I4⟩)
    (cIK4 : PySem.W.codeIn K (.ref cda4) "InvalidKind.__init__" = true)
    (lcd4 : K.lookup cda4 = some ⟨ccl_I4, cdd_I4, .fields vs_I4, ccs_I4⟩)
    (vsI4 : vs_I4[2]? = some (.str file_I4 tf_I4))
    (fiI4 : ((l.prog.main.file : Str) == file_I4) = true)
    (lcc4 : K.lookup ccell4 = some ⟨cl_I4, cld_I4, .cell (some (.ref e4)), csl_I4⟩)
    (sbI4 : PySem.W.mroIn K e4 (.ref e4) = some true)
    (veI4 : PySem.W.mroIn K e4 (.type "ValueError") = some true)
    (suI4 : PySem.W.ks_superIn K e4 e4 "__init__" = some (some (.builtin "ValueError.__init__")))
    (xs6 : PySem.W.subIn K (.ref e6) (.type "BaseException") = some true)
    (xv6 : PySem.W.findIn K (.ref e6) "name" = some none)
    (lkE6 : K.lookup e6 = some o_E6)
    (lkF6 : o_E6 = (excClassObj nm_E6 qq_E6 e6 N_E6 bs_E6 bm_E6 true sn_E6 sub_E6 ab_E6 col_E6 dd_E6 k0_E6 k1_E6 k2_E6 k3_E6 k5_E6 "ValueError.__new__"))
    (rvE6 : PySem.HandSPX.refsVE bm_E6 = true)
    (saE6 : PySem.W.findIn K (.ref e6) "__setattr__" = some (some (.builtin "object.__setattr__")))
    (tyE6 : PySem.W.typeIn K (.ref e6) = some (.type "type"))
    (kpE6 : PySem.W.keepIn K (.ref e6) = true)
    (inE6 : PySem.W.findIn K (.ref e6) "__init__" = some (some (.ref fI6)))
    (tiE6 : PySem.W.typeIn K (.ref fI6) = some (.type "function"))
    (lIK6 : K.lookup fI6 = some ⟨oc_I6, od_I6, .func (PySem.W.ksFn "__init__" "InvalidField.__init__" (defArgs s_I6) (defBody s_I6) (defScope s_I6) .none kV_I6 dc_I6 pm_I6 an_I6 (.ref cda6) ct_I6 ccell6), sl_I6⟩)
    (cIK6 : PySem.W.codeIn K (.ref cda6) "InvalidField.__init__" = true)
    (lcd6 : K.lookup cda6 = some ⟨ccl_I6, cdd_I6, .fields vs_I6, ccs_I6⟩)
    (vsI6 : vs_I6[2]? = some (.str file_I6 tf_I6))
    (fiI6 : ((l.prog.main.file : Str) == file_I6) = true)
    (lcc6 : K.lookup ccell6 = some ⟨cl_I6, cld_I6, .cell (some (.ref e6)), csl_I6⟩)
    (sbI6 : PySem.W.mroIn K e6 (.ref e6) = some true)
    (veI6 : PySem.W.mroIn K e6 (.type "ValueError") = some true)
    (suI6 : PySem.W.ks_superIn K e6 e6 "__init__" = some (some (.builtin "ValueError.__init__")))
    (xw6 : PySem.W.findIn K (.ref e6) "reason" = some none)
    (xs7 : PySem.W.subIn K (.ref e7) (.type "BaseException") = some true)
    (xv7 : PySem.W.findIn K (.ref e7) "name" = some none)
    (lkE7 : K.lookup e7 = some o_E7)
    (lkF7 : o_E7 = (excClassObj nm_E7 qq_E7 e7 N_E7 bs_E7 bm_E7 true sn_E7 sub_E7 ab_E7 col_E7 dd_E7 k0_E7 k1_E7 k2_E7 k3_E7 k5_E7 "ValueError.__new__"))
    (rvE7 : PySem.HandSPX.refsVE bm_E7 = true)
    (saE7 : PySem.W.findIn K (.ref e7) "__setattr__" = some (some (.builtin "object.__setattr__")))
    (tyE7 : PySem.W.typeIn K (.ref e7) = some (.type "type"))
    (kpE7 : PySem.W.keepIn K (.ref e7) = true)
    (inE7 : PySem.W.findIn K (.ref e7) "__init__" = some (some (.ref fI7)))
    (tiE7 : PySem.W.typeIn K (.ref fI7) = some (.type "function"))
    (lIK7 : K.lookup fI7 = some ⟨oc_I7, od_I7, .func (PySem.W.ksFn "__init__" "InvalidMap.__init__" (defArgs s_I7) (defBody s_I7) (defScope s_I7) .none kV_I7 dc_I7 pm_I7 an_I7 (.ref cda7) ct_I7 ccell7), sl_I7⟩)
    (cIK7 : PySem.W.codeIn K (.ref cda7) "InvalidMap.__init__" = true)
    (lcd7 : K.lookup cda7 = some ⟨ccl_I7, cdd_I7, .fields vs_I7, ccs_I7⟩)
    (vsI7 : vs_I7[2]? = some (.str file_I7 tf_I7))
    (fiI7 : ((l.prog.main.file : Str) == file_I7) = true)
    (lcc7 : K.lookup ccell7 = some ⟨cl_I7, cld_I7, .cell (some (.ref e7)), csl_I7⟩)
    (sbI7 : PySem.W.mroIn K e7 (.ref e7) = some true)
    (veI7 : PySem.W.mroIn K e7 (.type "ValueError") = some true)
    (suI7 : PySem.W.ks_superIn K e7 e7 "__init__" = some (some (.builtin "ValueError.__init__")))
    (xw7 : PySem.W.findIn K (.ref e7) "reason" = some none)
    (tpI : (l.prog.main.scope.names.lookup ("super" : Str)).isSome = false)
    (opI : PySem.W.nsIn K cStatics "thirdparty.any" = some none)
    (xg7 : PySem.W.findIn K (.ref e7) "__getattribute__" = some (some (.builtin "BaseException.__getattribute__")))
    (xk7 : PySem.W.findIn K (.ref e7) "__getattr__" = some none)
    (xd7 : PySem.W.hasDictIn K e7 = true)
    (xa7 : PySem.W.findIn K (.ref e7) "__class__" = some (some (.builtin "object.__class__")))
    (xm7 : PySem.W.mroIn K e7 (.type "object") = some true)
    (hMM : PySem.W.exmOne K (.ref e7) (.ref e7) = some true)
    (kMB : PySem.W.kitOne K (.ref e7) (.ref CB) = some true)
    (kMV : PySem.W.kitOne K (.ref e7) (.type "ValueError") = some true)
    (kMF : PySem.W.kitOne K (.ref e7) (.ref e6) = some false)
    (gGR : PySem.W.nsIn K mainGlobals "GREATEST" = some (some (.int 4294967295 tkGR)))
    (gMC : PySem.W.nsIn K mainGlobals "MOST_CONSTANTS" = some (some (.int 3 tkMC)))
    (tycR : PySem.W.findIn K (.ref C_Register) "__class__" = some (some (.builtin "object.__class__")))
    (tymR : PySem.W.mroIn K C_Register (.type "object") = some true)
    (rdR : PySem.W.readsIn K C_Register (.type "type") = true)
    (gaR : PySem.W.specialIn K (.ref C_Register) "__getattribute__" = some (some (.builtin "type.__getattribute__")))
    (ne_R : PySem.W.findIn K (.ref C_Register) "__ne__" = some (some (.builtin "object.__ne__")))
    (sb_R : PySem.W.subIn K (.ref C_Register) (.type "object") = some true)
    (isSR : PySem.W.kitOne K (.type "str") (.ref C_Register) = some false)
    (nfRs : PySem.W.notFirst K C_Register (.type "str") = true)
    (nfR : PySem.W.notFirst K C_Register (.ref C_Register) = true)
    (tycQ : PySem.W.findIn K (.ref C_KeyRegister) "__class__" = some (some (.builtin "object.__class__")))
    (tymQ : PySem.W.mroIn K C_KeyRegister (.type "object") = some true)
    (rdQ : PySem.W.readsIn K C_KeyRegister (.type "type") = true)
    (gaQ : PySem.W.specialIn K (.ref C_KeyRegister) "__getattribute__" = some (some (.builtin "type.__getattribute__")))
    (ne_Q : PySem.W.findIn K (.ref C_KeyRegister) "__ne__" = some (some (.builtin "object.__ne__")))
    (sb_Q : PySem.W.subIn K (.ref C_KeyRegister) (.type "object") = some true)
    (isSQ : PySem.W.kitOne K (.type "str") (.ref C_KeyRegister) = some false)
    (nfQs : PySem.W.notFirst K C_KeyRegister (.type "str") = true)
    (nfQ : PySem.W.notFirst K C_KeyRegister (.ref C_KeyRegister) = true)
    (isRR : PySem.W.kitOne K (.ref C_Register) (.ref C_Register) = some true)
    (isQR : PySem.W.kitOne K (.ref C_KeyRegister) (.ref C_Register) = some true)
    (isRQ : PySem.W.kitOne K (.ref C_Register) (.ref C_KeyRegister) = some false)
    (isQQ : PySem.W.kitOne K (.ref C_KeyRegister) (.ref C_KeyRegister) = some true)
    (nfQR : PySem.W.notFirst K C_KeyRegister (.ref C_Register) = true)
    (sbQR : PySem.W.subIn K (.ref C_KeyRegister) (.ref C_Register) = some true)
    (neRQ : C_Register ≠ C_KeyRegister)
    (kF_NoneType : PySem.W.kitOne K (.type "NoneType") (.ref C_Field) = some false)
    (kF_bool : PySem.W.kitOne K (.type "bool") (.ref C_Field) = some false)
    (kF_int : PySem.W.kitOne K (.type "int") (.ref C_Field) = some false)
    (kF_str : PySem.W.kitOne K (.type "str") (.ref C_Field) = some false)
    (kF_tuple : PySem.W.kitOne K (.type "tuple") (.ref C_Field) = some false)
    (kF_list : PySem.W.kitOne K (.type "list") (.ref C_Field) = some false)
    (kF_dict : PySem.W.kitOne K (.type "dict") (.ref C_Field) = some false)
    (in_KQ : PySem.W.findIn K (.ref C_KeyRegister) "__init__" = some (some (.ref f_KeyRegister___init__)))
    (l_KeyRegister___init__ : K.lookup f_KeyRegister___init__ = some ⟨oc_KeyRegister___init__, od_KeyRegister___init__, .func (PySem.W.ksFn "__init__" "KeyRegister.__init__" (defArgs s_KeyRegister___init__) (defBody s_KeyRegister___init__) (defScope s_KeyRegister___init__) .none kV_KeyRegister___init__ dc_KeyRegister___init__ pm_KeyRegister___init__ an_KeyRegister___init__ (.ref cda_KeyRegister___init__) ct_KeyRegister___init__ cc_KeyRegister___init__), sl_KeyRegister___init__⟩)
    (c_KeyRegister___init__ : PySem.W.codeIn K (.ref cda_KeyRegister___init__) "KeyRegister.__init__" = true)
    (ld_KeyRegister___init__ : K.lookup cda_KeyRegister___init__ = some ⟨ccl_KeyRegister___init__, cdd_KeyRegister___init__, .fields vs_KeyRegister___init__, ccs_KeyRegister___init__⟩)
    (vs2_KeyRegister___init__ : vs_KeyRegister___init__[2]? = some (.str file_KeyRegister___init__ tf_KeyRegister___init__))
    (fi2_KeyRegister___init__ : ((l.prog.main.file : Str) == file_KeyRegister___init__) = true)
    (lc_KeyRegister___init__ : K.lookup cc_KeyRegister___init__ = some ⟨cl_KeyRegister___init__, cld_KeyRegister___init__, .cell (some (.ref C_KeyRegister)), csl_KeyRegister___init__⟩)
    (dcl_KeyRegister___init__ : ∃ cd, PySem.W.clsIn K C_KeyRegister = some cd)
    (i_KeyRegister___init__ : PySem.W.isFn K (.ref f_KeyRegister___init__) = true)
    (ti_Ri : PySem.W.typeIn K (.ref f_Register___init__) = some (.type "function"))
    (fn_Ri : PySem.W.fnIn K f_Register___init__ = true)
    (su_Q : PySem.W.ks_superIn K C_KeyRegister C_KeyRegister "__init__" = some (some (.ref f_Register___init__)))
    (sb_QQ : PySem.W.mroIn K C_KeyRegister (.ref C_KeyRegister) = some true)
    (z_int : PySem.W.nsIn K mainGlobals "int" = some none)
    (z_bool : PySem.W.nsIn K mainGlobals "bool" = some none)
    (z_str : PySem.W.nsIn K mainGlobals "str" = some none)
    (z_dict : PySem.W.nsIn K mainGlobals "dict" = some none)
    (z_all : PySem.W.nsIn K mainGlobals "all" = some none)
    (z_abs : PySem.W.nsIn K mainGlobals "abs" = some none)
    (z_len : PySem.W.nsIn K mainGlobals "len" = some none)
    (z_list : PySem.W.nsIn K mainGlobals "list" = some none)
    (z_tuple : PySem.W.nsIn K mainGlobals "tuple" = some none)
    (z_range : PySem.W.nsIn K mainGlobals "range" = some none)
    (z_isinstance : PySem.W.nsIn K mainGlobals "isinstance" = some none)
    (z_zip : PySem.W.nsIn K mainGlobals "zip" = some none)
    (z_ValueError : PySem.W.nsIn K mainGlobals "ValueError" = some none)
    (z_super : PySem.W.nsIn K mainGlobals "super" = some none)
    : ∃ fd : FuncData, (∀ (s : Shared) (v : Value), BindsTo s fd ⟨[v], []⟩ [("_law_script", v)]) ∧ ∀ base : Heap, K.In base → base.Ns mainGlobals mg → KG.FnG l.prog w K mg base CX0 10 fa fd ["_law_script"] (spLaw K) := by
  have e := hfa.symm.trans (PySem.W.mg_of X G a_law)
  cases e
  have F_Kind___init__ := fun_mk (st := s_Kind___init__) l_Kind___init__ c_Kind___init__ k_Kind___init__
  have b_Kind___init__ := F_Kind___init__.binds (ps := ["self", "reading", "writing", "device"]) fun _ _ _ _ _ _ us hl => match us, hl with | [_, _, _, _], _ => rfl
  have F_Kind___eq__ := fun_mk (st := s_Kind___eq__) l_Kind___eq__ c_Kind___eq__ k_Kind___eq__
  have b_Kind___eq__ := F_Kind___eq__.binds (ps := ["self", "other"]) fun _ _ _ _ _ _ us hl => match us, hl with | [_, _], _ => rfl
  have F_is_made_of := fun_mk (st := s_is_made_of) l_is_made_of c_is_made_of k_is_made_of
  have b_is_made_of := F_is_made_of.binds (ps := ["value", "first", "others"]) fun _ _ _ _ _ _ us hl => match us, hl with | [_, _, _], _ => rfl
  have F_is_name := fun_mk (st := s_is_name) l_is_name c_is_name k_is_name
  have b_is_name := F_is_name.binds (ps := ["value"]) fun _ _ _ _ _ _ us hl => match us, hl with | [_], _ => rfl
  have F_is_number := fun_mk (st := s_is_number) l_is_number c_is_number k_is_number
  have b_is_number := F_is_number.binds (ps := ["value", "least", "most"]) fun _ _ _ _ _ _ us hl => match us, hl with | [_, _, _], _ => rfl
  have F_need_field := fun_mk (st := s_need_field) l_need_field c_need_field k_need_field
  have b_need_field := F_need_field.binds (ps := ["test", "name", "reason"]) fun _ _ _ _ _ _ us hl => match us, hl with | [_, _, _], _ => rfl
  have F_fits_reset := fun_mk (st := s_fits_reset) l_fits_reset c_fits_reset k_fits_reset
  have b_fits_reset := F_fits_reset.binds (ps := ["reset", "size", "device"]) fun _ _ _ _ _ _ us hl => match us, hl with | [_, _, _], _ => rfl
  have F_Field___init__ := fun_mk (st := s_Field___init__) l_Field___init__ c_Field___init__ k_Field___init__
  have F_Field_may_be_held := fun_mk (st := s_Field_may_be_held) l_Field_may_be_held c_Field_may_be_held k_Field_may_be_held
  have b_Field_may_be_held := F_Field_may_be_held.binds (ps := ["self"]) fun _ _ _ _ _ _ us hl => match us, hl with | [_], _ => rfl
  have F_Field_may_be_committed := fun_mk (st := s_Field_may_be_committed) l_Field_may_be_committed c_Field_may_be_committed k_Field_may_be_committed
  have b_Field_may_be_committed := F_Field_may_be_committed.binds (ps := ["self"]) fun _ _ _ _ _ _ us hl => match us, hl with | [_], _ => rfl
  have F_Field___eq__ := fun_mk (st := s_Field___eq__) l_Field___eq__ c_Field___eq__ k_Field___eq__
  have b_Field___eq__ := F_Field___eq__.binds (ps := ["self", "other"]) fun _ _ _ _ _ _ us hl => match us, hl with | [_, _], _ => rfl
  have F_Register___init__ := fun_mk (st := s_Register___init__) l_Register___init__ c_Register___init__ k_Register___init__
  have F_Register_is_key := fun_mk (st := s_Register_is_key) l_Register_is_key c_Register_is_key k_Register_is_key
  have b_Register_is_key := F_Register_is_key.binds (ps := ["self"]) fun _ _ _ _ _ _ us hl => match us, hl with | [_], _ => rfl
  have F_Register___eq__ := fun_mk (st := s_Register___eq__) l_Register___eq__ c_Register___eq__ k_Register___eq__
  have b_Register___eq__ := F_Register___eq__.binds (ps := ["self", "other"]) fun _ _ _ _ _ _ us hl => match us, hl with | [_, _], _ => rfl
  have F_KeyRegister_of := fun_mk (st := s_KeyRegister_of) l_KeyRegister_of c_KeyRegister_of k_KeyRegister_of
  have b_KeyRegister_of := F_KeyRegister_of.binds (ps := ["cls", "name", "constants"]) fun _ _ _ _ _ _ us hl => match us, hl with | [_, _, _], _ => rfl
  have F_KeyRegister___eq__ := fun_mk (st := s_KeyRegister___eq__) l_KeyRegister___eq__ c_KeyRegister___eq__ k_KeyRegister___eq__
  have b_KeyRegister___eq__ := F_KeyRegister___eq__.binds (ps := ["self", "other"]) fun _ _ _ _ _ _ us hl => match us, hl with | [_, _], _ => rfl
  have F__law_pen := fun_mk (st := s__law_pen) l__law_pen c__law_pen k__law_pen
  have b__law_pen := F__law_pen.binds (ps := ["_law_script"]) fun _ _ _ _ _ _ us hl => match us, hl with | [_], _ => rfl
  have F__law_draw := fun_mk (st := s__law_draw) l__law_draw c__law_draw k__law_draw
  have b__law_draw := F__law_draw.binds (ps := ["_law_pen_here", "_law_many"]) fun _ _ _ _ _ _ us hl => match us, hl with | [_, _], _ => rfl
  have F__law_same := fun_mk (st := s__law_same) l__law_same c__law_same k__law_same
  have b__law_same := F__law_same.binds (ps := ["_law_told", "_law_due_here"]) fun _ _ _ _ _ _ us hl => match us, hl with | [_, _], _ => rfl
  have F__law_name := fun_mk (st := s__law_name) l__law_name c__law_name k__law_name
  have b__law_name := F__law_name.binds (ps := ["_law_pen_here"]) fun _ _ _ _ _ _ us hl => match us, hl with | [_], _ => rfl
  have F__law_is_name := fun_mk (st := s__law_is_name) l__law_is_name c__law_is_name k__law_is_name
  have b__law_is_name := F__law_is_name.binds (ps := ["_law_value"]) fun _ _ _ _ _ _ us hl => match us, hl with | [_], _ => rfl
  have F__law_odd := fun_mk (st := s__law_odd) l__law_odd c__law_odd k__law_odd
  have b__law_odd := F__law_odd.binds (ps := ["_law_pen_here"]) fun _ _ _ _ _ _ us hl => match us, hl with | [_], _ => rfl
  have F__law_plain := fun_mk (st := s__law_plain) l__law_plain c__law_plain k__law_plain
  have b__law_plain := F__law_plain.binds (ps := ["_law_title", "_law_fields", "_law_full"]) fun _ _ _ _ _ _ us hl => match us, hl with | [_, _, _], _ => rfl
  have F__law_key := fun_mk (st := s__law_key) l__law_key c__law_key k__law_key
  have b__law_key := F__law_key.binds (ps := ["_law_title", "_law_numbers"]) fun _ _ _ _ _ _ us hl => match us, hl with | [_, _], _ => rfl
  have F__law_refused := fun_mk (st := s__law_refused) l__law_refused c__law_refused k__law_refused
  have b__law_refused := F__law_refused.binds (ps := ["_law_title", "_law_things_here", "_law_full", "_law_is_key"]) fun _ _ _ _ _ _ us hl => match us, hl with | [_, _, _, _], _ => rfl
  have F__law_due := fun_mk (st := s__law_due) l__law_due c__law_due k__law_due
  have b__law_due := F__law_due.binds (ps := ["_law_title", "_law_things_here", "_law_full", "_law_is_key"]) fun _ _ _ _ _ _ us hl => match us, hl with | [_, _, _, _], _ => rfl
  have F__law_is_right := fun_mk (st := s__law_is_right) l__law_is_right c__law_is_right k__law_is_right
  have b__law_is_right := F__law_is_right.binds (ps := ["_law_made", "_law_title", "_law_things_here", "_law_full", "_law_is_key"]) fun _ _ _ _ _ _ us hl => match us, hl with | [_, _, _, _, _], _ => rfl
  have F__law_things := fun_mk (st := s__law_things) l__law_things c__law_things k__law_things
  have b__law_things := F__law_things.binds (ps := ["_law_pen_here", "_law_is_key"]) fun _ _ _ _ _ _ us hl => match us, hl with | [_, _], _ => rfl
  have F__law_spoil := fun_mk (st := s__law_spoil) l__law_spoil c__law_spoil k__law_spoil
  have b__law_spoil := F__law_spoil.binds (ps := ["_law_pen_here", "_law_title", "_law_things_here", "_law_full"]) fun _ _ _ _ _ _ us hl => match us, hl with | [_, _, _, _], _ => rfl
  have F__law_is_equal_right := fun_mk (st := s__law_is_equal_right) l__law_is_equal_right c__law_is_equal_right k__law_is_equal_right
  have b__law_is_equal_right := F__law_is_equal_right.binds (ps := ["_law_made", "_law_title", "_law_things_here", "_law_full", "_law_is_key"]) fun _ _ _ _ _ _ us hl => match us, hl with | [_, _, _, _, _], _ => rfl
  have F_law := fun_mk (st := s_law) l_law c_law k_law
  have b_law := F_law.binds (ps := ["_law_script"]) fun _ _ _ _ _ _ us hl => match us, hl with | [_], _ => rfl

  have cK : Cls K C_Kind := ⟨pg_Kind, hd_Kind, po_Kind, sa_Kind⟩
  have cF : Cls K C_Field := ⟨pg_Field, hd_Field, po_Field, sa_Field⟩
  have T0 : Txt mg := {
    z_int := PySem.W.mg_none_of X G z_int, z_bool := PySem.W.mg_none_of X G z_bool, z_str := PySem.W.mg_none_of X G z_str, z_dict := PySem.W.mg_none_of X G z_dict, z_all := PySem.W.mg_none_of X G z_all, z_abs := PySem.W.mg_none_of X G z_abs, z_len := PySem.W.mg_none_of X G z_len, z_list := PySem.W.mg_none_of X G z_list, z_tuple := PySem.W.mg_none_of X G z_tuple, z_range := PySem.W.mg_none_of X G z_range, z_isinstance := PySem.W.mg_none_of X G z_isinstance, z_zip := PySem.W.mg_none_of X G z_zip, z_ValueError := PySem.W.mg_none_of X G z_ValueError }
  have TK : TxtK K mg C_Kind := {
    toTxt := T0, cl := cK, n_reading := n_Kind_reading, n_writing := n_Kind_writing, n_device := n_Kind_device, n_states := n_Kind_states, mg_Kind := PySem.W.mg_of X G aC_Kind
    con := ⟨.type "type", t_Kind_READINGS, t_Kind_WRITINGS, t_Kind_DEVICES, _, _, _, ⟨rd_Kind, ga_Kind⟩, ⟨fc_t_Kind_READINGS, rfl⟩, ⟨fc_t_Kind_WRITINGS, rfl⟩, ⟨fc_t_Kind_DEVICES, rfl⟩,
      sqK lk_t_Kind_READINGS (by simp) (.cons ⟨_, rfl⟩ (.cons ⟨_, rfl⟩ .nil)),
      sqK lk_t_Kind_WRITINGS (by simp) (.cons ⟨_, rfl⟩ (.cons ⟨_, rfl⟩ (.cons ⟨_, rfl⟩ (.cons ⟨_, rfl⟩ (.cons ⟨_, rfl⟩ (.cons ⟨_, rfl⟩ (.cons ⟨_, rfl⟩ .nil))))))),
      sqK lk_t_Kind_DEVICES (by simp) (.cons ⟨_, rfl⟩ (.cons ⟨_, rfl⟩ (.cons ⟨_, rfl⟩ (.cons ⟨_, rfl⟩ .nil))))⟩ }
  have TN : TxtN mg := { toTxt := T0, g_CAPITALS := ⟨_, PySem.W.mg_of X G gCA⟩, g_INNER := ⟨_, PySem.W.mg_of X G gIN⟩, g_LONGEST := ⟨_, PySem.W.mg_of X G gLO⟩ }
  have T : TxtFd K mg C_Kind C_Field := {
    toTxtN := TN, kind := TK, tyK := fun e => .base (.ins e cK tyc tyg tyt tym), nfK := nfK, isiK := tyi, tyF := fun e => .base (.ins e cF tycF tyg tyt tymF), isiF := tyiF, kitS := isF_str, clF := cF
    na := fun f hf => by
      simp only [List.mem_cons, List.not_mem_nil, or_false] at hf
      rcases hf with rfl | rfl | rfl | rfl | rfl | rfl | rfl | rfl | rfl | rfl | rfl | rfl
      · exact n_Field_kind
      · exact n_Field_name
      · exact n_Field_low
      · exact n_Field_size
      · exact n_Field_reading
      · exact n_Field_writing
      · exact n_Field_device
      · exact n_Field_reset
      · exact n_Field_lock
      · exact n_Field_key
      · exact n_Field_commit
      · exact n_Field_held
    mg_Field := PySem.W.mg_of X G aC_Field, g_MOST_LOW := ⟨_, PySem.W.mg_of X G gML⟩, g_MOST_SIZE := ⟨_, PySem.W.mg_of X G gMS⟩, g_WIDEST := ⟨_, PySem.W.mg_of X G gWI⟩ }
  have TRR : TxtRR K mg CB e7 e6 := {
    toTxtN := TN, mg_BitError := PySem.W.mg_of X G aB, mg_InvalidField := PySem.W.mg_of X G aE6, mg_InvalidMap := PySem.W.mg_of X G aE7, hMM := hMM, excM := ⟨xg7, xk7, xs7, xd7, xa7, tyg, tyt, xm7⟩, xfM := ⟨xg7, xk7, xs7, xd7⟩, nofN := xv7, nofR := xw7, kMB := kMB, kMV := kMV, kMF := kMF }
  have OX4 : OexC K e4 := ⟨⟨nm_E4, qq_E4, N_E4, bs_E4, bm_E4, sn_E4, sub_E4, ab_E4, col_E4, dd_E4, k0_E4, k1_E4, k2_E4, k3_E4, k5_E4, lkE4.trans (congrArg some lkF4), rvE4⟩, saE4, xs4, tyE4, kpE4⟩
  have SF4 : KX.SupFn K l.prog fI4 (PySem.W.ksFn "__init__" "InvalidKind.__init__" (defArgs s_I4) (defBody s_I4) (defScope s_I4) .none kV_I4 dc_I4 pm_I4 an_I4 (.ref cda4) ct_I4 ccell4) e4 "value" "value" := {
    ex := ⟨"InvalidKind.__init__", defArgs s_I4, defScope s_I4, .none, kV_I4, dc_I4, pm_I4, ct_I4, oc_I4, ccl_I4, cl_I4, an_I4, od_I4, cdd_I4, cld_I4, sl_I4, ccs_I4, csl_I4, cda4, ccell4, vs_I4, file_I4, tf_I4, _, _, _, _, _, _, _, _, _, _, _, _, _, _, rfl, lIK4, cIK4, lcd4, vsI4, fiI4, lcc4, rfl, rfl, rfl, rfl, rfl, by decide +kernel, free_only (by decide +kernel), rfl, rfl, rfl, rfl, fun en => rfl⟩
    top := tpI, nv := ⟨by decide, by decide, by decide⟩, opq := opI, sub := sbI4, ve := veI4, sup := suI4, nof := xv4 }
  have OX6 : OexC K e6 := ⟨⟨nm_E6, qq_E6, N_E6, bs_E6, bm_E6, sn_E6, sub_E6, ab_E6, col_E6, dd_E6, k0_E6, k1_E6, k2_E6, k3_E6, k5_E6, lkE6.trans (congrArg some lkF6), rvE6⟩, saE6, xs6, tyE6, kpE6⟩
  have SF6 : KX2.SupFn2 K l.prog fI6 (PySem.W.ksFn "__init__" "InvalidField.__init__" (defArgs s_I6) (defBody s_I6) (defScope s_I6) .none kV_I6 dc_I6 pm_I6 an_I6 (.ref cda6) ct_I6 ccell6) e6 "name" "reason" "name" "reason" := {
    ex := ⟨"InvalidField.__init__", defArgs s_I6, defScope s_I6, .none, kV_I6, dc_I6, pm_I6, ct_I6, oc_I6, ccl_I6, cl_I6, an_I6, od_I6, cdd_I6, cld_I6, sl_I6, ccs_I6, csl_I6, cda6, ccell6, vs_I6, file_I6, tf_I6, _, _, _, _, _, _, _, _, _, _, _, _, _, _, _, _, _, _, rfl, lIK6, cIK6, lcd6, vsI6, fiI6, lcc6, rfl, rfl, rfl, rfl, rfl, by decide +kernel, free_only (by decide +kernel), rfl, rfl, rfl, rfl, rfl, fun en => rfl⟩
    top := tpI, nv := ⟨by decide, by decide, by decide⟩, nw := ⟨by decide, by decide, by decide⟩, nx := by decide, opq := opI, sub := sbI6, ve := veI6, sup := suI6, nof := xv6, nog := xw6 }
  have OX7 : OexC K e7 := ⟨⟨nm_E7, qq_E7, N_E7, bs_E7, bm_E7, sn_E7, sub_E7, ab_E7, col_E7, dd_E7, k0_E7, k1_E7, k2_E7, k3_E7, k5_E7, lkE7.trans (congrArg some lkF7), rvE7⟩, saE7, xs7, tyE7, kpE7⟩
  have SF7 : KX2.SupFn2 K l.prog fI7 (PySem.W.ksFn "__init__" "InvalidMap.__init__" (defArgs s_I7) (defBody s_I7) (defScope s_I7) .none kV_I7 dc_I7 pm_I7 an_I7 (.ref cda7) ct_I7 ccell7) e7 "name" "reason" "name" "reason" := {
    ex := ⟨"InvalidMap.__init__", defArgs s_I7, defScope s_I7, .none, kV_I7, dc_I7, pm_I7, ct_I7, oc_I7, ccl_I7, cl_I7, an_I7, od_I7, cdd_I7, cld_I7, sl_I7, ccs_I7, csl_I7, cda7, ccell7, vs_I7, file_I7, tf_I7, _, _, _, _, _, _, _, _, _, _, _, _, _, _, _, _, _, _, rfl, lIK7, cIK7, lcd7, vsI7, fiI7, lcc7, rfl, rfl, rfl, rfl, rfl, by decide +kernel, free_only (by decide +kernel), rfl, rfl, rfl, rfl, rfl, fun en => rfl⟩
    top := tpI, nv := ⟨by decide, by decide, by decide⟩, nw := ⟨by decide, by decide, by decide⟩, nx := by decide, opq := opI, sub := sbI7, ve := veI7, sup := suI7, nof := xv7, nog := xw7 }
  refine ⟨PySem.W.fnOf "law" "law" (defArgs s_law) (defBody s_law) (defScope s_law) .none kV_law dc_law pm_law an_law cd_law ct_law, fun s v => .of_eq rfl, fun base _ _ => ?_⟩
  have em4 : KX.ErrMk l.prog w K mg base e4 "InvalidKind" "value" := ⟨fI4, _, "value", OX4, inE4, tiE4, KX.sup_ok SF4 OX4 (PySem.W.mg_none_of X G z_super) (by decide +kernel), .all fun us hl => (match us, hl with | [_, _], _ => rfl), PySem.W.mg_of X G aE4⟩
  have em6 : KX2.ErrMk2 l.prog w K mg base e6 "InvalidField" "name" "reason" := ⟨fI6, _, "name", "reason", OX6, inE6, tiE6, KX2.sup_ok2 SF6 OX6 (PySem.W.mg_none_of X G z_super) (by decide +kernel), .all fun us hl => (match us, hl with | [_, _, _], _ => rfl), PySem.W.mg_of X G aE6⟩
  have em7 : KX2.ErrMk2 l.prog w K mg base e7 "InvalidMap" "name" "reason" := ⟨fI7, _, "name", "reason", OX7, inE7, tiE7, KX2.sup_ok2 SF7 OX7 (PySem.W.mg_none_of X G z_super) (by decide +kernel), .all fun us hl => (match us, hl with | [_, _, _], _ => rfl), PySem.W.mg_of X G aE7⟩
  have cmade : KB.Callee l.prog w K mg base CX0 1 "is_made_of" ["value", "first", "others"] (spMade) := ⟨⟨_, _, ok_made F_is_made_of TN, PySem.W.mg_of X G a_is_made_of, k_is_made_of, b_is_made_of⟩⟩
  have cname : KB.Callee l.prog w K mg base CX0 2 "is_name" ["value"] (spIsName) := ⟨⟨_, _, ok_name F_is_name TN cmade, PySem.W.mg_of X G a_is_name, k_is_name, b_is_name⟩⟩
  have cnum : KB.Callee l.prog w K mg base CX0 1 "is_number" ["value", "least", "most"] (spIsNum) := ⟨⟨_, _, ok_number F_is_number TN, PySem.W.mg_of X G a_is_number, k_is_number, b_is_number⟩⟩
  have cnf : KB.Callee l.prog w K mg base (L2.CX l.prog w) 3 "need_field" ["test", "name", "reason"] (spNeedF e6) := ⟨⟨_, _, ok_needf F_need_field em6, PySem.W.mg_of X G a_need_field, k_need_field, b_need_field⟩⟩
  have cfit : KB.Callee l.prog w K mg base CX0 2 "fits_reset" ["reset", "size", "device"] (spFits) := ⟨⟨_, _, ok_fits F_fits_reset T0 cnum, PySem.W.mg_of X G a_fits_reset, k_fits_reset, b_fits_reset⟩⟩
  have cki : CalleeI l.prog w K mg base (L2.CX l.prog w) 3 C_Kind "Kind" ["self", "reading", "writing", "device"] (spKX C_Kind e4) := ⟨⟨_, _, ok_kindX F_Kind___init__ TK em4, ⟨mk_Kind, a_Kind___init__, i_Kind___init__, kc_Kind⟩, TK.mg_Kind, b_Kind___init__⟩⟩
  have mh : CalleeM l.prog w K mg base CX0 1 C_Field "may_be_held" ["self"] (spHeld C_Field) := ⟨⟨_, _, ok_mheld F_Field_may_be_held T, ⟨a_Field_may_be_held, i_Field_may_be_held, k_Field_may_be_held⟩, b_Field_may_be_held⟩, cF⟩
  have mc : CalleeM l.prog w K mg base CX0 1 C_Field "may_be_committed" ["self"] (spComm C_Field) := ⟨⟨_, _, ok_mcomm F_Field_may_be_committed T, ⟨a_Field_may_be_committed, i_Field_may_be_committed, k_Field_may_be_committed⟩, b_Field_may_be_committed⟩, cF⟩
  have okF : FnOk l.prog w K mg base (L2.CX l.prog w) 5 f_Field___init__ _ ["self", "name", "low", "size", "reading", "writing", "device", "reset", "lock", "key", "commit", "held"] (spField C_Kind C_Field e6 e4) := ok_fieldX F_Field___init__ T cnf cname cnum cfit cki mh mc
  have oe : OwnM l.prog w K mg base 1 C_Kind "__eq__" ["self", "other"] (spEqK2 C_Kind) := ⟨⟨_, _, a_Kind___eq__, i_Kind___eq__, ok_eqK2 F_Kind___eq__ T, b_Kind___eq__⟩⟩
  have oeF : OwnM l.prog w K mg base 2 C_Field "__eq__" ["self", "other"] (spEqF C_Kind C_Field) := ⟨⟨_, _, a_Field___eq__, i_Field___eq__, ok_eqF F_Field___eq__ T oe, b_Field___eq__⟩⟩
  have onF : OwnNe l.prog w K mg base 2 C_Field ["self", "other"] (spEqF C_Kind C_Field) := ⟨⟨_, _, ⟨⟨_, _, _, _, _, _, _, _, _, _, _, _, _, _, _, _, lkKF.trans (congrArg some lkOF), nsOF K nsKF, neqF, nneF⟩, ⟨_, l_Field___eq__, foKF⟩⟩, ok_eqF F_Field___eq__ T oe, b_Field___eq__⟩⟩
  have mkF_ : Mk K C_Field f_Field___init__ := ⟨mk_Field, a_Field___init__, i_Field___init__, kc_Field⟩
  have FD : FunD K "__init__" "Field.__init__" (defArgs s_Field___init__) (defBody s_Field___init__) (defScope s_Field___init__) [] [("reading", .str "keep"), ("writing", .str "store"), ("device", .str "still"), ("reset", .int 0), ("lock", .non), ("key", .non), ("commit", .non), ("held", .non)] f_Field___init__ _ := ⟨⟨_, _, _, _, _, _, _, _, _, _, rfl, l_Field___init__, c_Field___init__, .inl ⟨rfl, rfl⟩, .inr ⟨D_Field___init__, rfl, fun q hq => by
    simp only [List.mem_cons, List.not_mem_nil, or_false] at hq
    rcases hq with rfl | rfl | rfl | rfl | rfl | rfl | rfl | rfl
    · exact ⟨_, kw_Field___init___reading, ⟨_, rfl⟩⟩
    · exact ⟨_, kw_Field___init___writing, ⟨_, rfl⟩⟩
    · exact ⟨_, kw_Field___init___device, ⟨_, rfl⟩⟩
    · exact ⟨_, kw_Field___init___reset, ⟨_, rfl⟩⟩
    · exact ⟨_, kw_Field___init___lock, rfl⟩
    · exact ⟨_, kw_Field___init___key, rfl⟩
    · exact ⟨_, kw_Field___init___commit, rfl⟩
    · exact ⟨_, kw_Field___init___held, rfl⟩⟩⟩, k_Field___init__⟩
  obtain ⟨dsF, rvF, bdF⟩ := FD.binds0 (ps := ["self", "name", "low", "size", "reading", "writing", "device", "reset", "lock", "key", "commit", "held"]) 4 (by simp) rfl fun D doc pm an cdv ct us ks hu hk => match us, ks, hu, hk with
    | [_, _, _, _], [_, _, _, _, _, _, _, _], _, _ => ⟨_, _, _, _, _, _, rfl, rfl, ⟨_, _, _, _, _, _, rfl, rfl, ⟨_, _, _, _, _, _, rfl, rfl, ⟨_, _, _, _, _, _, rfl, rfl, ⟨_, _, _, _, _, _, rfl, rfl, ⟨_, _, _, _, _, _, rfl, rfl, ⟨_, _, _, _, _, _, rfl, rfl, ⟨_, _, _, _, _, _, rfl, rfl, rfl⟩⟩⟩⟩⟩⟩⟩⟩
  have fdf : KC.CalleeID l.prog w K mg base (L2.CX l.prog w) 5 C_Field "Field" ["self", "name", "low", "size", "reading", "writing", "device", "reset", "lock", "key", "commit", "held"] (spField C_Kind C_Field e6 e4) [.str "keep", .str "store", .str "still", .int 0, .non, .non, .non, .non] := ⟨⟨_, _, dsF, okF, mkF_, PySem.W.mg_of X G aC_Field, bdF, rvF⟩⟩
  obtain ⟨mvfr3, kbfr3⟩ := FD.kbinds0 (ps := ["self", "name", "low", "size", "reading", "writing", "device", "reset", "lock", "key", "commit", "held"]) 4 ["reset"] [("reading", .str "keep"), ("writing", .str "store"), ("device", .str "still"), ("lock", .non), ("key", .non), ("commit", .non), ("held", .non)] (fun {α} us mv ws => us ++ mv.take 3 ++ ws ++ mv.drop 3) (by simp) (fun q hq => by
    simp only [List.mem_cons, List.not_mem_nil, or_false] at hq ⊢
    rcases hq with rfl | rfl | rfl | rfl | rfl | rfl | rfl <;> simp) (fun r1 r2 r3 => ((r1.append (r2.take _)).append r3).append (r2.drop _)) fun D doc pm an cdv ct us mv ws hu hm hw => match us, mv, ws, hu, hm, hw with
    | [_, _, _, _], [_, _, _, _, _, _, _], [_], _, _, _ => ⟨_, _, _, _, _, _, rfl, rfl, ⟨_, _, _, _, _, _, rfl, rfl, ⟨_, _, _, _, _, _, rfl, rfl, ⟨_, _, _, _, _, _, rfl, rfl, ⟨_, _, _, _, _, _, rfl, rfl, ⟨_, _, _, _, _, _, rfl, rfl, ⟨_, _, _, _, _, _, rfl, rfl, rfl⟩⟩⟩⟩⟩⟩⟩
  have fr3 : KTr.CalleeIN l.prog w K mg base (L2.CX l.prog w) 5 C_Field "Field" ["self", "name", "low", "size", "reading", "writing", "device", "reset", "lock", "key", "commit", "held"] (spField C_Kind C_Field e6 e4) 3 ["reset"] gRst := ⟨⟨_, _, _, okF, mkF_, PySem.W.mg_of X G aC_Field, kbfr3⟩⟩
  have cR : Cls K C_Register := ⟨pg_Register, hd_Register, po_Register, sa_Register⟩
  have cQ : Cls K C_KeyRegister := ⟨pg_KeyRegister, hd_KeyRegister, po_KeyRegister, sa_KeyRegister⟩
  have TRg : TxtRg K mg C_Kind C_Field C_Register C_KeyRegister := {
    toTxtFd := T, rc := ⟨cR, n_Register_name, n_Register_fields, n_Register_whole⟩, qc := ⟨cQ, n_KeyRegister_name, n_KeyRegister_fields, n_KeyRegister_whole⟩, n_constants := n_KeyRegister_constants
    kitB := fun A hA => by
      simp only [BT, List.mem_cons, List.not_mem_nil, or_false] at hA
      rcases hA with rfl | rfl | rfl | rfl | rfl | rfl | rfl
      · exact kF_NoneType
      · exact kF_bool
      · exact kF_int
      · exact kF_str
      · exact kF_tuple
      · exact kF_list
      · exact kF_dict
    tyR := fun e => .base (.ins e cR tycR tyg tyt tymR), tyQ := fun e => .base (.ins e cQ tycQ tyg tyt tymQ), isRR := isRR, isQR := isQR, isRQ := isRQ, isQQ := isQQ, isSR := isSR, isSQ := isSQ, nfF := nfF
    mg_Register := PySem.W.mg_of X G aC_Register, mg_KeyRegister := PySem.W.mg_of X G aC_KeyRegister, g_GREATEST := ⟨_, PySem.W.mg_of X G gGR⟩, g_MOST_CONSTANTS := ⟨_, PySem.W.mg_of X G gMC⟩, z_super := PySem.W.mg_none_of X G z_super }
  have bs1 : KSt.BStar K (PySem.W.fnOf "__init__" "Register.__init__" (defArgs s_Register___init__) (defBody s_Register___init__) (defScope s_Register___init__) .none (.ref D_Register___init__) dc_Register___init__ pm_Register___init__ an_Register___init__ cd_Register___init__ ct_Register___init__) ["self", "name", "whole"] "fields" 2 ["whole"] (fun us ws => us ++ ws) := bstar_1 fun a b c rest => (match rest with | [] => rfl | _ :: _ => rfl)
  have bsD : KSt.BStar K (PySem.W.fnOf "__init__" "Register.__init__" (defArgs s_Register___init__) (defBody s_Register___init__) (defScope s_Register___init__) .none (.ref D_Register___init__) dc_Register___init__ pm_Register___init__ an_Register___init__ cd_Register___init__ ct_Register___init__) ["self", "name", "whole"] "fields" 2 [] (fun us _ => us ++ [.bool false]) := bstar_kw (D := D_Register___init__) kw_Register___init___whole fun a b rest => (match rest with | [] => ⟨_, _, _, _, _, _, rfl, rfl, rfl⟩ | _ :: _ => ⟨_, _, _, _, _, _, rfl, rfl, rfl⟩)
  have bsQ : KSt.BStar K (PySem.W.ksFn "__init__" "KeyRegister.__init__" (defArgs s_KeyRegister___init__) (defBody s_KeyRegister___init__) (defScope s_KeyRegister___init__) .none kV_KeyRegister___init__ dc_KeyRegister___init__ pm_KeyRegister___init__ an_KeyRegister___init__ (.ref cda_KeyRegister___init__) ct_KeyRegister___init__ cc_KeyRegister___init__) ["self", "name"] "constants" 2 [] (fun us _ => us) := bstar_0 fun a b rest => (match rest with | [] => rfl | _ :: _ => rfl)
  have fk1 : KSt.FnK l.prog w K mg base (L2.CX l.prog w) 4 f_Register___init__ ["whole"] (spReg K C_Kind C_Field e7) := ok_regB (gV := gRg) l_Register___init__ c_Register___init__ bs1 (fun r1 r2 => r1.append r2) (fun vs zs h1 h2 => by show (vs ++ zs).length = 3; rw [List.length_append, h1, h2]; rfl) TRg cname em7
  have fkD : KSt.FnK l.prog w K mg base (L2.CX l.prog w) 4 f_Register___init__ [] (spRegD K C_Kind C_Field e7) := ok_regB (gV := gRgD) l_Register___init__ c_Register___init__ bsD (fun r1 _ => r1.append (.cons rfl .nil)) (fun vs zs h1 h2 => by show (vs ++ [_]).length = 3; rw [List.length_append, h1]; rfl) TRg cname em7
  have mkR : Mk K C_Register f_Register___init__ := ⟨mk_Register, a_Register___init__, i_Register___init__, kc_Register⟩
  have rkR : KSt.CalleeIK l.prog w K mg base (L2.CX l.prog w) 4 C_Register "Register" ["whole"] (spReg K C_Kind C_Field e7) := ⟨⟨_, fk1, mkR, PySem.W.mg_of X G aC_Register⟩⟩
  have rdR0 : KSt.CalleeIK l.prog w K mg base (L2.CX l.prog w) 4 C_Register "Register" [] (spRegD K C_Kind C_Field e7) := ⟨⟨_, fkD, mkR, PySem.W.mg_of X G aC_Register⟩⟩
  have SupQ : KN.SupF l.prog K f_KeyRegister___init__ (PySem.W.ksFn "__init__" "KeyRegister.__init__" (defArgs s_KeyRegister___init__) (defBody s_KeyRegister___init__) (defScope s_KeyRegister___init__) .none kV_KeyRegister___init__ dc_KeyRegister___init__ pm_KeyRegister___init__ an_KeyRegister___init__ (.ref cda_KeyRegister___init__) ct_KeyRegister___init__ cc_KeyRegister___init__) "__init__" "KeyRegister.__init__" (defArgs s_KeyRegister___init__) (defBody s_KeyRegister___init__) (defScope s_KeyRegister___init__) cda_KeyRegister___init__ cc_KeyRegister___init__ C_KeyRegister := ⟨⟨_, _, _, _, _, _, _, _, _, rfl, l_KeyRegister___init__⟩, c_KeyRegister___init__, ⟨_, _, _, _, _, _, ld_KeyRegister___init__, vs2_KeyRegister___init__, fi2_KeyRegister___init__⟩, ⟨_, _, _, lc_KeyRegister___init__⟩, tpI, opI, dcl_KeyRegister___init__⟩
  have fkQ : KSt.FnK l.prog w K mg base (L2.CX l.prog w) 6 f_KeyRegister___init__ [] (spKey C_KeyRegister e7) := ok_keyB SupQ bsQ (fun r1 _ => r1) TRg ⟨⟨_, su_Q, ti_Ri, fn_Ri, fkD.toR⟩, sb_QQ⟩ cnum em7
  have mkQ : Mk K C_KeyRegister f_KeyRegister___init__ := ⟨mk_KeyRegister, in_KQ, i_KeyRegister___init__, kc_KeyRegister⟩
  have rkQ : KSt.CalleeIK l.prog w K mg base (L2.CX l.prog w) 6 C_KeyRegister "KeyRegister" [] (spKey C_KeyRegister e7) := ⟨⟨_, fkQ, mkQ, PySem.W.mg_of X G aC_KeyRegister⟩⟩
  have mik : CalleeM l.prog w K mg base CX0 1 C_Register "is_key" ["self"] (spIsKey C_Register false) := ⟨⟨_, _, ok_iskey F_Register_is_key, ⟨a_Register_is_key, i_Register_is_key, k_Register_is_key⟩, b_Register_is_key⟩, cR⟩
  have oeR : OwnM l.prog w K mg base 4 C_Register "__eq__" ["self", "other"] (spEqR C_Kind C_Field C_Register) := ⟨⟨_, _, a_Register___eq__, i_Register___eq__, ok_eqR F_Register___eq__ TRg mik oeF, b_Register___eq__⟩⟩
  have oeQ : OwnM l.prog w K mg base 4 C_KeyRegister "__eq__" ["self", "other"] (spEqQ C_Register C_KeyRegister) := ⟨⟨_, _, a_KeyRegister___eq__, i_KeyRegister___eq__, ok_eqQ F_KeyRegister___eq__ TRg, b_KeyRegister___eq__⟩⟩
  have RG : RegOps l.prog w K mg base C_Kind C_Field C_Register C_KeyRegister := { eqR := oeR, eqQ := oeQ, neR := ⟨oeR, ne_R, sb_R⟩, neQ := ⟨oeQ, ne_Q, sb_Q⟩, nfR := nfR, nfRs := nfRs, nfQ := nfQ, nfQR := nfQR, nfQs := nfQs, sub := sbQR, ne := neRQ }
  have FRO : FunD K "of" "Register.of" (defArgs s_Register_of) (defBody s_Register_of) (defScope s_Register_of) [.bl false] [] f_Register_of (PySem.W.fnOf "of" "Register.of" (defArgs s_Register_of) (defBody s_Register_of) (defScope s_Register_of) (.ref DT_Register_of) kV_Register_of dc_Register_of pm_Register_of an_Register_of cd_Register_of ct_Register_of) := ⟨⟨_, _, _, _, _, _, _, _, _, _, rfl, l_Register_of, c_Register_of, .inr ⟨by simp, DT_Register_of, _, [.bool false], _, rfl, dt_Register_of, rfl, .cons rfl .nil⟩, .inl rfl⟩, k_Register_of⟩
  have bRO : Binds K (PySem.W.fnOf "of" "Register.of" (defArgs s_Register_of) (defBody s_Register_of) (defScope s_Register_of) (.ref DT_Register_of) kV_Register_of dc_Register_of pm_Register_of an_Register_of cd_Register_of ct_Register_of) ["cls", "name", "fields", "whole"] [] := fun s us hX hl => match us, (show us.length = 4 by simpa using hl) with
    | [u1, u2, u3, u4], _ => by
      obtain ⟨k, e1, e2⟩ : ∃ k, bindArgs (PySem.W.fnOf "of" "Register.of" (defArgs s_Register_of) (defBody s_Register_of) (defScope s_Register_of) (.ref DT_Register_of) kV_Register_of dc_Register_of pm_Register_of an_Register_of cd_Register_of ct_Register_of) ⟨[u1, u2, u3, u4], []⟩ = seqItems? (.ref DT_Register_of) >>= k ∧ k (some #[.bool false]) = pure ((["cls", "name", "fields", "whole"] : List Str).zip [u1, u2, u3, u4]) := ⟨_, rfl, rfl⟩
      refine BindsTo.of_looks fun M => ?_
      show PySem.W.Looks M s.heap (bindArgs _ ⟨[u1, u2, u3, u4], []⟩) _
      rw [e1]
      exact looks_items hX dt_Register_of rfl (.of_pure e2)
  have kRO : KBn K (PySem.W.fnOf "of" "Register.of" (defArgs s_Register_of) (defBody s_Register_of) (defScope s_Register_of) (.ref DT_Register_of) kV_Register_of dc_Register_of pm_Register_of an_Register_of cd_Register_of ct_Register_of) ["cls", "name", "fields", "whole"] 3 ["whole"] (fun us ws => us ++ ws) gApp := ⟨fun s us ws hX l1 l2 => (match us, ws, l1, l2 with
    | [u1, u2, u3], [w1], _, _ => by
      obtain ⟨k, e1, e2⟩ : ∃ k, bindArgs (PySem.W.fnOf "of" "Register.of" (defArgs s_Register_of) (defBody s_Register_of) (defScope s_Register_of) (.ref DT_Register_of) kV_Register_of dc_Register_of pm_Register_of an_Register_of cd_Register_of ct_Register_of) ⟨[u1, u2, u3], [("whole", w1)]⟩ = seqItems? (.ref DT_Register_of) >>= k ∧ k (some #[.bool false]) = pure ((["cls", "name", "fields", "whole"] : List Str).zip [u1, u2, u3, w1]) := ⟨_, rfl, rfl⟩
      refine BindsTo.of_looks fun M => ?_
      show PySem.W.Looks M s.heap (bindArgs _ ⟨[u1, u2, u3], [("whole", w1)]⟩) _
      rw [e1]
      exact looks_items hX dt_Register_of rfl (.of_pure e2)), fun r1 r2 => r1.append r2⟩
  have okRO : FnOk l.prog w K mg base CX0 6 f_Register_of (PySem.W.fnOf "of" "Register.of" (defArgs s_Register_of) (defBody s_Register_of) (defScope s_Register_of) (.ref DT_Register_of) kV_Register_of dc_Register_of pm_Register_of an_Register_of cd_Register_of ct_Register_of) ["cls", "name", "fields", "whole"] (spRegOf K C_Kind C_Field C_Register C_KeyRegister) := ok_regof FRO TRg.rc rkR
  have crR : ClX.CRead K C_Register (.type "type") := ⟨rdR, gaR⟩
  have cmR : ClX.CMet K C_Register (.type "type") "of" p_Register_of f_Register_of := ⟨a_Register_of, ⟨_, rc_Register_of⟩, fi_Register_of⟩
  have crQ : ClX.CRead K C_KeyRegister (.type "type") := ⟨rdQ, gaQ⟩
  have cmQ : ClX.CMet K C_KeyRegister (.type "type") "of" p_KeyRegister_of f_KeyRegister_of := ⟨a_KeyRegister_of, ⟨_, rc_KeyRegister_of⟩, fi_KeyRegister_of⟩
  have cRO : KP.CalleeC l.prog w K mg base CX0 6 C_Register "of" (spRegOf K C_Kind C_Field C_Register C_KeyRegister) := ⟨⟨_, p_Register_of, f_Register_of, crR, cmR, fnR_of okRO bRO⟩⟩
  have cQO : KP.CalleeC l.prog w K mg base CX0 8 C_KeyRegister "of" (spKeyOf K C_Kind C_Field C_Register C_KeyRegister) := ⟨⟨_, p_KeyRegister_of, f_KeyRegister_of, crQ, cmQ, fnR_of (ok_keyof F_KeyRegister_of rkQ) b_KeyRegister_of⟩⟩
  have ckRO : KU.CalleeCK l.prog w K mg base CX0 6 C_Register "of" ["cls", "name", "fields", "whole"] (spRegOf K C_Kind C_Field C_Register C_KeyRegister) 3 ["whole"] gApp := ⟨⟨_, p_Register_of, f_Register_of, _, _, crR, cmR, okRO, kRO⟩⟩
  have cd : KB.Callee l.prog w K mg base CX0 1 "_law_draw" ["_law_pen_here", "_law_many"] (spDraw) := ⟨⟨_, _, ok_draw F__law_draw T0, PySem.W.mg_of X G a__law_draw, k__law_draw, b__law_draw⟩⟩
  have cp : KB.Callee l.prog w K mg base CX0 1 "_law_pen" ["_law_script"] (spPen K) := ⟨⟨_, _, ok_pen F__law_pen T0, PySem.W.mg_of X G a__law_pen, k__law_pen, b__law_pen⟩⟩
  have sm0 : KB.Callee l.prog w K mg base CX0 0 "_law_same" ["_law_told", "_law_due_here"] (spSameN 0) := ⟨⟨_, _, fn_no, PySem.W.mg_of X G a__law_same, k__law_same, b__law_same⟩⟩
  have sm1 : KB.Callee l.prog w K mg base CX0 1 "_law_same" ["_law_told", "_law_due_here"] (spSame 0) := ⟨⟨_, _, ok_same1 (n := 0) F__law_same T0 sm0, PySem.W.mg_of X G a__law_same, k__law_same, b__law_same⟩⟩
  have sm2 : KB.Callee l.prog w K mg base CX0 2 "_law_same" ["_law_told", "_law_due_here"] (spSame 1) := ⟨⟨_, _, ok_same1 (n := 1) F__law_same T0 sm1, PySem.W.mg_of X G a__law_same, k__law_same, b__law_same⟩⟩
  have sm3 : KB.Callee l.prog w K mg base CX0 3 "_law_same" ["_law_told", "_law_due_here"] (spSame 2) := ⟨⟨_, _, ok_same1 (n := 2) F__law_same T0 sm2, PySem.W.mg_of X G a__law_same, k__law_same, b__law_same⟩⟩
  have sm4 : KB.Callee l.prog w K mg base CX0 4 "_law_same" ["_law_told", "_law_due_here"] (spSame 3) := ⟨⟨_, _, ok_same1 (n := 3) F__law_same T0 sm3, PySem.W.mg_of X G a__law_same, k__law_same, b__law_same⟩⟩
  have cln : KB.Callee l.prog w K mg base CX0 2 "_law_name" ["_law_pen_here"] (spLName) := ⟨⟨_, _, ok_lname F__law_name T0 cd, PySem.W.mg_of X G a__law_name, k__law_name, b__law_name⟩⟩
  have cli : KB.Callee l.prog w K mg base CX0 1 "_law_is_name" ["_law_value"] (spIsName) := ⟨⟨_, _, ok_lisname F__law_is_name T0, PySem.W.mg_of X G a__law_is_name, k__law_is_name, b__law_is_name⟩⟩
  have clo : KB.Callee l.prog w K mg base CX0 2 "_law_odd" ["_law_pen_here"] (spLOdd) := ⟨⟨_, _, ok_lodd F__law_odd T0 cd, PySem.W.mg_of X G a__law_odd, k__law_odd, b__law_odd⟩⟩
  have clp : KB.Callee l.prog w K mg base (L2.CX l.prog w) 6 "_law_plain" ["_law_title", "_law_fields", "_law_full"] (spLPlain C_Kind C_Field C_Register C_KeyRegister e7) := ⟨⟨_, _, ok_lplain F__law_plain T0 TRg.rc rkR, PySem.W.mg_of X G a__law_plain, k__law_plain, b__law_plain⟩⟩
  have clk : KB.Callee l.prog w K mg base (L2.CX l.prog w) 8 "_law_key" ["_law_title", "_law_numbers"] (spLKey C_Kind C_Field C_Register C_KeyRegister e7) := ⟨⟨_, _, ok_lkey F__law_key T0 rkQ, PySem.W.mg_of X G a__law_key, k__law_key, b__law_key⟩⟩
  have clx : KB.Callee l.prog w K mg base CX0 9 "_law_refused" ["_law_title", "_law_things_here", "_law_full", "_law_is_key"] (spRRefused C_Kind C_Field) := ⟨⟨_, _, ok_rrefused F__law_refused TRR clp clk, PySem.W.mg_of X G a__law_refused, k__law_refused, b__law_refused⟩⟩
  have cld : KB.Callee l.prog w K mg base CX0 2 "_law_due" ["_law_title", "_law_things_here", "_law_full", "_law_is_key"] (spRDue C_Kind C_Field) := ⟨⟨_, _, ok_rdue F__law_due TRg cli, PySem.W.mg_of X G a__law_due, k__law_due, b__law_due⟩⟩
  have clr : KB.Callee l.prog w K mg base CX0 5 "_law_is_right" ["_law_made", "_law_title", "_law_things_here", "_law_full", "_law_is_key"] (spRRight C_Kind C_Field C_Register C_KeyRegister) := ⟨⟨_, _, ok_rright F__law_is_right TRg sm2 oeF, PySem.W.mg_of X G a__law_is_right, k__law_is_right, b__law_is_right⟩⟩
  have clt : KB.Callee l.prog w K mg base CX0 7 "_law_things" ["_law_pen_here", "_law_is_key"] (spRThings C_Kind C_Field) := ⟨⟨_, _, ok_rthings F__law_things T0 cd cln fr3, PySem.W.mg_of X G a__law_things, k__law_things, b__law_things⟩⟩
  have cls : KB.Callee l.prog w K mg base CX0 3 "_law_spoil" ["_law_pen_here", "_law_title", "_law_things_here", "_law_full"] (spRSpoil C_Kind C_Field) := ⟨⟨_, _, ok_rspoil F__law_spoil T0 cd clo, PySem.W.mg_of X G a__law_spoil, k__law_spoil, b__law_spoil⟩⟩
  have cle : KB.Callee l.prog w K mg base CX0 9 "_law_is_equal_right" ["_law_made", "_law_title", "_law_things_here", "_law_full", "_law_is_key"] (spREqual C_Kind C_Field C_Register C_KeyRegister) := ⟨⟨_, _, ok_requal F__law_is_equal_right TRg RG clp clk sm2 rdR0 rkR rkQ fdf cQO cRO ckRO, PySem.W.mg_of X G a__law_is_equal_right, k__law_is_equal_right, b__law_is_equal_right⟩⟩
  exact KG.FnG.of (ok_law F_law TRg cp cd cln clt cls cld clx sm4 clp clk clr cle rdR0)
end K20


open PySem PySem.W PyProof.Rows
set_option maxRecDepth 100000 in
set_option maxHeartbeats 0 in
theorem PySem.Challenge.cw_keptbits_k20_registers_made_holds : PySem.Challenge.rw_keptbits_k20_registers_made.Holds := by
  w_on; o_law; k_head; (case hw => w_witness2)
  k_fill
  refine KG.walkG (l := PySem.Challenge.rw_keptbits_k20_registers_made) (n := 63) (k := 10) (x := "_law_script") (sp := fun w => K20.spLaw _) rfl (by decide) rfl ⟨rfl, by decide, by decide⟩ (fun w h Y => PySem.W.kIn_of Y) ?F (fun _ _ a ns hl hS => ⟨a, ns, rfl, hS, hl, fun _ => rfl⟩)
  case F =>
    intro w mg fa h KX G hmg
    refine' K20.all_mk KX G hmg ?aC_Kind ?pg_Kind ?hd_Kind ?po_Kind ?sa_Kind ?mk_Kind ?kc_Kind ?n_Kind_reading ?n_Kind_writing ?n_Kind_device ?n_Kind_states ?rd_Kind ?ga_Kind ?fc_t_Kind_READINGS ?lk_t_Kind_READINGS ?fc_t_Kind_WRITINGS ?lk_t_Kind_WRITINGS ?fc_t_Kind_DEVICES ?lk_t_Kind_DEVICES ?aC_Field ?pg_Field ?hd_Field ?po_Field ?sa_Field ?mk_Field ?kc_Field ?n_Field_kind ?n_Field_name ?n_Field_low ?n_Field_size ?n_Field_reading ?n_Field_writing ?n_Field_device ?n_Field_reset ?n_Field_lock ?n_Field_key ?n_Field_commit ?n_Field_held ?aC_Register ?pg_Register ?hd_Register ?po_Register ?sa_Register ?mk_Register ?kc_Register ?n_Register_name ?n_Register_fields ?n_Register_whole ?aC_KeyRegister ?pg_KeyRegister ?hd_KeyRegister ?po_KeyRegister ?sa_KeyRegister ?mk_KeyRegister ?kc_KeyRegister ?n_KeyRegister_name ?n_KeyRegister_fields ?n_KeyRegister_whole ?n_KeyRegister_constants ?a_Kind___init__ ?i_Kind___init__ ?l_Kind___init__ ?c_Kind___init__ ?k_Kind___init__ ?a_Kind___eq__ ?i_Kind___eq__ ?l_Kind___eq__ ?c_Kind___eq__ ?k_Kind___eq__ ?a_is_made_of ?l_is_made_of ?c_is_made_of ?k_is_made_of ?a_is_name ?l_is_name ?c_is_name ?k_is_name ?a_is_number ?l_is_number ?c_is_number ?k_is_number ?a_need_field ?l_need_field ?c_need_field ?k_need_field ?a_fits_reset ?l_fits_reset ?c_fits_reset ?k_fits_reset ?a_Field___init__ ?i_Field___init__ ?l_Field___init__ ?kw_Field___init___reading ?kw_Field___init___writing ?kw_Field___init___device ?kw_Field___init___reset ?kw_Field___init___lock ?kw_Field___init___key ?kw_Field___init___commit ?kw_Field___init___held ?c_Field___init__ ?k_Field___init__ ?a_Field_may_be_held ?i_Field_may_be_held ?l_Field_may_be_held ?c_Field_may_be_held ?k_Field_may_be_held ?a_Field_may_be_committed ?i_Field_may_be_committed ?l_Field_may_be_committed ?c_Field_may_be_committed ?k_Field_may_be_committed ?a_Field___eq__ ?i_Field___eq__ ?l_Field___eq__ ?c_Field___eq__ ?k_Field___eq__ ?a_Register___init__ ?i_Register___init__ ?l_Register___init__ ?kw_Register___init___whole ?c_Register___init__ ?k_Register___init__ ?a_Register_of ?rc_Register_of ?fi_Register_of ?l_Register_of ?dt_Register_of ?c_Register_of ?k_Register_of ?a_Register_is_key ?i_Register_is_key ?l_Register_is_key ?c_Register_is_key ?k_Register_is_key ?a_Register___eq__ ?i_Register___eq__ ?l_Register___eq__ ?c_Register___eq__ ?k_Register___eq__ ?a_KeyRegister_of ?rc_KeyRegister_of ?fi_KeyRegister_of ?l_KeyRegister_of ?c_KeyRegister_of ?k_KeyRegister_of ?a_KeyRegister___eq__ ?i_KeyRegister___eq__ ?l_KeyRegister___eq__ ?c_KeyRegister___eq__ ?k_KeyRegister___eq__ ?a__law_pen ?l__law_pen ?c__law_pen ?k__law_pen ?a__law_draw ?l__law_draw ?c__law_draw ?k__law_draw ?a__law_same ?l__law_same ?c__law_same ?k__law_same ?a__law_name ?l__law_name ?c__law_name ?k__law_name ?a__law_is_name ?l__law_is_name ?c__law_is_name ?k__law_is_name ?a__law_odd ?l__law_odd ?c__law_odd ?k__law_odd ?a__law_plain ?l__law_plain ?c__law_plain ?k__law_plain ?a__law_key ?l__law_key ?c__law_key ?k__law_key ?a__law_refused ?l__law_refused ?c__law_refused ?k__law_refused ?a__law_due ?l__law_due ?c__law_due ?k__law_due ?a__law_is_right ?l__law_is_right ?c__law_is_right ?k__law_is_right ?a__law_things ?l__law_things ?c__law_things ?k__law_things ?a__law_spoil ?l__law_spoil ?c__law_spoil ?k__law_spoil ?a__law_is_equal_right ?l__law_is_equal_right ?c__law_is_equal_right ?k__law_is_equal_right ?a_law ?l_law ?c_law ?k_law ?tyc ?tyg ?tyt ?tym ?tyi ?lkK ?lkO ?nsK ?nsO ?neq ?nne ?foK ?nfK ?tycF ?tymF ?tyiF ?lkKF ?lkOF ?nsKF ?nsOF ?neqF ?nneF ?foKF ?gCA ?gIN ?gLO ?gML ?gMS ?gWI ?nfF ?nfF_str ?isF_str ?aB ?aE4 ?aE6 ?aE7 ?xs4 ?xv4 ?lkE4 ?lkF4 ?rvE4 ?saE4 ?tyE4 ?kpE4 ?inE4 ?tiE4 ?lIK4 ?cIK4 ?lcd4 ?vsI4 ?fiI4 ?lcc4 ?sbI4 ?veI4 ?suI4 ?xs6 ?xv6 ?lkE6 ?lkF6 ?rvE6 ?saE6 ?tyE6 ?kpE6 ?inE6 ?tiE6 ?lIK6 ?cIK6 ?lcd6 ?vsI6 ?fiI6 ?lcc6 ?sbI6 ?veI6 ?suI6 ?xw6 ?xs7 ?xv7 ?lkE7 ?lkF7 ?rvE7 ?saE7 ?tyE7 ?kpE7 ?inE7 ?tiE7 ?lIK7 ?cIK7 ?lcd7 ?vsI7 ?fiI7 ?lcc7 ?sbI7 ?veI7 ?suI7 ?xw7 ?tpI ?opI ?xg7 ?xk7 ?xd7 ?xa7 ?xm7 ?hMM ?kMB ?kMV ?kMF ?gGR ?gMC ?tycR ?tymR ?rdR ?gaR ?ne_R ?sb_R ?isSR ?nfRs ?nfR ?tycQ ?tymQ ?rdQ ?gaQ ?ne_Q ?sb_Q ?isSQ ?nfQs ?nfQ ?isRR ?isQR ?isRQ ?isQQ ?nfQR ?sbQR ?neRQ ?kF_NoneType ?kF_bool ?kF_int ?kF_str ?kF_tuple ?kF_list ?kF_dict ?in_KQ ?l_KeyRegister___init__ ?c_KeyRegister___init__ ?ld_KeyRegister___init__ ?vs2_KeyRegister___init__ ?fi2_KeyRegister___init__ ?lc_KeyRegister___init__ ?dcl_KeyRegister___init__ ?i_KeyRegister___init__ ?ti_Ri ?fn_Ri ?su_Q ?sb_QQ ?z_int ?z_bool ?z_str ?z_dict ?z_all ?z_abs ?z_len ?z_list ?z_tuple ?z_range ?z_isinstance ?z_zip ?z_ValueError ?z_super
    (case aC_Kind => k_is)
    (case pg_Kind => k_is)
    (case hd_Kind => k_is)
    (case po_Kind => k_is)
    (case sa_Kind => k_is)
    (case mk_Kind => k_is)
    (case kc_Kind => k_is)
    (case n_Kind_reading => k_is)
    (case n_Kind_writing => k_is)
    (case n_Kind_device => k_is)
    (case n_Kind_states => k_is)
    (case rd_Kind => k_is)
    (case ga_Kind => k_is)
    (case fc_t_Kind_READINGS => k_is)
    (case lk_t_Kind_READINGS => k_is)
    (case fc_t_Kind_WRITINGS => k_is)
    (case lk_t_Kind_WRITINGS => k_is)
    (case fc_t_Kind_DEVICES => k_is)
    (case lk_t_Kind_DEVICES => k_is)
    (case aC_Field => k_is)
    (case pg_Field => k_is)
    (case hd_Field => k_is)
    (case po_Field => k_is)
    (case sa_Field => k_is)
    (case mk_Field => k_is)
    (case kc_Field => k_is)
    (case n_Field_kind => k_is)
    (case n_Field_name => k_is)
    (case n_Field_low => k_is)
    (case n_Field_size => k_is)
    (case n_Field_reading => k_is)
    (case n_Field_writing => k_is)
    (case n_Field_device => k_is)
    (case n_Field_reset => k_is)
    (case n_Field_lock => k_is)
    (case n_Field_key => k_is)
    (case n_Field_commit => k_is)
    (case n_Field_held => k_is)
    (case aC_Register => k_is)
    (case pg_Register => k_is)
    (case hd_Register => k_is)
    (case po_Register => k_is)
    (case sa_Register => k_is)
    (case mk_Register => k_is)
    (case kc_Register => k_is)
    (case n_Register_name => k_is)
    (case n_Register_fields => k_is)
    (case n_Register_whole => k_is)
    (case aC_KeyRegister => k_is)
    (case pg_KeyRegister => k_is)
    (case hd_KeyRegister => k_is)
    (case po_KeyRegister => k_is)
    (case sa_KeyRegister => k_is)
    (case mk_KeyRegister => k_is)
    (case kc_KeyRegister => k_is)
    (case n_KeyRegister_name => k_is)
    (case n_KeyRegister_fields => k_is)
    (case n_KeyRegister_whole => k_is)
    (case n_KeyRegister_constants => k_is)
    (case a_Kind___init__ => k_is)
    (case i_Kind___init__ => k_is)
    (case l_Kind___init__ => k_is)
    (case c_Kind___init__ => k_is)
    (case k_Kind___init__ => k_is)
    (case a_Kind___eq__ => k_is)
    (case i_Kind___eq__ => k_is)
    (case l_Kind___eq__ => k_is)
    (case c_Kind___eq__ => k_is)
    (case k_Kind___eq__ => k_is)
    (case a_is_made_of => k_is)
    (case l_is_made_of => k_is)
    (case c_is_made_of => k_is)
    (case k_is_made_of => k_is)
    (case a_is_name => k_is)
    (case l_is_name => k_is)
    (case c_is_name => k_is)
    (case k_is_name => k_is)
    (case a_is_number => k_is)
    (case l_is_number => k_is)
    (case c_is_number => k_is)
    (case k_is_number => k_is)
    (case a_need_field => k_is)
    (case l_need_field => k_is)
    (case c_need_field => k_is)
    (case k_need_field => k_is)
    (case a_fits_reset => k_is)
    (case l_fits_reset => k_is)
    (case c_fits_reset => k_is)
    (case k_fits_reset => k_is)
    (case a_Field___init__ => k_is)
    (case i_Field___init__ => k_is)
    (case l_Field___init__ => k_is)
    (case kw_Field___init___reading => k_is)
    (case kw_Field___init___writing => k_is)
    (case kw_Field___init___device => k_is)
    (case kw_Field___init___reset => k_is)
    (case kw_Field___init___lock => k_is)
    (case kw_Field___init___key => k_is)
    (case kw_Field___init___commit => k_is)
    (case kw_Field___init___held => k_is)
    (case c_Field___init__ => k_is)
    (case k_Field___init__ => k_is)
    (case a_Field_may_be_held => k_is)
    (case i_Field_may_be_held => k_is)
    (case l_Field_may_be_held => k_is)
    (case c_Field_may_be_held => k_is)
    (case k_Field_may_be_held => k_is)
    (case a_Field_may_be_committed => k_is)
    (case i_Field_may_be_committed => k_is)
    (case l_Field_may_be_committed => k_is)
    (case c_Field_may_be_committed => k_is)
    (case k_Field_may_be_committed => k_is)
    (case a_Field___eq__ => k_is)
    (case i_Field___eq__ => k_is)
    (case l_Field___eq__ => k_is)
    (case c_Field___eq__ => k_is)
    (case k_Field___eq__ => k_is)
    (case a_Register___init__ => k_is)
    (case i_Register___init__ => k_is)
    (case l_Register___init__ => k_is)
    (case kw_Register___init___whole => k_is)
    (case c_Register___init__ => k_is)
    (case k_Register___init__ => k_is)
    (case a_Register_of => k_is)
    (case rc_Register_of => k_is)
    (case fi_Register_of => k_is)
    (case l_Register_of => k_is)
    (case dt_Register_of => k_is)
    (case c_Register_of => k_is)
    (case k_Register_of => k_is)
    (case a_Register_is_key => k_is)
    (case i_Register_is_key => k_is)
    (case l_Register_is_key => k_is)
    (case c_Register_is_key => k_is)
    (case k_Register_is_key => k_is)
    (case a_Register___eq__ => k_is)
    (case i_Register___eq__ => k_is)
    (case l_Register___eq__ => k_is)
    (case c_Register___eq__ => k_is)
    (case k_Register___eq__ => k_is)
    (case a_KeyRegister_of => k_is)
    (case rc_KeyRegister_of => k_is)
    (case fi_KeyRegister_of => k_is)
    (case l_KeyRegister_of => k_is)
    (case c_KeyRegister_of => k_is)
    (case k_KeyRegister_of => k_is)
    (case a_KeyRegister___eq__ => k_is)
    (case i_KeyRegister___eq__ => k_is)
    (case l_KeyRegister___eq__ => k_is)
    (case c_KeyRegister___eq__ => k_is)
    (case k_KeyRegister___eq__ => k_is)
    (case a__law_pen => k_is)
    (case l__law_pen => k_is)
    (case c__law_pen => k_is)
    (case k__law_pen => k_is)
    (case a__law_draw => k_is)
    (case l__law_draw => k_is)
    (case c__law_draw => k_is)
    (case k__law_draw => k_is)
    (case a__law_same => k_is)
    (case l__law_same => k_is)
    (case c__law_same => k_is)
    (case k__law_same => k_is)
    (case a__law_name => k_is)
    (case l__law_name => k_is)
    (case c__law_name => k_is)
    (case k__law_name => k_is)
    (case a__law_is_name => k_is)
    (case l__law_is_name => k_is)
    (case c__law_is_name => k_is)
    (case k__law_is_name => k_is)
    (case a__law_odd => k_is)
    (case l__law_odd => k_is)
    (case c__law_odd => k_is)
    (case k__law_odd => k_is)
    (case a__law_plain => k_is)
    (case l__law_plain => k_is)
    (case c__law_plain => k_is)
    (case k__law_plain => k_is)
    (case a__law_key => k_is)
    (case l__law_key => k_is)
    (case c__law_key => k_is)
    (case k__law_key => k_is)
    (case a__law_refused => k_is)
    (case l__law_refused => k_is)
    (case c__law_refused => k_is)
    (case k__law_refused => k_is)
    (case a__law_due => k_is)
    (case l__law_due => k_is)
    (case c__law_due => k_is)
    (case k__law_due => k_is)
    (case a__law_is_right => k_is)
    (case l__law_is_right => k_is)
    (case c__law_is_right => k_is)
    (case k__law_is_right => k_is)
    (case a__law_things => k_is)
    (case l__law_things => k_is)
    (case c__law_things => k_is)
    (case k__law_things => k_is)
    (case a__law_spoil => k_is)
    (case l__law_spoil => k_is)
    (case c__law_spoil => k_is)
    (case k__law_spoil => k_is)
    (case a__law_is_equal_right => k_is)
    (case l__law_is_equal_right => k_is)
    (case c__law_is_equal_right => k_is)
    (case k__law_is_equal_right => k_is)
    (case a_law => k_is)
    (case l_law => k_is)
    (case c_law => k_is)
    (case k_law => k_is)
    (case tyc => k_is)
    (case tyg => k_is)
    (case tyt => k_is)
    (case tym => k_is)
    (case tyi => exact rfl)
    (case lkK => k_is)
    (case lkO => exact rfl)
    (case nsK => k_is)
    (case nsO => (clear KX G hmg; intro K2 e; unfold PySem.W.nsOkIn; rw [e]; first | rfl | decide | simp))
    (case neq => k_is)
    (case nne => k_is)
    (case foK => exact rfl)
    (case nfK => exact rfl)
    (case tycF => k_is)
    (case tymF => k_is)
    (case tyiF => exact rfl)
    (case lkKF => k_is)
    (case lkOF => exact rfl)
    (case nsKF => k_is)
    (case nsOF => (clear KX G hmg; intro K2 e; unfold PySem.W.nsOkIn; rw [e]; first | rfl | decide | simp))
    (case neqF => k_is)
    (case nneF => k_is)
    (case foKF => exact rfl)
    (case gCA => k_is)
    (case gIN => k_is)
    (case gLO => k_is)
    (case gML => k_is)
    (case gMS => k_is)
    (case gWI => k_is)
    (case nfF => exact rfl)
    (case nfF_str => exact rfl)
    (case isF_str => exact rfl)
    (case aB => k_is)
    (case aE4 => k_is)
    (case aE6 => k_is)
    (case aE7 => k_is)
    (case xs4 => exact rfl)
    (case xv4 => k_is)
    (case lkE4 => k_is)
    (case lkF4 => exact rfl)
    (case rvE4 => exact rfl)
    (case saE4 => k_is)
    (case tyE4 => exact rfl)
    (case kpE4 => k_is)
    (case inE4 => k_is)
    (case tiE4 => exact rfl)
    (case lIK4 => k_is)
    (case cIK4 => k_is)
    (case lcd4 => k_is)
    (case vsI4 => exact rfl)
    (case fiI4 => exact rfl)
    (case lcc4 => k_is)
    (case sbI4 => k_is)
    (case veI4 => k_is)
    (case suI4 => exact rfl)
    (case xs6 => exact rfl)
    (case xv6 => k_is)
    (case lkE6 => k_is)
    (case lkF6 => exact rfl)
    (case rvE6 => exact rfl)
    (case saE6 => k_is)
    (case tyE6 => exact rfl)
    (case kpE6 => k_is)
    (case inE6 => k_is)
    (case tiE6 => exact rfl)
    (case lIK6 => k_is)
    (case cIK6 => k_is)
    (case lcd6 => k_is)
    (case vsI6 => exact rfl)
    (case fiI6 => exact rfl)
    (case lcc6 => k_is)
    (case sbI6 => k_is)
    (case veI6 => k_is)
    (case suI6 => exact rfl)
    (case xw6 => exact rfl)
    (case xs7 => exact rfl)
    (case xv7 => k_is)
    (case lkE7 => k_is)
    (case lkF7 => exact rfl)
    (case rvE7 => exact rfl)
    (case saE7 => k_is)
    (case tyE7 => exact rfl)
    (case kpE7 => k_is)
    (case inE7 => k_is)
    (case tiE7 => exact rfl)
    (case lIK7 => k_is)
    (case cIK7 => k_is)
    (case lcd7 => k_is)
    (case vsI7 => exact rfl)
    (case fiI7 => exact rfl)
    (case lcc7 => k_is)
    (case sbI7 => k_is)
    (case veI7 => k_is)
    (case suI7 => exact rfl)
    (case xw7 => exact rfl)
    (case tpI => exact rfl)
    (case opI => k_is)
    (case xg7 => k_is)
    (case xk7 => k_is)
    (case xd7 => k_is)
    (case xa7 => k_is)
    (case xm7 => k_is)
    (case hMM => exact rfl)
    (case kMB => exact rfl)
    (case kMV => exact rfl)
    (case kMF => exact rfl)
    (case gGR => k_is)
    (case gMC => k_is)
    (case tycR => k_is)
    (case tymR => k_is)
    (case rdR => k_is)
    (case gaR => k_is)
    (case ne_R => k_is)
    (case sb_R => exact rfl)
    (case isSR => exact rfl)
    (case nfRs => exact rfl)
    (case nfR => exact rfl)
    (case tycQ => k_is)
    (case tymQ => k_is)
    (case rdQ => k_is)
    (case gaQ => k_is)
    (case ne_Q => k_is)
    (case sb_Q => exact rfl)
    (case isSQ => exact rfl)
    (case nfQs => exact rfl)
    (case nfQ => exact rfl)
    (case isRR => exact rfl)
    (case isQR => exact rfl)
    (case isRQ => exact rfl)
    (case isQQ => exact rfl)
    (case nfQR => exact rfl)
    (case sbQR => exact rfl)
    (case neRQ => (exact (by decide)))
    (case kF_NoneType => exact rfl)
    (case kF_bool => exact rfl)
    (case kF_int => exact rfl)
    (case kF_str => exact rfl)
    (case kF_tuple => exact rfl)
    (case kF_list => exact rfl)
    (case kF_dict => exact rfl)
    (case in_KQ => k_is)
    (case l_KeyRegister___init__ => k_is)
    (case c_KeyRegister___init__ => k_is)
    (case ld_KeyRegister___init__ => k_is)
    (case vs2_KeyRegister___init__ => exact rfl)
    (case fi2_KeyRegister___init__ => exact rfl)
    (case lc_KeyRegister___init__ => k_is)
    (case dcl_KeyRegister___init__ => (exact ⟨_, rfl⟩))
    (case i_KeyRegister___init__ => k_is)
    (case ti_Ri => exact rfl)
    (case fn_Ri => exact rfl)
    (case su_Q => exact rfl)
    (case sb_QQ => k_is)
    (case z_int => k_is)
    (case z_bool => k_is)
    (case z_str => k_is)
    (case z_dict => k_is)
    (case z_all => k_is)
    (case z_abs => k_is)
    (case z_len => k_is)
    (case z_list => k_is)
    (case z_tuple => k_is)
    (case z_range => k_is)
    (case z_isinstance => k_is)
    (case z_zip => k_is)
    (case z_ValueError => k_is)
    (case z_super => k_is)

