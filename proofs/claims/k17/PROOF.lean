import PyProof.Rows.All
import Wide.All
import OpenK.AllK
import Wide.FinOn
import HandS.ForMost
import HandS.Evl
import HandS.IsInst
import HandS.ClsMeth
import HandS.Flow
import HandS.TupAny
import HandS.Walk
import HandS.Defaults
import HandS.Deep
import PyProof.ReprReads
import HandS.SlotsOwn
import HandS.MakeKw
import HandS.MakeKwOnly
import HandS.FStr
import HandS.More
import KE.KCallOwn
import PyProof.InstNe
import HandS.ExcInit
import HandS.ExcSuper
import HandS.ExcField
import HandS.ExcIs
import KE.KExcIs
import KE.KIsAll
import KE.KSuper
import KE.KExcSuper
import PyProof.EqKinds
import HandS.Dict
import HandS.SetFor
import HandS.Lambda
import HandS.EndBits
import HandS.EndTab
import HandS.WordsExc
import KE.KNestM
import OpenK.KOps
import KE.KOpsOwn
import HandS.Conv
import KE.BitLaws
import PyProof.Ascii
import PyProof.Rows.ReprOcc
import PyProof.FitsInt
import PyProof.ReprNest
import PyProof.ReprRoads
import HandS.Strs
import HandS.SortInts
import HandS.DictComp
import HandS.GenList
import HandS.Zip
import PyProof.Draws
import PyProof.EnumMake
import KE.GoesMore
import PyProof.ReprLen
import HandS.Property
import HandS.SortRule
import HandS.Style
import HandS.NoneIn
import HandS.SetBool
import KE.KeyNested
import KE.KDictDisplayH
import PyProof.Rows.TupTab
import PyProof.ZipIter
import PySem.Challenge.RW_keptbits_k17_whole_words_bit_by_bit
set_option Elab.async false
set_option linter.all false
set_option maxRecDepth 100000
set_option maxHeartbeats 4000000
/-! KB: own helpers over the hand layer: callees bundled, match, readings as steps. -/
namespace KB
open PySem PySem.Spec PyProof.Rows L2

section
variable {X : Cx}
/-! ### callees -/
structure Callee (P : Program) (w : World) (K : PySem.W.Frag) (mg : Str → Option Value) (base : Heap) (CX : CXT) (k : Nat) (x : Str) (ps : List Str) (sp : Sp) : Prop where
  ex : ∃ (f : Addr) (fd : FuncData), FnOk P w K mg base CX k f fd ps sp ∧ mg x = some (.ref f) ∧ PySem.W.keepIn K (.ref f) = true ∧ Binds K fd ps []
structure CalleeM (P : Program) (w : World) (K : PySem.W.Frag) (mg : Str → Option Value) (base : Heap) (CX : CXT) (k : Nat) (C : Addr) (m : Str) (ps : List Str) (sp : Sp) : Prop where
  ex : ∃ (f : Addr) (fd : FuncData), FnOk P w K mg base CX k f fd ps sp ∧ Meth K C m f ∧ Binds K fd ps []
  cl : Cls K C
structure CalleeI (P : Program) (w : World) (K : PySem.W.Frag) (mg : Str → Option Value) (base : Heap) (CX : CXT) (k : Nat) (C : Addr) (x : Str) (ps : List Str) (sp : Sp) : Prop where
  ex : ∃ (f : Addr) (fd : FuncData), FnOk P w K mg base CX k f fd ps sp ∧ Mk K C f ∧ mg x = some (.ref C) ∧ Binds K fd ps []
theorem pe_callC {CX : CXT} {k : Nat} {x : Str} {ps : List Str} {sp : Sp} {E : XK} {e : Expr} {es : List Expr} {p pos : Pos} {t : TA} (c : Callee X.prog X.w X.K X.mg X.base CX k x ps sp) (hr : Room k X.A) (hg : Gl X x) (hx : Passes CX X E) (ha : PA X (e :: es) t)
    (hdb : (x == ("__debug__" : Str)) = false := by decide) (he : starEach (e :: es) X.env = (false, eval e X.env) :: starEach es X.env := by rfl) (hpl : (backTo pos (starEach es X.env)).any (·.1) = false := by rfl) :
    PE X (.Call (.Name x p) (e :: es) [] pos) (tCall sp [] E t) := by
  obtain ⟨f, fd, F, hm, hk, hb⟩ := c.ex
  exact pe_call F hr hg hm hk hb .nil hx ha hdb he hpl
theorem pe_callC0 {CX : CXT} {k : Nat} {x : Str} {ps : List Str} {sp : Sp} {E : XK} {p pos : Pos} (c : Callee X.prog X.w X.K X.mg X.base CX k x ps sp) (hr : Room k X.A) (hg : Gl X x) (hx : Passes CX X E)
    (hdb : (x == ("__debug__" : Str)) = false := by decide) :
    PE X (.Call (.Name x p) [] [] pos) (tCall sp [] E tNil) := by
  obtain ⟨f, fd, F, hm, hk, hb⟩ := c.ex
  exact pe_call0 F hr hg hm hk hb .nil hx hdb
theorem pe_methC {pl : Sem Bool} {CX : CXT} {k : Nat} {C : Addr} {m : Str} {ps : List Str} {sp : Sp} {E : XK} {o e : Expr} {es : List Expr} {apos pos : Pos} {ta : TE} {t : TA} (c : CalleeM X.prog X.w X.K X.mg X.base CX k C m ps sp) (ho : PE X o ta) (hr : Room k X.A) (hx : Passes CX X E) (ha : PA X (e :: es) t)
    (hst : starEach (e :: es) X.env = (false, eval e X.env) :: starEach es X.env := by rfl) (hpl : (backTo pos (starEach es X.env)).any (·.1) = false := by rfl)
    (ht : eval (.Call (.Attribute o m apos) (e :: es) [] pos) X.env = (do
      let ov ← eval o X.env
      standAt apos.atName
      let (f, first) ← holding [ov] (getMethod ov m pl)
      callWith pos f first (backTo pos (starEach (e :: es) X.env)) (backToKw pos (keywordEach [] X.env))) := by rfl) :
    PE X (.Call (.Attribute o m apos) (e :: es) [] pos) (tMeth C m sp [] E ta t) := by
  obtain ⟨f, fd, F, hm, hb⟩ := c.ex
  exact pe_meth ho c.cl hm F hr hb .nil hx ha hst hpl ht
theorem pe_methC0 {pl : Sem Bool} {CX : CXT} {k : Nat} {C : Addr} {m : Str} {ps : List Str} {sp : Sp} {E : XK} {o : Expr} {apos pos : Pos} {ta : TE} (c : CalleeM X.prog X.w X.K X.mg X.base CX k C m ps sp) (ho : PE X o ta) (hr : Room k X.A) (hx : Passes CX X E)
    (ht : eval (.Call (.Attribute o m apos) [] [] pos) X.env = (do
      let ov ← eval o X.env
      standAt apos.atName
      let (f, first) ← holding [ov] (getMethod ov m pl)
      callWith pos f first [] (backToKw pos (keywordEach [] X.env))) := by rfl) :
    PE X (.Call (.Attribute o m apos) [] [] pos) (tMeth C m sp [] E ta tNil) := by
  obtain ⟨f, fd, F, hm, hb⟩ := c.ex
  exact pe_meth0 ho c.cl hm F hr hb .nil hx ht
theorem pe_makeC {CX : CXT} {k : Nat} {C : Addr} {x : Str} {ps : List Str} {sp : Sp} {E : XK} {e : Expr} {es : List Expr} {p pos : Pos} {t : TA} (c : CalleeI X.prog X.w X.K X.mg X.base CX k C x ps sp) (hr : Room (k + 1) X.A) (hg : Gl X x) (hx : Passes CX X E) (ha : PA X (e :: es) t)
    (hdb : (x == ("__debug__" : Str)) = false := by decide) (he : starEach (e :: es) X.env = (false, eval e X.env) :: starEach es X.env := by rfl) (hpl : (backTo pos (starEach es X.env)).any (·.1) = false := by rfl) :
    PE X (.Call (.Name x p) (e :: es) [] pos) (tMake C sp [] E t) := by
  obtain ⟨f, fd, F, M, hm, hb⟩ := c.ex
  exact pe_make M F hr hg hm hb .nil hx ha hdb he hpl

/-- a def with defaults, called without them; called by keywords -/
structure CalleeD (P : Program) (w : World) (K : PySem.W.Frag) (mg : Str → Option Value) (base : Heap) (CX : CXT) (k : Nat) (x : Str) (ps : List Str) (sp : Sp) (dvs : List V) : Prop where
  ex : ∃ (f : Addr) (fd : FuncData) (ds : List Value), FnOk P w K mg base CX k f fd ps sp ∧ mg x = some (.ref f) ∧ PySem.W.keepIn K (.ref f) = true ∧ Binds K fd ps ds ∧ Vals dvs ds
structure CalleeKw (P : Program) (w : World) (K : PySem.W.Frag) (mg : Str → Option Value) (base : Heap) (CX : CXT) (k : Nat) (x : Str) (ps : List Str) (sp : Sp) (n : Nat) (ks : List Str) (gV : List V → List V → List V) : Prop where
  ex : ∃ (f : Addr) (fd : FuncData) (g : List Value → List Value → List Value), FnOk P w K mg base CX k f fd ps sp ∧ mg x = some (.ref f) ∧ PySem.W.keepIn K (.ref f) = true ∧ KBn K fd ps n ks g gV
theorem pe_callD {CX : CXT} {k : Nat} {x : Str} {ps : List Str} {sp : Sp} {dvs : List V} {E : XK} {e : Expr} {es : List Expr} {p pos : Pos} {t : TA} (c : CalleeD X.prog X.w X.K X.mg X.base CX k x ps sp dvs) (hr : Room k X.A) (hg : Gl X x) (hx : Passes CX X E) (ha : PA X (e :: es) t)
    (hdb : (x == ("__debug__" : Str)) = false := by decide) (he : starEach (e :: es) X.env = (false, eval e X.env) :: starEach es X.env := by rfl) (hpl : (backTo pos (starEach es X.env)).any (·.1) = false := by rfl) :
    PE X (.Call (.Name x p) (e :: es) [] pos) (tCall sp dvs E t) := by
  obtain ⟨f, fd, ds, F, hm, hk, hb, hd⟩ := c.ex
  exact pe_call F hr hg hm hk hb hd hx ha hdb he hpl
theorem pe_callKw {CX : CXT} {k n : Nat} {x : Str} {ps ks : List Str} {sp : Sp} {gV : List V → List V → List V} {E : XK} {e : Expr} {es : List Expr} {kws : List Keyword} {p pos : Pos} {t tk : TA} (c : CalleeKw X.prog X.w X.K X.mg X.base CX k x ps sp n ks gV) (hr : Room k X.A) (hg : Gl X x) (hx : Passes CX X E)
    (ha : PA X (e :: es) t) (hkw : PK X kws tk) (hall : (backToKw pos (keywordEach kws X.env)).all (·.1.isSome) = true := by rfl) (hks : (backToKw pos (keywordEach kws X.env)).filterMap (·.1) = ks := by rfl)
    (hdb : (x == ("__debug__" : Str)) = false := by decide) (he : starEach (e :: es) X.env = (false, eval e X.env) :: starEach es X.env := by rfl)
    (hpl : ((backTo pos (starEach (e :: es) X.env)).any (·.1) || (backToKw pos (keywordEach kws X.env)).any (·.1.isNone)) = false := by rfl) :
    PE X (.Call (.Name x p) (e :: es) kws pos) (tCallN n ks.length sp gV E t tk) := by
  obtain ⟨f, fd, g, F, hm, hk, hb⟩ := c.ex
  exact pe_callN F hr hg hm hk hb hx ha hkw hall hks hdb he hpl
theorem hu65 {A : Around} {k : Nat} (hr : Room k A) : A.units + 65 < cLine := by have := hr.un; omega
/-! ### match over written texts -/
structure PM (X : Cx) (cs : List MatchCase) (tm : V → TS) : Prop where
  run : ∀ (pins : List (Addr × Obj)) (s : Shared) (σ : L2.St) (H : Hp) (D : Ends) (v : V) (u : Value) (first : Bool), Inv X pins σ H s → RelV v u → tm v D σ H → wpAny (model X.prog X.w) X.A (matchCases cs X.env u first) (SP X pins D) X.xe s
def tmNil : V → TS := fun _ D σ H => D.nx σ H
def tmStr (x : Str) (t : TS) (tr : V → TS) : V → TS := fun v D σ H => ∃ y, v = .str y ∧ if decide (y = x) = true then t D σ H else tr v D σ H
def tMatch (te : TE) (tm : V → TS) : TS := fun D σ H => te σ H fun x H1 => tm x D σ H1
theorem pm_nil : PM X [] tmNil := ⟨fun _ _ σ H _ _ _ _ I _ h => wpAny_matchCases_nil ⟨σ, H, I, h⟩⟩
theorem pm_str {x : Str} {j : _} {pos pos' : Pos} {body : List Stmt} {rest : List MatchCase} {t : TS} {tr : V → TS} (hb : PSs X body t) (hr : PM X rest tr) : PM X (⟨.MatchValue (.Constant (.str x) j pos) pos', none, body⟩ :: rest) (tmStr x t tr) := by
  refine ⟨fun pins s σ H D v u first I r h => ?_⟩
  obtain ⟨y, rfl, h⟩ := h
  refine wpAny_matchCases_cons (wpAny_matchPattern_Value ?_)
  refine thn (pe_str.run pins s σ H (fun v' H' => v' = .str x ∧ H' = H) I ⟨rfl, rfl⟩) fun u1 s1 ⟨v1, H1, I1, r1, e1, e2⟩ => ?_
  subst e1 e2
  refine thn (op_eq pins s1 σ H1 (.str y) (.str x) u u1 (fun v' H' => v' = .bl (decide (y = x)) ∧ H' = H1) I1 r r1 ⟨rfl, ?_, rfl⟩) fun u2 s2 ⟨v2, H2, I2, r2, e3, e4⟩ => ?_
  · congr 1
    by_cases e : y = x
    · subst e; simp
    · simp [e]
  subst e3 e4
  obtain rfl : u2 = Value.bool (decide (y = x)) := r2
  refine wpAny_truthy_bool ?_
  by_cases e : y = x
  · rw [if_pos (decide_eq_true e)]
    rw [if_pos (decide_eq_true e)] at h
    refine wpAny_assignInOrder_none ?_
    exact hb.run pins s2 σ H2 D I2 h
  · rw [if_neg (by simp [e])]
    rw [if_neg (by simp [e])] at h
    exact hr.run pins s2 σ H2 D _ u false I2 r h
theorem ps_match {e : Expr} {cs : List MatchCase} {pos : Pos} {te : TE} {tm : V → TS} (he : PE X e te) (hm : PM X cs tm) : PS X (.Match e cs pos) (tMatch te tm) := by
  refine ⟨fun pins s σ H D I h => ?_⟩
  refine wpAny_Match (thn (he.run pins s σ H _ I h) fun u s1 ⟨x, H1, I1, r1, q1⟩ => ?_)
  exact hm.run pins s1 σ H1 D x u true I1 r1 q1
end

/-! ### readings as steps -/
def ForW (J : It) (g : TG) (tb : TS) (D : Ends) (σ : L2.St) (H : Hp) : Prop := ∃ W : Nat → Nat → L2.St → Hp → Prop, (∃ m, W 0 m σ H) ∧ ∀ i m σ H, W i m σ H →
      (J.stop i H ∧ D.nx σ H) ∨ (J.go i H ∧ ∃ N : L2.St → Hp → Prop, (∀ σ' H', N σ' H' → ∃ m', m' < m ∧ W (i + 1) m' σ' H') ∧ ∀ x H', J.yld i H x H' → g x σ H' fun σ2 H2 => tb { D with nx := N, ct := N, bk := D.nx } σ2 H2)
def LcW (J : It) (g : TG) (tt : TT) (te : TE) (vs : List Nat) (σ : L2.St) (H1 : Hp) (Q : VK) : Prop := ∀ D, H1 D = none → ∃ W : Nat → Nat → Hp → Prop, (∃ m, W 0 m (upd H1 D (.lst []))) ∧ ∀ i m H, W i m H →
  (J.stop i H ∧ Q (.ref D) H) ∨ (J.go i H ∧ ∃ Nx : Hp → Prop, (∀ H', Nx H' → ∃ m', m' < m ∧ W (i + 1) m' H') ∧ ∀ x H', J.yld i H x H' → g x (wipe σ vs) H' fun σ2 H2 => wipe σ2 vs = wipe σ vs ∧ tt σ2 H2 fun b H3 =>
    if b = true then te σ2 H3 fun y H4 => ∃ acc, H4 D = some (.lst acc) ∧ acc.length < sizeLine ∧ Nx (upd H4 D (.lst (acc ++ [y]))) else Nx H3)
theorem forW {J : It} {n : Nat} {G : Hp → Prop} {Y : Nat → Hp → V → Hp → Prop} (wk : Walk J n G Y) {g : TG} {tb : TS} {D : Ends} {σ : L2.St} {H : Hp} (Pv : Nat → L2.St → Hp → Prop) (h0 : Pv 0 σ H) (hG : ∀ i σ H, i ≤ n → Pv i σ H → G H)
    (hs : ∀ i x σ H H', i < n → Pv i σ H → Y i H x H' → g x σ H' fun σ2 H2 => tb { D with nx := Pv (i + 1), ct := Pv (i + 1), bk := D.nx } σ2 H2) (hd : ∀ σ H, Pv n σ H → D.nx σ H) : ForW J g tb D σ H := for_it wk Pv h0 hG hs hd
section
variable {K : PySem.W.Frag} {σ : L2.St} {H : Hp} {D : Ends} {ta tb tc te : TE} {tA tr : TA} {t u : TT} {t1 t2 tu : TS} {x y v : V} {Q : VK} {QT : Bool → Hp → Prop} {QA : List V → Hp → Prop} {R : It → Hp → Prop} {i : Nat} {a p : Addr} {xs ys : List V}
theorem r_var (h : σ[i]? = some (some v)) (q : Q v H) : tVar i σ H Q := ⟨v, h, q⟩
theorem r_c (q : Q v H) : tC v σ H Q := q
theorem r_op {r : R2} (q : ta σ H fun x H1 => tb σ H1 fun y H2 => r x y H2 Q) : tOp r ta tb σ H Q := q
theorem r_un {r : V → Hp → VK → Prop} (q : ta σ H fun x H1 => r x H1 Q) : tUn r ta σ H Q := q
theorem r_I0 {g : Int → Int → V} {m n : Int} (q : Q (g m n) H) : rI0 g (.int m) (.int n) H Q := ⟨m, n, rfl, rfl, q⟩
theorem r_I {C : Int → Int → Prop} {g : Int → Int → V} {m n : Int} (hc : C m n) (q : Q (g m n) H) : rI C g (.int m) (.int n) H Q := ⟨m, n, rfl, rfl, hc, q⟩
theorem r_U {g : Int → V} {m : Int} (q : Q (g m) H) : rU g (.int m) H Q := ⟨m, rfl, q⟩
theorem r_eq (h : scal x y = true) (q : Q (.bl (decide (x = y))) H) : rEq x y H Q := ⟨h, q⟩
theorem r_ne (h : scal x y = true) (q : Q (.bl (!decide (x = y))) H) : rNe x y H Q := ⟨h, q⟩
theorem r_test (q : te σ H fun x H' => ∃ k, x = .bl k ∧ QT k H') : tTest te σ H QT := q
theorem r_B (q : te σ H fun x H' => ∃ k, x = .bl k ∧ QT k H') : tB te σ H QT := q
theorem r_bl {b : Bool} {q : Bool → Prop} (h : q b) : ∃ k, V.bl b = .bl k ∧ q k := ⟨b, rfl, h⟩
theorem r_and (q : t σ H fun c H1 => if c = true then u σ H1 QT else QT false H1) : tAnd t u σ H QT := q
theorem r_or (q : t σ H fun c H1 => if c = true then QT true H1 else u σ H1 QT) : tOr t u σ H QT := q
theorem r_not (q : t σ H fun c H1 => QT (!c) H1) : tNot t σ H QT := q
theorem r_andV (q : ta σ H fun x H1 => ∃ c, x = .bl c ∧ if c = true then tb σ H1 Q else Q (.bl false) H1) : tAndV ta tb σ H Q := q
theorem r_orV (q : ta σ H fun x H1 => ∃ c, x = .bl c ∧ if c = true then Q (.bl true) H1 else tb σ H1 Q) : tOrV ta tb σ H Q := q
theorem r_notV (q : ta σ H fun x H1 => ∃ c, x = .bl c ∧ Q (.bl (!c)) H1) : tNotV ta σ H Q := q
theorem r_if (q : t σ H fun c H1 => if c = true then ta σ H1 Q else tb σ H1 Q) : tIf t ta tb σ H Q := q
theorem r_nil (q : QA [] H) : tNil σ H QA := q
theorem r_cons (q : ta σ H fun x H1 => tr σ H1 fun xs H2 => QA (x :: xs) H2) : tCons ta tr σ H QA := q
theorem r_tup (q : tA σ H fun xs H1 => xs.length ≤ sizeLine ∧ ∀ p, H1 p = none → Q (.ref p) (upd H1 p (.tup xs))) : tTup tA σ H Q := q
theorem r_lst (q : tA σ H fun xs H1 => xs.length ≤ sizeLine ∧ ∀ p, H1 p = none → Q (.ref p) (upd H1 p (.lst xs))) : tLst tA σ H Q := q
theorem r_call {sp : Sp} {E : XK} (q : tA σ H fun vs H1 => sp (vs ++ []) H1 Q E) : tCall sp [] E tA σ H Q := q
theorem r_cb {r : List V → Hp → VK → Prop} (q : tA σ H fun vs H1 => r vs H1 Q) : tCB r tA σ H Q := q
theorem r_ixL {n : Int} (h : SqL K H p xs) (ha : atI xs n = some v) (q : Q v H) : rIxL K (.ref p) (.int n) H Q := ⟨p, xs, n, v, rfl, rfl, h, ha, q⟩
theorem r_ixT {n : Int} (h : SqT K H p xs) (ha : atI xs n = some v) (q : Q v H) : rIxT K (.ref p) (.int n) H Q := ⟨p, xs, n, v, rfl, rfl, h, ha, q⟩
theorem r_ixS {z : Str} {n : Int} {c : Nat} (hz : z.length ≤ sizeLine) (ha : atI z.cps.toList n = some c) (q : Q (.str ⟨#[c]⟩) H) : rIxS (.str z) (.int n) H Q := ⟨z, n, c, rfl, rfl, hz, ha, q⟩
theorem r_setL {n : Int} {j : Nat} {QH : Hp → Prop} (h : H p = some (.lst xs)) (hj : ixN xs.length n = some j) (q : QH (upd H p (.lst (xs.set j v)))) : rSetL (.ref p) (.int n) v H QH := ⟨p, xs, n, j, rfl, rfl, h, hj, q⟩
theorem r_fld {f : Str} (q : ta σ H fun x H1 => ∃ a C dx fs v, x = .ref a ∧ H1 a = some (.ins C dx fs) ∧ Cls K C ∧ NoAttr K C f ∧ fs.lookup f = some v ∧ Q v H1) : tFld K ta f σ H Q := q
theorem r_meth {C : Addr} {m : Str} {sp : Sp} {E : XK} (q : ta σ H fun x H1 => ∃ a dx fs, x = .ref a ∧ H1 a = some (.ins C dx fs) ∧ fs.lookup m = none ∧ tA σ H1 fun vs H2 => sp (x :: (vs ++ [])) H2 Q E) : tMeth C m sp [] E ta tA σ H Q := q
theorem r_cval {C : Addr} {mc : Value} {f : Str} {uu : Value} (h1 : ClX.CRead K C mc) (h2 : ClX.CVal K C mc f v uu) (q : Q v H) : ClX.tCVal K (tC (.ref C)) f σ H Q := ⟨C, mc, v, uu, rfl, h1, h2, q⟩
theorem r_fldV {C dx : Addr} {fs : List (Str × V)} {f : Str} (hp : H a = some (.ins C dx fs)) (hc : Cls K C) (hn : NoAttr K C f) (hl : fs.lookup f = some v) (hv : σ[i]? = some (some (.ref a))) (q : Q v H) : tFld K (tVar i) f σ H Q := ⟨.ref a, hv, a, C, dx, fs, v, rfl, hp, hc, hn, hl, q⟩
theorem r_sfld {f : Str} {tv : TE} (q : tv σ H fun y H1 => ta σ H1 fun x H2 => ∃ a C dx fs, x = .ref a ∧ H2 a = some (.ins C dx fs) ∧ Cls K C ∧ NoAttr K C f ∧ fs.length < 1000 ∧ D.nx σ (upd H2 a (.ins C dx (putF f y fs)))) : sFld K ta tv f D σ H := q
theorem r_itup (q : te σ H fun x H1 => ∃ a, x = .ref a ∧ (∃ xs, SqT K H1 a xs) ∧ R (Itt K a) H1) : iTup K te σ H R := q
theorem r_ilist (q : te σ H fun x H1 => ∃ a, x = .ref a ∧ (∃ xs, SqL K H1 a xs) ∧ R (Itl K a) H1) : iList K te σ H R := q
theorem r_istr (q : te σ H fun v H1 => ∃ x, v = .str x ∧ R (Its x) H1) : iStr te σ H R := q
theorem r_m1 {r : V → List V → Hp → VK → Prop} (q : ta σ H fun x H1 => (∃ a, x = .str a) ∧ te σ H1 fun y H2 => r x [y] H2 Q) : tM1 r ta te σ H Q := q
theorem r_m0 {r : V → List V → Hp → VK → Prop} (q : ta σ H fun x H1 => (∃ a, x = .str a) ∧ r x [] H1 Q) : tM0 r ta σ H Q := q
theorem r_isStr {z : Str} {B : Prop} (g : B) : (∃ a, V.str z = .str a) ∧ B := ⟨⟨z, rfl⟩, g⟩
theorem r_exStr {z : Str} {q : Str → Prop} (g : q z) : ∃ x, V.str z = .str x ∧ q x := ⟨z, rfl, g⟩
theorem r_gname {QG : L2.St → Hp → Prop} (q : QG (σ.set i (some v)) H) : gName i v σ H QG := q
theorem r_callD {sp : Sp} {dvs : List V} {E : XK} (q : tA σ H fun vs H1 => sp (vs ++ dvs) H1 Q E) : tCall sp dvs E tA σ H Q := q
theorem r_callN {n m : Nat} {sp : Sp} {gV : List V → List V → List V} {E : XK} {tk : TA} (q : tA σ H fun vs H1 => tk σ H1 fun zs H2 => vs.length = n ∧ zs.length = m ∧ sp (gV vs zs) H2 Q E) : tCallN n m sp gV E tA tk σ H Q := q
theorem r_dget1 (q : ta σ H fun x H1 => ∃ a, x = .ref a ∧ IsD H1 a ∧ tb σ H1 fun y H2 => ∃ o, DGet H2 a y o ∧ Q (o.getD .non) H2) : tDGet1 ta tb σ H Q := q
theorem r_dget (q : ta σ H fun x H1 => tb σ H1 fun y H2 => ∃ a v, x = .ref a ∧ DGet H2 a y (some v) ∧ Q v H2) : tDGet ta tb σ H Q := q
theorem r_disp {trs : List (TE × TE)} (q : ∀ p, H p = none → tPairs trs σ (upd H p (.dK [])) fun ps H2 => H2 p = some (.dK []) ∧ ∃ kvs : List (Key × V), ps = kvs.map (fun kv => (kV kv.1, kv.2)) ∧ kvs.length ≤ 15 ∧ Q (.ref p) (upd H2 p (.dK (mergeK [] kvs)))) : tDisp trs σ H Q := q
theorem r_pairs {trs : List (TE × TE)} {QP : List (V × V) → Hp → Prop} (q : ta σ H fun x H1 => tb σ H1 fun y H2 => tPairs trs σ H2 fun ps H3 => QP ((x, y) :: ps) H3) : tPairs ((ta, tb) :: trs) σ H QP := q
theorem r_pairs0 {QP : List (V × V) → Hp → Prop} (q : QP [] H) : tPairs [] σ H QP := q
theorem r_fldK {C dx : Addr} {fs : List (Str × V)} {f : Str} {G : V → Prop} (hp : H p = some (.ins C dx fs)) (hc : Cls K C) (hn : NoAttr K C f) (hl : fs.lookup f = some v) (q : G v) :
    ∃ a C dx fs v, V.ref p = .ref a ∧ H a = some (.ins C dx fs) ∧ Cls K C ∧ NoAttr K C f ∧ fs.lookup f = some v ∧ G v := ⟨p, C, dx, fs, v, rfl, hp, hc, hn, hl, q⟩
theorem r_gtup {n : Nat} {gs : TGs} {QG : L2.St → Hp → Prop} (h : SqT K H a xs) (hn : xs.length = n) (q : gs xs σ H QG) : gTup K n gs (.ref a) σ H QG := ⟨a, xs, rfl, h, hn, q⟩
theorem r_gcons {g : TG} {gs : TGs} {QG : L2.St → Hp → Prop} (q : g v σ H fun σ' H' => gs xs σ' H' QG) : gCons g gs (v :: xs) σ H QG := ⟨v, xs, rfl, q⟩
theorem r_gnil {QG : L2.St → Hp → Prop} (q : QG σ H) : gNil [] σ H QG := ⟨rfl, q⟩
theorem r_asgG {g : TG} (q : te σ H fun x H1 => g x σ H1 D.nx) : tAsg te g D σ H := q
theorem r_rng2 {m n : Int} {q : Int → Int → Prop} (h : q m n) : ∃ i j : Int, [V.int m, V.int n] = [.int i, .int j] ∧ q i j := ⟨m, n, rfl, h⟩
theorem r_irng2 (q : tA σ H fun vs H1 => ∃ i j : Int, vs = [.int i, .int j] ∧ (-(2 ^ 62) ≤ i ∧ i < 2 ^ 62 ∧ -(2 ^ 62) ≤ j ∧ j < 2 ^ 62) ∧ R (Itr i (j - i).toNat) H1) : iRng2 tA σ H R := q
theorem r_cat {p' : Addr} (h : H p = some (.lst xs)) (h' : H p' = some (.lst ys)) (hl : xs.length + ys.length ≤ sizeLine) (g : ∀ c, H c = none → Q (.ref c) (upd H c (.lst (xs ++ ys)))) : rCat (.ref p) (.ref p') H Q := ⟨p, p', xs, ys, rfl, rfl, h, h', hl, g⟩
theorem r_bm {T : String} {r : V → List V → Hp → VK → Prop} (q : ta σ H fun x H1 => tyV K T x H1 ∧ tA σ H1 fun xs H2 => r x xs H2 Q) : tBM K T r ta tA σ H Q := q
theorem r_tyL {B : Prop} (h : SqL K H p xs) (g : B) : tyV K "list" (.ref p) H ∧ B := ⟨.inl ⟨rfl, xs, h⟩, g⟩
theorem r_append (h : H p = some (.lst xs)) (hl : xs.length < sizeLine) (q : Q .non (upd H p (.lst (xs ++ [v])))) : rAppend (.ref p) [v] H Q := ⟨p, xs, v, rfl, rfl, h, hl, q⟩
theorem r_seq (q : t1 { D with nx := t2 D } σ H) : tSeq t1 t2 D σ H := q
theorem r_next (q : D.nx σ H) : tNext D σ H := q
theorem r_asg (q : te σ H fun x H1 => D.nx (σ.set i (some x)) H1) : tAsg te (gName i) D σ H := q
theorem r_asgS {s : TSet} (q : te σ H fun v H1 => ta σ H1 fun o H2 => tb σ H2 fun i H3 => s o i v H3 fun H4 => D.nx σ H4) : tAsg te (gSub ta tb s) D σ H := q
theorem r_ifS (q : t σ H fun b H1 => if b = true then t1 D σ H1 else t2 D σ H1) : tIfS t t1 t2 D σ H := q
theorem r_dput (q : tc σ H fun v H1 => ta σ H1 fun x H2 => tb σ H2 fun y H3 => ∃ a H4, x = .ref a ∧ DPut H3 a y v H4 ∧ D.nx σ H4) : sDPut ta tb tc D σ H := q
theorem r_ret (q : te σ H D.rt) : tRet te D σ H := q
theorem r_drop (q : te σ H fun _ H1 => D.nx σ H1) : tDrop te D σ H := q
theorem r_par {k j : Nat} (q : tA σ H fun vs H1 => ∃ v w, vs = [v, w] ∧ D.nx ((σ.set k (some v)).set j (some w)) H1) : tPar k j tA D σ H := q
theorem r_aug {tip : TIp} (h : σ[i]? = some (some x)) (q : te σ H fun y H1 => tip x y H1 fun z H2 => D.nx (σ.set i (some z)) H2) : tAug i te tip D σ H := ⟨x, h, q⟩
theorem r_match {tm : V → TS} (q : te σ H fun x H1 => tm x D σ H1) : tMatch te tm D σ H := q
theorem r_mstr {x y : Str} {tm : V → TS} (q : if decide (y = x) = true then t1 D σ H else tm (.str y) D σ H) : tmStr x t1 tm (.str y) D σ H := ⟨y, rfl, q⟩
theorem r_mnil (q : D.nx σ H) : tmNil v D σ H := q
theorem r_sl {r : V → Option Int → Option Int → Hp → VK → Prop} {tl th : TO} (q : te σ H fun x H1 => tl σ H1 fun l H2 => th σ H2 fun u H3 => r x l u H3 Q) : tSl r te tl th σ H Q := q
theorem r_nopart {QO : Option Int → Hp → Prop} (q : QO none H) : tNoPart σ H QO := q
theorem r_part {QO : Option Int → Hp → Prop} (q : te σ H fun x H1 => ∃ i, x = .int i ∧ QO (some i) H1) : tPart te σ H QO := q
theorem r_int {m : Int} {q : Int → Prop} (h : q m) : ∃ k, V.int m = .int k ∧ q k := ⟨m, rfl, h⟩
theorem r_int1 {m : Int} {q : Int → Prop} {B : Prop} (h : q m) : (∃ i, [V.int m] = [V.int i] ∧ q i) ∨ B := .inl ⟨m, rfl, h⟩
theorem r_bl1 {b : Bool} {q : Bool → Prop} {A : Prop} (h : q b) : A ∨ ∃ k, [V.bl b] = [V.bl k] ∧ q k := .inr ⟨b, rfl, h⟩
theorem r_ex1 {m : Int} {q : Int → Prop} (h : q m) : ∃ i, [V.int m] = [V.int i] ∧ q i := ⟨m, rfl, h⟩
theorem r_ex2 {m n : Int} {q : Int → Int → Prop} (h : q m n) : ∃ i j, [V.int m, V.int n] = [V.int i, V.int j] ∧ q i j := ⟨m, n, rfl, h⟩
theorem r_lenS {q : List V → Prop} (h : SqL K H p xs) (g : q xs) : ∃ a ys, [V.ref p] = [V.ref a] ∧ (SqL K H a ys ∨ SqT K H a ys) ∧ q ys := ⟨p, xs, rfl, .inl h, g⟩
theorem r_slL {lo hi : Option Int} (h : SqL K H p xs) (q : ∀ c, H c = none → Q (.ref c) (upd H c (.lst (cutV xs lo hi)))) : rSlL K (.ref p) lo hi H Q := ⟨p, xs, rfl, h, q⟩
theorem r_for {wi : TI} {g : TG} (q : wi σ H fun J H1 => ForW J g t1 D σ H1) : tFor wi g t1 D σ H := q
theorem r_lc {wi : TI} {g : TG} {tt : TT} {vs : List Nat} (q : wi σ H fun J H1 => LcW J g tt te vs σ H1 Q) : tLc wi g tt te vs σ H Q := q
theorem r_irng1 (q : tA σ H fun vs H1 => ∃ j : Int, vs = [.int j] ∧ -(2 ^ 62) ≤ j ∧ j < 2 ^ 62 ∧ R (Itr 0 j.toNat) H1) : iRng1 tA σ H R := q
theorem r_iteT {c : Prop} [Decidable c] {A B : Prop} (h : c) (q : A) : if decide c = true then A else B := by rw [if_pos (decide_eq_true h)]; exact q
theorem r_iteF {c : Prop} [Decidable c] {A B : Prop} (h : ¬ c) (q : B) : if decide c = true then A else B := by rw [if_neg (by simpa using h)]; exact q
theorem r_iteNT {c : Prop} [Decidable c] {A B : Prop} (h : ¬ c) (q : A) : if (!decide c) = true then A else B := by rw [if_pos (by simpa using h)]; exact q
theorem r_iteNF {c : Prop} [Decidable c] {A B : Prop} (h : c) (q : B) : if (!decide c) = true then A else B := by rw [if_neg (by simpa using h)]; exact q
theorem ite_join {c : Prop} [Decidable c] (Z : VK) (h1 : c → ∀ Q : VK, (∀ v H', Z v H' → Q v H') → ta σ H Q) (h2 : ¬ c → ∀ Q : VK, (∀ v H', Z v H' → Q v H') → tb σ H Q) (q : ∀ v H', Z v H' → Q v H') : if decide c = true then ta σ H Q else tb σ H Q := by
  by_cases h : c
  · rw [if_pos (decide_eq_true h)]; exact h1 h Q q
  · rw [if_neg (by simpa using h)]; exact h2 h Q q
theorem r_make {C : Addr} {sp : Sp} {E : XK} (q : tA σ H fun vs H1 => ∀ x dx, H1 x = none → H1 dx = none → dx ≠ x → sp (.ref x :: (vs ++ [])) (upd (upd H1 dx (.own x)) x (.ins C dx [])) (fun v H2 => v = .non ∧ Q (.ref x) H2) E) : tMake C sp [] E tA σ H Q := q
theorem r_addS {m n : Str} {q : Str → Str → Prop} (h : m.length + n.length ≤ sizeLine) (g : q m n) : ∃ i j, V.str m = .str i ∧ V.str n = .str j ∧ i.length + j.length ≤ sizeLine ∧ q i j := ⟨m, n, rfl, rfl, h, g⟩
theorem iteNt {A B : Prop} (h : B) : if (!true) = true then A else B := h
theorem iteNf {A B : Prop} (h : A) : if (!false) = true then A else B := h
theorem r_ite2 {c : Prop} [Decidable c] {A B : Prop} (h1 : c → A) (h2 : ¬ c → B) : if decide c = true then A else B := by
  by_cases h : c
  · exact r_iteT h (h1 h)
  · exact r_iteF h (h2 h)
theorem r_iteN2 {c : Prop} [Decidable c] {A B : Prop} (h1 : ¬ c → A) (h2 : c → B) : if (!decide c) = true then A else B := by
  by_cases h : c
  · exact r_iteNF h (h2 h)
  · exact r_iteNT h (h1 h)
end

theorem at_start {t : TS} {D : Ends} {σ σ0 : L2.St} {H : Hp} (h : σ0 = σ) (q : t D σ H) : t D σ0 H := h ▸ q
theorem cx_K {CX : CXT} {P : Program} {w : World} {K : PySem.W.Frag} {mg : Str → Option Value} {base : Heap} {N : List Str} {qual : Str} {sc : Scope} {f : Addr} {cd : Value} {A : Around} {outer : List Env} {s : Shared} {H : Hp} {E : XK} : (cxOf CX P w K mg base N qual sc f cd A outer s H E).nox.K = K := rfl
theorem mul_bd {x y A B : Int} (h0 : 0 ≤ x) (h1 : x ≤ A) (h2 : 0 ≤ y) (h3 : y ≤ B) : 0 ≤ x * y ∧ x * y ≤ A * B := ⟨Int.mul_nonneg h0 h2, Int.mul_le_mul h1 h3 h2 (Int.le_trans h0 h1)⟩
/-! ### flat lists compared -/
theorem dp_ints {K : PySem.W.Frag} {H : Hp} : ∀ ns : List Int, DpAll K H (ns.map V.int) (ns.map PyData.int)
  | [] => .nil
  | n :: r => .cons (.int n) (dp_ints r)
theorem lay_ints : ∀ ns : List Int, PyData.canLayAll0 (ns.map PyData.int) = true
  | [] => rfl
  | n :: r => by
    show (PyData.canLay0 (.int n) && PyData.canLayAll0 (r.map PyData.int)) = true
    rw [lay_ints r]; rfl
theorem depth_ints : ∀ ns : List Int, PyData.depthAll (ns.map PyData.int) = 0
  | [] => rfl
  | n :: r => by
    show max (PyData.depth (.int n)) (PyData.depthAll (r.map PyData.int)) = 0
    rw [depth_ints r]; rfl
theorem shaped_ints (ns : List Int) : SeqAt.shaped (.list (ns.map PyData.int)) = true := by
  show (PyData.canLayAll0 (ns.map PyData.int) && decide (PyData.depthAll (ns.map PyData.int) + 1 ≤ 64)) = true
  rw [lay_ints, depth_ints]; rfl
theorem eqv_ints : ∀ ns ms : List Int, PyData.eqvAll (ns.map PyData.int) (ms.map PyData.int) = decide (ns = ms)
  | [], [] => rfl
  | [], _ :: _ => rfl
  | _ :: _, [] => rfl
  | n :: r, m :: q => by
    show ((n == m) && PyData.eqvAll (r.map PyData.int) (q.map PyData.int)) = decide (n :: r = m :: q)
    rw [eqv_ints r q]
    by_cases h1 : n = m <;> by_cases h2 : r = q <;> simp [h1, h2]
theorem eqT_shaped (ns : List Int) : SeqAt.shaped (.tuple (ns.map PyData.int)) = true := by
  show (PyData.canLayAll0 (ns.map PyData.int) && decide (PyData.depthAll (ns.map PyData.int) + 1 ≤ 64)) = true
  rw [lay_ints, depth_ints]; rfl
theorem r_neIntsT {K : PySem.W.Frag} {H : Hp} {Q : VK} {a b : Addr} {ns ms : List Int} (h : SqT K H a (ns.map V.int)) (h' : SqT K H b (ms.map V.int)) (q : Q (.bl (!decide (ns = ms))) H) : rNeD K (.ref a) (.ref b) H Q :=
  ⟨_, _, .tup h (dp_ints ns), .tup h' (dp_ints ms), eqT_shaped ns, eqT_shaped ms, (show Q (.bl (!PyData.eqvAll (ns.map PyData.int) (ms.map PyData.int))) H by rw [eqv_ints]; exact q)⟩
theorem r_eqInts {K : PySem.W.Frag} {H : Hp} {Q : VK} {a b : Addr} {ns ms : List Int} (h : SqL K H a (ns.map V.int)) (h' : SqL K H b (ms.map V.int)) (q : Q (.bl (decide (ns = ms))) H) : rEqD K (.ref a) (.ref b) H Q :=
  ⟨_, _, .lst h (dp_ints ns), .lst h' (dp_ints ms), shaped_ints ns, shaped_ints ms, (show Q (.bl (PyData.eqvAll (ns.map PyData.int) (ms.map PyData.int))) H by rw [eqv_ints]; exact q)⟩
theorem r_neInts {K : PySem.W.Frag} {H : Hp} {Q : VK} {a b : Addr} {ns ms : List Int} (h : SqL K H a (ns.map V.int)) (h' : SqL K H b (ms.map V.int)) (q : Q (.bl (!decide (ns = ms))) H) : rNeD K (.ref a) (.ref b) H Q :=
  ⟨_, _, .lst h (dp_ints ns), .lst h' (dp_ints ms), shaped_ints ns, shaped_ints ms, (show Q (.bl (!PyData.eqvAll (ns.map PyData.int) (ms.map PyData.int))) H by rw [eqv_ints]; exact q)⟩
theorem inV_strs {z : Str} : ∀ zs : List Str, inV (.str z) (zs.map V.str) = decide (z ∈ zs)
  | [] => by simp [inV]
  | y :: r => by
    have ih := inV_strs (z := z) r
    unfold inV at ih ⊢
    rw [List.map_cons, List.any_cons, ih]
    show (decide (y = z) || decide (z ∈ r)) = decide (z ∈ y :: r)
    by_cases e : y = z
    · subst e; simp
    · have e' : ¬ z = y := fun q => e q.symm
      simp [e, e']
theorem inV_ints {z : Int} : ∀ zs : List Int, inV (.int z) (zs.map V.int) = decide (z ∈ zs)
  | [] => by simp [inV]
  | y :: r => by
    have ih := inV_ints (z := z) r
    unfold inV at ih ⊢
    rw [List.map_cons, List.any_cons, ih]
    show ((y == z) || decide (z ∈ r)) = decide (z ∈ y :: r)
    by_cases e : y = z
    · subst e; simp
    · have e' : ¬ z = y := fun q => e q.symm
      simp [e, e']
theorem flat_ints : ∀ zs : List Int, (zs.map V.int).all flatV = true
  | [] => rfl
  | y :: r => by rw [List.map_cons, List.all_cons, flat_ints r]; rfl
theorem r_notInI {K : PySem.W.Frag} {H : Hp} {Q : VK} {p : Addr} {z : Int} {zs : List Int} (h : SqL K H p (zs.map V.int) ∨ SqT K H p (zs.map V.int)) (q : Q (.bl (!decide (z ∈ zs))) H) : rIn K true (.int z) (.ref p) H Q :=
  ⟨p, _, rfl, h, rfl, flat_ints zs, (show Q (.bl (!inV (.int z) (zs.map V.int))) H by rw [inV_ints]; exact q)⟩
theorem r_inI {K : PySem.W.Frag} {H : Hp} {Q : VK} {p : Addr} {z : Int} {zs : List Int} (h : SqL K H p (zs.map V.int) ∨ SqT K H p (zs.map V.int)) (q : Q (.bl (decide (z ∈ zs))) H) : rIn K false (.int z) (.ref p) H Q :=
  ⟨p, _, rfl, h, rfl, flat_ints zs, (show Q (.bl (inV (.int z) (zs.map V.int))) H by rw [inV_ints]; exact q)⟩
theorem flat_strs : ∀ zs : List Str, (zs.map V.str).all flatV = true
  | [] => rfl
  | y :: r => by rw [List.map_cons, List.all_cons, flat_strs r]; rfl
theorem r_notInS {K : PySem.W.Frag} {H : Hp} {Q : VK} {p : Addr} {z : Str} {zs : List Str} (h : SqL K H p (zs.map V.str) ∨ SqT K H p (zs.map V.str)) (q : Q (.bl (!decide (z ∈ zs))) H) : rIn K true (.str z) (.ref p) H Q :=
  ⟨p, _, rfl, h, rfl, flat_strs zs, (show Q (.bl (!inV (.str z) (zs.map V.str))) H by rw [inV_strs]; exact q)⟩
theorem r_inS {K : PySem.W.Frag} {H : Hp} {Q : VK} {p : Addr} {z : Str} {zs : List Str} (h : SqL K H p (zs.map V.str) ∨ SqT K H p (zs.map V.str)) (q : Q (.bl (decide (z ∈ zs))) H) : rIn K false (.str z) (.ref p) H Q :=
  ⟨p, _, rfl, h, rfl, flat_strs zs, (show Q (.bl (inV (.str z) (zs.map V.str))) H by rw [inV_strs]; exact q)⟩
/-! ### heaps -/
theorem upd_new {H : Hp} {a p : Addr} {o u : HO} (hn : H p = none) (h : H a = some u) : upd H p o a = some u := by rw [upd_ne (ne_of_none h hn)]; exact h
theorem same_new {H : Hp} {p : Addr} {o : HO} (hn : H p = none) : Same H (upd H p o) := fun _ _ e => upd_new hn e
theorem Same.up {H H' : Hp} {a : Addr} {o : HO} (s : Same H H') (h : H a = some o) : H' a = some o := s a o h
theorem same_mut {H H' : Hp} {p : Addr} {o : HO} (s : Same H H') (hn : H p = none) : Same H (upd H' p o) := fun _ _ e => by rw [upd_ne (ne_of_none e hn)]; exact s _ _ e
theorem same_seqT {K : PySem.W.Frag} {H H' : Hp} {a : Addr} {xs : List V} (e : Same H H') (h : SqT K H a xs) : SqT K H' a xs := by
  rcases h with (h | ⟨o, h⟩) | h
  · exact .inl (.inl (e _ _ h))
  · exact .inl (.inr ⟨o, e _ _ h⟩)
  · exact .inr h
theorem small1000' {n : Nat} (h : n ≤ 10000) : n < sizeLine := Nat.lt_of_le_of_lt h (by decide)
/-- a comprehension whose test and element are pure -/
theorem lc_all {J : It} {n : Nat} {G : Hp → Prop} {Y : Nat → Hp → V → Hp → Prop} (wk : Walk J n G Y) {tt : TT} {te : TE} {vs : List Nat} {σ : L2.St} {H1 : Hp} {Q : VK} {j : Nat} (yv : Nat → V) (f : Nat → Bool) (v : Nat → V) (hn : n ≤ 10000)
    (hY : ∀ i H x H', i < n → Y i H x H' → H' = H ∧ x = yv i) (hG : ∀ H', Same H1 H' → G H') (hw : ∀ x, wipe ((wipe σ vs).set j (some x)) vs = wipe σ vs)
    (ht : ∀ i H', i < n → Same H1 H' → ∀ QT : Bool → Hp → Prop, (∀ H2, Same H' H2 → QT (f i) H2) → tt ((wipe σ vs).set j (some (yv i))) H' QT)
    (he : ∀ i H', i < n → f i = true → Same H1 H' → ∀ Q : VK, (∀ H2, Same H' H2 → Q (v i) H2) → te ((wipe σ vs).set j (some (yv i))) H' Q)
    (hd : ∀ D H', H1 D = none → Same H1 H' → H' D = some (.lst (Evl.given n f v)) → Q (.ref D) H') :
    LcW J (gName j) tt te vs σ H1 Q := by
  intro D hD
  refine lc_it wk (Qd := fun H => Q (.ref D) H) (fun i H => Same H1 H ∧ H D = some (.lst (Evl.given i f v))) ⟨same_new hD, upd_same⟩ (fun i H _ p => hG H p.1) (fun i x H H' hi p y => ?_) (fun H p => hd D H hD p.1 p.2)
  obtain ⟨rfl, rfl⟩ := hY i H x H' hi y
  refine ⟨hw _, ?_⟩
  refine ht i _ hi p.1 _ fun H2 s2 => ?_
  cases e : f i with
  | true =>
    refine iteT ?_
    refine he i H2 hi e (p.1.trans s2) _ fun H3 s3 => ?_
    refine ⟨_, s3 _ _ (s2 _ _ p.2), small1000' (Nat.le_trans (Evl.given_len i f v) (by omega)), same_mut ((p.1.trans s2).trans s3) hD, ?_⟩
    rw [upd_same, Evl.given_yes e]
  | false =>
    refine iteF ?_
    refine ⟨p.1.trans s2, ?_⟩
    rw [s2 _ _ p.2, Evl.given_no e]
theorem range_get {α : Type} (xs : List α) (d : α) : (List.range xs.length).map (fun i => xs.getD i d) = xs := by
  refine List.ext_getElem (by simp) fun i h1 h2 => ?_
  simp [List.getElem?_eq_getElem h2]
theorem given_filter {α : Type} (xs : List α) (d : α) (p : α → Bool) (g : α → V) : Evl.given xs.length (fun i => p (xs.getD i d)) (fun i => g (xs.getD i d)) = (xs.filter p).map g := by
  unfold Evl.given
  have e := range_get xs d
  have h2 : (List.range xs.length).filter (fun i => p (xs.getD i d)) = (List.range xs.length).filter (p ∘ fun i => xs.getD i d) := rfl
  have h3 : ((List.range xs.length).filter (p ∘ fun i => xs.getD i d)).map (g ∘ fun i => xs.getD i d) = (xs.filter p).map g := by
    rw [← List.map_map, ← List.filter_map, e]
  exact h3
theorem given_map {α : Type} (xs : List α) (d : α) (g : α → V) : Evl.given xs.length (fun _ => true) (fun i => g (xs.getD i d)) = xs.map g := by
  have h := given_filter xs d (fun _ => true) g
  rw [List.filter_eq_self.mpr (fun _ _ => rfl)] at h
  exact h
theorem atI_map {α : Type} {xs : List α} {g : α → V} {r : Int} (h0 : 0 ≤ r) (h1 : r < (xs.length : Int)) : ∃ x ∈ xs, atI (xs.map g) r = some (g x) := by
  obtain ⟨n, rfl⟩ : ∃ n : Nat, r = (n : Int) := ⟨r.toNat, by omega⟩
  have hl : n < xs.length := by omega
  refine ⟨xs[n], List.getElem_mem hl, ?_⟩
  exact atI_nat (by simp [hl])
theorem YAt_get {α : Type} {xs : List α} {d : α} {g : α → V} {i : Nat} {H : Hp} {x : V} {H' : Hp} (hi : i < (xs.map g).length) (y : YAt (xs.map g) i H x H') : H' = H ∧ x = g (xs.getD i d) := by
  obtain ⟨rfl, e⟩ := y
  refine ⟨rfl, ?_⟩
  have hl : i < xs.length := by simpa using hi
  rw [List.getElem?_map, List.getElem?_eq_getElem hl] at e
  have e' : g xs[i] = x := Option.some.inj e
  rw [← e', List.getD_eq_getElem?_getD, List.getElem?_eq_getElem hl]
  rfl
theorem r_isiS {K : PySem.W.Frag} {H : Hp} {Q : VK} {z : Str} (q : Q (.bl true) H) : rIsi K [.str z, .ty "str"] H Q := ⟨_, _, .type "str", _, _, rfl, .ty _, .base (.str z), kit_ty (by decide +kernel), q⟩
theorem cutV_take (xs : List V) (n : Nat) : cutV xs none (some (n : Int)) = xs.take n := by
  unfold cutV
  rw [HT.sIx_none, HT.sIx_nat]
  simp only [List.drop_zero, Nat.sub_zero]
  by_cases h : n ≤ xs.length
  · rw [Nat.min_eq_left h]
  · rw [Nat.min_eq_right (by omega), List.take_length, List.take_of_length_le (by omega)]
theorem decI {a b : Int} : decide (V.int a = V.int b) = decide (a = b) := by
  by_cases h : a = b
  · rw [h]; simp
  · rw [decide_eq_false h, decide_eq_false fun z => h (V.int.inj z)]
theorem decS {a b : Str} : decide (V.str a = V.str b) = decide (a = b) := by
  by_cases h : a = b
  · rw [h]; simp
  · rw [decide_eq_false h, decide_eq_false fun z => h (V.str.inj z)]
/-- a list of truths made by a comprehension -/
theorem given_bl {α : Type} (xs : List α) (d : α) (p : α → Bool) : Evl.given xs.length (fun _ => true) (fun i => V.bl (p (xs.getD i d))) = (xs.map p).map V.bl := by
  rw [given_map xs d (fun x => V.bl (p x)), List.map_map]
  rfl
theorem given_int {α : Type} (xs : List α) (d : α) (p : α → Int) : Evl.given xs.length (fun _ => true) (fun i => V.int (p (xs.getD i d))) = (xs.map p).map V.int := by
  rw [given_map xs d (fun x => V.int (p x)), List.map_map]
  rfl
theorem all_id {α : Type} (xs : List α) (p : α → Bool) : (xs.map p).all id = xs.all p := by
  rw [List.all_map]
  rfl
def optV : Option Int → V
  | none => .non
  | some i => .int i
theorem strEq {a b : Str} (h : V.str a = V.str b) : a = b := V.str.inj h
theorem strNe {a b : Str} (h : ¬ V.str a = V.str b) : ¬ a = b := fun z => h (by rw [z])
theorem intEq {a b : Int} (h : V.int a = V.int b) : a = b := V.int.inj h
theorem intNe {a b : Int} (h : ¬ V.int a = V.int b) : ¬ a = b := fun z => h (by rw [z])
theorem r_iteS2 {a b : Str} {A B : Prop} (h1 : a = b → A) (h2 : ¬ a = b → B) : if decide (V.str a = V.str b) = true then A else B := r_ite2 (fun h => h1 (strEq h)) (fun h => h2 (strNe h))
theorem r_iteI2 {a b : Int} {A B : Prop} (h1 : a = b → A) (h2 : ¬ a = b → B) : if decide (V.int a = V.int b) = true then A else B := r_ite2 (fun h => h1 (intEq h)) (fun h => h2 (intNe h))
theorem r_iteB {b : Bool} {A B : Prop} (h1 : b = true → A) (h2 : b = false → B) : if b = true then A else B := by
  cases b
  · exact iteF (h2 rfl)
  · exact iteT (h1 rfl)
theorem r_iteBN {b : Bool} {A B : Prop} (h1 : b = false → A) (h2 : b = true → B) : if (!b) = true then A else B := by
  cases b
  · exact iteT (h1 rfl)
  · exact iteF (h2 rfl)
theorem val_to {Q : VK} {v v' : V} {H : Hp} (z : Q v H) (e : v = v') : Q v' H := e ▸ z
theorem r_isiO {K : PySem.W.Frag} {H : Hp} {Q : VK} {o : Option Int} (q : Q (.bl false) H) : rIsi K [optV o, .ty "bool"] H Q := by
  cases o with
  | none => exact ⟨_, _, .type "NoneType", _, _, rfl, .ty _, .base .non, kit_ty (by decide +kernel), q⟩
  | some i => exact ⟨_, _, .type "int", _, _, rfl, .ty _, .base (.int i), kit_ty (by decide +kernel), q⟩
theorem r_neO {H : Hp} {Q : VK} {o : Option Int} (q : Q (.bl false) H) : rNe (optV o) (optV o) H Q := by
  refine ⟨by cases o <;> rfl, ?_⟩
  rw [decide_eq_true rfl]
  exact q
theorem r_isNone {B : Prop} (q : B) : V.non = V.non ∧ B := ⟨rfl, q⟩
theorem r_neB {H : Hp} {Q : VK} {b : Bool} (q : Q (.bl false) H) : rNe (.bl b) (.bl b) H Q := by
  refine ⟨rfl, ?_⟩
  rw [decide_eq_true rfl]
  exact q
theorem putF_le (f : Str) (v : V) : ∀ fs : List (Str × V), (putF f v fs).length ≤ fs.length + 1
  | [] => Nat.le_refl _
  | (g, x) :: r => by
    unfold putF
    split
    · simp
    · have := putF_le f v r
      simp only [List.length_cons]
      omega
theorem putF_lt {f : Str} {v : V} {fs : List (Str × V)} {n m : Nat} (h : fs.length + (n + 1) < m) : (putF f v fs).length + n < m := by
  have := putF_le f v fs
  omega
theorem putF_lt0 {f : Str} {v : V} {fs : List (Str × V)} {m : Nat} (h : fs.length + 1 < m) : (putF f v fs).length < m := putF_lt (n := 0) h
theorem sz_lit {n : Nat} (h : n ≤ 1000) : n ≤ sizeLine := Nat.le_of_lt (small1000 h)
end KB

/-! KG: own layer: defs called while no repr is under way (A.guards = some []); repr of data. -/
namespace KG
open PySem PySem.Spec PyProof.Rows L2 KB
abbrev Free (A : Around) : Prop := A.guards = some []
theorem free_deeper {A : Around} (g : Free A) (env : Env) : Free (A.deeper env) := g
/-- as FnOk, asked only where no repr is under way -/
structure FnG (P : Program) (w : World) (K : PySem.W.Frag) (mg : Str → Option Value) (base : Heap) (CX : CXT) (k : Nat) (f : Addr) (fd : FuncData) (ps : List Str) (sp : Sp) : Prop where
  size : ∀ xs h Z W, sp xs h Z W → xs.length = ps.length
  go : ∀ (A : Around), Free A → ∀ (out : List Env) (st : Shared) (h : Hp) (ar : Args) (ws : List Value) (xs : List V) (Z : VK) (W : XK), Room k A → Env0 P w K mg base A out st h → BindsTo st fd ar (ps.zip ws) → Vals xs ws → sp xs h Z W →
    codeAny (model P w) A (.call (.ref f) ar) (CR CX out P w h st Z W) st
theorem FnG.of {P : Program} {w : World} {K : PySem.W.Frag} {mg : Str → Option Value} {base : Heap} {CX : CXT} {k : Nat} {f : Addr} {fd : FuncData} {ps : List Str} {sp : Sp} (F : FnOk P w K mg base CX k f fd ps sp) : FnG P w K mg base CX k f fd ps sp :=
  ⟨F.len, fun A _ => F.run A⟩
section
variable {P : Program} {w : World} {K : PySem.W.Frag} {mg : Str → Option Value} {base : Heap} {CX : CXT}
theorem fnG_body {k : Nat} {f : Addr} {nm ql : Str} {pr : Arguments} {bd : List Stmt} {sc : Scope} {v1 v2 v3 v4 cv v5 v6 : Value} {a1 a2 : Option Addr} {slots : Array (Option Value)} {N ps : List Str} {sp : Sp}
    (look : K.lookup f = some ⟨v6, a2, .func (PySem.W.fnOf nm ql pr bd sc v1 v2 v3 v4 a1 cv v5), slots⟩) (code : PySem.W.codeIn K cv ql = true) (S : FnScope N ps sc) (size : ∀ xs h Z W, sp xs h Z W → xs.length = ps.length)
    (body : ∀ (A : Around) (out : List Env) (st : Shared) (h : Hp) (xs : List V) (Z : VK) (W : XK), Room k (A.deeper (envOfC ql sc st.heap.objs.size f cv)) → Free A → sp xs h Z W →
      ∃ t, PSs (cxOf CX P w K mg base N ql sc f cv A out st h W) bd t ∧ t { nx := fun _ h' => Z .non h', rt := Z } (start N xs) h) :
    FnG P w K mg base CX (k + 1) f (PySem.W.fnOf nm ql pr bd sc v1 v2 v3 v4 a1 cv v5) ps sp := by
  refine ⟨size, fun A fr out st h ar ws xs Z W room env bind vals pre => ?_⟩
  have kin : K.In st.heap := env.mod.kin.keeps fun b o q => (env.bs b o q).1
  have nolim : st.heap.NoLimit := env.mod.nolimit.keeps fun b o q => (env.bs b o q).1
  have kinds : ∀ y ∈ ps.zip ws, sc.names.lookup y.1 = some .local ∨ (sc.names.lookup y.1 = some .cell ∧ ((cellsFrom (st.heap.objs.size + 1) sc.names []).lookup y.1).isSome = true) := by
    intro y hy
    obtain ⟨n, v⟩ := y
    cases S.par n (List.of_mem_zip hy).1 with
    | inl z => exact .inl z
    | inr z => exact .inr ⟨z, PySem.W.cellsFrom_some _ _ _ (.inl z)⟩
  refine codeAny_call_function room.depth (kin _ _ look) rfl S.co S.gen rfl (PySem.W.codeRec_of kin code) (bind _ _ _ _ ?_)
  refine wpAny_newFunctionEnv_cells S.kind kinds fun en he st1 inc => ?_
  subst he
  refine ⟨nolim.keeps inc.toInCall.keep, codeAny_func ?_⟩
  obtain ⟨t, drv, rdg⟩ := body A out st h xs Z W (room.deeper _) fr pre
  have inv : Inv (cxOf CX P w K mg base N ql sc f cv A out st h W) [] (start N xs) h st1 := inv_start S room.hd env (size _ _ _ _ pre) vals inc
  refine wpAny_mono (drv.run [] st1 (start N xs) h _ inv rdg) (fun flow st2 res => ?_) fun _ _ z => z
  cases flow with
  | ret u => exact let ⟨v, _, h2, J, rel, z⟩ := res; ⟨v, h2, J.os, J.bare, J.base, J.hok, rel, z⟩
  | next => exact let ⟨_, h2, J, z⟩ := res; ⟨.non, h2, J.os, J.bare, J.base, J.hok, rfl, z⟩
  | brk => exact (let ⟨_, _, _, z⟩ := res; z : False).elim
  | cont => exact (let ⟨_, _, _, z⟩ := res; z : False).elim
/-- the rule for a def of the text, nothing raised out of it -/
theorem fun_okG {x ql : Str} {stm : Stmt} {f : Addr} {fd : FuncData} {N ps : List Str} {k : Nat} {sp : Sp} (F : Fun K x ql stm f fd) (S : FnScope N ps (defScope stm)) (size : ∀ xs h Z W, sp xs h Z W → xs.length = ps.length)
    (body : ∀ (cv : Value) (A : Around) (out : List Env) (st : Shared) (h : Hp) (xs : List V) (Z : VK) (W : XK), Room k (A.deeper (envOfC ql (defScope stm) st.heap.objs.size f cv)) → Free A → sp xs h Z W →
      ∃ t, PSs (cxOf CX0 P w K mg base N ql (defScope stm) f cv A out st h W).nox (defBody stm) t ∧ t { nx := fun _ h' => Z .non h', rt := Z } (start N xs) h) : FnG P w K mg base CX0 (k + 1) f fd ps sp := by
  obtain ⟨c1, c2, c3, c4, c5, c6, cv, c8, c9, rfl, look, code⟩ := F.ex
  refine fnG_body look code S size fun A out st h xs Z W room fr pre => ?_
  obtain ⟨t, drv, rdg⟩ := body cv A out st h xs Z W room fr pre
  exact ⟨t, drv.nox, rdg⟩
end
/-! ### calls -/
section
variable {X : Cx} {CX : CXT}
theorem runG {k : Nat} {f : Addr} {fd : FuncData} {ps : List Str} {sp : Sp} {E : XK} {dv : List V} {dw : List Value} {pins : List (Addr × Obj)} {σ : L2.St} {h : Hp} {st : Shared} {Z : VK} {ws : List Value} {xs : List V} (F : FnG X.prog X.w X.K X.mg X.base CX k f fd ps sp) (fr : Free X.A) (room : Room k X.A)
    (bind : Binds X.K fd ps dw) (dr : Vals dv dw) (pass : Passes CX X E) (inv : Inv X pins σ h st) (rel : Vals xs ws) (pre : sp (xs ++ dv) h Z E) : wpAny (model X.prog X.w) X.A (call (.ref f) ws) (EP X pins σ Z) X.xe st := by
  have rel2 := rel.append dr
  have size : (ws ++ dw).length = ps.length := rel2.length.symm.trans (F.size _ _ _ _ pre)
  refine wpAny_call (codeAny_mono (F.go X.A fr X.stack st h ⟨ws, []⟩ _ _ Z E room inv.env0 (bind st ws inv.kIn size) rel2 pre) fun res st2 z => ?_)
  match res, z with
  | .error e, z => exact pass pins σ h st e st2 inv z
  | .ok (.ret u), z => exact inv.after z
  | .ok .next, z => exact z.elim
  | .ok .brk, z => exact z.elim
  | .ok .cont, z => exact z.elim
structure CalleeG (P : Program) (w : World) (K : PySem.W.Frag) (mg : Str → Option Value) (base : Heap) (CX : CXT) (k : Nat) (x : Str) (ps : List Str) (sp : Sp) : Prop where
  ex : ∃ (f : Addr) (fd : FuncData), FnG P w K mg base CX k f fd ps sp ∧ mg x = some (.ref f) ∧ PySem.W.keepIn K (.ref f) = true ∧ Binds K fd ps []
theorem pe_callG {k : Nat} {x : Str} {ps : List Str} {sp : Sp} {E : XK} {e : Expr} {es : List Expr} {p pos : Pos} {t : TA} (c : CalleeG X.prog X.w X.K X.mg X.base CX k x ps sp) (fr : Free X.A) (room : Room k X.A) (gl : Gl X x) (pass : Passes CX X E) (ha : PA X (e :: es) t)
    (d1 : (x == ("__debug__" : Str)) = false := by decide) (d2 : starEach (e :: es) X.env = (false, eval e X.env) :: starEach es X.env := by rfl) (d3 : (backTo pos (starEach es X.env)).any (·.1) = false := by rfl) :
    PE X (.Call (.Name x p) (e :: es) [] pos) (tCall sp [] E t) := by
  obtain ⟨f, fd, F, look, keep, bind⟩ := c.ex
  refine ⟨fun pins st σ h Z inv pre => wpAny_Call_Name_kw (ld_glob inv gl look ?_ d1)⟩
  refine PySem.W.callWith_K (h₀ := X.base) inv.ok.mod.kin keep (thn (ha.run pos pins st σ h _ inv pre) fun ws st1 res => ?_) d2 d3
  obtain ⟨xs, h1, inv1, rel, z⟩ := res
  exact ⟨inv1.kIn, runG F fr room bind .nil pass inv1 rel z⟩
end
/-! ### repr of data -/
section
variable {P : Program} {w : World} {A : Around} {E : Value → Shared → Prop} {s : Shared} {Z : Value → Shared → Prop}
theorem repr_slot {v : Value} {T id : String} (hu : A.units + 2 < cLine) (ty : s.TypeIs v T) (slot : SlotG T "__repr__" id)
    (h : wpAny (model P w) A.in1 (callSpecialIfBound? v (Str.ofString "__repr__")) (fun r st => ∃ (y : Str) (u : Tok), r = some (.str y u) ∧ Z (.str y u) st) E s) : wpAny (model P w) A (call (.builtin "repr") [v]) Z E s := by
  refine (Calls.call_function_entry F.kind_repr F.plain_repr F.entry_repr (F.args_repr1 _) ?_); unfold Builtin.«repr»
  refine (wpAny_bind (m := oneArg "repr" _) (wpAny_pure ?_))
  refine (wpAny_bind (wpAny_cRoomFor (show A.units + 1 < cLine by omega) ?_))
  refine (wpAny_bind (wpAny_specialOf (name := Str.ofString "__repr__") ty slot.lookup ?_))
  refine (wpAny_bind (m := callSpecialIfBound? v (Str.ofString "__repr__")) (wpAny_mono h (fun r st z => ?_) fun _ _ z => z))
  obtain ⟨y, u, rfl, z⟩ := z
  refine (wpAny_bind (wpAny_isInstance (T := "str") (b := true) rfl isSubtype_str_str ?_))
  exact (wpAny_pure ⟨.str y u, rfl, z⟩)
theorem repr_data {v : Value} {d : PyData} {as : List Addr} (r : Reads s.heap v d as) (ok : d.showable = true) (nod : d.hasDict = false) (sz : d.shown.length ≤ sizeLine) (fr : Free A) (hu : A.units + d.depth + 3 < cLine)
    (q : ∀ h' u tk, (∀ b o, s.heap.get? b = some o → h'.get? b = some o) → Z (.str d.shown u) { s with heap := h', toks := tk }) : wpAny (model P w) A (call (.builtin "repr") [v]) Z E s := by
  have nosys : d.hasDict = true → sysModules ∉ as := fun z => by rw [nod] at z; cases z
  cases r with
  | none =>
    simp only [PyData.shown] at q
    exact PySem.P.repr_of_none (q s.heap _ _ fun _ _ e => e)
  | bool b =>
    simp only [PyData.shown] at q
    exact PySem.P.repr_of_bool (q s.heap _ _ fun _ _ e => e)
  | int i t =>
    simp only [PyData.shown] at q
    exact PySem.P.repr_of_int (by simpa [PyData.showable] using ok) (q s.heap _ _ fun _ _ e => e)
  | str x t =>
    simp only [PyData.shown] at q sz
    exact PySem.P.repr_of_str (q s.heap _ _ fun _ _ e => e) sz
  | @list a o vs n xs as1 h1 h2 h3 h4 =>
    have sz' : (listText (PyData.shownAll xs)).length ≤ sizeLine := by simpa only [PyData.shown] using sz
    have ok' : PyData.showableAll xs = true := by simpa [PyData.showable] using ok
    have whole : Reads s.heap (.ref a) (.list xs) _ := .list h1 h2 h3 h4
    obtain ⟨bs, lim, kids⟩ := ReprAllK.of_readsAll (prog := P) (w := w) h4 ok' (fun z m => nosys (by simpa [PyData.hasDict] using z) (List.mem_cons_of_mem _ m)) (fun t ht => Nat.le_trans (listText_mem_le ht) sz')
    have off : a ∉ bs := not_mem_of_deeper whole (by simp only [PyData.depth]; omega) lim
    simp only [PyData.depth] at hu
    simp only [PyData.shown] at q
    have ty : s.TypeIs (.ref a) "list" := ⟨_, h1, h2⟩
    refine repr_slot (by omega) ty F.slot_list_repr.toG ?_
    obtain ⟨l⟩ := vs
    cases l with
    | nil =>
      have h4' : ReadsAll s.heap [] xs _ := h4
      cases h4'
      simp only [PyData.shownAll, listText_nil] at q
      refine (wpAny_callSpecialIfBound?_slot (name := Str.ofString "__repr__") ty F.slot_list_repr (call_list_repr_empty ty h1 h3 ?_))
      exact ⟨_, _, rfl, q s.heap _ _ fun _ _ e => e⟩
    | cons x l =>
      refine (wpAny_callSpecialIfBound?_slot (name := Str.ofString "__repr__") ty F.slot_list_repr (call_list_reprK h1 h2 h3 off (by simpa using kids.length_eq) (fun i y e => kids.item i y (by simpa using e)) fr (fun b _ => Clear.nil b) (show A.units + 1 + _ < cLine by omega) (fun _ _ e => e) (fun h' u tk kp => ?_) sz'))
      exact ⟨_, _, rfl, q h' u tk kp⟩
  | @tuple a o vs n xs as1 h1 h2 h3 h4 =>
    have sz' : (tupleText (PyData.shownAll xs)).length ≤ sizeLine := by simpa only [PyData.shown] using sz
    have ok' : PyData.showableAll xs = true := by simpa [PyData.showable] using ok
    have whole : Reads s.heap (.ref a) (.tuple xs) _ := .tuple h1 h2 h3 h4
    obtain ⟨bs, lim, kids⟩ := ReprAllK.of_readsAll (prog := P) (w := w) h4 ok' (fun z m => nosys (by simpa [PyData.hasDict] using z) m) (fun t ht => Nat.le_trans (tupleText_mem_le ht) sz')
    have off : a ∉ bs := not_mem_of_deeper whole (by simp only [PyData.depth]; omega) lim
    simp only [PyData.depth] at hu
    simp only [PyData.shown] at q
    have ty : s.TypeIs (.ref a) "tuple" := ⟨_, h1, h2⟩
    refine repr_slot (by omega) ty F.slot_tuple_repr ?_
    refine (wpAny_callSpecialIfBound?_slotG (name := Str.ofString "__repr__") ty F.slot_tuple_repr (call_tuple_reprK h1 h2 h3 off kids fr (fun b _ => Clear.nil b) (show A.units + 1 + _ < cLine by omega) (fun _ _ e => e) (fun h' u tk kp => ?_) sz'))
    exact ⟨_, _, rfl, q h' u tk kp⟩
  | dict => simp [PyData.hasDict] at nod
end
section
variable {X : Cx}
theorem vals_one {x : V} {us : List Value} (r : Vals [x] us) : ∃ u, us = [u] ∧ RelV x u := by
  cases r with
  | cons h t => cases t; exact ⟨_, rfl, h⟩
def rRepr (K : PySem.W.Frag) : List V → Hp → VK → Prop := fun xs H Q => ∃ (v : V) (d : PyData), xs = [v] ∧ Dp K H v d ∧ d.showable = true ∧ d.hasDict = false ∧ d.depth ≤ 60 ∧ d.shown.length ≤ sizeLine ∧ Q (.str d.shown) H
theorem call_reprD {k : Nat} (fr : Free X.A) (room : Room k X.A) : CallR X (.builtin "repr") (rRepr X.K) := by
  intro pins st σ h xs us Z inv rel pre
  obtain ⟨v, d, rfl, dp, ok, nod, deep, sz, z⟩ := pre
  obtain ⟨u, rfl, rv⟩ := vals_one rel
  obtain ⟨as, rd⟩ := Dp.reads inv d v u dp rv
  refine repr_data rd ok nod sz fr (by have := room.un; omega) fun h' t tk kp => ?_
  exact ⟨.str d.shown, h, inv.kept kp, ⟨t, rfl⟩, z⟩
end
/-! ### the law's end -/
theorem law_G {P : Program} {w : World} {K : PySem.W.Frag} {mg bm : Str → Option Value} {k : Nat} {fa a : Addr} {fd : FuncData} {x : Str} {sp : Sp} {st : Shared} {us : List Value} {ns : List Int}
    (kin : K.In st.heap) (gl : st.heap.Ns mainGlobals mg) (bl : st.heap.Ns builtinsNs bm) (bb : ∀ y : Str, y ≠ "__name__" → bm y = bootBuiltins y) (nolim : st.heap.NoLimit) (nogen : st.gens = #[])
    (at_ : st.heap.get? a = some { cls := .type "list", data := .seq us.toArray }) (allInt : IntsAre us ns) (few : ns.length ≤ sizeLine) (room : Room k callerA)
    (F : ∀ base : Heap, K.In base → base.Ns mainGlobals mg → FnG P w K mg base CX0 k fa fd [x] sp) (bind : ∀ (s : Shared) (u : Value), BindsTo s fd ⟨[u], []⟩ [(x, u)])
    (pre : ∀ H : Hp, SqL K H a (ns.map V.int) → sp [.ref a] H (fun v _ => v = .bl true) fun _ _ _ => False) :
    codeAny (model P w) callerA (.call (.ref fa) ⟨[.ref a], []⟩) (fun r s2 => r = .ok (.ret (.bool true)) ∧ OldK st.heap s2.heap ∧ s2.os = st.os ∧ AllBare s2.gens) st := by
  have main : ∀ H : Hp, (∀ b, H b = none ∨ ∃ o ys, H b = some (.frz o (.lst ys))) → SqL K H a (ns.map V.int) → HOk P w H st.heap → (∀ b, H b ≠ none → b = a) → (H a ≠ none → K.lookup a = none) →
      codeAny (model P w) callerA (.call (.ref fa) ⟨[.ref a], []⟩) (fun r s2 => r = .ok (.ret (.bool true)) ∧ OldK st.heap s2.heap ∧ s2.os = st.os ∧ AllBare s2.gens) st := by
    intro H only sq hok isA noK
    have free_of : ∀ {b : Addr} {o : Obj}, st.heap.get? b = some o → (∀ ys m, o.data ≠ .seq ys m) → H b = none := by
      intro b o e nd
      cases q : H b with
      | none => rfl
      | some z =>
        have eb := isA b (by rw [q]; simp)
        rw [eb, at_] at e
        exact absurd (congrArg Obj.data (Option.some.inj e)).symm (nd _ _)
    have kb : K.In (hidT st.heap H) := by
      intro b o e
      refine hidT_get (kin b o e) ?_
      cases q : H b with
      | none => rfl
      | some z =>
        have eb := isA b (by rw [q]; simp)
        rw [eb] at e q
        rw [noK (by rw [q]; simp)] at e
        cases e
    have ns_of : ∀ {b : Addr} {m : Str → Option Value}, st.heap.Ns b m → (hidT st.heap H).Ns b m := by
      intro b m h
      obtain ⟨o, es, ep, e, d, r⟩ := h
      exact ⟨o, es, ep, hidT_get e (free_of e (fun ys n z => by rw [d] at z; cases z)), d, r⟩
    have hm : Mod K mg (hidT st.heap H) := ⟨kb, ns_of gl, ⟨bm, ns_of bl, bb⟩, by obtain ⟨mc, z1, z2⟩ := nolim; exact ⟨mc, ns_of z1, z2⟩⟩
    have env : Env0 P w K mg (hidT st.heap H) callerA [] st H := ⟨rfl, hm, fun b o e => of_hidT e, Nat.le_of_eq (hidT_size _ _), trivial, fun b z => (List.not_mem_nil z).elim, hok, .of_eq nogen⟩
    refine codeAny_mono ((F _ kb (ns_of gl)).go callerA rfl [] st H ⟨[.ref a], []⟩ [.ref a] [.ref a] _ _ room env (bind st (.ref a)) (.cons rfl .nil) (pre H sq)) fun res s2 z => ?_
    match res, z with
    | .error e, z => exact z.elim
    | .ok .next, z => exact z.elim
    | .ok .brk, z => exact z.elim
    | .ok .cont, z => exact z.elim
    | .ok (.ret u), z =>
      obtain ⟨v, H2, z1, z2, un, hok2, rel, rfl⟩ := z
      obtain rfl : u = Value.bool true := rel
      refine ⟨rfl, OldK.of_keep fun b o e => ?_, z1, z2⟩
      cases q : H b with
      | none => exact un.keep b o e q (fun y => List.not_mem_nil y) (fun y => List.not_mem_nil y)
      | some y =>
        rcases only b with y1 | ⟨o1, ys, y1⟩
        · rw [q] at y1; cases y1
        · have y2 := (hok b _ y1).1
          have y3 := (hok2 b _ (un.frzs b o1 _ y1)).1
          rw [e] at y2
          rw [Option.some.inj y2]
          exact y3
  have vals := vals_ints allInt
  have lens := allInt.length
  cases look : K.lookup a with
  | some o =>
    have e := kin a o look
    rw [at_] at e
    obtain rfl := Option.some.inj e
    exact main (fun _ => none) (fun _ => .inl rfl) (.inr ⟨_, us.toArray, _, look, rfl, rfl, rfl, by rw [List.size_toArray, lens]; exact few, by simpa using vals⟩) (fun _ _ z => nomatch z) (fun _ z => (z rfl).elim) (fun z => (z rfl).elim)
  | none =>
    refine main (upd (fun _ => none) a (.frz { cls := .type "list", data := .seq us.toArray } (.lst (ns.map V.int)))) (fun b => ?_) (.inl (.inr ⟨_, upd_same⟩)) (fun b y z => ?_) (fun b z => ?_) fun _ => look
    · by_cases eb : b = a
      · rw [eb, upd_same]; exact .inr ⟨_, _, rfl⟩
      · rw [upd_ne eb]; exact .inl rfl
    · by_cases eb : b = a
      · subst eb
        rw [upd_same] at z
        obtain rfl := Option.some.inj z
        exact ⟨at_, by rw [List.length_map]; exact few, us, _, vals, at_⟩
      · rw [upd_ne eb] at z; cases z
    · by_cases eb : b = a
      · exact eb
      · exact absurd (upd_ne eb) z
/-- the goal that the head leaves, from the law's own promise -/
theorem walkG {l : PySem.W.OpenLaw} {n k : Nat} {q : Program} {loose : List Str} {XP : (Str → Option Value) → Heap → Prop} {YP : World → Heap → Prop} {d : DefRec} {K : Params → PySem.W.Frag} {sp : World → Sp} {x : Str}
    (hn : l.most = some n) (n2 : n ≤ sizeLine) (nodef : d.params.defaults = []) (room : Room k callerA) (hY : ∀ (w : World) (h : Heap), YP w h → (K w.params).In h)
    (F : ∀ (w : World) (mg : Str → Option Value) (fa : Addr) (h : Heap), (K w.params).In h → h.Ns mainGlobals mg → mg d.name = some (.ref fa) →
      ∃ fd : FuncData, (∀ (s : Shared) (u : Value), BindsTo s fd ⟨[u], []⟩ [(x, u)]) ∧ ∀ base : Heap, (K w.params).In base → base.Ns mainGlobals mg → FnG l.prog w (K w.params) mg base CX0 k fa fd [x] (sp w))
    (pre : ∀ (w : World) (H : Hp) (a : Addr) (ns : List Int), ns.length ≤ n → SqL (K w.params) H a (ns.map V.int) → sp w [.ref a] H (fun v _ => v = .bl true) fun _ _ _ => False) :
    PySem.W.WalkO q loose XP YP l.row.toRowW d [] (fun f vs => PySem.call f vs) := by
  refine Att.attach_call hn nodef fun w s0 st mg bm fa o pm cd doc a us ns G Y ho hd hcd hmg hobj allInt size nogen => ?_
  obtain ⟨fd, bind, hF⟩ := F w mg fa _ (hY w _ Y) G.T.g hmg
  exact law_G (hY w _ Y) G.T.g G.T.b G.T.builtins G.T.nolimit nogen hobj allInt (Nat.le_trans size n2) room hF bind fun H sq => pre w H a ns size sq
end KG

/-! KO: own objects: methods called by keywords, own ==, != by own ==, str by own __str__. -/
namespace KO
open PySem PySem.Spec PyProof.Rows L2 KB
section
variable {X : Cx}
/-- a def run in another Around, nothing raised out of it -/
theorem run0 {A' : Around} {k : Nat} {f : Addr} {fd : FuncData} {ps : List Str} {sp : Sp} {pins : List (Addr × Obj)} {σ : L2.St} {h : Hp} {st : Shared} {Z : VK} {ws : List Value} {xs : List V} {E' : Value → Shared → Prop} (F : FnOk X.prog X.w X.K X.mg X.base CX0 k f fd ps sp) (room : Room k A')
    (env : Env0 X.prog X.w X.K X.mg X.base A' X.stack st h) (bind : Binds X.K fd ps []) (inv : Inv X pins σ h st) (rel : Vals xs ws) (pre : sp xs h Z E0) : wpAny (model X.prog X.w) A' (call (.ref f) ws) (EP X pins σ Z) E' st := by
  have size : (ws ++ []).length = ps.length := by rw [List.append_nil, ← rel.length]; exact F.len _ _ _ _ pre
  have bd := bind st ws inv.kIn size
  rw [List.append_nil] at bd
  refine wpAny_call (codeAny_mono (F.run A' X.stack st h ⟨ws, []⟩ _ _ Z E0 room env bd rel pre) fun res st2 z => ?_)
  match res, z with
  | .error e, z => exact z.elim
  | .ok (.ret u), z => exact inv.after z
  | .ok .next, z => exact z.elim
  | .ok .brk, z => exact z.elim
  | .ok .cont, z => exact z.elim
theorem inst_of {pins : List (Addr × Obj)} {σ : L2.St} {h : Hp} {st : Shared} {a C dx : Addr} {fs : List (Str × V)} (inv : Inv X pins σ h st) (e : h a = some (.ins C dx fs)) : ∃ od, PySem.W.InstAt st.heap a (PySem.W.instObj C dx) C (some od) := by
  obtain ⟨mA, O, _⟩ := ins_get inv.hok e
  obtain ⟨od, J, _⟩ := O.look
  exact ⟨od, J⟩
/-! ### own == -/
def rEqOwn (K : PySem.W.Frag) (C : Addr) (sp : Sp) : R2 := fun x y H Q => ∃ a dx fs b C' dy gs, x = .ref a ∧ y = .ref b ∧ H a = some (.ins C dx fs) ∧ H b = some (.ins C' dy gs) ∧ PySem.W.notFirst K C (.ref C') = true ∧ sp [x, y] H Q E0
theorem op_eqOwn {C g : Addr} {fd : FuncData} {ps : List Str} {sp : Sp} {n : Nat} (hs : PySem.W.findIn X.K (.ref C) "__eq__" = some (some (.ref g))) (hf : PySem.W.isFn X.K (.ref g) = true) (F : FnOk X.prog X.w X.K X.mg X.base CX0 n g fd ps sp) (bind : Binds X.K fd ps [])
    (room : Room n X.A) : OpR X (compareOp .Eq) (rEqOwn X.K C sp) := by
  intro pins st σ h x y v u Z inv rx ry pre
  obtain ⟨a, dx, fs, b, C', dy, gs, rfl, rfl, ha, hb, nf, z⟩ := pre
  obtain rfl : v = Value.ref a := rx
  obtain rfl : u = Value.ref b := ry
  obtain ⟨od, J⟩ := inst_of inv ha
  obtain ⟨od', J'⟩ := inst_of inv hb
  obtain ⟨m, hF⟩ := inv.fr
  rw [show compareOp .Eq (.ref a) (.ref b) = richCompare .Eq (.ref a) (.ref b) from rfl]
  refine PySem.W.cmp_K (op := .Eq) (tb := .ref C') room.units0 hF inv.ok.mod.kin J J'.type nf hs hf ?_
  refine wpAny_mono (run0 (E' := X.xe) (xs := [.ref a, .ref b]) F room inv.env0 bind inv (.cons rfl (.cons rfl .nil)) z) (fun w s2 r => ?_) fun _ _ z => z
  obtain ⟨z', h2, inv2, rz, qz⟩ := r
  exact SlX.cmpback rz ⟨z', h2, inv2, rz, qz⟩
/-! ### != by own == -/
/-- what the text's class must be for it -/
structure NeCls (K : PySem.W.Frag) (C g : Addr) : Prop where
  ex : ∃ (nm q : Str) (N : Addr) (bs : List Value) (hd : Bool) (sn : List Str) (sub : List Value) (ab : Bool) (col : Option Bool) (dd : Option Addr) (k0 k1 k2 k3 k5 : Option Value) (nid : String),
    K.lookup C = some (excClassObj nm q C N bs [.type "object"] hd sn sub ab col dd k0 k1 k2 k3 k5 nid) ∧ PySem.W.nsOkIn K N = true ∧ PySem.W.nsIn K N "__eq__" = some (some (.ref g)) ∧ PySem.W.nsIn K N "__ne__" = some none
  fn : ∃ o : Obj, K.lookup g = some o ∧ o.cls = .type "function"
theorem ns_val {K : PySem.W.Frag} {h : Heap} {N : Addr} {m : Str → Option Value} {x : Str} {v : Value} (kin : K.In h) (G : h.Ns N m) (e : PySem.W.nsIn K N x = some (some v)) : m x = some v := by
  obtain ⟨o, es, ep, e1, e2, _, e3⟩ := G
  unfold PySem.W.nsIn at e
  split at e
  · rename_i q
    have z := kin _ _ q
    rw [e1] at z
    cases z
    cases e2
    split at e
    · rename_i w
      rw [← e3]
      unfold nsFind findBy
      rw [← Array.find?_toList, w]
      simpa using e
    · split at e <;> cases e
  · cases e
theorem NeCls.at {K : PySem.W.Frag} {C g a dx : Addr} {h : Heap} (c : NeCls K C g) (kin : K.In h) (ha : h.get? a = some (PySem.W.instObj C dx)) : h.OwnEqNoNe a C g "object" [.type "object"] := by
  obtain ⟨nm, q, N, bs, hd, sn, sub, ab, col, dd, k0, k1, k2, k3, k5, nid, e1, e2, e3, e4⟩ := c.ex
  obtain ⟨o, e5, e6⟩ := c.fn
  have hN : h.Ns N (h.nsMap N) := .of_isNs (PySem.W.isNs_of_in kin e2)
  exact ⟨_, o, nm, q, N, bs, hd, sn, sub, ab, col, dd, k0, k1, k2, k3, k5, nid, h.nsMap N, _, ha, rfl, kin _ _ e1, hN, ns_val kin hN e3, kin _ _ e5, e6, F.cmp_object.mro, F.cmp_object.eq.lookup, PySem.W.ns_none_of kin hN e4⟩
def rNeOwn (C : Addr) (sp : Sp) : R2 := fun x y H Q => ∃ a dx fs b dy gs, x = .ref a ∧ y = .ref b ∧ H a = some (.ins C dx fs) ∧ H b = some (.ins C dy gs) ∧ sp [x, y] H (fun v H' => ∃ c, v = .bl c ∧ Q (.bl (!c)) H') E0
theorem op_neOwn {C g : Addr} {fd : FuncData} {ps : List Str} {sp : Sp} {n : Nat} (c : NeCls X.K C g) (F : FnOk X.prog X.w X.K X.mg X.base CX0 n g fd ps sp) (bind : Binds X.K fd ps []) (room : Room (n + 1) X.A) : OpR X (compareOp .NotEq) (rNeOwn C sp) := by
  intro pins st σ h x y v u Z inv rx ry pre
  obtain ⟨a, dx, fs, b, dy, gs, rfl, rfl, ha, hb, z⟩ := pre
  obtain rfl : v = Value.ref a := rx
  obtain rfl : u = Value.ref b := ry
  obtain ⟨_, _, _, ga, _⟩ := inv.hok a _ ha
  obtain ⟨_, _, _, gb, _⟩ := inv.hok b _ hb
  have un := room.un
  refine compareOp_ne_ownEq (h := st.heap) (g := st.gens) (d := st.drawn) (t := st.toks) (os := st.os) PySem.F.cmp_object (c.at inv.kIn ga) gb rfl (by omega) ?_
  refine wpAny_mono (run0 (E' := X.xe) (xs := [.ref a, .ref b]) F room.in1 inv.env0.in1 bind inv (.cons rfl (.cons rfl .nil)) z) (fun w s2 r => ?_) fun _ _ z => z
  obtain ⟨v', h2, inv2, rz, cc, rfl, q2⟩ := r
  obtain rfl : w = Value.bool cc := rz
  exact ⟨cc, rfl, ⟨.bl (!cc), h2, inv2, rfl, q2⟩⟩
/-! ### str(o) by own __str__ -/
def rStrOwn (C : Addr) (sp : Sp) : List V → Hp → VK → Prop := fun xs H Q => ∃ a dx fs, xs = [.ref a] ∧ H a = some (.ins C dx fs) ∧ sp [.ref a] H (fun v H' => ∃ t, v = .str t ∧ Q (.str t) H') E0
theorem call_strOwn {C g : Addr} {fd : FuncData} {ps : List Str} {sp : Sp} {n : Nat} (hs : PySem.W.findIn X.K (.ref C) "__str__" = some (some (.ref g))) (hf : PySem.W.isFn X.K (.ref g) = true) (F : FnOk X.prog X.w X.K X.mg X.base CX0 n g fd ps sp) (bind : Binds X.K fd ps [])
    (room : Room (n + 2) X.A) : CallR X (.type "str") (rStrOwn C sp) := by
  intro pins st σ h xs us Z inv rel pre
  obtain ⟨a, dx, fs, rfl, ha, z⟩ := pre
  obtain ⟨u, rfl, ru⟩ : ∃ u, us = [u] ∧ RelV (.ref a) u := by
    cases rel with
    | cons e t => cases t; exact ⟨_, rfl, e⟩
  obtain rfl : u = Value.ref a := ru
  obtain ⟨od, J⟩ := inst_of inv ha
  have un := room.un
  refine PySem.W.kso_call (show X.A.units + 1 + 1 < cLine by omega) inv.kIn J hs hf ?_
  refine wpAny_mono (run0 (E' := X.xe) (xs := [.ref a]) F room.in1.in1 inv.env0.in1.in1 bind inv (.cons rfl .nil) z) (fun w s2 r => ?_) fun _ _ z => z
  obtain ⟨v', h2, inv2, rz, t, rfl, q2⟩ := r
  obtain ⟨tk, rfl⟩ : ∃ tk, w = Value.str t tk := rz
  exact ⟨.str t, h2, inv2, ⟨tk, rfl⟩, q2⟩
/-! ### o.m(.., k = v, ..) -/
structure CalleeMK (P : Program) (w : World) (K : PySem.W.Frag) (mg : Str → Option Value) (base : Heap) (k : Nat) (C : Addr) (m : Str) (ps : List Str) (sp : Sp) (n : Nat) (ks : List Str) (gV : List V → List V → List V) : Prop where
  ex : ∃ (f : Addr) (fd : FuncData) (g : List Value → List Value → List Value), FnOk P w K mg base CX0 k f fd ps sp ∧ Meth K C m f ∧ KBn K fd ps (n + 1) ks g gV
  cl : Cls K C
def tMethK0 (C : Addr) (m : Str) (n : Nat) (sp : Sp) (gV : List V → List V → List V) (ta : TE) (tk : TA) : TE := fun σ H Q => ta σ H fun x H1 => ∃ a dx fs, x = .ref a ∧ H1 a = some (.ins C dx fs) ∧ fs.lookup m = none ∧ tk σ H1 fun zs H2 => zs.length = n ∧ sp (gV [.ref a] zs) H2 Q E0
theorem pe_methK0 {pl : Sem Bool} {k : Nat} {C : Addr} {m : Str} {ps ks : List Str} {sp : Sp} {gV : List V → List V → List V} {o : Expr} {kws : List Keyword} {apos pos : Pos} {ta : TE} {tk : TA} (c : CalleeMK X.prog X.w X.K X.mg X.base k C m ps sp 0 ks gV) (ho : PE X o ta) (room : Room k X.A) (hkw : PK X kws tk)
    (d1 : (backToKw pos (keywordEach kws X.env)).all (·.1.isSome) = true := by rfl) (d2 : (backToKw pos (keywordEach kws X.env)).filterMap (·.1) = ks := by rfl) (d3 : ((backTo pos (starEach [] X.env)).any (·.1) || (backToKw pos (keywordEach kws X.env)).any (·.1.isNone)) = false := by rfl)
    (d4 : eval (.Call (.Attribute o m apos) [] kws pos) X.env = (do
      let ov ← eval o X.env
      standAt apos.atName
      let (f, first) ← holding [ov] (getMethod ov m pl)
      callWith pos f first (backTo pos (starEach [] X.env)) (backToKw pos (keywordEach kws X.env))) := by rfl) :
    PE X (.Call (.Attribute o m apos) [] kws pos) (tMethK0 C m ks.length sp gV ta tk) := by
  obtain ⟨f, fd, g, F, hm, hb⟩ := c.ex
  refine ⟨fun pins st σ h Z inv pre => PySem.W.methodCall_KW (pl := pl) (thn (ho.run pins st σ h _ inv pre) fun u s1 r => ?_) d4⟩
  obtain ⟨x, h1, inv1, rx, a, dx, fs, rfl, ea, no, z⟩ := r
  obtain rfl : u = Value.ref a := rx
  refine getmeth_ok inv1 ea c.cl hm no (PySem.W.callWith_KW0 (first := [.ref a]) (h₀ := X.base) inv.ok.mod.kin hm.kp d1 (thn (hkw.run pos pins s1 σ h1 _ inv1 z) fun ws s2 r => ?_) d3)
  obtain ⟨zs, h2, inv2, rel, l2, z2⟩ := r
  refine ⟨inv2.kIn, ?_⟩
  rw [d2]
  exact run_fnN (us := [.ref a]) (vs := [.ref a]) F room hb pass0 inv2 (.cons rfl .nil) rel rfl l2 z2
theorem r_methK0 {σ : L2.St} {H : Hp} {Q : VK} {C : Addr} {m : Str} {n : Nat} {sp : Sp} {gV : List V → List V → List V} {ta : TE} {tk : TA}
    (q : ta σ H fun x H1 => ∃ a dx fs, x = .ref a ∧ H1 a = some (.ins C dx fs) ∧ fs.lookup m = none ∧ tk σ H1 fun zs H2 => zs.length = n ∧ sp (gV [.ref a] zs) H2 Q E0) : tMethK0 C m n sp gV ta tk σ H Q := q
/-! ### an item of a dict of the text -/
theorem ix_kd {d : Addr} {es : Array DictEntry} {n : Nat} (D : KDict X.K X.w d es n) : IxR X (fun x y H Q => ∃ (z : Str) (u0 : Value) (v0 : V), x = .ref d ∧ y = .str z ∧ PySem.W.nsIn X.K d z = some (some u0) ∧ RelV v0 u0 ∧ Q v0 H) := by
  intro value slice pins st σ h x y v u Z inv rx ry pre hs
  have pre' := pre
  obtain ⟨z, u0, v0, rfl, rfl, e, r, q⟩ := pre'
  obtain rfl : v = Value.ref d := rx
  have ty : st.TypeIs (.ref d) "dict" := ⟨_, inv.kIn _ _ D.at_, rfl⟩
  exact tail_any ty PySem.F.slot_dict_getitem.lookup (op_item_kd D pins st σ h (.ref d) (.str z) _ u Z inv rfl ry pre) hs
theorem r_joined {σ : L2.St} {H : Hp} {te : TE} {ts : List TE} {acc : Str} {QJ : Str → Hp → Prop} (q : te σ H fun x H1 => ∃ y : Str, x = .str y ∧ (acc ++ y).length ≤ sizeLine ∧ tJs ts (acc ++ y) σ H1 QJ) : tJs (te :: ts) acc σ H QJ := q
theorem r_joined0 {σ : L2.St} {H : Hp} {acc : Str} {QJ : Str → Hp → Prop} (q : QJ acc H) : tJs [] acc σ H QJ := q
theorem r_fmt {σ : L2.St} {H : Hp} {te : TE} {Q : VK} (q : te σ H fun x H1 => (∃ y : Str, x = .str y ∧ y.length ≤ sizeLine ∧ Q (.str y) H1) ∨ ∃ i : Int, x = .int i ∧ i.natAbs.log2 < 1920 ∧ Q (.str (toString i)) H1) : tFmt te σ H Q := q
theorem r_fmtS {H : Hp} {Q : VK} {z : Str} {B : Prop} (h : z.length ≤ sizeLine) (q : Q (.str z) H) : (∃ y : Str, V.str z = .str y ∧ y.length ≤ sizeLine ∧ Q (.str y) H) ∨ B := .inl ⟨z, rfl, h, q⟩
/-- C(k = v, ..) -/
structure CalleeIK (P : Program) (w : World) (K : PySem.W.Frag) (mg : Str → Option Value) (base : Heap) (CX : CXT) (k : Nat) (C : Addr) (x : Str) (ps : List Str) (sp : Sp) (ks : List Str) (gV : List V → List V → List V) : Prop where
  ex : ∃ (f : Addr) (fd : FuncData) (g : List Value → List Value → List Value), FnOk P w K mg base CX k f fd ps sp ∧ Mk K C f ∧ mg x = some (.ref C) ∧ KBn K fd ps 1 ks g gV
theorem pe_makeKC {CX : CXT} {k : Nat} {C : Addr} {x : Str} {ps ks : List Str} {sp : Sp} {gV : List V → List V → List V} {E : XK} {kws : List Keyword} {p pos : Pos} {tk : TA} (c : CalleeIK X.prog X.w X.K X.mg X.base CX k C x ps sp ks gV) (room : Room (k + 1) X.A) (gl : Gl X x) (pass : Passes CX X E) (hkw : PK X kws tk)
    (d1 : (backToKw pos (keywordEach kws X.env)).all (·.1.isSome) = true := by rfl) (d2 : (backToKw pos (keywordEach kws X.env)).filterMap (·.1) = ks := by rfl) (d3 : (x == ("__debug__" : Str)) = false := by decide)
    (d4 : ((backTo pos (starEach [] X.env)).any (·.1) || (backToKw pos (keywordEach kws X.env)).any (·.1.isNone)) = false := by rfl) :
    PE X (.Call (.Name x p) [] kws pos) (tMakeK C 0 ks.length sp gV E tNil tk) := by
  obtain ⟨f, fd, g, F, M, hm, hb⟩ := c.ex
  exact pe_makeK0 M F room gl hm hb pass hkw d1 d2 d3 d4
theorem r_makeK {σ : L2.St} {H : Hp} {Q : VK} {C : Addr} {n m : Nat} {sp : Sp} {gV : List V → List V → List V} {E : XK} {t tk : TA} (q : t σ H fun vs H1 => tk σ H1 fun zs H2 => vs.length = n ∧ zs.length = m ∧ ∀ x dx, H2 x = none → H2 dx = none → dx ≠ x →
    sp (gV (.ref x :: vs) zs) (upd (upd H2 dx (.own x)) x (.ins C dx [])) (fun v H3 => v = .non ∧ Q (.ref x) H3) E) : tMakeK C n m sp gV E t tk σ H Q := q
/-- a special method of the text's class; the class for != -/
structure OwnM (P : Program) (w : World) (K : PySem.W.Frag) (mg : Str → Option Value) (base : Heap) (k : Nat) (C : Addr) (m : Str) (ps : List Str) (sp : Sp) : Prop where
  ex : ∃ (g : Addr) (fd : FuncData), PySem.W.findIn K (.ref C) m = some (some (.ref g)) ∧ PySem.W.isFn K (.ref g) = true ∧ FnOk P w K mg base CX0 k g fd ps sp ∧ Binds K fd ps []
structure OwnNe (P : Program) (w : World) (K : PySem.W.Frag) (mg : Str → Option Value) (base : Heap) (k : Nat) (C : Addr) (ps : List Str) (sp : Sp) : Prop where
  ex : ∃ (g : Addr) (fd : FuncData), NeCls K C g ∧ FnOk P w K mg base CX0 k g fd ps sp ∧ Binds K fd ps []
theorem call_strO {C : Addr} {ps : List Str} {sp : Sp} {n : Nat} (c : OwnM X.prog X.w X.K X.mg X.base n C "__str__" ps sp) (room : Room (n + 2) X.A) : CallR X (.type "str") (rStrOwn C sp) := by
  obtain ⟨g, fd, h1, h2, F, b⟩ := c.ex
  exact call_strOwn h1 h2 F b room
theorem op_eqO {C : Addr} {ps : List Str} {sp : Sp} {n : Nat} (c : OwnM X.prog X.w X.K X.mg X.base n C "__eq__" ps sp) (room : Room n X.A) : OpR X (compareOp .Eq) (rEqOwn X.K C sp) := by
  obtain ⟨g, fd, h1, h2, F, b⟩ := c.ex
  exact op_eqOwn h1 h2 F b room
theorem op_neO {C : Addr} {ps : List Str} {sp : Sp} {n : Nat} (c : OwnNe X.prog X.w X.K X.mg X.base n C ps sp) (room : Room (n + 1) X.A) : OpR X (compareOp .NotEq) (rNeOwn C sp) := by
  obtain ⟨g, fd, h1, F, b⟩ := c.ex
  exact op_neOwn h1 F b room
end
end KO

/-! KX: own error classes over ValueError whose __init__ says super().__init__(text) and sets one field. -/
namespace KX
open PySem PySem.Spec PyProof.Rows L2 KB
/-- the frame of such an __init__ -/
def supCx (CXx : CXT) (P : Program) (w : World) (K : PySem.W.Frag) (mg : Str → Option Value) (base : Heap) (N : List Str) (ql : Str) (sc : Scope) (f cda cc : Addr) (A : Around) (out : List Env) (st : Shared) (h : Hp) (W : XK) : Cx where
  prog := P
  w := w
  K := K
  mg := mg
  base := base
  A := A.deeper (PySem.W.ksEnv ql sc st.heap.objs.size f (.ref cda) cc)
  N := N
  s_0 := st
  H_0 := h
  env := PySem.W.ksEnv ql sc st.heap.objs.size f (.ref cda) cc
  outer := out
  stack := PySem.W.ksEnv ql sc st.heap.objs.size f (.ref cda) cc :: out
  ex := []
  fn := fun _ => false
  calm := true
  pn := []
  xe := fun e s' => wpAny (model P w) (A.deeper (PySem.W.ksEnv ql sc st.heap.objs.size f (.ref cda) cc)) (leaving (PySem.W.ksEnv ql sc st.heap.objs.size f (.ref cda) cc) e) (fun _ s'' => CXx out h st W e s'') (fun e' s'' => CXx out h st W e' s'') s'
theorem cls_only {y : Str} {cc c : Addr} (e : ([(("__class__" : Str), cc)] : List (Str × Addr)).lookup y = some c) : y = "__class__" ∧ c = cc := by
  simp only [List.lookup] at e
  split at e
  · rename_i z
    exact ⟨by simpa using z, (Option.some.inj e).symm⟩
  · cases e
theorem inv_sup {CXx : CXT} {P : Program} {w : World} {K : PySem.W.Frag} {mg : Str → Option Value} {base : Heap} {vn ql : Str} {sc : Scope} {f cda cc : Addr} {A : Around} {out : List Env} {st : Shared} {h : Hp} {W : XK} {u1 u2 : Value} {v1 v2 : V} {h1 : Heap} {tk : Nat} {cl : Value} {cld : Option Addr} {csl : Array (Option Value)} {cv : Option Value}
    (e0 : Env0 P w K mg base A out st h) (hd : A.handled = none) (kind : sc.kind = .function) (nocell : ∀ y ∈ sc.names, y.2 ≠ .cell) (nofree : ∀ y, sc.names.lookup y = some .free → y = "__class__") (l1 : sc.names.lookup ("self" : Str) = some .local) (l2 : sc.names.lookup vn = some .local) (nv : vn ≠ "self")
    (hc : K.lookup cc = some ⟨cl, cld, .cell cv, csl⟩) (hns : h1.Ns st.heap.objs.size (fun y => ([(("self" : Str), u1), (vn, u2)] : List (Str × Value)).reverse.lookup y)) (kp : ∀ b o, st.heap.get? b = some o → h1.get? b = some o) (r1 : RelV v1 u1) (r2 : RelV v2 u2) :
    Inv (supCx CXx P w K mg base ["self", vn] ql sc f cda cc A out st h W) [] [some v1, some v2] h { st with heap := h1, toks := tk } := by
  have noA : ∀ b : Addr, b ∉ (supCx CXx P w K mg base ["self", vn] ql sc f cda cc A out st h W).ex := fun b z => absurd (show b ∈ ([] : List Addr) from z) (by simp)
  have ccb := e0.bs _ _ (e0.mod.kin _ _ hc)
  refine ⟨⟨e0.mod, kind, rfl, rfl, Nat.le_refl _, fun y z c a b => (cls_only a).1.trans (cls_only b).1.symm, fun y hy => ?_, fun y c z _ => ?_, fun _ => hd, Around.frames_deeper e0.frames, .inr ⟨rfl, rfl⟩, fun b z => absurd z (noA b), e0.bs, e0.bsz, fun b _ _ => noA b, fun b z => absurd z (noA b), e0.funs, e0.frf⟩,
    rfl, e0.bare, Un.kept kp, ⟨_, hns, fun i y v a b c => ?_⟩, fun y c e => ?_, e0.hok.fresh (Nat.le_refl _), fun y c e => ?_, fun p hp => absurd (show p ∈ ([] : List (Addr × Obj)) from hp) (by simp), e0.hok.kept kp, rfl⟩
  · have hy : sc.names.lookup y = some .cell ∨ sc.names.lookup y = some .free := hy
    rcases hy with hy | hy
    · exact absurd rfl (nocell _ (PySem.mem_of_lookup hy))
    · rw [nofree y hy]
      exact ⟨cc, rfl⟩
  · have z : false = true := z
    cases z
  · match i, a, b with
    | 0, a, b =>
      obtain rfl : ("self" : Str) = y := Option.some.inj a
      obtain rfl : v1 = v := Option.some.inj (Option.some.inj b)
      refine ⟨u1, r1, .inl ⟨l1, ?_⟩⟩
      have nv' : ¬ (("self" : Str) == vn) = true := by simpa using fun z : ("self" : Str) = vn => nv z.symm
      simp [List.lookup, nv']
    | 1, a, b =>
      obtain rfl : vn = y := Option.some.inj a
      obtain rfl : v2 = v := Option.some.inj (Option.some.inj b)
      exact ⟨u2, r2, .inl ⟨l2, by simp [List.lookup]⟩⟩
    | i + 2, a, b => cases a
  · obtain ⟨rfl, rfl⟩ := cls_only e
    exact ⟨cv, _, kp _ _ ccb.1, rfl⟩
  · obtain ⟨rfl, rfl⟩ := cls_only e
    exact ccb.2
section
variable {prog : Program} {w : World} {A : Around} {E : Value → Shared → Prop} {h : Heap} {g : Array GenState} {d : Drawn} {t : Nat} {os : OsState}
variable {nm q : Str} {C N : Addr} {bs bm : List Value} {hdct : Bool} {sn : List Str} {sub : List Value} {ab : Bool} {col : Option Bool} {dd : Option Addr} {k0 k1 k2 k3 k5 : Option Value}
theorem call_mw {u e t0 : Addr} {rest : List Value} {Q : Value → Shared → Prop}
    (hC : h.get? C = some (excClassObj nm q C N bs bm hdct sn sub ab col dd k0 k1 k2 k3 k5 "ValueError.__new__")) (he : h.get? e = some (HandSPX.excO C t0)) (hu : h.get? u = some (PySem.W.kxs_mw "ValueError.__init__" e)) (hrest : rest.length ≤ sizeLine)
    (hq : ∀ h' t1, (∀ b o, b ≠ e → h.get? b = some o → h'.get? b = some o) → h'.get? e = some (HandSPX.excO C t1) → Q .none ⟨h', g, d, t, os⟩) :
    wpAny (model prog w) A (call (.ref u) rest) Q E ⟨h, g, d, t, os⟩ := by
  refine (wpAny_call (codeAny_of_tree ?_)); show wpAny _ A.in1 (callAny (.ref u) ⟨rest, []⟩) _ _ _; simp only [callAny]
  refine (wpAny_bind (wpAny_load hu ?_))
  simp only [PySem.W.kxs_mw, show (Value.type "method-wrapper" == Value.type "method" || Value.type "method-wrapper" == Value.type "builtin_function_or_method" || Value.type "method-wrapper" == Value.type "method-wrapper") = true by decide, if_true]
  refine (W.KFB.if_so (by decide) ?_)
  refine (wpAny_bind (ESX.check_bound F.excBase_ValueError hC he rfl ?_))
  refine (wpAny_bind (wpAny_pure (wpAny_pure ?_)))
  refine (⟨Code.quiet_builtin _ (by decide +kernel), codeAny_builtin F.excBase_ValueError.initEntry ?_⟩)
  rw [Around.under_plainId F.excBase_ValueError.init.plain _]; wp_walk
  refine hq _ h.objs.size (fun b o n e1 => ?_) ?_
  · exact (Heap.get?_update_other _ _ (Ne.symm n)).trans (Heap.get?_push_of_some _ e1)
  · exact Heap.get?_update_self _ (Heap.get?_push_of_some _ he) rfl
end
/-- what the text says of such an __init__ of the class at C -/
structure SupFn (K : PySem.W.Frag) (P : Program) (f : Addr) (fd : FuncData) (C : Addr) (vn fld : Str) : Prop where
  ex : ∃ (ql : Str) (pr : Arguments) (sc : Scope) (dV kV doc pm ct oc ccl cl : Value) (an od cdd cld : Option Addr) (osl ccs csl : Array (Option Value)) (cda cc : Addr) (vs : Array Value) (file : Str) (tf : Tok) (p0 p1 p2 p3 p4 p5 q1 q2 q3 q4 : Pos) (msg : Str) (j : Nat) (ar : Arg) (pl : Sem Bool),
    fd = PySem.W.ksFn "__init__" ql pr [.Expr (.Call (.Attribute (.Call (.Name "super" p0) [] [] p1) "__init__" p2) [.Constant (.str msg) j p3] [] p4) p5, .Assign [.Attribute (.Name "self" q1) fld q2] (.Name vn q3) q4] sc dV kV doc pm an (.ref cda) ct cc ∧
    K.lookup f = some ⟨oc, od, .func fd, osl⟩ ∧ PySem.W.codeIn K (.ref cda) ql = true ∧ K.lookup cda = some ⟨ccl, cdd, .fields vs, ccs⟩ ∧ vs[2]? = some (.str file tf) ∧ ((P.main.file : Str) == file) = true ∧
    K.lookup cc = some ⟨cl, cld, .cell (some (.ref C)), csl⟩ ∧ (pr.posonlyargs ++ pr.args).head? = some ar ∧ ar.arg = "self" ∧
    sc.kind = .function ∧ sc.isCoroutine = false ∧ sc.isGenerator = false ∧ (∀ y ∈ sc.names, y.2 ≠ .cell) ∧ (∀ y, sc.names.lookup y = some .free → y = "__class__") ∧ sc.names.lookup ("super" : Str) = some .globalImplicit ∧ sc.names.lookup ("__class__" : Str) = some .free ∧
    sc.names.lookup ("self" : Str) = some .local ∧ sc.names.lookup vn = some .local ∧
    (∀ en : Env, eval (.Call (.Attribute (.Call (.Name "super" p0) [] [] p1) "__init__" p2) [.Constant (.str msg) j p3] [] p4) en = (do
      let ov ← attributeBase (.Call (.Name "super" p0) [] [] p1) "__init__" en (eval (.Call (.Name "super" p0) [] [] p1) en)
      standAt p2.atName
      let (g, first) ← holding [ov] (getMethod ov "__init__" pl)
      callWith p4 g first (backTo p4 (starEach [.Constant (.str msg) j p3] en)) []))
  top : (P.main.scope.names.lookup ("super" : Str)).isSome = false
  nv : vn ≠ "self" ∧ (vn == ("__debug__" : Str)) = false ∧ (vn == ("__classdict__" : Str)) = false
  opq : PySem.W.nsIn K cStatics "thirdparty.any" = some none
  sub : PySem.W.mroIn K C (.ref C) = some true
  ve : PySem.W.mroIn K C (.type "ValueError") = some true
  sup : PySem.W.ks_superIn K C C "__init__" = some (some (.builtin "ValueError.__init__"))
  nof : PySem.W.findIn K (.ref C) fld = some none
def spXI (C : Addr) (fld : Str) : Sp := fun vs H Q _ => ∃ (a : Addr) (v : V), vs = [.ref a, v] ∧ H a = some (exo a C none) ∧ ∀ dx, H dx = none → dx ≠ a → Q .non (upd (upd H dx (exd dx [(fld, v)])) a (exo a C (some dx)))
theorem sup_ok {P : Program} {w : World} {K : PySem.W.Frag} {mg : Str → Option Value} {base : Heap} {k : Nat} {f C : Addr} {fd : FuncData} {vn fld : Str} (S : SupFn K P f fd C vn fld) (T : OexC K C) (hm : mg "super" = none) (hboot : bootBuiltins "super" = some (.type "super")) : FnOk P w K mg base CX0 (k + 1) f fd ["self", vn] (spXI C fld) := by
  refine ⟨fun xs h Z W z => ?_, fun A out st h ar0 ws xs Z W room env bind vals pre => ?_⟩
  · obtain ⟨a, v, rfl, _⟩ := z
    rfl
  obtain ⟨a, v, rfl, ha, q⟩ := pre
  obtain ⟨u1, u2, rfl, r1, r2⟩ := vals2 vals
  obtain ⟨ql, pr, sc, dV, kV, doc, pm, ct, oc, ccl, cl, an, od, cdd, cld, osl, ccs, csl, cda, cc, vs, file, tf, p0, p1, p2, p3, p4, p5, q1, q2, q3, q4, msg, j, ar, pl, rfl, lf, cdf, lcd, hvs, hfile, lcc, hp, har, kind, nco, ngen, nocell, nofree, ks, kc, kself, kvn, hev⟩ := S.ex
  have kin : K.In st.heap := env.mod.kin.keeps fun b o e => (env.bs b o e).1
  have nolim : st.heap.NoLimit := env.mod.nolimit.keeps fun b o e => (env.bs b o e).1
  refine ks_codeAny_call_defAt (binds := [("self", u1), (vn, u2)]) room.depth (kin _ _ lf) rfl nolim (PySem.W.codeRec_of kin cdf) rfl bind nocell (fun y hy => ?_) (fun h1 hns kp => ?_) nco ngen kind
  · simp only [List.mem_cons, List.not_mem_nil, or_false] at hy
    rcases hy with rfl | rfl
    · exact kself
    · exact kvn
  obtain rfl : u1 = Value.ref a := r1
  have I : Inv (supCx CX0 P w K mg base ["self", vn] ql sc f cda cc A out st h W) [] [some (.ref a), some v] h { st with heap := h1, toks := st.toks + 2 } := inv_sup env room.hd kind nocell nofree kself kvn S.nv.1 lcc hns kp rfl r2
  have hi : interactive (PySem.W.ksEnv ql sc st.heap.objs.size f (.ref cda) cc) = false := by
    unfold interactive
    simp [kind]
  refine ks_wpAt_execs_cons (ks_wpAt_Expr_any (env := PySem.W.ksEnv ql sc st.heap.objs.size f (.ref cda) cc) ?_ hi)
  refine ks_wpAt_MethodCall (pl := pl) (env := PySem.W.ksEnv ql sc st.heap.objs.size f (.ref cda) cc) ?_ (hev _)
  have bk := I.bk
  have kin1 : K.In h1 := I.kIn
  obtain ⟨t1, ga⟩ := exo_at I.hok ha
  obtain ⟨nm, qn, N, bs, bm, sn, sub, ab, col, dd, k0, k1, k2, k3, k5, hC, hbm⟩ := T.cls
  have hcl : PySem.W.clsIn K C = some { name := nm, bases := bs, mro := .ref C :: bm, ns := N, qualname := qn, hasDict := true, slotNames := sn, subclasses := sub, abstract := ab, collection := col, hasDel := false } := by unfold PySem.W.clsIn; rw [hC] <;> rfl
  obtain ⟨mb, b1, b2⟩ := env.mod.blt
  have kb : ∀ b o, base.get? b = some o → h1.get? b = some o := fun b o e => kp b o (env.bs b o e).1
  refine ks_wpAt_super_base (env := PySem.W.ksEnv ql sc st.heap.objs.size f (.ref cda) cc) ks kc (by decide) rfl (kin1 _ _ lf) rfl hp rfl (kin1 _ _ lcd) rfl hvs hfile S.top ?_
  refine PySem.W.ks_loadName_global kind ks (Calls.loadGlobal_builtin (env := PySem.W.ksEnv ql sc st.heap.objs.size f (.ref cda) cc) (env.mod.glob.keeps kb) hm (b1.keeps kb) ((b2 "super" (by decide)).trans hboot) ⟨rfl, ?_⟩)
  refine wpAny_loadName_free kind kc rfl ⟨_, kin1 _ _ lcc, rfl⟩ ?_
  rw [har]
  refine wpAny_loadName_local kind kself hns (v := .ref a) ?_ ?_
  · have nv' : ¬ (("self" : Str) == vn) = true := by simpa using fun z : ("self" : Str) = vn => S.nv.1 z.symm
    simp [List.lookup, nv']
  refine ks_wpAny_isType_cls (kin1 _ _ hC) rfl ⟨rfl, ?_⟩
  refine ks_wpAny_call_super (kin1 _ _ hC) rfl ga rfl (fun c z => by cases z) (PySem.W.looks_mroIn kin1 S.sub) (fun h2 e2 kp2 => ?_)
  have kin2 : K.In h2 := kin1.keeps kp2
  have J2 : PySem.W.InstAt h2 a _ C none := ⟨kp2 _ _ ga, rfl, rfl, trivial⟩
  have hsup : PySem.W.alongIn K "__init__" (((Value.ref C :: bm).dropWhile (· != .ref C)).drop 1) = some (some (.builtin "ValueError.__init__")) := by
    have z := S.sup
    unfold PySem.W.ks_superIn at z
    rw [hcl] at z
    exact z
  refine PySem.W.kxs_getMethod PySem.W.kxs_ValueError e2 (PySem.W.looks_opaque kin2 S.opq) (l₀ := Value.ref C :: bm) (fun A Q E s k q => wpAny_bind ((PySem.W.looks_clsIn kin2 hcl) A _ E s k (wpAny_pure q))) rfl kin2 hsup (J2.type.andThen (PySem.W.looks_mroIn kin2 S.ve)) (PySem.W.ks_ne kin2 J2 hcl) (by decide) ?_
  have gu : (h2.push (PySem.W.kxs_mw "ValueError.__init__" a)).get? h2.objs.size = some (PySem.W.kxs_mw "ValueError.__init__" a) := Heap.get?_push_at rfl rfl
  have kp3 : ∀ b o, h1.get? b = some o → (h2.push (PySem.W.kxs_mw "ValueError.__init__" a)).get? b = some o := fun b o e => Heap.get?_push_of_some _ (kp2 _ _ e)
  refine PySem.W.kxs_callWith (i := "ValueError.__init__") (x := a) rfl ?_
  refine Calls.evalArgs_plain (x := eval (.Constant (.str msg) j p3) (PySem.W.ksEnv ql sc st.heap.objs.size f (.ref cda) cc)) (rest := []) ?_
  refine Calls.spliced_cons (Calls.Constant_str (Calls.spliced_nil ?_))
  refine ⟨gu, ?_⟩
  refine call_mw (kp3 _ _ (kin1 _ _ hC)) (kp3 _ _ ga) gu (show 1 ≤ sizeLine by decide) (fun h4 t4 kp4 ga4 => ?_)
  have J0 := (I.kept (t' := 0) kp3).write (t' := st.toks + 2 + 1 + 1) (x := a) (e := a) (o := exo a C none) (by rw [ha]; exact True.intro) (.inl rfl) kp4 ⟨_, ga4⟩ (exo_ok ga4)
  have eu : upd h a (exo a C none) = h := by
    funext b
    by_cases hb : b = a
    · rw [hb, upd_same, ha]
    · rw [upd_ne hb]
  rw [eu] at J0
  have ps : PSs (supCx CX0 P w K mg base ["self", vn] ql sc f cda cc A out st h W) [.Assign [.Attribute (.Name "self" q1) fld q2] (.Name vn q3) q4] _ := pss_one (ps_ost (pv 0 rfl (.inl kself)) (pv 1 rfl (.inl kvn) S.nv.2.1 S.nv.2.2))
  refine wpAt_of_wpAny (wpAny_mono (ps.run [] _ [some (.ref a), some v] h { nx := fun _ h' => Z .non h', rt := Z } J0 ?_) (fun flow s2 res => ?_) fun _ _ z => z)
  · refine ⟨v, rfl, .ref a, rfl, a, C, rfl, T, S.nof, .inl ⟨ha, fun dx ndx nda => ?_⟩⟩
    exact q dx ndx nda
  · cases flow with
    | ret u => exact let ⟨v, _, h2, J, rel, z⟩ := res; ⟨v, h2, J.os, J.bare, J.base, J.hok, rel, z⟩
    | next => exact let ⟨_, h2, J, z⟩ := res; ⟨.non, h2, J.os, J.bare, J.base, J.hok, rfl, z⟩
    | brk => exact (let ⟨_, _, _, z⟩ := res; z : False).elim
    | cont => exact (let ⟨_, _, _, z⟩ := res; z : False).elim
/-! ### an exception kept behind its suite -/
/-- at a: an exception of the class cls, its dict at d -/
def exh (a : Addr) (cls : Value) (d : Option Addr) : HO := .ext fun h => ∃ (o : Obj) (vs : Array Value), h.get? a = some o ∧ Zc cls d o ∧ o.data = .fields vs
theorem exh_at {P : Program} {w : World} {H : Hp} {h : Heap} {a : Addr} {cls : Value} {d : Option Addr} (ok : HOk P w H h) (e : H a = some (exh a cls d)) : ∃ (o : Obj) (vs : Array Value), h.get? a = some o ∧ Zc cls d o ∧ o.data = .fields vs := by
  have z := ok a _ e
  exact z.1
theorem exh_ok {P : Program} {w : World} {H : Hp} {h : Heap} {a : Addr} {cls : Value} {d : Option Addr} {o : Obj} {vs : Array Value} (e : h.get? a = some o) (z : Zc cls d o) (hd : o.data = .fields vs) : ObjOk P w H h a (exh a cls d) :=
  ⟨⟨o, vs, e, z, hd⟩, ⟨o, e⟩, fun h1 h2 ⟨o1, vs1, e1, z1, d1⟩ k => ⟨o1, vs1, k _ e1, z1, d1⟩⟩
/-- an object that was not there at the def's start is followed from now on -/
theorem track {X : Cx} {pins : List (Addr × Obj)} {σ : L2.St} {H : Hp} {s : Shared} {a : Addr} {o : Obj} {vs : Array Value} {cls : Value} {d : Option Addr} (I : Inv X ((a, o) :: pins) σ H s) (z : Zc cls d o) (hd : o.data = .fields vs) (new : X.s_0.heap.get? a = none)
    (nop : ∀ p ∈ X.pn ++ pins, p.1 ≠ a) : Inv X pins σ (upd H a (exh a cls d)) s := by
  obtain ⟨ea, na, nl, nf, _⟩ := I.pin (a, o) (List.mem_append_right _ List.mem_cons_self)
  refine ⟨I.ok, I.os, I.bare, ⟨I.base.keep, I.base.slot, fun b ob e n x => ?_, I.base.there, fun b xs e => ?_, fun b ob u e => ?_, fun b ps e => ?_⟩, I.loc, I.cell, ?_, fun y c e => ?_, fun p hp => ?_, fun b u e => ?_, I.len⟩
  · rw [upd_ne (fun z => by rw [z, new] at e; cases e)]
    exact I.base.free b ob e n x
  · have z := I.base.tups b xs e
    rw [upd_ne (ne_of_none z na)]
    exact z
  · have z := I.base.frzs b ob u e
    rw [upd_ne (ne_of_none z na)]
    exact z
  · obtain ⟨m, z⟩ := I.base.tbls b ps e
    exact ⟨m, by rw [upd_ne (ne_of_none z na)]; exact z⟩
  · rw [upd_ne (Ne.symm nl)]
    exact I.free
  · obtain ⟨v, oc, ec, dc⟩ := I.cell y c e
    rw [upd_ne (fun z => by rw [z, ea] at ec; cases ec; rw [hd] at dc; cases dc)]
    exact I.freeC y c e
  · have hp' : p ∈ X.pn ++ ((a, o) :: pins) := by
      rcases List.mem_append.mp hp with z | z
      · exact List.mem_append_left _ z
      · exact List.mem_append_right _ (List.mem_cons_of_mem _ z)
    obtain ⟨g1, g2, g3, g4, g5⟩ := I.pin p hp'
    exact ⟨g1, by rw [upd_ne (nop p hp)]; exact g2, g3, g4, g5⟩
  · by_cases hb : b = a
    · subst hb
      rw [upd_same] at e
      cases e
      exact exh_ok ea z hd
    · rw [upd_ne hb] at e
      exact (I.hok b u e).stay (fun c v _ k => k) (fun c k => by rw [upd_ne (ne_of_none k na)]; exact k) fun c xs k => by rw [upd_ne (ne_of_none k na)]; exact k
/-- what 'except x as n: ..' wishes, n's object followed behind the suite -/
def wKeep (K : PySem.W.Frag) (c : Value) (i : Nat) (ts : Addr → Value → Option Addr → TS) (Wout : WX) (D : Ends) : WX := fun cls d σ H =>
  ∃ yes, PySem.W.exmOne K cls c = some yes ∧ (yes = true → ∀ a, H a = none → ts a cls d { nx := fun σ' H' => D.nx (σ'.set i none) (upd H' a (exh a cls d)), rt := D.rt, bk := fun _ _ => False, ct := fun _ _ => False } (σ.set i (some (.ref a))) H) ∧ (yes = false → Wout cls d σ H)
section
variable {X : Cx} {x n : Str} {c : Value} {i : Nat} {body suite : List Stmt} {b₀ : Stmt} {np pos pos' : Pos} {tb : WX → TS} {ts : Addr → Value → Option Addr → TS} {Wout : WX}
theorem ps_try_keep (hst : X.stack = X.env :: X.outer) (hfm : X.env.frame = some X.env.locals) (nd : X.N.Nodup) (hix : X.N[i]? = some n) (loc : X.env.kindOf n = some .local) (nam : Names X x c) (tks : Takes X Wout) (hex : X.ex = [])
    (bodyOk : ∀ (W : WX) (pn : List (Addr × Obj)) (xe : Value → Shared → Prop), Takes (X.tr pn xe) W → PassesOwn (model X.prog X.w) X.A X.env xe → PSs (X.tr pn xe) body (tb W))
    (suiteOk : ∀ (a : Addr) (oe : Obj) (cls : Value) (d : Option Addr) (pn : List (Addr × Obj)), Zc cls d oe → (∃ vs, oe.data = .fields vs) → PSs (X.suite a ((a, oe) :: pn)) (b₀ :: suite) (ts a cls d)) :
    PS X (.Try body [.ExceptHandler (some (.Name x np)) (some n) (b₀ :: suite) pos'] [] [] pos) (fun D σ H => tb (wKeep X.K c i ts Wout D) D σ H) := by
  refine ⟨fun pins st σ h D inv rdg => ?_⟩
  have okX := inv.ok
  have fr := okX.frames; rw [hst] at fr
  refine (wpAny_Try_except ?_)
  refine wpAny_mono ((bodyOk (wKeep X.K c i ts Wout D) (X.pn ++ pins) (fun e t1 => wpAny (model X.prog X.w) X.A (noteFrame e X.env) (fun _ t2 => wpAny (model X.prog X.w) X.A (setFlight e none) (fun _ t3 =>
    wpAny (model X.prog X.w) X.A (handleBy e X.env [.ExceptHandler (some (.Name x np)) (some n) (b₀ :: suite) pos']) (SP X pins D) X.xe t3) X.xe t2) X.xe t1) (fun u st' xx => ?_) PassesOwn.looking).run [] st σ h D (inv.toTry _) rdg) (fun flow t1 res => ?_) (fun _ _ z => z)
  · obtain ⟨a, G, tI, pins', σ1, h1, cls, d, rfl, K1, ground, up, sky, na, eos, ags, yes, q1, qy, qn⟩ := xx
    have I1 : Inv X pins σ1 h1 tI := K1.ofTry okX
    have sky1 : Sky G (X.env :: X.outer) a (Zc cls d) X.env.locals st'.heap := hst ▸ sky
    show wpAny (model X.prog X.w) X.A (noteFrame (.ref a) X.env) _ _ _
    refine Sky.land Zc.steady fr hfm sky1 fun hp3 fly3 up3 => ?_
    have I3 : Inv X pins σ1 h1 { st' with heap := hp3 } := I1.landed ground fly3.1 (up.trans up3) eos ags
    obtain ⟨o3, vs3, g3, z3, d3⟩ := fly3.there
    have nfr : a ∉ frs (X.env :: X.outer) := fun m => by
      obtain ⟨_, o', e', no⟩ := fly3.2.2.1.mem m
      rw [g3] at e'
      cases e'
      exact no _ d3
    have nl : a ≠ X.env.locals := fun z => nfr (List.mem_filterMap.mpr ⟨X.env, List.mem_cons_self, by rw [hfm, z]⟩)
    have nf : a ∉ X.fs := fun m => by
      obtain ⟨e, he, e2⟩ := List.mem_filterMap.mp m
      exact nfr (List.mem_filterMap.mpr ⟨e, List.mem_cons_of_mem _ he, e2⟩)
    have freshI : tI.heap.get? a = none := by
      cases e : tI.heap.get? a with
      | none => rfl
      | some o =>
        have := ground a o e (by rw [hst]; exact nfr)
        rw [fly3.2.1] at this
        cases this
    have fresh0 : X.s_0.heap.get? a = none := by
      cases e : X.s_0.heap.get? a with
      | none => rfl
      | some o =>
        obtain ⟨o', e'⟩ := I1.base.there a o e (by rw [hex]; exact List.not_mem_nil)
        rw [freshI] at e'
        cases e'
    have nop : ∀ p ∈ X.pn ++ pins, p.1 ≠ a := fun p hp z => by
      have := (I1.pin p hp).1
      rw [z, freshI] at this
      cases this
    have S3 := I3.suite g3 d3 na nl nf
    refine wpAny_handleBy_cons (codeAny_handlers_test ?_) (by intro z; cases z)
    have ty3 : PySem.W.Looks (model X.prog X.w) hp3 (typeOf (.ref a)) cls := fun A Q E s k z => wpAny_typeOf_ref (k _ _ g3) (by rw [z3.1]; exact z)
    have mt3 := PySem.W.exm_one (M := model X.prog X.w) (I3.kIn) ty3 q1
    have named : ∀ {Q : Value → Shared → Prop} {E : Value → Shared → Prop}, Q c { st' with heap := hp3 } → wpAny (model X.prog X.w) (X.A.mark (some (.ref a))) (eval (.Name x np) X.env) Q E { st' with heap := hp3 } := fun {Q E} z => by
      obtain ⟨n1, n2, n3 | ⟨n3, n4, n5⟩⟩ := nam
      · exact ld_glob (X := X.suite a ((a, o3) :: (X.pn ++ pins))) S3 n1 n3 z n2
      · exact ld_blt (X := X.suite a ((a, o3) :: (X.pn ++ pins))) S3 n1 n3 n4 z n5 n2
    refine named (mt3.here ?_)
    cases yes with
    | true =>
      refine (codeAny_handlers_suite_as ?_)
      refine HandSPX.lands_againZ fly3 fun hp4 fly4 up4 => ?_
      have I4 : Inv X pins σ1 h1 { st' with heap := hp4 } := I1.landed ground fly4.1 ((up.trans up3).trans up4) eos ags
      obtain ⟨o4, vs4, g4, z4, d4⟩ := fly4.there
      have S4 := I4.suite g4 d4 na nl nf
      refine store_ok (X := X.suite a ((a, o4) :: (X.pn ++ pins))) (v := .ref a) S4 nd hix (.inl loc) rfl (fun t5 S5 => ?_) (.inr loc)
      refine wpAny_mono ((suiteOk a o4 cls d (X.pn ++ pins) z4 ⟨_, d4⟩).run [] t5 _ h1 _ S5 (qy rfl a na)) (fun flow t6 res => ?_) (fun _ _ z => z.elim)
      have back : ∀ {σ6 : L2.St} {h6 : Hp}, Inv (X.suite a ((a, o4) :: (X.pn ++ pins))) [] σ6 h6 t6 → Inv X ((a, o4) :: pins) σ6 h6 t6 := fun {σ6 h6} S6 =>
        (S6.unsuite okX : Inv X pins σ6 h6 t6).pins_of fun p hp => by
          rcases List.mem_cons.mp hp with z | z
          · rw [z]; exact S6.pin (a, o4) (List.mem_append_left _ List.mem_cons_self)
          · exact S6.pin p (List.mem_append_left _ (List.mem_cons_of_mem _ (List.mem_append_right _ z)))
      cases flow with
      | next =>
        obtain ⟨σ6, h6, S6, q6⟩ := res
        exact gone_ok (back S6) nd hix loc fun t7 J7 => ⟨_, _, track J7 z4 d4 fresh0 nop, q6⟩
      | brk => exact (let ⟨_, _, _, z⟩ := res; z : False).elim
      | cont => exact (let ⟨_, _, _, z⟩ := res; z : False).elim
      | ret u =>
        obtain ⟨v6, σ6, h6, S6, r6, q6⟩ := res
        exact gone_ok (S6.unsuite okX) nd hix loc fun t7 J7 => ⟨_, _, _, J7, r6, q6⟩
    | false =>
      show wpAny _ X.A (handleBy (.ref a) X.env []) _ _ _
      refine (wpAny_handleBy_nil ?_)
      obtain ⟨j1, j2, j3, oe, vs, T, oT, ts', he, hz, hd, hv1, hr⟩ := id fly3
      unfold PySem.passOn
      refine (wpAny_bind (wpAny_field he hd hv1 ?_)); rw [if_neg (show ¬ ((Value.ref T == Value.none) = true) from by simp)]
      have last : wpAny (model X.prog X.w) X.A (setFlight (.ref a) X.env.frame) (fun _ t4 => wpAny (model X.prog X.w) X.A (throw (.ref a) : Sem Flow) (SP X pins D) X.xe t4) X.xe { st' with heap := hp3 } := by
        rw [hfm]
        refine HandSPX.setFlight_upZ fly3 fun hp4 held4 up4 => wpAny_throw (tks _ _ ?_)
        exact ⟨a, G, tI, pins, σ1, h1, cls, d, rfl, I1, ground, (up.trans up3).trans up4, .inr (.inr (by rw [hst]; exact held4)), na, eos, ags, qn rfl⟩
      first | exact wpAny_bind (wpAny_pure (wpAny_bind last)) | exact wpAny_bind last
  · cases flow with
    | next => exact let ⟨σ2, h2, J, q⟩ := res; wpAny_execs_nil ⟨σ2, h2, J.ofTry okX, q⟩
    | brk => exact let ⟨σ2, h2, J, q⟩ := res; ⟨σ2, h2, J.ofTry okX, q⟩
    | cont => exact let ⟨σ2, h2, J, q⟩ := res; ⟨σ2, h2, J.ofTry okX, q⟩
    | ret u => exact let ⟨v, σ2, h2, J, r, q⟩ := res; ⟨v, σ2, h2, J.ofTry okX, r, q⟩
end
/-! ### what is asked of a kept exception -/
def tXh (K : PySem.W.Frag) (f : Str) (te : TE) : TE := fun σ H Q => te σ H fun x H1 => ∃ (a C dd : Addr) (fs : List (Str × V)) (v : V), x = .ref a ∧ H1 a = some (exh a (.ref C) (some dd)) ∧ H1 dd = some (.xd fs) ∧ XfC K C ∧ PySem.W.findIn K (.ref C) f = some none ∧ fs.lookup f = some v ∧ Q v H1
theorem pe_xh {X : Cx} {e : Expr} {te : TE} {pos : Pos} {n : Str} (he : PE X e te) (hb : attributeBase e n X.env (eval e X.env) = eval e X.env := by rfl) : PE X (.Attribute e n pos) (tXh X.K n te) := by
  refine ⟨fun pins st σ h Q inv rdg => attr_of hb (thn (he.run pins st σ h _ inv rdg) fun u s1 res => ?_)⟩
  obtain ⟨x, h1, I1, rx, a, C, dd, fs, v, rfl, ea, ed, T, no, look, q⟩ := res
  obtain rfl : u = Value.ref a := rx
  obtain ⟨o, vs, g, z, hd⟩ := exh_at I1.hok ea
  obtain ⟨mA, ns, rel⟩ := (I1.hok dd _ ed : ObjOk X.prog X.w h1 s1.heap dd (.xd fs))
  obtain ⟨od, ho, hl⟩ := lookIn_ns ns
  obtain ⟨u, hu, ru⟩ := RelO.some_of (v := v) (o := mA n) (look ▸ rel n)
  have J : PySem.W.InstAt s1.heap a o C (some od) := ⟨g, z.1, by unfold PySem.W.notCls; rw [hd] <;> rfl, z.2.symm ▸ ho⟩
  exact HandSPX.exc_get I1.kIn J T.ga T.gg T.exC (PySem.W.findObj_own T.hdC no rfl (by rw [hl, hu])) (handed_of ru) ⟨v, h1, I1.tok _, ru, q⟩
/-- isinstance(y, c), y a kept exception with a dict -/
def rIsH (K : PySem.W.Frag) : List V → Hp → VK → Prop := fun xs H Q => ∃ (a C dd : Addr) (fs : List (Str × V)) (c : V) (u : Value) (b : Bool), xs = [.ref a, c] ∧ H a = some (exh a (.ref C) (some dd)) ∧ H dd = some (.xd fs) ∧ ExcC K C ∧ ClsV c u ∧ PySem.W.kitOne K (.ref C) u = some b ∧ Q (.bl b) H
theorem call_isH {X : Cx} : CallR X (.builtin "isinstance") (rIsH X.K) := by
  intro pins st σ h xs us Q inv rel pre
  obtain ⟨a, C, dd, fs, c, u, b, rfl, ea, ed, T, k, e, q⟩ := pre
  obtain ⟨w1, w2, rfl, r1, r2⟩ := vals2 rel
  obtain rfl : w1 = Value.ref a := r1
  obtain rfl := k.eq r2
  obtain ⟨o, vs, g, z, hd⟩ := exh_at inv.hok ea
  obtain ⟨mA, ns, rl⟩ := (inv.hok dd _ ed : ObjOk X.prog X.w h st.heap dd (.xd fs))
  obtain ⟨od, ho, hl⟩ := lookIn_ns ns
  have J : PySem.W.InstAt st.heap a o C (some od) := ⟨g, z.1, by unfold PySem.W.notCls; rw [hd] <;> rfl, z.2.symm ▸ ho⟩
  have hcl : (PySem.W.clsIn X.K C).isSome = true := by
    have z := T.hd
    unfold PySem.W.hasDictIn at z
    cases e : PySem.W.clsIn X.K C with
    | none => rw [e] at z; cases z
    | some _ => rfl
  exact PySem.W.kia_one (PySem.W.kitx_exc hcl T.hg T.hk T.hs T.ha T.hn T.ht T.hm) inv.kIn J e (fun z => nomatch z) fun tk => ⟨.bl b, h, inv.tok tk, rfl, q⟩
/-! ### raise C(e) -/
structure ErrMk (P : Program) (w : World) (K : PySem.W.Frag) (mg : Str → Option Value) (base : Heap) (C : Addr) (x fld : Str) : Prop where
  ex : ∃ (fI : Addr) (fd : FuncData) (vn : Str), OexC K C ∧ PySem.W.findIn K (.ref C) "__init__" = some (some (.ref fI)) ∧ PySem.W.typeIn K (.ref fI) = some (.type "function") ∧ FnOk P w K mg base CX0 1 fI fd ["self", vn] (spXI C fld) ∧ Binds K fd ["self", vn] [] ∧ mg x = some (.ref C)
theorem pmkC {X : Cx} {C : Addr} {x fld : Str} {e : Expr} {es : List Expr} {p pos : Pos} {ta : TA} (c : ErrMk X.prog X.w X.K X.mg X.base C x fld) (room : Room 2 X.A) (gl : Gl X x) (ha : PA X (e :: es) ta)
    (d1 : (x == ("__debug__" : Str)) = false := by decide) (d2 : starEach (e :: es) X.env = (false, eval e X.env) :: starEach es X.env := by rfl) (d3 : (backTo pos (starEach es X.env)).any (·.1) = false := by rfl) :
    PMk X (.Call (.Name x p) (e :: es) [] pos) (tMkO C (spXI C fld) [] ta) := by
  obtain ⟨fI, fd, vn, T, i1, i2, F, b, hm⟩ := c.ex
  exact pmk_oex T i1 i2 F room b .nil pass0 gl hm ha d1 d2 d3
theorem r_raiseO {σ : L2.St} {H : Hp} {te : TE} {C : Addr} {fld : Str} {W : XK} (q : te σ H fun v H1 => ∀ (d : Addr) (H' : Hp), Same H1 H' → H' d = some (.xd [(fld, v)]) → W (.ref C) (some d) H') (mono : ∀ (Q1 Q2 : VK), (∀ v H1, Q1 v H1 → Q2 v H1) → te σ H Q1 → te σ H Q2) :
    tMkO C (spXI C fld) [] (tCons te tNil) σ H W := by
  refine mono _ _ (fun v H1 g => ?_) q
  refine ⟨(show 1 ≤ 1000 by decide), fun a na => ⟨a, v, rfl, upd_same, fun dx ndx nda => ?_⟩⟩
  have n1 : H1 dx = none := by
    rw [upd_ne nda] at ndx
    exact ndx
  refine ⟨rfl, dx, [(fld, v)], upd_same, by rw [upd_ne nda]; exact upd_same, n1, g dx _ (fun b o e => ?_) upd_same⟩
  have b1 := ne_of_none e n1
  have b2 := ne_of_none e na
  rw [upd_ne b1, del_ne b2, upd_ne b2, upd_ne b1, upd_ne b2]
  exact e
theorem mono_var {i : Nat} {σ : L2.St} {H : Hp} (Q1 Q2 : VK) (h : ∀ v H1, Q1 v H1 → Q2 v H1) : tVar i σ H Q1 → tVar i σ H Q2 := fun ⟨v, e, q⟩ => ⟨v, e, h _ _ q⟩
end KX

/-! KY: values of many kinds: none, truths, numbers, texts, tuples, lists and dicts of such; repr of a pair, in, isinstance. -/
namespace KY
open PySem PySem.Spec PyProof.Rows L2 KB KG
inductive Sc where
  | non | bl (b : Bool) | int (i : Int) | str (x : Str)
  deriving DecidableEq
def Sc.v : Sc → V
  | .non => .non
  | .bl b => .bl b
  | .int i => .int i
  | .str x => .str x
def Sc.d : Sc → PyData
  | .non => .none
  | .bl b => .bool b
  | .int i => .int i
  | .str x => .str x
inductive Dt where
  | sc (s : Sc) | tup (l : List Sc) | lst (l : List Sc) | dct (l : List (Key × Sc))
def keyD : Key → PyData
  | .inl i => .int i
  | .inr x => .str x
def Dt.d : Dt → PyData
  | .sc s => s.d
  | .tup l => .tuple (l.map Sc.d)
  | .lst l => .list (l.map Sc.d)
  | .dct l => .dict (l.map fun p => (keyD p.1, p.2.d))
def OdAt (H : Hp) (v : V) : Dt → Prop
  | .sc s => v = s.v
  | .tup l => ∃ a, v = .ref a ∧ H a = some (.tup (l.map Sc.v))
  | .lst l => ∃ a, v = .ref a ∧ H a = some (.lst (l.map Sc.v))
  | .dct l => ∃ a, v = .ref a ∧ H a = some (.dK (l.map fun p => (p.1, p.2.v)))
theorem OdAt.to {H H' : Hp} {v : V} {t : Dt} (h : OdAt H v t) (k : ∀ a o, v = .ref a → H a = some o → H' a = some o) : OdAt H' v t := by
  cases t with
  | sc s => exact h
  | tup l => obtain ⟨a, e, g⟩ := h; exact ⟨a, e, k a _ e g⟩
  | lst l => obtain ⟨a, e, g⟩ := h; exact ⟨a, e, k a _ e g⟩
  | dct l => obtain ⟨a, e, g⟩ := h; exact ⟨a, e, k a _ e g⟩
theorem OdAt.same {H H' : Hp} {v : V} {t : Dt} (h : OdAt H v t) (s : Same H H') : OdAt H' v t := h.to fun a o _ e => s a o e
/-- it is no object of a class -/
theorem OdAt.notIns {H : Hp} {t : Dt} {a C dx : Addr} {fs : List (Str × V)} (h : OdAt H (.ref a) t) : H a ≠ some (.ins C dx fs) := by
  intro z
  cases t with
  | sc s => cases s <;> cases (show V.ref a = _ from h)
  | tup l => obtain ⟨b, e, g⟩ := h; cases e; rw [z] at g; cases g
  | lst l => obtain ⟨b, e, g⟩ := h; cases e; rw [z] at g; cases g
  | dct l => obtain ⟨b, e, g⟩ := h; cases e; rw [z] at g; cases g
section
variable {X : Cx} {pins : List (Addr × Obj)} {σ : L2.St} {H : Hp} {st : Shared}
theorem sc_reads {h : Heap} {u : Value} : ∀ s : Sc, RelV s.v u → Reads h u s.d []
  | .non, r => by cases (show u = Value.none from r); exact .none
  | .bl b, r => by cases (show u = Value.bool b from r); exact .bool b
  | .int i, r => by obtain ⟨t, rfl⟩ := (show ∃ t, u = Value.int i t from r); exact .int i t
  | .str x, r => by obtain ⟨t, rfl⟩ := (show ∃ t, u = Value.str x t from r); exact .str x t
theorem scs_reads {h : Heap} : ∀ (l : List Sc) (us : List Value), Vals (l.map Sc.v) us → ReadsAll h us (l.map Sc.d) []
  | [], us, r => by cases r; exact .nil
  | s :: l, us, r => by
    cases r with
    | cons r1 r2 => exact .cons (sc_reads s r1) (scs_reads l _ r2)
theorem dict_reads {P : Program} {w : World} {h : Heap} : ∀ (l : List (Key × Sc)) (vs : List (Key × Value)) (es : List DictEntry), KV (l.map fun p => (p.1, p.2.v)) vs → Pairs (mixKind P w) es vs →
    ReadsAll h (es.map (·.key)) ((l.map fun p => (keyD p.1, p.2.d)).map (·.1)) [] ∧ ReadsAll h (es.map (·.val)) ((l.map fun p => (keyD p.1, p.2.d)).map (·.2)) []
  | [], vs, es, k, p => by
    cases k
    cases p
    exact ⟨.nil, .nil⟩
  | (ky, s) :: l, vs, es, k, p => by
    cases k with
    | cons k1 k2 =>
      cases p with
      | cons p1 p2 p3 =>
        rename_i e es
        obtain ⟨g1, g2⟩ := dict_reads l _ _ k2 p3
        have r2 := k1.2
        rw [← p2] at r2
        refine ⟨?_, .cons (sc_reads s r2) g2⟩
        have e1 := k1.1
        have hk : keyIs ky e.key = true := by
          have z := p1
          rw [← e1] at z
          exact z
        have hr : Reads h e.key (keyD ky) [] := by
          rcases keyIs_shape hk with ⟨i, t, rfl, q⟩ | ⟨x, t, rfl, q⟩
          · rw [q]
            exact .int i t
          · rw [q]
            exact .str x t
        exact .cons hr g1
theorem noD_sc : ∀ s : Sc, s.d.hasDict = false
  | .non => rfl
  | .bl _ => rfl
  | .int _ => rfl
  | .str _ => rfl
theorem noD_scs : ∀ l : List Sc, PyData.hasDictAll (l.map Sc.d) = false
  | [] => by simp only [List.map_nil, PyData.hasDictAll]
  | s :: l => by simp only [List.map_cons, PyData.hasDictAll, noD_sc s, noD_scs l, Bool.or_false]
theorem od_reads {v : V} {u : Value} {t : Dt} (inv : Inv X pins σ H st) (o : OdAt H v t) (r : RelV v u) : ∃ as, Reads st.heap u t.d as ∧ (t.d.hasDict = true → sysModules ∉ as) := by
  cases t with
  | sc s =>
    obtain rfl : v = s.v := o
    exact ⟨_, sc_reads s r, fun _ => List.not_mem_nil⟩
  | tup l =>
    obtain ⟨a, rfl, e⟩ := o
    obtain rfl : u = Value.ref a := r
    obtain ⟨its, rv, ⟨ob, ho, hc, n, hd⟩, _⟩ := inv.tuple (SqT.of e)
    exact ⟨_, .tuple ho hc hd (scs_reads l _ rv), fun _ => List.not_mem_nil⟩
  | lst l =>
    obtain ⟨a, rfl, e⟩ := o
    obtain rfl : u = Value.ref a := r
    obtain ⟨its, rv, ⟨ob, n, ho, hc, _, hd⟩, _⟩ := inv.list (SqL.of e)
    refine ⟨_, .list ho hc hd (scs_reads l _ rv), fun z => ?_⟩
    simp only [Dt.d, PyData.hasDict, noD_scs l] at z
    cases z
  | dct l =>
    obtain ⟨a, rfl, e⟩ := o
    obtain rfl : u = Value.ref a := r
    obtain ⟨_, ns, vs, kv, ob, es, ep, ho, hex, hd, _, prs, _⟩ := dk_of inv.hok e
    obtain ⟨g1, g2⟩ := dict_reads (h := st.heap) l _ _ kv prs
    refine ⟨_, .dict ho hex.1 hd g1 g2, fun _ m => ?_⟩
    have m' : sysModules ∈ [a] := m
    rw [List.mem_singleton] at m'
    rw [← m'] at ns
    simp at ns
end
/-! ### repr of [tag, v] -/
section
variable {P : Program} {w : World} {A : Around} {E : Value → Shared → Prop} {s : Shared} {Z : Value → Shared → Prop}
theorem repr_items {a : Addr} {xs : List PyData} {o : Obj} {vs : Array Value} {n : Nat} {as1 : List Addr} (h1 : s.heap.get? a = some o) (h2 : o.cls = .type "list") (h3 : o.data = .seq vs n) (h4 : ReadsAll s.heap vs.toList xs as1) (ne : vs.toList ≠ []) (ok : PyData.showableAll xs = true) (nosys : PyData.hasDictAll xs = true → sysModules ∉ as1)
    (sz : (PyData.list xs).shown.length ≤ sizeLine) (fr : Free A) (hu : A.units + (PyData.list xs).depth + 3 < cLine)
    (q : ∀ h' u tk, (∀ b o, s.heap.get? b = some o → h'.get? b = some o) → Z (.str (PyData.list xs).shown u) { s with heap := h', toks := tk }) : wpAny (model P w) A (call (.builtin "repr") [.ref a]) Z E s := by
  have sz' : (listText (PyData.shownAll xs)).length ≤ sizeLine := by simpa only [PyData.shown] using sz
  have whole : Reads s.heap (.ref a) (.list xs) _ := .list h1 h2 h3 h4
  obtain ⟨bs, lim, kids⟩ := ReprAllK.of_readsAll (prog := P) (w := w) h4 ok nosys (fun t ht => Nat.le_trans (listText_mem_le ht) sz')
  have off : a ∉ bs := not_mem_of_deeper whole (by simp only [PyData.depth]; omega) lim
  simp only [PyData.depth] at hu
  simp only [PyData.shown] at q
  have ty : s.TypeIs (.ref a) "list" := ⟨_, h1, h2⟩
  refine repr_slot (by omega) ty F.slot_list_repr.toG ?_
  obtain ⟨l⟩ := vs
  cases l with
  | nil => exact absurd rfl ne
  | cons x l =>
    refine (wpAny_callSpecialIfBound?_slot (name := Str.ofString "__repr__") ty F.slot_list_repr (call_list_reprK h1 h2 h3 off (by simpa using kids.length_eq) (fun i y e => kids.item i y (by simpa using e)) fr (fun b _ => Clear.nil b) (show A.units + 1 + _ < cLine by omega) (fun _ _ e => e) (fun h' u tk kp => ?_) sz'))
    exact ⟨_, _, rfl, q h' u tk kp⟩
end
/-- the pair [tag, v] as data -/
def pairD (tag : Str) (t : Dt) : PyData := .list [.str tag, t.d]
structure Fit (tag : Str) (t : Dt) : Prop where
  ok : PyData.showable t.d = true
  deep : (pairD tag t).depth ≤ 60
  sz : (pairD tag t).shown.length ≤ sizeLine
section
variable {X : Cx}
def rReprT : List V → Hp → VK → Prop := fun xs H Q => ∃ (p : Addr) (tag : Str) (v : V) (t : Dt), xs = [.ref p] ∧ H p = some (.lst [.str tag, v]) ∧ OdAt H v t ∧ Fit tag t ∧ Q (.str (pairD tag t).shown) H
theorem call_reprT {k : Nat} (fr : Free X.A) (room : Room k X.A) : CallR X (.builtin "repr") rReprT := by
  intro pins st σ h xs us Z inv rel pre
  obtain ⟨p, tag, v, t, rfl, hp, od, fit, z⟩ := pre
  obtain ⟨u, rfl, rv⟩ := vals_one rel
  obtain rfl : u = Value.ref p := rv
  obtain ⟨its, rl, ⟨ob, n, ho, hc, _, hd⟩, _⟩ := inv.list (SqL.of hp)
  cases rl with
  | cons r1 rl =>
    cases rl with
    | cons r2 rl =>
      cases rl
      obtain ⟨tk, rfl⟩ := (show ∃ tk, _ = Value.str tag tk from r1)
      obtain ⟨as, rd, ns⟩ := od_reads inv od r2
      refine repr_items (xs := [.str tag, t.d]) ho hc hd (.cons (.str tag tk) (.cons rd .nil)) (by simp) ?_ (fun y m => ?_) fit.sz fr (by have := room.un; have := fit.deep; unfold pairD at this; omega) fun h' t1 tk' kp => ?_
      · simp only [PyData.showableAll, PyData.showable, fit.ok, Bool.and_true, Bool.true_and]
      · simp only [PyData.hasDictAll, PyData.hasDict, Bool.or_false, Bool.false_or] at y
        exact ns y (by simpa using m)
      · exact ⟨.str (pairD tag t).shown, h, inv.kept kp, ⟨t1, rfl⟩, z⟩
end
/-! ### a text beside a dict -/
section
open PySem.SeqAt PySem.MeetsSeq PySem.AutoSeq1
theorem str_eq_no_dict (b : Str) (u : Tok) (l : Addr) (c : Value) (es : Array DictEntry) (n : Nat) (dd : Option Addr) (sl : Array (Option Value)) :
    Meets (Builtin.«str.__eq__» ⟨[.str b u, .ref l], []⟩) (fun _ R s => s.heap.get? l = some { cls := c, dict := dd, data := .dict es n, slots := sl } ∧ R (.ok (.ret .notImplemented)) s) :=
  .of_wp fun prog w A R s h => by obtain ⟨hp, g, d, tk, os⟩ := s; obtain ⟨hl, h⟩ := h; wp_walk using wpAny_loadPart' hl, wpAny_load hl; exact ⟨_, rfl, h⟩
theorem dict_eq_no_str (l : Addr) (es : Array DictEntry) (n : Nat) (dd : Option Addr) (sl : Array (Option Value)) (b : Str) (u : Tok) :
    Meets (Builtin.«dict.__eq__» ⟨[.ref l, .str b u], []⟩) (fun _ R s => s.heap.get? l = some { cls := .type "dict", dict := dd, data := .dict es n, slots := sl } ∧ R (.ok (.ret .notImplemented)) s) :=
  .of_wp fun prog w A R s h => by obtain ⟨hp, g, d, tk, os⟩ := s; obtain ⟨hl, h⟩ := h; have f1 := F.sub_str_dict; wp_walk using wpAny_loadPart' hl; exact ⟨_, rfl, h⟩
variable {A : Around} {s : Shared}
theorem eqAt_str_dict {l : Addr} {es : Array DictEntry} {n : Nat} {ob : Obj} (b : Str) (u : Tok) (ho : s.heap.get? l = some ob) (hc : ob.cls = .type "dict") (hd : ob.data = .dict es n) (hu : A.units < cLine) : EqAt A s (.str b u) (.ref l) false := fun prog w E Q h => by
  obtain ⟨cls, dd, data, sl⟩ := ob
  simp only at hc hd
  subst hc hd
  unfold eqBool
  refine wpAny_holding ?_
  refine wpAny_ite_split (fun hab => absurd (eq_of_beq hab) nofun) (fun _ => ?_)
  refine wpAny_bind ?_
  exact rc_eq_decline_or (k := false) (typeIs_str s b u) ⟨_, ho, rfl⟩ (by decide) F.sub_dict_str F.slot_str_eq F.slot_dict_eq_refl
    (fun _ hq => call_meets F.slot_str_eq (typeIs_str s b u) F.entry_str_eq (F.args_str_eq_2 _ _) (str_eq_no_dict b u l (.type "dict") es n dd sl) ⟨ho, hq⟩)
    (fun _ hq => call_meets F.slot_dict_eq_refl ⟨_, ho, rfl⟩ F.entry_dict_eq (F.args_dict_eq_2 _ _) (dict_eq_no_str l es n dd sl b u) ⟨ho, hq⟩)
    (fun _ hq => wpAny_of_eq (rfl : isSame (.str b u) (.ref l) = pure false) hq) (.inr hu) (wpAny_truthy_bool h)
end
/-! ### v in a tuple of texts -/
def Dt.isIn (zs : List Str) : Dt → Bool
  | .sc (.str x) => decide (x ∈ zs)
  | _ => false
theorem strs_of : ∀ (zs : List Str) (us : List Value), Vals (zs.map V.str) us → ∀ u ∈ us, ∃ z tk, u = Value.str z tk
  | [], us, r => by cases r; exact fun u m => absurd m List.not_mem_nil
  | z :: zs, us, r => by
    cases r with
    | cons r1 r2 =>
      intro u m
      rcases List.mem_cons.mp m with rfl | m
      · obtain ⟨t, e⟩ := r1
        exact ⟨z, t, e⟩
      · exact strs_of zs _ r2 u m
theorem inV_no {x : V} (h : ∀ y, eqV (.str y) x = false) : ∀ zs : List Str, inV x (zs.map V.str) = false
  | [] => rfl
  | z :: zs => by
    have := inV_no h zs
    unfold inV at this ⊢
    rw [List.map_cons, List.any_cons, h z, this]
    rfl
section
variable {X : Cx}
def rNotInO (K : PySem.W.Frag) : R2 := fun x y H Q => ∃ (p : Addr) (zs : List Str) (t : Dt), y = .ref p ∧ SqT K H p (zs.map V.str) ∧ OdAt H x t ∧ Q (.bl (!t.isIn zs)) H
theorem op_notInO {k : Nat} (room : Room k X.A) : OpR X (compareOp .NotIn) (rNotInO X.K) := by
  intro pins st σ h x y v u Z inv rx ry pre
  obtain ⟨p, zs, t, rfl, sq, od, z⟩ := pre
  have un := room.un
  have flat : ∀ sc : Sc, x = sc.v → inV x (zs.map V.str) = (Dt.sc sc).isIn zs → t = .sc sc → wpAny (model X.prog X.w) X.A (compareOp .NotIn v u) (EP X pins σ Z) X.xe st := by
    intro sc e1 e2 e3
    subst e3
    refine op_notIn_seq pins st σ h x (.ref p) v u Z inv rx ry ⟨p, _, rfl, .inr sq, ?_, KB.flat_strs zs, ?_⟩
    · rw [e1]
      cases sc <;> rfl
    · show Z (.bl (!inV x (zs.map V.str))) h
      rw [e2]
      exact z
  have far : t.isIn zs = false → (∀ b tk A', A'.units ≤ X.A.units + 1 → SeqAt.EqAt A' st (.str b tk) v false) → wpAny (model X.prog X.w) X.A (compareOp .NotIn v u) (EP X pins σ Z) X.xe st := by
    intro e1 e2
    obtain rfl : u = Value.ref p := ry
    obtain ⟨its, r, pl, hz⟩ := inv.tuple sq
    refine SeqAt.notIn_tupleAt (fun _ => false) pl (fun w hw => ?_) ⟨.bl true, h, inv, ?_, ?_⟩
    · obtain ⟨b, tk, rfl⟩ := strs_of zs its r w (by simpa using hw)
      exact e2 b tk _ (Nat.le_refl _)
    · show Value.bool _ = Value.bool true
      simp
    · rw [e1] at z
      exact z
  cases t with
  | sc s =>
    have e : x = s.v := od
    refine flat s e ?_ rfl
    rw [e]
    cases s with
    | non => exact inV_no (fun _ => rfl) zs
    | bl b => exact inV_no (fun _ => rfl) zs
    | int i => exact inV_no (fun _ => rfl) zs
    | str x => exact inV_strs zs
  | tup l =>
    obtain ⟨a, rfl, e⟩ := od
    obtain rfl : v = Value.ref a := rx
    obtain ⟨its, rv, tp, _⟩ := inv.tuple (SqT.of e)
    exact far rfl fun b tk A' hA => SeqAt.EqAt.str_tuple b tk tp (by omega)
  | lst l =>
    obtain ⟨a, rfl, e⟩ := od
    obtain rfl : v = Value.ref a := rx
    obtain ⟨its, rv, tp, _⟩ := inv.list (SqL.of e)
    exact far rfl fun b tk A' hA => SeqAt.EqAt.str_list b tk tp.isList (by omega)
  | dct l =>
    obtain ⟨a, rfl, e⟩ := od
    obtain rfl : v = Value.ref a := rx
    obtain ⟨_, ns, vs, kv, ob, es, ep, ho, hex, hd, _, prs, _⟩ := dk_of inv.hok e
    exact far rfl fun b tk A' hA => eqAt_str_dict b tk ho hex.1 hd (by omega)
end
/-! ### its type -/
def Dt.ty : Dt → String
  | .sc .non => "NoneType"
  | .sc (.bl _) => "bool"
  | .sc (.int _) => "int"
  | .sc (.str _) => "str"
  | .tup _ => "tuple"
  | .lst _ => "list"
  | .dct _ => "dict"
theorem OdAt.tyX {K : PySem.W.Frag} {H : Hp} {v : V} {t : Dt} (h : OdAt H v t) : TyX K H v (.type t.ty) := by
  cases t with
  | sc s =>
    obtain rfl : v = s.v := h
    cases s with
    | non => exact .base .non
    | bl b => exact .base (.bl b)
    | int i => exact .base (.int i)
    | str x => exact .base (.str x)
  | tup l => obtain ⟨a, rfl, e⟩ := h; exact .base (.tup e)
  | lst l => obtain ⟨a, rfl, e⟩ := h; exact .base (.lst e)
  | dct l => obtain ⟨a, rfl, e⟩ := h; exact .base (.dK e)
def Dt.isStr : Dt → Bool
  | .sc (.str _) => true
  | _ => false
theorem r_isStr {K : PySem.W.Frag} {H : Hp} {Q : VK} {v : V} {t : Dt} (h : OdAt H v t) (q : Q (.bl t.isStr) H) : rIsi K [v, .ty "str"] H Q := by
  refine ⟨v, .ty "str", _, .type "str", t.isStr, rfl, .ty _, h.tyX, ?_, q⟩
  have h1 : kitB "NoneType" "str" = some false ∧ kitB "bool" "str" = some false ∧ kitB "int" "str" = some false ∧ kitB "str" "str" = some true ∧ kitB "tuple" "str" = some false ∧ kitB "list" "str" = some false ∧ kitB "dict" "str" = some false := by decide +kernel
  cases t with
  | sc s =>
    cases s with
    | non => exact kit_ty h1.1
    | bl b => exact kit_ty h1.2.1
    | int i => exact kit_ty h1.2.2.1
    | str x => exact kit_ty h1.2.2.2.1
  | tup l => exact kit_ty h1.2.2.2.2.1
  | lst l => exact kit_ty h1.2.2.2.2.2.1
  | dct l => exact kit_ty h1.2.2.2.2.2.2
/-! ### list.count of truths -/
section
variable {X : Cx}
def rCntB (K : PySem.W.Frag) : V → List V → Hp → VK → Prop := fun x xs H Q => ∃ (p : Addr) (bs : List Bool) (b : Bool), x = .ref p ∧ xs = [.bl b] ∧ SqL K H p (bs.map V.bl) ∧ Q (.int (bs.count b : Nat)) H
theorem bls_of : ∀ (bs : List Bool) (us : List Value), Vals (bs.map V.bl) us → us = bs.map Value.bool
  | [], us, r => by cases r; rfl
  | b :: bs, us, r => by
    cases r with
    | cons r1 r2 =>
      rw [bls_of bs _ r2, show _ = Value.bool b from r1]
      rfl
theorem mt_countB : MtR X "list.count" (rCntB X.K) := by
  intro pins s σ H x xs v us Q I rx rxs h
  obtain ⟨p, bs, b, rfl, rfl, hs, q⟩ := h
  cases rx
  obtain ⟨u, rfl, ru⟩ := rxs.one
  obtain rfl : u = Value.bool b := ru
  obtain ⟨its, rv, ⟨⟨cls, dd, data, sl⟩, n, ho, hc, hdn, hd⟩, hlen⟩ := I.list hs
  simp only at hc hd
  subst hc hd
  have hi := bls_of bs its rv
  subst hi
  refine call_meets PySem.F.slot_list_count ⟨_, ho, rfl⟩ PySem.F.entry_list_count (PySem.F.args_list_count_2 _ _)
    (SeqAt.list_countAt p (bs.map Value.bool).toArray n dd sl (.bool b) (fun y => match y with | .bool c => c == b | _ => false)) ⟨ho, fun y hy => ?_, ?_⟩
  · have hy' : y ∈ bs.map Value.bool := by simpa using hy
    obtain ⟨c, _, rfl⟩ := List.mem_map.mp hy'
    exact SeqAt.EqAt.bool_bool c b
  · have ec : (bs.map Value.bool).toArray.toList.countP (fun y => match y with | .bool c => c == b | _ => false) = bs.count b := by
      show (bs.map Value.bool).countP _ = _
      rw [List.countP_map]
      rfl
    refine ⟨.int (bs.count b : Nat), H, I.tok _, ⟨s.toks, ?_⟩, q⟩
    show Value.int ((_ : Nat) : Int) s.toks = Value.int ((bs.count b : Nat) : Int) s.toks
    rw [ec]
end
end KY

/-! KL: lambdas handed to a def that asks them; the law's end with tables of code objects, no repr under way; own == beside other types. -/
namespace KL
open PySem PySem.Spec PyProof.Rows L2 KB KG LamX
/-! ### the law's end -/
section
variable {P : Program} {w : World} {K : PySem.W.Frag} {mg bm : Str → Option Value} {k : Nat} {fa a : Addr} {cs : List (Addr × Addr)} {fd : FuncData} {x : Str} {sp : Sp} {st : Shared} {us : List Value} {ns : List Int}
def TabIs (cs : List (Addr × Addr)) (b : Addr) : Prop := ∃ p ∈ cs, p.2 = b
theorem law_GT (kin : K.In st.heap) (gl : st.heap.Ns mainGlobals mg) (bl : st.heap.Ns builtinsNs bm) (bb : ∀ y : Str, y ≠ "__name__" → bm y = bootBuiltins y) (nolim : st.heap.NoLimit) (nogen : st.gens = #[])
    (empty : ∀ p ∈ cs, st.heap.get? p.2 = some (PySem.W.tabObj #[])) (off : ∀ p ∈ cs, K.lookup p.2 = none) (codes : ∀ p ∈ cs, PySem.W.CodeHd st.heap p.1 p.2)
    (bmain : ∃ (m : Addr) (ob : Obj), mg "__builtins__" = some (.ref m) ∧ m ≠ builtinsNs ∧ st.heap.get? m = some ob ∧ ob.cls = .type "module" ∧ ob.dict = some builtinsNs ∧ ob.data = .plain)
    (at_ : st.heap.get? a = some { cls := .type "list", data := .seq us.toArray }) (allInt : IntsAre us ns) (few : ns.length ≤ sizeLine) (room : Room k callerA)
    (F : ∀ base : Heap, K.In base → base.Ns mainGlobals mg → (∀ p ∈ cs, TabB base mg p.1 p.2) → FnG P w K mg base CX0 k fa fd [x] sp) (bind : ∀ (s : Shared) (u : Value), BindsTo s fd ⟨[u], []⟩ [(x, u)])
    (pre : ∀ H : Hp, (∀ p ∈ cs, H p.2 = some (.tbl #[])) → SqL K H a (ns.map V.int) → sp [.ref a] H (fun v _ => v = .bl true) fun _ _ _ => False) :
    codeAny (model P w) callerA (.call (.ref fa) ⟨[.ref a], []⟩) (fun r s2 => r = .ok (.ret (.bool true)) ∧ OldK st.heap s2.heap ∧ s2.os = st.os ∧ AllBare s2.gens) st := by
  classical
  have isT : ∀ {b : Addr}, TabIs cs b → st.heap.get? b = some (PySem.W.tabObj #[]) := fun {b} ⟨p, hp, e⟩ => e ▸ empty p hp
  have aT : ¬ TabIs cs a := fun z => by
    have y := isT z
    rw [at_] at y
    have y2 : Data.seq us.toArray _ = Data.fields #[] := congrArg Obj.data (Option.some.inj y)
    cases y2
  have main : ∀ H : Hp, (∀ b, TabIs cs b → H b = some (.tbl #[])) → (∀ b, H b = none ∨ TabIs cs b ∨ ∃ o ys, H b = some (.frz o (.lst ys))) → SqL K H a (ns.map V.int) → HOk P w H st.heap → (∀ b, H b ≠ none → b = a ∨ TabIs cs b) → (H a ≠ none → K.lookup a = none) →
      codeAny (model P w) callerA (.call (.ref fa) ⟨[.ref a], []⟩) (fun r s2 => r = .ok (.ret (.bool true)) ∧ OldK st.heap s2.heap ∧ s2.os = st.os ∧ AllBare s2.gens) st := by
    intro H tabs only sq hok isA noK
    have free_of : ∀ {b : Addr} {o : Obj}, st.heap.get? b = some o → (∀ ys m, o.data ≠ .seq ys m) → o.data ≠ .fields #[] → H b = none := by
      intro b o e nd nf
      cases q : H b with
      | none => rfl
      | some z =>
        rcases isA b (by rw [q]; simp) with eb | eb
        · rw [eb, at_] at e
          exact absurd (congrArg Obj.data (Option.some.inj e)).symm (nd _ _)
        · rw [isT eb] at e
          exact absurd (congrArg Obj.data (Option.some.inj e)).symm nf
    have kb : K.In (hidT st.heap H) := by
      intro b o e
      refine hidT_get (kin b o e) ?_
      cases q : H b with
      | none => rfl
      | some z =>
        rcases isA b (by rw [q]; simp) with eb | ⟨p, hp, eb⟩
        · rw [eb] at e q
          rw [noK (by rw [q]; simp)] at e
          cases e
        · rw [← eb, off p hp] at e
          cases e
    have ns_of : ∀ {b : Addr} {m : Str → Option Value}, st.heap.Ns b m → (hidT st.heap H).Ns b m := by
      intro b m h
      obtain ⟨o, es, ep, e, d, r⟩ := h
      exact ⟨o, es, ep, hidT_get e (free_of e (fun ys n z => by rw [d] at z; cases z) (fun z => by rw [d] at z; cases z)), d, r⟩
    have hm : Mod K mg (hidT st.heap H) := ⟨kb, ns_of gl, ⟨bm, ns_of bl, bb⟩, by obtain ⟨mc, z1, z2⟩ := nolim; exact ⟨mc, ns_of z1, z2⟩⟩
    have tb : ∀ p ∈ cs, TabB (hidT st.heap H) mg p.1 p.2 := by
      intro p hp
      have hTp := empty p hp
      refine ⟨?_, ?_, fun z => ?_⟩
      · obtain ⟨o, ws, file, tf, flags, tg, inF, text, tt, e1, r1, r2, r3, rest⟩ := codes p hp
        refine ⟨o, ws, file, tf, flags, tg, inF, text, tt, hidT_get e1 (free_of e1 (fun ys n z => by rw [r2] at z; cases z) (fun z => ?_)), r1, r2, r3, rest⟩
        rw [r2] at z
        cases z
        simp at r3
      · obtain ⟨m, ob, b1, b2, b3, b4, b5, b6⟩ := bmain
        refine ⟨m, ob, b1, b2, fun q => ?_, fun q => ?_, hidT_get b3 (free_of b3 (fun ys n z => by rw [b6] at z; cases z) (fun z => by rw [b6] at z; cases z)), b4, b5, b6⟩
        · obtain ⟨o, es, ep, e, hd, _⟩ := gl
          rw [q, e] at b3
          cases b3
          rw [hd] at b6
          cases b6
        · rw [q, hTp] at b3
          cases b3
          cases b6
      · obtain ⟨o, es, ep, e, hd, _⟩ := gl
        rw [z, hTp] at e
        cases e
        cases hd
    have env : Env0 P w K mg (hidT st.heap H) callerA [] st H := ⟨rfl, hm, fun b o e => of_hidT e, Nat.le_of_eq (hidT_size _ _), trivial, fun b z => (List.not_mem_nil z).elim, hok, .of_eq nogen⟩
    refine codeAny_mono ((F _ kb (ns_of gl) tb).go callerA rfl [] st H ⟨[.ref a], []⟩ [.ref a] [.ref a] _ _ room env (bind st (.ref a)) (.cons rfl .nil) (pre H (fun p hp => tabs _ ⟨p, hp, rfl⟩) sq)) fun res s2 z => ?_
    match res, z with
    | .error e, z => exact z.elim
    | .ok .next, z => exact z.elim
    | .ok .brk, z => exact z.elim
    | .ok .cont, z => exact z.elim
    | .ok (.ret u), z =>
      obtain ⟨v, H2, z1, z2, un, hok2, rel, rfl⟩ := z
      obtain rfl : u = Value.bool true := rel
      have stay : ∀ b o, ¬ TabIs cs b → st.heap.get? b = some o → s2.heap.get? b = some o := by
        intro b o nb e
        cases q : H b with
        | none => exact un.keep b o e q (fun y => List.not_mem_nil y) (fun y => List.not_mem_nil y)
        | some y =>
          rcases only b with y1 | y1 | ⟨o1, ys, y1⟩
          · rw [q] at y1; cases y1
          · exact absurd y1 nb
          · have y2 := (hok b _ y1).1
            have y3 := (hok2 b _ (un.frzs b o1 _ y1)).1
            rw [e] at y2
            rw [Option.some.inj y2]
            exact y3
      have grown : ∀ p ∈ cs, ∃ more : Array Value, s2.heap.get? p.2 = some { cls := .none, data := .fields more } := by
        intro p hp
        obtain ⟨more, y⟩ := un.tbls p.2 #[] (tabs _ ⟨p, hp, rfl⟩)
        exact ⟨_, hok2 p.2 _ y⟩
      refine ⟨rfl, ⟨fun b o e => ?_, fun b o e => ?_⟩, z1, z2⟩
      · by_cases hb : TabIs cs b
        · obtain ⟨p, hp, rfl⟩ := hb
          obtain ⟨more, g⟩ := grown p hp
          rw [empty p hp] at e
          cases e
          exact .inr (.inl ⟨((codes p hp).tab (empty p hp)).isCodeTable, rfl, #[], more, rfl, by rw [Array.empty_append]; exact g⟩)
        · exact .inl (stay b o hb e)
      · by_cases hb : TabIs cs b
        · obtain ⟨p, hp, rfl⟩ := hb
          obtain ⟨more, g⟩ := grown p hp
          exact ⟨_, g⟩
        · exact ⟨o, stay b o hb e⟩
  have vals := vals_ints allInt
  have lens := allInt.length
  cases look : K.lookup a with
  | some o =>
    have e := kin a o look
    rw [at_] at e
    obtain rfl := Option.some.inj e
    refine main (fun b => if TabIs cs b then some (.tbl #[]) else none) (fun b hb => if_pos hb) (fun b => ?_) (.inr ⟨_, us.toArray, _, look, rfl, rfl, rfl, by rw [List.size_toArray, lens]; exact few, by simpa using vals⟩) (fun b u z => ?_) (fun b z => ?_) (fun z => absurd (if_neg aT) z)
    · by_cases hb : TabIs cs b
      · exact .inr (.inl hb)
      · exact .inl (if_neg hb)
    · by_cases hb : TabIs cs b
      · have y := (if_pos hb).symm.trans z
        cases y
        exact isT hb
      · have y := (if_neg hb).symm.trans z
        cases y
    · by_cases hb : TabIs cs b
      · exact .inr hb
      · exact absurd (if_neg hb) z
  | none =>
    refine main (upd (fun b => if TabIs cs b then some (.tbl #[]) else none) a (.frz { cls := .type "list", data := .seq us.toArray } (.lst (ns.map V.int)))) (fun b hb => ?_) (fun b => ?_) (.inl (.inr ⟨_, upd_same⟩)) (fun b y z => ?_) (fun b z => ?_) fun _ => look
    · rw [upd_ne (show b ≠ a from fun z => aT (by rw [← z]; exact hb))]
      exact if_pos hb
    · by_cases eb : b = a
      · rw [eb, upd_same]; exact .inr (.inr ⟨_, _, rfl⟩)
      · rw [upd_ne eb]
        by_cases hb : TabIs cs b
        · exact .inr (.inl hb)
        · exact .inl (if_neg hb)
    · by_cases eb : b = a
      · subst eb
        rw [upd_same] at z
        obtain rfl := Option.some.inj z
        exact ⟨at_, by rw [List.length_map]; exact few, us, _, vals, at_⟩
      · rw [upd_ne eb] at z
        by_cases hb : TabIs cs b
        · have y := (if_pos hb).symm.trans z
          cases y
          exact isT hb
        · have y := (if_neg hb).symm.trans z
          cases y
    · by_cases eb : b = a
      · exact .inl eb
      · by_cases hb : TabIs cs b
        · exact .inr hb
        · exact absurd ((upd_ne eb).trans (if_neg hb)) z
end
/-- the goal that the head leaves, from the law's own promise; names: the defs whose tables are wanted -/
theorem walkGT {l : PySem.W.OpenLaw} {n k : Nat} {q : Program} {loose : List Str} {XP : (Str → Option Value) → Heap → Prop} {YP : World → Heap → Prop} {d : DefRec} {K : Params → PySem.W.Frag} {sp : World → List (Addr × Addr) → Sp} {x : Str} {names : List Str}
    (hn : l.most = some n) (n2 : n ≤ sizeLine) (nodef : d.params.defaults = []) (room : Room k callerA) (recs : (names.all fun y => (recsOf q).any fun e => e.name == y) = true) (hY : ∀ (w : World) (h : Heap), YP w h → (K w.params).In h)
    (F : ∀ (w : World) (mg : Str → Option Value) (fa : Addr) (h : Heap), (K w.params).In h → h.Ns mainGlobals mg → mg d.name = some (.ref fa) →
      ∃ (fd : FuncData) (cs : List (Addr × Addr)), cs.length = names.length ∧ (∀ p ∈ names.zip cs, PySem.W.tabIn (K w.params) p.1 = some p.2) ∧ (∀ p ∈ cs, (K w.params).lookup p.2 = none) ∧ (∀ (s : Shared) (u : Value), BindsTo s fd ⟨[u], []⟩ [(x, u)]) ∧
        ∀ base : Heap, (K w.params).In base → base.Ns mainGlobals mg → (∀ p ∈ cs, TabB base mg p.1 p.2) → FnG l.prog w (K w.params) mg base CX0 k fa fd [x] (sp w cs))
    (pre : ∀ (w : World) (H : Hp) (a : Addr) (cs : List (Addr × Addr)) (ns : List Int), ns.length ≤ n → (∀ p ∈ cs, H p.2 = some (.tbl #[])) → SqL (K w.params) H a (ns.map V.int) → sp w cs [.ref a] H (fun v _ => v = .bl true) fun _ _ _ => False) :
    PySem.W.WalkO q loose XP YP l.row.toRowW d [] (fun f vs => PySem.call f vs) := by
  refine Att.attach_callB hn nodef fun w s0 st mg bm fa o pm cd doc a us ns G Y ho hd hcd hmg hobj allInt size _ nogen => ?_
  have kin := hY w _ Y
  obtain ⟨fd, cs, len, tabs, off, bind, hF⟩ := F w mg fa _ kin G.T.g hmg
  have each : ∀ p ∈ cs, PySem.W.CodeHd st.heap p.1 p.2 ∧ st.heap.get? p.2 = some (PySem.W.tabObj #[]) := by
    intro p hp
    obtain ⟨i, hi, e⟩ := List.getElem_of_mem hp
    have hi2 : i < names.length := by omega
    have m : (names[i], p) ∈ names.zip cs := by
      rw [← e]
      have hz : i < (names.zip cs).length := by rw [List.length_zip]; omega
      have := List.getElem_mem hz
      rwa [List.getElem_zip] at this
    have t := tabs _ m
    have r := List.all_eq_true.mp recs names[i] (List.getElem_mem hi2)
    have s : ((recsOf q).find? fun e => e.name == names[i]).isSome = true := by
      rw [List.find?_isSome]
      obtain ⟨y, y1, y2⟩ := List.any_eq_true.mp r
      exact ⟨y, y1, y2⟩
    obtain ⟨dL, hL⟩ := Option.isSome_iff_exists.mp s
    exact PySem.W.tab_of G.T kin hL t
  exact law_GT kin G.T.g G.T.b G.T.builtins G.T.nolimit nogen (fun p hp => (each p hp).2) off (fun p hp => (each p hp).1) G.T.bmain hobj allInt (Nat.le_trans size n2) room hF bind fun H hH sq => pre w H a cs ns size hH sq
/-! ### tables kept -/
theorem tabs_to {T : List (Addr × Str)} {H H' : Hp} (t : Tabs T H) (k : ∀ b o, H b = some o → (∀ xs, o ≠ .lst xs) → H' b = some o) : Tabs T H' := by
  intro p hp
  obtain ⟨ps, h1, h2, h3⟩ := t p hp
  refine ⟨ps, k _ _ h1 (fun xs z => by cases z), h2, fun pos cv hc => ?_⟩
  obtain ⟨c, e1, e2⟩ := h3 pos cv hc
  exact ⟨c, e1, k _ _ e2 (fun xs z => by unfold CodeO at z; cases z)⟩
theorem tabs_same {T : List (Addr × Str)} {H H' : Hp} (t : Tabs T H) (s : Same H H') : Tabs T H' := tabs_to t fun b o e _ => s b o e
/-- an exception taken knows how many names there are -/
theorem takes_len {X : Cx} {W : WX} (tk : Takes X W) : Takes X (fun cls d σ H => σ.length = X.N.length → W cls d σ H) := fun u s' ⟨a, B, sI, pins, σ, H, cls, d, e, I, nb, up, sky, na, os, ag, w⟩ =>
  tk u s' ⟨a, B, sI, pins, σ, H, cls, d, e, I, nb, up, sky, na, os, ag, w I.len⟩
/-- what the lambda's body lets out -/
theorem lam_takes {X : Cx} {A : Around} {outer : List Env} {s : Shared} {H : Hp} {E : XK} {scope : Scope} {f c' : Addr} : Takes (lamCx X A outer s H E scope f c') (fun cls d _ H' => E cls d H') := takes_of rfl rfl rfl rfl
theorem lam_pass {X : Cx} {A : Around} {outer : List Env} {s : Shared} {H : Hp} {E : XK} {scope : Scope} {f c' : Addr} : Passes (L2.CX X.prog X.w) (lamCx X A outer s H E scope f c') E := passes_call lam_takes fun _ _ _ _ h => h
/-- what a def that may raise lets out -/
theorem def_takes {P : Program} {w : World} {K : PySem.W.Frag} {mg : Str → Option Value} {base : Heap} {N : List Str} {ql : Str} {sc : Scope} {f : Addr} {cv : Value} {A : Around} {out : List Env} {st : Shared} {h : Hp} {E : XK} : Takes (cxOf (L2.CX P w) P w K mg base N ql sc f cv A out st h E) (fun cls d _ H' => E cls d H') := takes_of rfl rfl rfl rfl
/-! ### own == beside a value of another type -/
section
variable {X : Cx}
def rEqOth (K : PySem.W.Frag) (C : Addr) (sp : Sp) : R2 := fun x y H Q => ∃ (a dx : Addr) (fs : List (Str × V)) (T : String), x = .ref a ∧ H a = some (.ins C dx fs) ∧ TyB K H y T ∧ (T = "str" ∨ T = "list" ∨ T = "tuple") ∧ PySem.W.notFirst K C (.type T) = true ∧ sp [x, y] H Q E0
theorem ty_looks {M : Model} {s : Shared} {u : Value} {T : String} (h : s.TypeIs u T) (hT : T = "str" ∨ T = "list" ∨ T = "tuple") (hu : (∃ z t, u = .str z t) ∨ ∃ b, u = .ref b) : PySem.W.Looks M s.heap (typeOf u) (.type T) := by
  rcases hu with ⟨z, t, rfl⟩ | ⟨b, rfl⟩
  · intro A Q E s' k q
    have e : typeOf (.str z t) = pure (.type "str") := rfl
    have e2 : typeOf (.str z t) = pure (.type T) := h
    rw [e2]
    exact wpAny_pure q
  · obtain ⟨o, g, c⟩ := h
    exact fun A Q E s' k q => wpAny_typeOf_ref (k _ _ g) (by rw [c]; exact q)
theorem op_eqOth {C : Addr} {ps : List Str} {sp : Sp} {n : Nat} (c : KO.OwnM X.prog X.w X.K X.mg X.base n C "__eq__" ps sp) (room : Room n X.A) : OpR X (compareOp .Eq) (rEqOth X.K C sp) := by
  obtain ⟨g, fd, hs, hf, F, bind⟩ := c.ex
  intro pins st σ h x y v u Z inv rx ry pre
  obtain ⟨a, dx, fs, T, rfl, ha, ty, hT, nf, z⟩ := pre
  obtain rfl : v = Value.ref a := rx
  obtain ⟨od, J⟩ := KO.inst_of inv ha
  obtain ⟨m, hF⟩ := inv.fr
  have hu : (∃ z t, u = .str z t) ∨ ∃ b, u = .ref b := by
    cases ty with
    | str x => obtain ⟨t, rfl⟩ := (show ∃ t, u = Value.str x t from ry); exact .inl ⟨_, _, rfl⟩
    | @lst b => exact .inr ⟨b, ry⟩
    | @tup b => exact .inr ⟨b, ry⟩
    | non => exact absurd hT (by decide)
    | bl => exact absurd hT (by decide)
    | int => exact absurd hT (by decide)
    | byt => exact absurd hT (by decide)
    | dK => exact absurd hT (by decide)
  have lk := ty_looks (M := model X.prog X.w) (ty.is inv ry) hT hu
  rw [show compareOp .Eq (.ref a) u = richCompare .Eq (.ref a) u from rfl]
  refine PySem.W.cmp_K (op := .Eq) (tb := .type T) room.units0 hF inv.ok.mod.kin J lk nf hs hf ?_
  refine wpAny_mono (KO.run0 (E' := X.xe) (xs := [.ref a, y]) F room inv.env0 bind inv (.cons rfl (.cons ry .nil)) z) (fun w s2 r => ?_) fun _ _ z => z
  obtain ⟨z', h2, inv2, rz, qz⟩ := r
  exact SlX.cmpback rz ⟨z', h2, inv2, rz, qz⟩
end
end KL

/-! KC: own objects called, shown by repr, compared with data of any type; classes made with defaults. -/
namespace KC
open PySem PySem.Spec PyProof.Rows L2 KB KG KO
theorem cx_KX {CX : CXT} {P : Program} {w : World} {K : PySem.W.Frag} {mg : Str → Option Value} {base : Heap} {N : List Str} {qual : Str} {sc : Scope} {f : Addr} {cd : Value} {A : Around} {outer : List Env} {s : Shared} {H : Hp} {E : XK} : (cxOf CX P w K mg base N qual sc f cd A outer s H E).K = K := rfl
/-! ### b(e, ..), b an own object -/
section
variable {M : Model} {A : Around} {E : Value → Shared → Prop} {s : Shared} {C dx x : Addr} {pos : Pos} {Q : Value → Shared → Prop}
theorem callWith_own {args : List (Bool × Sem Value)} {kws : List (Option Str × Sem Value)} (plain : (args.any (·.1) || kws.any (·.1.isNone)) = false)
    (h : wpAny M A (evalArgs (.ref x) true args kws) (fun a t => (∃ od, PySem.W.InstAt t.heap x (PySem.W.instObj C dx) C od) ∧ wpAny M A (call (.ref x) a.pos a.kw) Q E t) E s) : wpAny M A (callWith pos (.ref x) [] args kws) Q E s := by
  unfold callWith
  refine wpAny_bind (wpAny_holding (wpAny_mono h (fun a t g => wpAny_bind (wpAny_standAt ?_)) fun _ _ y => y))
  obtain ⟨od, J⟩ := g.1
  have L := PySem.W.kco_keeper (M := M) J rfl
  simp only [plain]
  refine wpAny_bind (L.here ?_)
  have tail : ∀ {m : Sem Value}, wpAny M A m Q E t → wpAny M A (m >>= fun r => holding [r] point >>= fun _ => pure r) Q E t :=
    fun hm => wpAny_bind (wpAny_mono hm (fun r u hr => wpAny_bind (wpAny_holding (wpAny_point (wpAny_pure hr)))) fun _ _ y => y)
  exact tail (wpAny_operateT g.2)
end
section
variable {X : Cx}
structure OwnC (P : Program) (w : World) (K : PySem.W.Frag) (mg : Str → Option Value) (base : Heap) (CX : CXT) (k : Nat) (C : Addr) (ps : List Str) (sp : Sp) : Prop where
  ex : ∃ (g : Addr) (fd : FuncData), PySem.W.findIn K (.ref C) "__call__" = some (some (.ref g)) ∧ PySem.W.isFn K (.ref g) = true ∧ PySem.W.fnIn K g = true ∧ FnOk P w K mg base CX k g fd ps sp ∧ Binds K fd ps []
def tCallO (C : Addr) (sp : Sp) (E : XK) (tf : TE) (t : TA) : TE := fun σ H Q => tf σ H fun x H1 => ∃ (a dx : Addr) (fs : List (Str × V)), x = .ref a ∧ H1 a = some (.ins C dx fs) ∧ t σ H1 fun vs H2 => H2 a = some (.ins C dx fs) ∧ sp (x :: vs) H2 Q E
theorem pe_callO {CX : CXT} {k : Nat} {C : Addr} {x : Str} {ps : List Str} {sp : Sp} {E : XK} {e : Expr} {es : List Expr} {p pos : Pos} {tf : TE} {t : TA} (c : OwnC X.prog X.w X.K X.mg X.base CX k C ps sp) (room : Room k X.A) (pass : Passes CX X E) (hf : PE X (.Name x p) tf) (ha : PA X (e :: es) t)
    (d2 : starEach (e :: es) X.env = (false, eval e X.env) :: starEach es X.env := by rfl) (d3 : (backTo pos (starEach es X.env)).any (·.1) = false := by rfl) :
    PE X (.Call (.Name x p) (e :: es) [] pos) (tCallO C sp E tf t) := by
  obtain ⟨g, fd, hs, hfn, hfi, F, bind⟩ := c.ex
  refine ⟨fun pins st σ h Z inv pre => wpAny_Call_Name_kw (thn (hf.run pins st σ h _ inv pre) fun u s1 r => ?_)⟩
  obtain ⟨v, h1, inv1, rv, a, dx, fs, rfl, ea, z⟩ := r
  obtain rfl : u = Value.ref a := rv
  refine callWith_own (C := C) (dx := dx) (by rw [d2]; show ((false || (backTo pos (starEach es X.env)).any (·.1)) || false) = false; rw [d3]; rfl) ?_
  have main := thn (Q' := fun (ws : List Value) (s2 : Shared) => (∃ od, PySem.W.InstAt s2.heap a (PySem.W.instObj C dx) C od) ∧ wpAny (model X.prog X.w) X.A (call (.ref a) ws) (EP X pins σ Z) X.xe s2) (ha.run pos pins s1 σ h1 _ inv1 z) fun ws s2 r => ?_
  · rw [d2] at main ⊢
    exact Calls.evalArgs_plain main
  · obtain ⟨xs, h2, inv2, rel, ea2, z2⟩ := r
    obtain ⟨od, J⟩ := inst_of inv2 ea2
    refine ⟨⟨_, J⟩, ?_⟩
    have rel2 : Vals (V.ref a :: xs) (Value.ref a :: ws) := .cons rfl rel
    have size : ((Value.ref a :: ws) ++ []).length = ps.length := by rw [List.append_nil, ← rel2.length]; exact F.len _ _ _ _ z2
    have bd := bind s2 (Value.ref a :: ws) inv2.kIn size
    rw [List.append_nil] at bd
    refine wpAny_call (codeAny_mono (PySem.W.kco_code inv2.kIn J rfl hs hfn hfi (F.run X.A X.stack s2 h2 ⟨Value.ref a :: ws, []⟩ _ _ Z E room inv2.env0 bd rel2 z2)) fun res s3 y => ?_)
    match res, y with
    | .error e, y => exact pass pins σ h2 s2 e s3 inv2 y
    | .ok (.ret u), y => exact inv2.after y
    | .ok .next, y => exact y.elim
    | .ok .brk, y => exact y.elim
    | .ok .cont, y => exact y.elim
/-! ### repr(o) by own __repr__ -/
def rReprOwn (C : Addr) (sp : Sp) : List V → Hp → VK → Prop := fun xs H Q => ∃ a dx fs, xs = [.ref a] ∧ H a = some (.ins C dx fs) ∧ sp [.ref a] H (fun v H' => ∃ t, v = .str t ∧ Q (.str t) H') E0
theorem call_reprO {C : Addr} {ps : List Str} {sp : Sp} {n : Nat} (c : OwnM X.prog X.w X.K X.mg X.base n C "__repr__" ps sp) (room : Room (n + 1) X.A) : CallR X (.builtin "repr") (rReprOwn C sp) := by
  obtain ⟨g, fd, hs, hf, F, bind⟩ := c.ex
  intro pins st σ h xs us Z inv rel pre
  obtain ⟨a, dx, fs, rfl, ha, z⟩ := pre
  obtain ⟨u, rfl, ru⟩ := vals_one rel
  obtain rfl : u = Value.ref a := ru
  obtain ⟨od, J⟩ := inst_of inv ha
  obtain ⟨m, hF⟩ := inv.fr
  have un := room.un
  refine PySem.W.repr_K (show X.A.units + 1 < cLine by omega) hF inv.ok.mod.kin J hs hf ?_
  refine wpAny_mono (run0 (E' := X.xe) (xs := [.ref a]) F room.in1 inv.env0.in1 bind inv (.cons rfl .nil) z) (fun w s2 r => ?_) fun _ _ z => z
  obtain ⟨v', h2, inv2, rz, t, rfl, q2⟩ := r
  obtain ⟨tk, rfl⟩ : ∃ tk, w = Value.str t tk := rz
  exact ⟨.str t, h2, inv2, ⟨tk, rfl⟩, q2⟩
/-! ### own == beside data -/
def rEqAny (K : PySem.W.Frag) (C : Addr) (sp : Sp) : R2 := fun x y H Q => ∃ (a dx : Addr) (fs : List (Str × V)) (T : String), x = .ref a ∧ H a = some (.ins C dx fs) ∧ TyB K H y T ∧ T ≠ "bytes" ∧ PySem.W.notFirst K C (.type T) = true ∧ sp [x, y] H Q E0
theorem op_eqAny {C : Addr} {ps : List Str} {sp : Sp} {n : Nat} (c : OwnM X.prog X.w X.K X.mg X.base n C "__eq__" ps sp) (room : Room n X.A) : OpR X (compareOp .Eq) (rEqAny X.K C sp) := by
  obtain ⟨g, fd, hs, hf, F, bind⟩ := c.ex
  intro pins st σ h x y v u Z inv rx ry pre
  obtain ⟨a, dx, fs, T, rfl, ha, ty, hT, nf, z⟩ := pre
  obtain rfl : v = Value.ref a := rx
  obtain ⟨od, J⟩ := inst_of inv ha
  obtain ⟨m, hF⟩ := inv.fr
  have lk : PySem.W.Looks (model X.prog X.w) st.heap (typeOf u) (.type T) := by
    have ti := ty.is inv ry
    have flat : typeOf u = pure (.type T) → PySem.W.Looks (model X.prog X.w) st.heap (typeOf u) (.type T) := fun e A Q E s' k q => by rw [e]; exact wpAny_pure q
    have far : ∀ b, u = .ref b → PySem.W.Looks (model X.prog X.w) st.heap (typeOf u) (.type T) := by
      intro b e
      subst e
      obtain ⟨o, g1, g2⟩ := ti
      exact fun A Q E s' k q => wpAny_typeOf_ref (k _ _ g1) (by rw [g2]; exact q)
    cases ty with
    | non => cases (show u = Value.none from ry); exact flat ti
    | bl b => cases (show u = Value.bool b from ry); exact flat ti
    | int i => obtain ⟨t, rfl⟩ := (show ∃ t, u = Value.int i t from ry); exact flat ti
    | str x => obtain ⟨t, rfl⟩ := (show ∃ t, u = Value.str x t from ry); exact flat ti
    | byt b => exact absurd rfl hT
    | @lst b => exact far b ry
    | @tup b => exact far b ry
    | @dK b => exact far b ry
  rw [show compareOp .Eq (.ref a) u = richCompare .Eq (.ref a) u from rfl]
  refine PySem.W.cmp_K (op := .Eq) (tb := .type T) room.units0 hF inv.ok.mod.kin J lk nf hs hf ?_
  refine wpAny_mono (run0 (E' := X.xe) (xs := [.ref a, y]) F room inv.env0 bind inv (.cons rfl (.cons ry .nil)) z) (fun w s2 r => ?_) fun _ _ z => z
  obtain ⟨z', h2, inv2, rz, qz⟩ := r
  exact SlX.cmpback rz ⟨z', h2, inv2, rz, qz⟩
/-! ### C(e, ..) with defaults -/
structure CalleeID (P : Program) (w : World) (K : PySem.W.Frag) (mg : Str → Option Value) (base : Heap) (CX : CXT) (k : Nat) (C : Addr) (x : Str) (ps : List Str) (sp : Sp) (dvs : List V) : Prop where
  ex : ∃ (f : Addr) (fd : FuncData) (ds : List Value), FnOk P w K mg base CX k f fd ps sp ∧ Mk K C f ∧ mg x = some (.ref C) ∧ Binds K fd ps ds ∧ Vals dvs ds
theorem pe_makeD {CX : CXT} {k : Nat} {C : Addr} {x : Str} {ps : List Str} {sp : Sp} {dvs : List V} {E : XK} {e : Expr} {es : List Expr} {p pos : Pos} {t : TA} (c : CalleeID X.prog X.w X.K X.mg X.base CX k C x ps sp dvs) (room : Room (k + 1) X.A) (gl : Gl X x) (pass : Passes CX X E) (ha : PA X (e :: es) t)
    (d1 : (x == ("__debug__" : Str)) = false := by decide) (d2 : starEach (e :: es) X.env = (false, eval e X.env) :: starEach es X.env := by rfl) (d3 : (backTo pos (starEach es X.env)).any (·.1) = false := by rfl) :
    PE X (.Call (.Name x p) (e :: es) [] pos) (tMake C sp dvs E t) := by
  obtain ⟨f, fd, ds, F, M, hm, hb, hd⟩ := c.ex
  exact pe_make M F room gl hm hb hd pass ha d1 d2 d3
/-! ### f(k = v, ..) -/
theorem pe_callK0 {CX : CXT} {k : Nat} {x : Str} {ps ks : List Str} {sp : Sp} {gV : List V → List V → List V} {E : XK} {kws : List Keyword} {p pos : Pos} {tk : TA} (c : CalleeKw X.prog X.w X.K X.mg X.base CX k x ps sp 0 ks gV) (room : Room k X.A) (gl : Gl X x) (pass : Passes CX X E) (hkw : PK X kws tk)
    (d1 : (backToKw pos (keywordEach kws X.env)).all (·.1.isSome) = true := by rfl) (d2 : (backToKw pos (keywordEach kws X.env)).filterMap (·.1) = ks := by rfl) (d3 : (x == ("__debug__" : Str)) = false := by decide)
    (d4 : ((backTo pos (starEach [] X.env)).any (·.1) || (backToKw pos (keywordEach kws X.env)).any (·.1.isNone)) = false := by rfl) :
    PE X (.Call (.Name x p) [] kws pos) (fun σ H Q => tk σ H fun zs H2 => zs.length = ks.length ∧ sp (gV [] zs) H2 Q E) := by
  obtain ⟨f, fd, g, F, hm, hk, hb⟩ := c.ex
  refine ⟨fun pins st σ h Z inv pre => wpAny_Call_Name_kw (ld_glob inv gl hm ?_ d3)⟩
  refine PySem.W.callWith_KW0 (first := []) (h₀ := X.base) inv.ok.mod.kin hk d1 (thn (hkw.run pos pins st σ h _ inv pre) fun ws s2 r => ?_) d4
  obtain ⟨zs, h2, inv2, rel, l2, z2⟩ := r
  refine ⟨inv2.kIn, ?_⟩
  rw [d2]
  exact run_fnN (us := []) (vs := []) F room hb pass inv2 .nil rel rfl l2 z2
end
theorem r_callO {σ : L2.St} {H : Hp} {Q : VK} {C : Addr} {sp : Sp} {E : XK} {tf : TE} {t : TA} (q : tf σ H fun x H1 => ∃ (a dx : Addr) (fs : List (Str × V)), x = .ref a ∧ H1 a = some (.ins C dx fs) ∧ t σ H1 fun vs H2 => H2 a = some (.ins C dx fs) ∧ sp (x :: vs) H2 Q E) : tCallO C sp E tf t σ H Q := q
theorem r_chain {σ : L2.St} {H : Hp} {Q : VK} {r r' : R2} {ta tb tc : TE} (q : ta σ H fun x H1 => tb σ H1 fun y H2 => r x y H2 fun z H3 => ∃ k, z = .bl k ∧ if k = true then tc σ H3 fun w' H4 => r' y w' H4 Q else Q (.bl false) H3) : tChain r r' ta tb tc σ H Q := q
end KC
/-! ### own object op number -/
namespace KC
open PySem PySem.Spec PyProof.Rows L2 KB KG KO
section
variable {X : Cx}
structure OwnB (P : Program) (w : World) (K : PySem.W.Frag) (mg : Str → Option Value) (base : Heap) (CX : CXT) (k : Nat) (C : Addr) (op : Operator) (ps : List Str) (sp : Sp) : Prop where
  ex : ∃ (g : Addr) (fd : FuncData) (rc fo ro : Option Value), PySem.W.selfFirst K C = true ∧ PySem.W.findIn K (.ref C) (PySem.dunder op.info.2) = some (some (.ref g)) ∧ PySem.W.isFn K (.ref g) = true ∧ PySem.W.findIn K (.ref C) (dunderR op.info.2) = some rc ∧ (rc = none ∨ ∃ g : Addr, rc = some (.ref g)) ∧
    PySem.W.findIn K (.type "int") (PySem.dunder op.info.2) = some fo ∧ PySem.W.findIn K (.type "int") (dunderR op.info.2) = some ro ∧ PySem.W.subIn K (.type "int") (.ref C) = some false ∧ FnOk P w K mg base CX k g fd ps sp ∧ Binds K fd ps []
def rBinO (C : Addr) (sp : Sp) (E : XK) : R2 := fun x y H Q => ∃ (a dx : Addr) (fs : List (Str × V)) (i : Int), x = .ref a ∧ H a = some (.ins C dx fs) ∧ y = .int i ∧ sp [x, y] H Q E
theorem op_bin {CX : CXT} {E : XK} {C : Addr} {op : Operator} {ps : List Str} {sp : Sp} {n : Nat} (c : OwnB X.prog X.w X.K X.mg X.base CX n C op ps sp) (room : Room n X.A) (pass : Passes CX X E) : OpR X (binaryOp op) (rBinO C sp E) := by
  obtain ⟨g, fd, rc, fo, ro, c1, c2, c3, c4, c5, c6, c7, c8, F, bind⟩ := c.ex
  intro pins st σ h x y v u Z inv rx ry pre
  obtain ⟨a, dx, fs, i, rfl, ha, rfl, z⟩ := pre
  obtain rfl : v = Value.ref a := rx
  obtain ⟨tk, rfl⟩ := (show ∃ t, u = Value.int i t from ry)
  obtain ⟨od, J⟩ := inst_of inv ha
  obtain ⟨m, hF⟩ := inv.fr
  refine PySem.W.ksp_binT (T := "int") hF inv.ok.mod.kin J rfl c1 c2 c3 c4 c5 c6 c7 c8 ?_
  refine wpAny_mono (run_fn (us := [.ref a, .int i tk]) (vs := [.ref a, .int i]) F room bind .nil pass inv (.cons rfl (.cons ⟨tk, rfl⟩ .nil)) z) (fun w s2 r => ?_) fun _ _ z => z
  obtain ⟨z', h2, inv2, rz, qz⟩ := r
  exact SlX.cmpback rz ⟨z', h2, inv2, rz, qz⟩
end
end KC

/-! KBL: blends: the mathematics (natural numbers, bit by bit). -/
namespace KBL
/-- the word moved by s -/
def shN (w v : Nat) (s : Int) : Nat := if s < 0 then v / 2 ^ (0 - s).toNat else v * 2 ^ s.toNat % 2 ^ w
theorem bit_sh {w v : Nat} {s : Int} (hv : v < 2 ^ w) (p : Nat) : (shN w v s).testBit p = (decide (p < w) && (decide (s ≤ (p : Int)) && v.testBit ((p : Int) - s).toNat)) := by
  unfold shN
  by_cases h : s < 0
  · rw [if_pos h, Nat.testBit_div_two_pow, show p + (0 - s).toNat = ((p : Int) - s).toNat by omega, decide_eq_true (show s ≤ (p : Int) by omega), Bool.true_and]
    by_cases hp : p < w
    · rw [decide_eq_true hp, Bool.true_and]
    · rw [decide_eq_false hp, Bool.false_and]
      exact Nat.testBit_lt_two_pow (Nat.lt_of_lt_of_le hv (Nat.pow_le_pow_right (by decide) (by omega)))
  · rw [if_neg h, Nat.testBit_mod_two_pow, Nat.testBit_mul_two_pow]
    by_cases hs : s ≤ (p : Int)
    · rw [decide_eq_true (show s.toNat ≤ p by omega), decide_eq_true hs, show p - s.toNat = ((p : Int) - s).toNat by omega]
    · rw [decide_eq_false (show ¬ s.toNat ≤ p by omega), decide_eq_false hs]
      simp
theorem sh_lt {w v : Nat} {s : Int} (hv : v < 2 ^ w) : shN w v s < 2 ^ w := by
  unfold shN
  split
  · exact Nat.lt_of_le_of_lt (Nat.div_le_self _ _) hv
  · exact Nat.mod_lt _ (Nat.two_pow_pos w)
def onesN (w : Nat) : Nat := 2 ^ w - 1
theorem ones_lt (w : Nat) : onesN w < 2 ^ w := by
  have := Nat.two_pow_pos w
  unfold onesN
  omega
def keepN (w : Nat) (s : Int) (k : Nat) : Nat := shN w (onesN w) s &&& k
def shiftN (w : Nat) (s : Int) (k : Nat) : Int := if keepN w s k = 0 then 0 else s
/-- the place p has a source -/
def src (w : Nat) (s : Int) (k p : Nat) : Bool := decide (p < w) && (decide (s ≤ (p : Int)) && (decide ((p : Int) - s < w) && k.testBit p))
theorem bit_keep (w : Nat) (s : Int) (k p : Nat) : (keepN w s k).testBit p = src w s k p := by
  unfold keepN src
  rw [Nat.testBit_and, bit_sh (ones_lt w)]
  unfold onesN
  rw [Nat.testBit_two_pow_sub_one]
  by_cases h : s ≤ (p : Int)
  · rw [decide_eq_true h, show decide (((p : Int) - s).toNat < w) = decide ((p : Int) - s < w) from by
      by_cases q : (p : Int) - s < w
      · rw [decide_eq_true q, decide_eq_true (by omega)]
      · rw [decide_eq_false q, decide_eq_false (by omega)]]
    simp only [Bool.true_and, Bool.and_assoc]
  · rw [decide_eq_false h]
    simp
theorem keep_lt (w : Nat) (s : Int) (k : Nat) : keepN w s k < 2 ^ w := by
  unfold keepN
  rw [Nat.and_comm]
  exact Nat.and_lt_two_pow _ (sh_lt (ones_lt w))
/-- what a blend makes of a word -/
def ap (w : Nat) (s : Int) (k f v : Nat) : Nat := f ^^^ (keepN w s k &&& shN w v s)
theorem ap_lt {w : Nat} {s : Int} {k f v : Nat} (hf : f < 2 ^ w) (hv : v < 2 ^ w) : ap w s k f v < 2 ^ w := Nat.xor_lt_two_pow hf (Nat.and_lt_two_pow _ (sh_lt hv))
theorem bit_ap {w : Nat} {s : Int} {k f v : Nat} (hv : v < 2 ^ w) (p : Nat) : (ap w s k f v).testBit p = (f.testBit p ^^ (src w s k p && v.testBit ((p : Int) - s).toNat)) := by
  unfold ap
  rw [Nat.testBit_xor, Nat.testBit_and, bit_keep, bit_sh hv]
  unfold src
  by_cases h1 : p < w <;> by_cases h2 : s ≤ (p : Int) <;> by_cases h3 : (p : Int) - s < w <;> simp [h1, h2, h3]
/-- the same by the numbers that are kept -/
theorem ap_norm (w : Nat) (s : Int) (k f v : Nat) : f ^^^ (keepN w s k &&& shN w v (shiftN w s k)) = ap w s k f v := by
  unfold ap shiftN
  by_cases h : keepN w s k = 0
  · rw [if_pos h, h, Nat.zero_and, Nat.zero_and]
  · rw [if_neg h]
theorem ap_zero (w : Nat) (s : Int) (k f : Nat) : ap w s k f 0 = f := by
  refine Nat.eq_of_testBit_eq fun p => ?_
  rw [bit_ap (Nat.two_pow_pos w), Nat.zero_testBit, Bool.and_false, Bool.xor_false]
theorem two_lt {j w : Nat} (h : j < w) : 2 ^ j < 2 ^ w := Nat.pow_lt_pow_right (by decide) h
theorem bit_two {w : Nat} {s : Int} {k f j : Nat} (h : j < w) (p : Nat) : (ap w s k f (2 ^ j)).testBit p = (f.testBit p ^^ (src w s k p && decide ((p : Int) - s = j))) := by
  rw [bit_ap (two_lt h), Nat.testBit_two_pow]
  unfold src
  by_cases h2 : s ≤ (p : Int)
  · have e : decide (j = ((p : Int) - s).toNat) = decide ((p : Int) - s = j) := by
      by_cases q : (p : Int) - s = j
      · rw [decide_eq_true q, decide_eq_true (by omega)]
      · rw [decide_eq_false q, decide_eq_false (by omega)]
    rw [e]
  · simp [h2]
theorem src_of {w : Nat} {s : Int} {k p : Nat} (h : src w s k p = true) : p < w ∧ s ≤ (p : Int) ∧ (p : Int) - s < w := by
  unfold src at h
  simp only [Bool.and_eq_true, decide_eq_true_eq] at h
  exact ⟨h.1, h.2.1, h.2.2.1⟩
/-- where two agree at the single bits below n, a source of the one is that of the other -/
theorem src_same {w n : Nat} {s s' : Int} {k k' f f' : Nat} (hf : f = f') (h : ∀ j, j < n → ap w s k f (2 ^ j) = ap w s' k' f' (2 ^ j)) (hn : n ≤ w) {p : Nat} (hp : src w s k p = true) (hj : (p : Int) - s < n) : src w s' k' p = true ∧ (p : Int) - s' = (p : Int) - s := by
  obtain ⟨h1, h2, h3⟩ := src_of hp
  obtain ⟨j, ej⟩ : ∃ j : Nat, (p : Int) - s = j := ⟨((p : Int) - s).toNat, by omega⟩
  have hjn : j < n := by omega
  have e := congrArg (fun x => Nat.testBit x p) (h j hjn)
  simp only [bit_two (show j < w by omega), hp, hf] at e
  rw [decide_eq_true ej] at e
  cases hq : src w s' k' p with
  | false => rw [hq] at e; simp at e
  | true =>
    rw [hq] at e
    by_cases z : (p : Int) - s' = j
    · exact ⟨rfl, by omega⟩
    · rw [decide_eq_false z] at e
      simp at e
theorem bits_below {v n i : Nat} (hv : v < 2 ^ n) (h : v.testBit i = true) : i < n := by
  rcases Nat.lt_or_ge i n with z | z
  · exact z
  · rw [Nat.testBit_lt_two_pow (Nat.lt_of_lt_of_le hv (Nat.pow_le_pow_right (by decide) z))] at h
    cases h
/-- .. then they agree at all words below 2 ^ n -/
theorem agree {w n : Nat} {s s' : Int} {k k' f f' : Nat} (hf : f = f') (h : ∀ j, j < n → ap w s k f (2 ^ j) = ap w s' k' f' (2 ^ j)) (hn : n ≤ w) {v : Nat} (hv : v < 2 ^ n) : ap w s k f v = ap w s' k' f' v := by
  have hvw : v < 2 ^ w := Nat.lt_of_lt_of_le hv (Nat.pow_le_pow_right (by decide) hn)
  have one : ∀ {s s' : Int} {k k' f f' : Nat}, f = f' → (∀ j, j < n → ap w s k f (2 ^ j) = ap w s' k' f' (2 ^ j)) → ∀ p, (src w s k p && v.testBit ((p : Int) - s).toNat) = true → (src w s' k' p && v.testBit ((p : Int) - s').toNat) = true := by
    intro s s' k k' f f' hf h p hp
    obtain ⟨h1, h2⟩ := Bool.and_eq_true_iff.mp hp
    have h3 := bits_below hv h2
    obtain ⟨g1, g2⟩ := src_same hf h hn h1 (by have := (src_of h1).2.1; omega)
    rw [g1, g2, h2]
    rfl
  refine Nat.eq_of_testBit_eq fun p => ?_
  rw [bit_ap hvw, bit_ap hvw, hf]
  congr 1
  cases e : (src w s k p && v.testBit ((p : Int) - s).toNat) with
  | true => exact (one hf h p e).symm
  | false =>
    cases e' : (src w s' k' p && v.testBit ((p : Int) - s').toNat) with
    | false => rfl
    | true =>
      have := one hf.symm (fun j hj => (h j hj).symm) p e'
      rw [e] at this
      cases this
/-- equal at 0 and at the single bits: the numbers are equal -/
theorem norm_eq {w : Nat} {s s' : Int} {k k' f f' : Nat} (hf : f = f') (h : ∀ j, j < w → ap w s k f (2 ^ j) = ap w s' k' f' (2 ^ j)) : keepN w s k = keepN w s' k' ∧ shiftN w s k = shiftN w s' k' := by
  have up : ∀ {p}, src w s k p = true → src w s' k' p = true ∧ (p : Int) - s' = (p : Int) - s := fun {p} hp => src_same hf h (Nat.le_refl _) hp (src_of hp).2.2
  have dn : ∀ {p}, src w s' k' p = true → src w s k p = true ∧ (p : Int) - s = (p : Int) - s' := fun {p} hp => src_same hf.symm (fun j hj => (h j hj).symm) (Nat.le_refl _) hp (src_of hp).2.2
  have ek : keepN w s k = keepN w s' k' := by
    refine Nat.eq_of_testBit_eq fun p => ?_
    rw [bit_keep, bit_keep]
    cases e : src w s k p with
    | true => exact (up e).1.symm
    | false =>
      cases e' : src w s' k' p with
      | false => rfl
      | true => have := (dn e').1; rw [e] at this; cases this
  refine ⟨ek, ?_⟩
  unfold shiftN
  rw [← ek]
  by_cases z : keepN w s k = 0
  · rw [if_pos z, if_pos z]
  · rw [if_neg z, if_neg z]
    have : ∃ p, (keepN w s k).testBit p = true := by
      rcases Classical.em (∃ p, (keepN w s k).testBit p = true) with g | g
      · exact g
      · refine absurd (Nat.eq_of_testBit_eq fun p => ?_) z
        rw [Nat.zero_testBit]
        cases e : (keepN w s k).testBit p with
        | false => rfl
        | true => exact absurd ⟨p, e⟩ g
    obtain ⟨p, hp⟩ := this
    rw [bit_keep] at hp
    have := (up hp).2
    omega
theorem norm_ap {w : Nat} {s s' : Int} {k k' f f' : Nat} (hk : keepN w s k = keepN w s' k') (hs : shiftN w s k = shiftN w s' k') (hf : f = f') (v : Nat) : ap w s k f v = ap w s' k' f' v := by
  rw [← ap_norm w s k f v, ← ap_norm w s' k' f' v, hk, hs, hf]
/-! ### where two part -/
def parts (F G : Nat → Nat) (v : Nat) : Bool := decide (F v ≠ G v)
def bits (w : Nat) : List Nat := (List.range w).map (2 ^ ·)
/-- the least word of 0 and the single bits at which F and G part -/
def parting (w : Nat) (F G : Nat → Nat) : Option Nat := (0 :: bits w).find? (parts F G)
theorem parting_none {w : Nat} {F G : Nat → Nat} : parting w F G = none ↔ F 0 = G 0 ∧ ∀ j, j < w → F (2 ^ j) = G (2 ^ j) := by
  unfold parting bits parts
  rw [List.find?_eq_none]
  constructor
  · intro h
    refine ⟨?_, fun j hj => ?_⟩
    · have := h 0 (List.mem_cons_self ..)
      simpa using this
    · have := h (2 ^ j) (List.mem_cons_of_mem _ (List.mem_map.mpr ⟨j, List.mem_range.mpr hj, rfl⟩))
      simpa using this
  · rintro ⟨h0, h⟩ x hx
    rcases List.mem_cons.mp hx with rfl | hx
    · simp [h0]
    · obtain ⟨j, hj, rfl⟩ := List.mem_map.mp hx
      simp [h j (List.mem_range.mp hj)]
theorem find_range {q : Nat → Bool} : ∀ (n : Nat) (m : Nat), m < n → q m = true → (∀ i, i < m → q i = false) → (List.range n).find? q = some m := by
  intro n m hm h1 h2
  induction n with
  | zero => omega
  | succ n ih =>
    rw [List.range_succ, List.find?_append]
    by_cases e : m < n
    · rw [ih e]
      rfl
    · have e' : m = n := by omega
      subst e'
      have no : (List.range m).find? q = none := by
        rw [List.find?_eq_none]
        intro x hx
        rw [h2 x (List.mem_range.mp hx)]
        decide
      rw [no]
      simp [List.find?, h1]
theorem parting_some {w : Nat} {F G : Nat → Nat} {d : Nat} (h : parting w F G = some d) : F d ≠ G d ∧ (d = 0 ∨ ∃ j, j < w ∧ d = 2 ^ j ∧ F 0 = G 0 ∧ ∀ i, i < j → F (2 ^ i) = G (2 ^ i)) := by
  have hp : parts F G d = true := List.find?_some h
  refine ⟨by simpa [parts] using hp, ?_⟩
  unfold parting at h
  rw [List.find?_cons] at h
  cases e : parts F G 0 with
  | true => rw [e] at h; exact .inl (Option.some.inj h).symm
  | false =>
    rw [e] at h
    have h0 : F 0 = G 0 := by simpa [parts] using e
    have h' : (bits w).find? (parts F G) = some d := h
    unfold bits at h'
    rw [List.find?_map] at h'
    cases e2 : (List.range w).find? (parts F G ∘ fun x => 2 ^ x) with
    | none => rw [e2] at h'; cases h'
    | some j =>
      rw [e2] at h'
      have hd : 2 ^ j = d := Option.some.inj h'
      obtain ⟨as, bs, e3, e4⟩ := List.find?_eq_some_iff_append.mp e2 |>.2
      refine .inr ⟨j, List.mem_range.mp (List.mem_of_find?_eq_some e2), hd.symm, h0, fun i hi => ?_⟩
      have : i ∈ as := by
        have hl : as.length = j := by
          have := congrArg (fun l => l[as.length]?) e3
          simp at this
          have h5 : as.length < w := by
            have := congrArg List.length e3
            simp at this
            omega
          simp [h5] at this
          exact this
        have hi2 : i < as.length := by omega
        have q := congrArg (fun l => l[i]?) e3
        have hiw : i < w := by
          have := congrArg List.length e3
          simp at this
          omega
        rw [show (as ++ j :: bs)[i]? = as[i]? from List.getElem?_append_left hi2, List.getElem?_range hiw] at q
        exact List.mem_of_getElem? q.symm
      have := e4 i this
      simpa [parts] using this
/-- two blends: all words below the parting word agree -/
theorem below {w : Nat} {s s' : Int} {k k' f f' d v : Nat} (h : parting w (ap w s k f) (ap w s' k' f') = some d) (hv : v < d) : ap w s k f v = ap w s' k' f' v := by
  rcases (parting_some h).2 with rfl | ⟨j, hj, rfl, h0, h1⟩
  · omega
  · rw [ap_zero, ap_zero] at h0
    exact agree h0 h1 (Nat.le_of_lt hj) hv
/-- found among all words -/
theorem parting_all {w : Nat} {s s' : Int} {k k' f f' : Nat} : (List.range (2 ^ w)).find? (parts (ap w s k f) (ap w s' k' f')) = parting w (ap w s k f) (ap w s' k' f') := by
  cases e : parting w (ap w s k f) (ap w s' k' f') with
  | none =>
    obtain ⟨h0, h1⟩ := parting_none.mp e
    rw [ap_zero, ap_zero] at h0
    rw [List.find?_eq_none]
    intro x hx
    simp [parts, agree h0 h1 (Nat.le_refl w) (List.mem_range.mp hx)]
  | some d =>
    have hd := parting_some e
    have dl : d < 2 ^ w := by
      rcases hd.2 with rfl | ⟨j, hj, rfl, _⟩
      · exact Nat.two_pow_pos w
      · exact two_lt hj
    refine find_range _ d dl (by simpa [parts] using hd.1) fun i hi => ?_
    simp [parts, below e hi]
/-- the numbers are equal just where there is no such word -/
theorem same_iff {w : Nat} {s s' : Int} {k k' f f' : Nat} : parting w (ap w s k f) (ap w s' k' f') = none ↔ (shiftN w s k = shiftN w s' k' ∧ keepN w s k = keepN w s' k' ∧ f = f') := by
  rw [parting_none, ap_zero, ap_zero]
  constructor
  · rintro ⟨h0, h1⟩
    obtain ⟨g1, g2⟩ := norm_eq h0 h1
    exact ⟨g2, g1, h0⟩
  · rintro ⟨h1, h2, h3⟩
    exact ⟨h3, fun j _ => norm_ap h2 h1 h3 _⟩
end KBL
/-! ### numbers of the model -/
namespace KBL
open PySem
theorem bAnd (a b : Nat) : Builtin.bitAnd (a : Int) (b : Int) = ((a &&& b : Nat) : Int) := by
  rw [PyProof.Rows.bitAnd_pp (by omega) (by omega)]
  rfl
theorem xor_and_add (a : Nat) : ∀ b : Nat, (a ^^^ b) + 2 * (a &&& b) = a + b := by
  induction a using Nat.strongRecOn with
  | _ a ih =>
    intro b
    by_cases h : a = 0
    · subst h; simp
    · have e := ih (a / 2) (by omega) (b / 2)
      have x1 := Nat.xor_mod_two_pow (a := a) (b := b) (n := 1)
      have x2 := Nat.and_mod_two_pow (a := a) (b := b) (n := 1)
      have x3 := Nat.xor_div_two_pow (a := a) (b := b) (n := 1)
      have x4 := Nat.and_div_two_pow (a := a) (b := b) (n := 1)
      simp only [Nat.pow_one] at x1 x2 x3 x4
      have da := Nat.div_add_mod a 2
      have db := Nat.div_add_mod b 2
      have dx := Nat.div_add_mod (a ^^^ b) 2
      have dy := Nat.div_add_mod (a &&& b) 2
      rw [x1, x3] at dx
      rw [x2, x4] at dy
      rcases Nat.mod_two_eq_zero_or_one a with ha | ha <;> rcases Nat.mod_two_eq_zero_or_one b with hb | hb <;> rw [ha, hb] at dx dy <;> rw [ha] at da <;> rw [hb] at db <;> simp at dx dy <;> omega
theorem bXor (a b : Nat) : Builtin.bitXor (a : Int) (b : Int) = ((a ^^^ b : Nat) : Int) := by
  rw [PyProof.Rows.bitXor_and, bAnd]
  have := xor_and_add a b
  omega
theorem ofShr (v : Nat) (j : Int) : (v : Int) / 2 ^ j.toNat = ((v / 2 ^ j.toNat : Nat) : Int) := by
  rw [Int.natCast_ediv, Int.natCast_pow]
  rfl
theorem ofShl (v : Nat) (j : Int) : (v : Int) * 2 ^ j.toNat = ((v * 2 ^ j.toNat : Nat) : Int) := by
  rw [Int.natCast_mul, Int.natCast_pow]
  rfl
theorem shl_and (w v : Nat) (j : Int) : Builtin.bitAnd ((v : Int) * 2 ^ j.toNat) ((onesN w : Nat) : Int) = ((v * 2 ^ j.toNat % 2 ^ w : Nat) : Int) := by
  rw [ofShl, bAnd]
  unfold onesN
  rw [Nat.and_two_pow_sub_one_eq_mod]
end KBL
/-! ### texts of numbers -/
namespace KBL
open PySem
def dg (i : Int) : List Nat := (Str.ofString (toString i)).cps.toList
theorem dg_is (i : Int) : dg i = (toString i).toList.map Char.toNat := PyProof.Rows.signs_ofString _
theorem map_char : ∀ {a b : List Char}, a.map Char.toNat = b.map Char.toNat → a = b
  | [], [], _ => rfl
  | [], _ :: _, h => by cases h
  | _ :: _, [], h => by cases h
  | x :: a, y :: b, h => by
    rw [List.map_cons, List.map_cons] at h
    injection h with h1 h2
    have e : x = y := Char.toNat_inj.mp h1
    rw [e, map_char h2]
theorem dg_inj {i j : Int} (h : dg i = dg j) : i = j := by
  rw [dg_is, dg_is] at h
  have e := map_char h
  rw [String.toList_inj] at e
  rw [Int.toString_eq_repr, Int.toString_eq_repr] at e
  exact Int.repr_inj.mp e
theorem nat_no (n : Nat) : ∀ c ∈ (Nat.repr n).toList, c.toNat ≠ 44 := by
  intro c hc
  rw [Nat.toList_repr] at hc
  have h := Nat.isDigit_of_mem_toDigits (by decide) (by decide) hc
  simp only [Char.isDigit, Bool.and_eq_true, decide_eq_true_eq] at h
  have h2 : 48 ≤ c.val.toNat := by simpa using UInt32.le_iff_toNat_le.mp h.1
  have e : c.val.toNat = c.toNat := rfl
  omega
theorem dg_no (i : Int) : 44 ∉ dg i := by
  rw [dg_is]
  intro hc
  obtain ⟨c, hc, e⟩ := List.mem_map.mp hc
  rw [Int.toString_eq_repr, Int.repr_eq_if] at hc
  split at hc
  · exact nat_no _ c hc e
  · rw [String.toList_append, List.mem_append] at hc
    rcases hc with hc | hc
    · have : c = '-' := by simpa using hc
      subst this
      exact absurd e (by decide)
    · exact nat_no _ c hc e
theorem cut44 : ∀ {a b x y : List Nat}, 44 ∉ a → 44 ∉ b → a ++ 44 :: x = b ++ 44 :: y → a = b ∧ x = y
  | [], [], _, _, _, _, h => by
    injection h with _ h
    exact ⟨rfl, h⟩
  | [], c :: b, _, _, _, hb, h => by
    injection h with h1 _
    exact absurd (by rw [← h1]; exact List.mem_cons_self ..) hb
  | c :: a, [], _, _, ha, _, h => by
    injection h with h1 _
    exact absurd (by rw [h1]; exact List.mem_cons_self ..) ha
  | c :: a, d :: b, x, y, ha, hb, h => by
    injection h with h1 h2
    obtain ⟨g1, g2⟩ := cut44 (fun z => ha (List.mem_cons_of_mem _ z)) (fun z => hb (List.mem_cons_of_mem _ z)) h2
    exact ⟨by rw [h1, g1], g2⟩
def bText (w s k f : Int) : Str := Str.empty ++ "Blend(" ++ toString w ++ ", " ++ toString s ++ ", " ++ toString k ++ ", " ++ toString f ++ ")"
theorem bText_list (w s k f : Int) : (bText w s k f).cps.toList = [66, 108, 101, 110, 100, 40] ++ (dg w ++ 44 :: (32 :: dg s ++ 44 :: (32 :: dg k ++ 44 :: (32 :: dg f ++ [41])))) := by
  unfold bText dg
  simp only [Str.cps_append, Array.toList_append, List.append_assoc]
  rfl
theorem no32 {l : List Nat} (h : 44 ∉ l) : 44 ∉ (32 :: l) := fun z => (List.mem_cons.mp z).elim (fun e => by cases e) h
theorem bText_inj {w s k f w' s' k' f' : Int} (h : bText w s k f = bText w' s' k' f') : w = w' ∧ s = s' ∧ k = k' ∧ f = f' := by
  have e := congrArg (fun x : Str => x.cps.toList) h
  simp only [bText_list] at e
  have e := List.append_cancel_left e
  obtain ⟨e1, e⟩ := cut44 (dg_no w) (dg_no w') e
  obtain ⟨e2, e⟩ := cut44 (a := 32 :: dg s) (b := 32 :: dg s') (no32 (dg_no s)) (no32 (dg_no s')) e
  obtain ⟨e3, e⟩ := cut44 (a := 32 :: dg k) (b := 32 :: dg k') (no32 (dg_no k)) (no32 (dg_no k')) e
  have e4 := List.append_cancel_right e
  injection e2 with _ e2
  injection e3 with _ e3
  injection e4 with _ e4
  exact ⟨dg_inj e1, dg_inj e2, dg_inj e3, dg_inj e4⟩
theorem num_len {i : Int} (h : i.natAbs.log2 < 1920) : (Str.ofString (toString i)).length ≤ 1921 := PyProof.Rows.int_text_len_1921 h
end KBL
namespace KBL
open PySem
def b2n (b : Bool) : Nat := if b then 1 else 0
theorem bit_one (n p : Nat) : Builtin.bitAnd ((n : Int) / 2 ^ p) 1 = ((b2n (n.testBit p) : Nat) : Int) := by
  rw [show ((n : Int) / 2 ^ p) = ((n / 2 ^ p : Nat) : Int) by rw [Int.natCast_ediv, Int.natCast_pow]; rfl]
  rw [show (1 : Int) = ((1 : Nat) : Int) from rfl, bAnd, Nat.and_one_is_mod, Nat.testBit_eq_decide_div_mod_eq]
  unfold b2n
  have := Nat.mod_two_eq_zero_or_one (n / 2 ^ p)
  rcases this with h | h <;> rw [h] <;> rfl
theorem b2n_one (b : Bool) : (((b2n b : Nat) : Int) = 1) ↔ b = true := by
  cases b <;> decide
theorem b2n_xor (a b : Bool) : Builtin.bitXor ((b2n a : Nat) : Int) ((b2n b : Nat) : Int) = ((b2n (a ^^ b) : Nat) : Int) := by
  rw [bXor]
  cases a <;> cases b <;> rfl
theorem mod_next (x i : Nat) : x % 2 ^ (i + 1) = x % 2 ^ i + b2n (x.testBit i) * 2 ^ i := by
  rw [Nat.mod_pow_succ, Nat.testBit_eq_decide_div_mod_eq]
  unfold b2n
  have := Nat.mod_two_eq_zero_or_one (x / 2 ^ i)
  rcases this with h | h <;> rw [h] <;> simp
end KBL

/-! KD: comprehensions whose elements are made. -/
namespace KD
open PySem PySem.Spec PyProof.Rows L2 KB KG KO
/-- all but lists is kept -/
def SameN (H H' : Hp) : Prop := ∀ a o, H a = some o → (∀ xs, o ≠ .lst xs) → H' a = some o
theorem SameN.of {H H' : Hp} (s : Same H H') : SameN H H' := fun a o e _ => s a o e
theorem SameN.trans {H H' H2 : Hp} (s : SameN H H') (t : SameN H' H2) : SameN H H2 := fun a o e n => t a o (s a o e n) n
theorem SameN.tup {H H' : Hp} {a : Addr} {xs : List V} (s : SameN H H') (h : H a = some (.tup xs)) : H' a = some (.tup xs) := s a _ h (fun _ z => by cases z)
theorem SameN.ins {H H' : Hp} {a C dx : Addr} {fs : List (Str × V)} (s : SameN H H') (h : H a = some (.ins C dx fs)) : H' a = some (.ins C dx fs) := s a _ h (fun _ z => by cases z)
/-- a comprehension without a test; R i v H: what the i-th element is -/
theorem lc_made {J : It} {n : Nat} {G : Hp → Prop} {Y : Nat → Hp → V → Hp → Prop} (wk : Walk J n G Y) {g : TG} {tt : TT} {te : TE} {vs : List Nat} {σ : L2.St} {H1 : Hp} {Q : VK} (R : Nat → V → Hp → Prop) (hn : n ≤ 10000)
    (up : ∀ i v H H', R i v H → SameN H H' → R i v H') (hG : ∀ H', Same H1 H' → G H')
    (hs : ∀ i x H H' (N : V → Hp → Prop) (B : Hp → Prop), i < n → Same H1 H → Y i H x H' → (∀ v H2, Same H H2 → R i v H2 → N v H2) → g x (wipe σ vs) H' fun σ2 H2 => wipe σ2 vs = wipe σ vs ∧ tt σ2 H2 fun b H3 => if b = true then te σ2 H3 N else B H3)
    (hd : ∀ D H' (ys : List V), H1 D = none → Same H1 H' → H' D = some (.lst ys) → ys.length = n → (∀ i v, ys[i]? = some v → R i v H') → Q (.ref D) H') :
    LcW J g tt te vs σ H1 Q := by
  intro D hD
  refine lc_it wk (Qd := fun H => Q (.ref D) H) (fun i H => Same H1 H ∧ ∃ ys : List V, H D = some (.lst ys) ∧ ys.length = i ∧ ∀ j v, ys[j]? = some v → R j v H) ⟨same_new hD, [], upd_same, rfl, fun j v e => by simp at e⟩ (fun i H _ p => hG H p.1) (fun i x H H' hi p y => ?_) (fun H p => ?_)
  · obtain ⟨sm, ys, hy, hl, hR⟩ := p
    refine hs i x H H' _ _ hi sm y (fun v H2 s2 r => ?_)
    have kp : ∀ zs, SameN H2 (upd H2 D (.lst zs)) := fun zs a o e no => by
      rw [upd_ne (fun z => no ys (by rw [z, s2 _ _ hy] at e; exact (Option.some.inj e).symm))]
      exact e
    refine ⟨ys, s2 _ _ hy, small1000' (by omega), same_mut (sm.trans s2) hD, ys ++ [v], upd_same, by simp [hl], fun j w e => ?_⟩
    by_cases hj : j < ys.length
    · rw [List.getElem?_append_left hj] at e
      exact up _ _ _ _ (hR j w e) ((SameN.of s2).trans (kp _))
    · rw [List.getElem?_append_right (by omega)] at e
      have h0 : j - ys.length = 0 := by
        cases z : j - ys.length with
        | zero => rfl
        | succ m => rw [z] at e; simp at e
      rw [h0] at e
      have ew : v = w := Option.some.inj e
      subst ew
      have ej : j = i := by omega
      subst ej
      exact up _ _ _ _ r (kp _)
  · obtain ⟨sm, ys, hy, hl, hR⟩ := p
    exact hd D H ys hD sm hy hl hR
/-- a comprehension whose test is never true -/
theorem lc_none {J : It} {n : Nat} {G : Hp → Prop} {Y : Nat → Hp → V → Hp → Prop} (wk : Walk J n G Y) {g : TG} {tt : TT} {te : TE} {vs : List Nat} {σ : L2.St} {H1 : Hp} {Q : VK}
    (hG : ∀ H', Same H1 H' → G H')
    (hs : ∀ i x H H' (B : Hp → Prop) (N : V → Hp → Prop), i < n → Same H1 H → Y i H x H' → (∀ H2, Same H H2 → B H2) → g x (wipe σ vs) H' fun σ2 H2 => wipe σ2 vs = wipe σ vs ∧ tt σ2 H2 fun b H3 => if b = true then te σ2 H3 N else B H3)
    (hd : ∀ D H', H1 D = none → Same H1 H' → H' D = some (.lst []) → Q (.ref D) H') :
    LcW J g tt te vs σ H1 Q := by
  intro D hD
  refine lc_it wk (Qd := fun H => Q (.ref D) H) (fun i H => Same H1 H ∧ H D = some (.lst [])) ⟨same_new hD, upd_same⟩ (fun i H _ p => hG H p.1) (fun i x H H' hi p y => ?_) (fun H p => hd D H hD p.1 p.2)
  exact hs i x H H' _ _ hi p.1 y (fun H2 s2 => ⟨p.1.trans s2, s2 _ _ p.2⟩)
theorem r_yes {σ : L2.St} {H : Hp} {QT : Bool → Hp → Prop} (q : QT true H) : tYes σ H QT := q
/-! ### what repr shows -/
open KY
theorem fit_int {tag : Str} (ht : (reprText tag).length ≤ 100) {i : Int} (h : i.natAbs.log2 < 1920) : Fit tag (.sc (.int i)) := by
  have l := KBL.num_len h
  have sl2 : 10000 ≤ sizeLine := by decide
  refine ⟨?_, ?_, ?_⟩
  · simp only [Dt.d, Sc.d, PyData.showable]
    exact decide_eq_true h
  · simp [KY.pairD, PyData.depth, PyData.depthAll, Dt.d, Sc.d]
  · simp only [KY.pairD, PyData.shown, PyData.shownAll, Dt.d, Sc.d, listText, textFrom, Str.length_append]
    have c1 : (Str.ofString "[").length = 1 := by decide +kernel
    have c2 : (Str.ofString "]").length = 1 := by decide +kernel
    have c3 : (Str.ofString (if 0 > 0 then ", " else "")).length = 0 := by decide +kernel
    have c4 : (Str.ofString (if 0 + 1 > 0 then ", " else "")).length = 2 := by decide +kernel
    omega
def fitB (tag : Str) (t : Dt) : Bool := PyData.showable t.d && decide ((KY.pairD tag t).depth ≤ 60) && decide ((KY.pairD tag t).shown.length ≤ 1000)
theorem fit_of {tag : Str} {t : Dt} (h : fitB tag t = true) : Fit tag t := by
  unfold fitB at h
  simp only [Bool.and_eq_true, decide_eq_true_eq] at h
  exact ⟨h.1.1, h.1.2, Nat.le_trans h.2 (by decide)⟩
theorem strOk_of (s : String) : PyData.strOk (Str.ofString s) = true := by
  unfold PyData.strOk
  rw [Str.ofString_eq_toList]
  rw [List.all_toArray, List.all_eq_true]
  intro x hx
  obtain ⟨c, _, rfl⟩ := List.mem_map.mp hx
  have h := c.valid
  have e : c.toNat = c.val.toNat := rfl
  refine decide_eq_true ?_
  rw [e]
  rcases h with h | h
  · have : c.val.toNat < 0xd800 := h
    omega
  · have : c.val.toNat < 0x110000 := h.2
    omega
theorem strOk_app (a b : Str) : PyData.strOk (a ++ b) = (PyData.strOk a && PyData.strOk b) := by
  unfold PyData.strOk
  show (a.cps ++ b.cps).all _ = _
  rw [Array.all_append]
theorem ok_intText {tag : Str} (ht : PyData.strOk (reprText tag) = true) (i : Int) : PyData.strOk (KY.pairD tag (.sc (.int i))).shown = true := by
  simp only [KY.pairD, PyData.shown, PyData.shownAll, Dt.d, Sc.d, listText, textFrom, strOk_app, strOk_of, ht, Bool.and_self]
/-! ### f(k = v, ..), its reading named -/
section
variable {X : Cx}
def tCK (ks : List Str) (sp : Sp) (gV : List V → List V → List V) (E : XK) (tk : TA) : TE := fun σ H Q => tk σ H fun zs H2 => zs.length = ks.length ∧ sp (gV [] zs) H2 Q E
theorem pe_callK {CX : CXT} {k : Nat} {x : Str} {ps ks : List Str} {sp : Sp} {gV : List V → List V → List V} {E : XK} {kws : List Keyword} {p pos : Pos} {tk : TA} (c : CalleeKw X.prog X.w X.K X.mg X.base CX k x ps sp 0 ks gV) (room : Room k X.A) (gl : Gl X x) (pass : Passes CX X E) (hkw : PK X kws tk)
    (d1 : (backToKw pos (keywordEach kws X.env)).all (·.1.isSome) = true := by rfl) (d2 : (backToKw pos (keywordEach kws X.env)).filterMap (·.1) = ks := by rfl) (d3 : (x == ("__debug__" : Str)) = false := by decide)
    (d4 : ((backTo pos (starEach [] X.env)).any (·.1) || (backToKw pos (keywordEach kws X.env)).any (·.1.isNone)) = false := by rfl) :
    PE X (.Call (.Name x p) [] kws pos) (tCK ks sp gV E tk) := KC.pe_callK0 c room gl pass hkw d1 d2 d3 d4
theorem r_ck {σ : L2.St} {H : Hp} {Q : VK} {ks : List Str} {sp : Sp} {gV : List V → List V → List V} {E : XK} {tk : TA} (q : tk σ H fun zs H2 => zs.length = ks.length ∧ sp (gV [] zs) H2 Q E) : tCK ks sp gV E tk σ H Q := q
end
end KD

/-! KR: own object beside data of any type under &, |, ^, <<, >>, on either side. -/
namespace KR
open PySem PySem.Spec PyProof.Rows L2 KB KG KO KY
section
variable {prog : Program} {w : World} {A : Around} {E : Value → Shared → Prop} {s : Shared} {K : PySem.W.Frag} {x C L g g2 : Addr} {hb : Heap} {m : Str → Option Value} {ox : Obj} {od : Option Obj} {T : String}
open PySem.W in
/-- o op v -/
theorem bin_left {op : Operator} {v : Value} {fo ro rc : Option Value} {Z : Value → Shared → Prop} (F : Fr hb L s.heap m) (X0 : K.In hb) (I : InstAt s.heap x ox C od) (lv : Looks (model prog w) s.heap (typeOf v) (.type T)) (c1 : selfFirst K C = true)
    (c2 : findIn K (.ref C) (PySem.dunder op.info.2) = some (some (.ref g))) (c3 : isFn K (.ref g) = true) (c4 : findIn K (.ref C) (dunderR op.info.2) = some rc) (c5 : rc = none ∨ ∃ z : Addr, rc = some (.ref z))
    (c6 : findIn K (.type T) (PySem.dunder op.info.2) = some fo) (c7 : findIn K (.type T) (dunderR op.info.2) = some ro) (c8 : subIn K (.type T) (.ref C) = some false)
    (go : wpAny (model prog w) A (call (.ref g) [.ref x, v]) (PySem.W.CmpBack Z) E s) : wpAny (model prog w) A (binaryOp op (.ref x) v) Z E s := by
  have XK := X0.keeps F.keep
  obtain ⟨cd, rest, hcd, hmro⟩ := ksp_first c1
  rcases oi : op.info with ⟨sy, n1⟩
  rw [oi] at c2 c4 c6 c7
  dsimp only at c2 c4 c6 c7
  have once := ksp_try XK I c2 c3 go
  obtain ⟨sh, sg, sd, stk, sos⟩ := s
  have k1 : Looks (model prog w) sh (typeOf (.ref x)) (.ref C) := I.type
  have k2 : Looks (model prog w) sh (typeOf v) (.type T) := lv
  have k3 : Looks (model prog w) sh (fillsNumberSlot (.ref C) n1) true := fills_K XK hcd hmro c2
  have k4 : Looks (model prog w) sh (fillsNumberSlot (.type T) n1) _ := ksp_fillsT XK c6 c7
  have k5 : Looks (model prog w) sh (isSubtype (.type T) (.ref C)) false := looks_subIn XK c8
  have k6 : Looks (model prog w) sh (numberSlotInPython (.ref C) n1) true := ksp_inPy XK c2 c4 c5
  have k7 : Looks (model prog w) sh (numberSlotInPython (.type T) n1) false := Looks.of_pure rfl
  have k8 : Looks (model prog w) sh (typeLookup (.type T) (dunderR n1)) ro := looks_findIn XK c7
  revert k4
  generalize ((fo.isSome && !isSeqSlot fo) || (ro.isSome && !isSeqSlot ro)) = rt
  intro k4
  have nq : (Value.ref C == Value.type T) = false := Bool.eq_false_iff.mpr fun q => by cases beq_iff_eq.mp q
  simp only [binaryOp, oi]
  refine wpAny_holding (wpAny_bind ?_)
  unfold binaryOp1
  refine wpAny_bind (k1.at (wpAny_bind (k2.at (wpAny_bind (k3.at ?_)))))
  simp only [nq, Bool.false_eq_true, if_false]
  cases rt
  all_goals
    ksp_lk
    refine wpAny_mono once (fun r s' y => ?_) fun _ _ e => e
    obtain ⟨v', rfl, hq⟩ := y
    ksp_lk
    exact hq
open PySem.W in
/-- v op o -/
theorem bin_right {op : Operator} {v : Value} {fo ro : Option Value} {fl : Bool} {Z : Value → Shared → Prop} (F : Fr hb L s.heap m) (X0 : K.In hb) (I : InstAt s.heap x ox C od) (lv : Looks (model prog w) s.heap (typeOf v) (.type T)) (c1 : selfFirst K C = true)
    (c2 : findIn K (.ref C) (PySem.dunder op.info.2) = some (some (.ref g2))) (c3 : isFn K (.ref g) = true) (c4 : findIn K (.ref C) (dunderR op.info.2) = some (some (.ref g)))
    (c6 : findIn K (.type T) (PySem.dunder op.info.2) = some fo) (c7 : findIn K (.type T) (dunderR op.info.2) = some ro) (c9 : ((fo.isSome && !isSeqSlot fo) || (ro.isSome && !isSeqSlot ro)) = fl) (c8 : fl = true → subIn K (.ref C) (.type T) = some false)
    (no : fl = true → Looks (model prog w) s.heap (tryMethod v (PySem.dunder op.info.2) (.ref x)) none)
    (go : wpAny (model prog w) A (call (.ref g) [.ref x, v]) (PySem.W.CmpBack Z) E s) : wpAny (model prog w) A (binaryOp op v (.ref x)) Z E s := by
  have XK := X0.keeps F.keep
  obtain ⟨cd, rest, hcd, hmro⟩ := ksp_first c1
  rcases oi : op.info with ⟨sy, n1⟩
  rw [oi] at c2 c4 c6 c7 no
  dsimp only at c2 c4 c6 c7 no
  have once := ksp_try XK I c4 c3 go
  obtain ⟨sh, sg, sd, stk, sos⟩ := s
  have k1 : Looks (model prog w) sh (typeOf (.ref x)) (.ref C) := I.type
  have k2 : Looks (model prog w) sh (typeOf v) (.type T) := lv
  have k3 : Looks (model prog w) sh (fillsNumberSlot (.ref C) n1) true := fills_K XK hcd hmro c2
  have k4 : Looks (model prog w) sh (fillsNumberSlot (.type T) n1) fl := c9 ▸ ksp_fillsT XK c6 c7
  have k7 : Looks (model prog w) sh (numberSlotInPython (.type T) n1) false := Looks.of_pure rfl
  have nq : (Value.type T == Value.ref C) = false := Bool.eq_false_iff.mpr fun q => by cases beq_iff_eq.mp q
  simp only [binaryOp, oi]
  refine wpAny_holding (wpAny_bind ?_)
  unfold binaryOp1
  refine wpAny_bind (k2.at (wpAny_bind (k1.at (wpAny_bind (k4.at ?_)))))
  simp only [nq, Bool.false_eq_true, if_false]
  cases fl with
  | false =>
    ksp_lk
    refine wpAny_mono once (fun r s' y => ?_) fun _ _ e => e
    obtain ⟨v', rfl, hq⟩ := y
    ksp_lk
    exact hq
  | true =>
    have k5 : Looks (model prog w) sh (isSubtype (.ref C) (.type T)) false := looks_subIn XK (c8 rfl)
    have k9 := no rfl
    ksp_lk
    refine Looks.at k9 ?_
    ksp_lk
    refine wpAny_mono once (fun r s' y => ?_) fun _ _ e => e
    obtain ⟨v', rfl, hq⟩ := y
    ksp_lk
    exact hq
end
section
variable {X : Cx} {pins : List (Addr × Obj)} {σ : L2.St} {H : Hp} {st : Shared}
theorem od_type {v : V} {u : Value} {t : Dt} (inv : Inv X pins σ H st) (o : OdAt H v t) (r : RelV v u) : st.TypeIs u t.ty := by
  cases t with
  | sc s =>
    obtain rfl : v = s.v := o
    cases s with
    | non => cases (show u = Value.none from r); exact rfl
    | bl b => cases (show u = Value.bool b from r); exact rfl
    | int i => obtain ⟨t, rfl⟩ := (show ∃ t, u = Value.int i t from r); exact rfl
    | str x => obtain ⟨t, rfl⟩ := (show ∃ t, u = Value.str x t from r); exact rfl
  | tup l =>
    obtain ⟨a, rfl, e⟩ := o
    obtain rfl : u = Value.ref a := r
    obtain ⟨its, rv, ⟨ob, ho, hc, n, hd⟩, _⟩ := inv.tuple (SqT.of e)
    exact ⟨_, ho, hc⟩
  | lst l =>
    obtain ⟨a, rfl, e⟩ := o
    obtain rfl : u = Value.ref a := r
    obtain ⟨its, rv, ⟨ob, n, ho, hc, _, hd⟩, _⟩ := inv.list (SqL.of e)
    exact ⟨_, ho, hc⟩
  | dct l =>
    obtain ⟨a, rfl, e⟩ := o
    obtain rfl : u = Value.ref a := r
    obtain ⟨_, ns, vs, kv, ob, es, ep, ho, hex, hd, _, prs, _⟩ := dk_of inv.hok e
    exact ⟨_, ho, hex.1⟩
theorem type_looks {M : Model} {s : Shared} {u : Value} {T : String} (h : s.TypeIs u T) : PySem.W.Looks M s.heap (typeOf u) (.type T) := by
  intro A Q E s' k q
  refine wpAny_typeOf (T := T) ?_ q
  cases u with
  | ref b =>
    obtain ⟨o, e, c⟩ := h
    exact ⟨o, k _ _ e, c⟩
  | _ => exact h
end
section
variable {M : Model} {s : Shared} {x C dx : Addr}
open PySem.SeqAt PySem.MeetsSeq PySem.AutoSeq1
theorem int_and_no (i : Int) (t : Tok) : Meets (Builtin.«int.__and__» ⟨[.int i t, .ref x], []⟩) (fun _ R s => s.heap.get? x = some (PySem.W.instObj C dx) ∧ R (.ok (.ret .notImplemented)) s) :=
  .of_wp fun prog w A R s h => by obtain ⟨hp, g, d, tk, os⟩ := s; obtain ⟨hl, h⟩ := h; wp_walk using wpAny_loadPart' hl, wpAny_load hl; exact ⟨_, rfl, h⟩
theorem int_or_no (i : Int) (t : Tok) : Meets (Builtin.«int.__or__» ⟨[.int i t, .ref x], []⟩) (fun _ R s => s.heap.get? x = some (PySem.W.instObj C dx) ∧ R (.ok (.ret .notImplemented)) s) :=
  .of_wp fun prog w A R s h => by obtain ⟨hp, g, d, tk, os⟩ := s; obtain ⟨hl, h⟩ := h; wp_walk using wpAny_loadPart' hl, wpAny_load hl; exact ⟨_, rfl, h⟩
theorem int_xor_no (i : Int) (t : Tok) : Meets (Builtin.«int.__xor__» ⟨[.int i t, .ref x], []⟩) (fun _ R s => s.heap.get? x = some (PySem.W.instObj C dx) ∧ R (.ok (.ret .notImplemented)) s) :=
  .of_wp fun prog w A R s h => by obtain ⟨hp, g, d, tk, os⟩ := s; obtain ⟨hl, h⟩ := h; wp_walk using wpAny_loadPart' hl, wpAny_load hl; exact ⟨_, rfl, h⟩
theorem bool_and_no (b : Bool) : Meets (Builtin.«bool.__and__» ⟨[.bool b, .ref x], []⟩) (fun _ R s => s.heap.get? x = some (PySem.W.instObj C dx) ∧ R (.ok (.ret .notImplemented)) s) :=
  .of_wp fun prog w A R s h => by obtain ⟨hp, g, d, tk, os⟩ := s; obtain ⟨hl, h⟩ := h; wp_walk using wpAny_loadPart' hl, wpAny_load hl; exact ⟨_, rfl, h⟩
theorem bool_or_no (b : Bool) : Meets (Builtin.«bool.__or__» ⟨[.bool b, .ref x], []⟩) (fun _ R s => s.heap.get? x = some (PySem.W.instObj C dx) ∧ R (.ok (.ret .notImplemented)) s) :=
  .of_wp fun prog w A R s h => by obtain ⟨hp, g, d, tk, os⟩ := s; obtain ⟨hl, h⟩ := h; wp_walk using wpAny_loadPart' hl, wpAny_load hl; exact ⟨_, rfl, h⟩
theorem bool_xor_no (b : Bool) : Meets (Builtin.«bool.__xor__» ⟨[.bool b, .ref x], []⟩) (fun _ R s => s.heap.get? x = some (PySem.W.instObj C dx) ∧ R (.ok (.ret .notImplemented)) s) :=
  .of_wp fun prog w A R s h => by obtain ⟨hp, g, d, tk, os⟩ := s; obtain ⟨hl, h⟩ := h; wp_walk using wpAny_loadPart' hl, wpAny_load hl; exact ⟨_, rfl, h⟩
end
section
variable {prog : Program} {w : World} {M : Model} {s : Shared} {x l C dx : Addr}
open PySem.SeqAt PySem.MeetsSeq PySem.AutoSeq1
theorem dict_or_no (es : Array DictEntry) (n : Nat) (dd : Option Addr) (sl : Array (Option Value)) : MeetsIn prog w (Builtin.«dict.__or__» ⟨[.ref l, .ref x], []⟩) (fun _ R s => s.heap.get? l = some { cls := .type "dict", dict := dd, data := .dict es n, slots := sl } ∧ s.heap.get? x = some (PySem.W.instObj C dx) ∧ PySem.W.Looks (model prog w) s.heap (isSubtype (.ref C) (.type "dict")) false ∧ R (.ok (.ret .notImplemented)) s) :=
  .of_wp fun A R s h => by
    obtain ⟨hp, g, d, tk, os⟩ := s
    obtain ⟨hl, hx, hs, h⟩ := h
    have f1 : isSubtype (.type "dict") (.type "dict") = pure true := by rw [isSubtype_type]; kernel_rfl
    wp_walk using wpAny_loadPart' hl, wpAny_load hl, wpAny_loadPart' hx, wpAny_load hx, hs.here
    exact ⟨_, rfl, h⟩
end
section
variable {prog : Program} {w : World} {A : Around} {E : Value → Shared → Prop} {s : Shared} {x C dx : Addr} {Q : Option Value → Shared → Prop}
theorem try_no {u : Value} {nm T id : String} (slot : Slot T (PySem.dunder nm) id) (ty : s.TypeIs u T) (c : ∀ Z : Value → Shared → Prop, Z .notImplemented s → wpAny (model prog w) A (call (.builtin id) [u, .ref x]) Z E s) (q : Q none s) : wpAny (model prog w) A (tryMethod u (PySem.dunder nm) (.ref x)) Q E s :=
  wpAny_tryMethod_declines (T := T) (name := PySem.dunder nm) (id := id) ty slot (c _ ⟨rfl, q⟩)
theorem try_int {i : Int} {t : Tok} {nm : String} (hn : nm = "and" ∨ nm = "or" ∨ nm = "xor") (h : s.heap.get? x = some (PySem.W.instObj C dx)) (q : Q none s) : wpAny (model prog w) A (tryMethod (.int i t) (PySem.dunder nm) (.ref x)) Q E s := by
  rcases hn with rfl | rfl | rfl
  · exact try_no (nm := "and") (T := "int") (id := "int.__and__") F.slot_int_and (typeIs_int s i t) (fun Z z => call_meets F.slot_int_and (typeIs_int s i t) F.entry_int_and (F.args_int_and_2 _ _) (int_and_no i t) ⟨h, z⟩) q
  · exact try_no (nm := "or") (T := "int") (id := "int.__or__") F.slot_int_or (typeIs_int s i t) (fun Z z => call_meets F.slot_int_or (typeIs_int s i t) F.entry_int_or (F.args_int_or_2 _ _) (int_or_no i t) ⟨h, z⟩) q
  · exact try_no (nm := "xor") (T := "int") (id := "int.__xor__") F.slot_int_xor (typeIs_int s i t) (fun Z z => call_meets F.slot_int_xor (typeIs_int s i t) F.entry_int_xor (F.args_int_xor_2 _ _) (int_xor_no i t) ⟨h, z⟩) q
theorem try_bool {b : Bool} {nm : String} (hn : nm = "and" ∨ nm = "or" ∨ nm = "xor") (h : s.heap.get? x = some (PySem.W.instObj C dx)) (q : Q none s) : wpAny (model prog w) A (tryMethod (.bool b) (PySem.dunder nm) (.ref x)) Q E s := by
  have ty : s.TypeIs (.bool b) "bool" := rfl
  rcases hn with rfl | rfl | rfl
  · exact try_no (nm := "and") (T := "bool") (id := "bool.__and__") F.slot_bool_and ty (fun Z z => call_meets F.slot_bool_and ty F.entry_bool_and (F.args_bool_and_2 _ _) (bool_and_no b) ⟨h, z⟩) q
  · exact try_no (nm := "or") (T := "bool") (id := "bool.__or__") F.slot_bool_or ty (fun Z z => call_meets F.slot_bool_or ty F.entry_bool_or (F.args_bool_or_2 _ _) (bool_or_no b) ⟨h, z⟩) q
  · exact try_no (nm := "xor") (T := "bool") (id := "bool.__xor__") F.slot_bool_xor ty (fun Z z => call_meets F.slot_bool_xor ty F.entry_bool_xor (F.args_bool_xor_2 _ _) (bool_xor_no b) ⟨h, z⟩) q
theorem try_dict {l : Addr} {es : Array DictEntry} {n : Nat} {dd : Option Addr} {sl : Array (Option Value)} (hl : s.heap.get? l = some { cls := .type "dict", dict := dd, data := .dict es n, slots := sl }) (h : s.heap.get? x = some (PySem.W.instObj C dx)) (ls : PySem.W.Looks (model prog w) s.heap (isSubtype (.ref C) (.type "dict")) false) (q : Q none s) :
    wpAny (model prog w) A (tryMethod (.ref l) (PySem.dunder "or") (.ref x)) Q E s := by
  have ty : s.TypeIs (.ref l) "dict" := ⟨_, hl, rfl⟩
  exact try_no (nm := "or") (T := "dict") (id := "dict.__or__") F.slot_dict_or ty (fun Z z => call_meetsIn F.slot_dict_or ty F.entry_dict_or (F.args_dict_or_2 _ _) (dict_or_no es n dd sl) ⟨hl, h, ls, z⟩) q
end
/-! ### the rules -/
theorem ty_in (t : Dt) : t.ty ∈ ["NoneType", "bool", "int", "str", "tuple", "list", "dict"] := by
  cases t with
  | sc s => cases s <;> simp [Dt.ty]
  | tup => simp [Dt.ty]
  | lst => simp [Dt.ty]
  | dct => simp [Dt.ty]
theorem find_ty (K : PySem.W.Frag) {T : String} (h : T ∈ ["NoneType", "bool", "int", "str", "tuple", "list", "dict"]) (n : Str) (hn : n ∈ (["__and__", "__rand__", "__or__", "__ror__", "__xor__", "__rxor__", "__lshift__", "__rlshift__", "__rshift__", "__rrshift__"] : List Str)) : ∃ r, PySem.W.findIn K (.type T) n = some r := by
  have z : ∀ T ∈ ["NoneType", "bool", "int", "str", "tuple", "list", "dict"], ∀ n ∈ (["__and__", "__rand__", "__or__", "__ror__", "__xor__", "__rxor__", "__lshift__", "__rlshift__", "__rshift__", "__rrshift__"] : List Str), (PySem.fastLookup T n).isSome = true := by decide +kernel
  exact Option.isSome_iff_exists.mp (z T h n hn)
theorem sub_ty (K : PySem.W.Frag) {T : String} (h : T ∈ ["NoneType", "bool", "int", "str", "tuple", "list", "dict"]) (C : Addr) : PySem.W.subIn K (.type T) (.ref C) = some false := by
  simp only [List.mem_cons, List.not_mem_nil, or_false] at h
  rcases h with rfl | rfl | rfl | rfl | rfl | rfl | rfl <;> rfl
section
variable {X : Cx}
def ops3 : List Operator := [.BitAnd, .BitOr, .BitXor]
def ops5 : List Operator := [.BitAnd, .BitOr, .BitXor, .LShift, .RShift]
structure OwnBD (P : Program) (w : World) (K : PySem.W.Frag) (mg : Str → Option Value) (base : Heap) (CX : CXT) (k : Nat) (C : Addr) (op : Operator) (ps : List Str) (sp : Sp) : Prop where
  ex : ∃ (g : Addr) (fd : FuncData) (rc : Option Value), op ∈ ops5 ∧ PySem.W.selfFirst K C = true ∧ PySem.W.findIn K (.ref C) (PySem.dunder op.info.2) = some (some (.ref g)) ∧ PySem.W.isFn K (.ref g) = true ∧ PySem.W.findIn K (.ref C) (dunderR op.info.2) = some rc ∧ (rc = none ∨ ∃ g : Addr, rc = some (.ref g)) ∧ FnOk P w K mg base CX k g fd ps sp ∧ Binds K fd ps []
structure OwnBR (P : Program) (w : World) (K : PySem.W.Frag) (mg : Str → Option Value) (base : Heap) (CX : CXT) (k : Nat) (C : Addr) (op : Operator) (ps : List Str) (sp : Sp) : Prop where
  ex : ∃ (g g2 : Addr) (fd : FuncData), op ∈ ops3 ∧ PySem.W.selfFirst K C = true ∧ PySem.W.findIn K (.ref C) (PySem.dunder op.info.2) = some (some (.ref g2)) ∧ PySem.W.isFn K (.ref g) = true ∧ PySem.W.findIn K (.ref C) (dunderR op.info.2) = some (some (.ref g)) ∧
    PySem.W.subIn K (.ref C) (.type "int") = some false ∧ PySem.W.subIn K (.ref C) (.type "bool") = some false ∧ PySem.W.subIn K (.ref C) (.type "dict") = some false ∧ FnOk P w K mg base CX k g fd ps sp ∧ Binds K fd ps []
theorem find5 (K : PySem.W.Frag) {T : String} (h : T ∈ ["NoneType", "bool", "int", "str", "tuple", "list", "dict"]) {op : Operator} (ho : op ∈ ops5) : (∃ r, PySem.W.findIn K (.type T) (PySem.dunder op.info.2) = some r) ∧ ∃ r, PySem.W.findIn K (.type T) (dunderR op.info.2) = some r := by
  have m : ∀ op ∈ ops5, PySem.dunder op.info.2 ∈ (["__and__", "__rand__", "__or__", "__ror__", "__xor__", "__rxor__", "__lshift__", "__rlshift__", "__rshift__", "__rrshift__"] : List Str) ∧ dunderR op.info.2 ∈ (["__and__", "__rand__", "__or__", "__ror__", "__xor__", "__rxor__", "__lshift__", "__rlshift__", "__rshift__", "__rrshift__"] : List Str) := by
    intro op ho
    simp only [ops5, List.mem_cons, List.not_mem_nil, or_false] at ho
    rcases ho with rfl | rfl | rfl | rfl | rfl <;> decide +kernel
  exact ⟨find_ty K h _ (m op ho).1, find_ty K h _ (m op ho).2⟩
def rBinD (C : Addr) (sp : Sp) (E : XK) : R2 := fun x y H Q => ∃ (a dx : Addr) (fs : List (Str × V)) (t : Dt), x = .ref a ∧ H a = some (.ins C dx fs) ∧ OdAt H y t ∧ sp [x, y] H Q E
def rBinR (C : Addr) (sp : Sp) (E : XK) : R2 := fun x y H Q => ∃ (a dx : Addr) (fs : List (Str × V)) (t : Dt), y = .ref a ∧ H a = some (.ins C dx fs) ∧ OdAt H x t ∧ sp [y, x] H Q E
theorem op_binD {CX : CXT} {E : XK} {C : Addr} {op : Operator} {ps : List Str} {sp : Sp} {n : Nat} (c : OwnBD X.prog X.w X.K X.mg X.base CX n C op ps sp) (room : Room n X.A) (pass : Passes CX X E) : OpR X (binaryOp op) (rBinD C sp E) := by
  obtain ⟨g, fd, rc, ho, c1, c2, c3, c4, c5, F, bind⟩ := c.ex
  intro pins st σ h x y v u Z inv rx ry pre
  obtain ⟨a, dx, fs, t, rfl, ha, od, z⟩ := pre
  obtain rfl : v = Value.ref a := rx
  obtain ⟨oo, J⟩ := inst_of inv ha
  obtain ⟨m, hF⟩ := inv.fr
  obtain ⟨⟨fo, e1⟩, ro, e2⟩ := find5 X.K (ty_in t) ho
  refine bin_left hF inv.ok.mod.kin J (type_looks (od_type inv od ry)) c1 c2 c3 c4 c5 e1 e2 (sub_ty X.K (ty_in t) C) ?_
  refine wpAny_mono (run_fn (us := [.ref a, u]) (vs := [.ref a, y]) F room bind .nil pass inv (.cons rfl (.cons ry .nil)) z) (fun w s2 r => ?_) fun _ _ z => z
  obtain ⟨z', h2, inv2, rz, qz⟩ := r
  exact SlX.cmpback rz ⟨z', h2, inv2, rz, qz⟩
theorem on3 {op : Operator} (ho : op ∈ ops3) : op.info.2 = "and" ∨ op.info.2 = "or" ∨ op.info.2 = "xor" := by
  simp only [ops3, List.mem_cons, List.not_mem_nil, or_false] at ho
  rcases ho with rfl | rfl | rfl
  · exact .inl rfl
  · exact .inr (.inl rfl)
  · exact .inr (.inr rfl)
/-- the three operations, by types of data that know none of them, or decline -/
theorem declines {P : Program} {w : World} {pins : List (Addr × Obj)} {σ : L2.St} {H : Hp} {st : Shared} {K : PySem.W.Frag} {v : V} {u : Value} {t : Dt} {a C dx : Addr} {oo : Option Obj} {op : Operator} {fo ro : Option Value} (ho : op ∈ ops3) (inv : Inv X pins σ H st) (XK : K.In st.heap) (od : OdAt H v t) (r : RelV v u) (J : PySem.W.InstAt st.heap a (PySem.W.instObj C dx) C oo)
    (s3 : PySem.W.subIn K (.ref C) (.type "dict") = some false)
    (e1 : PySem.W.findIn K (.type t.ty) (PySem.dunder op.info.2) = some fo) (e2 : PySem.W.findIn K (.type t.ty) (dunderR op.info.2) = some ro) (fl : ((fo.isSome && !isSeqSlot fo) || (ro.isSome && !isSeqSlot ro)) = true) :
    (t.ty = "int" ∨ t.ty = "bool" ∨ t.ty = "dict") ∧ PySem.W.Looks (model P w) st.heap (tryMethod u (PySem.dunder op.info.2) (.ref a)) none := by
  have hx : st.heap.get? a = some (PySem.W.instObj C dx) := J.at_
  have none4 : ∀ T ∈ ["NoneType", "str", "tuple", "list"], ∀ n ∈ (["__and__", "__rand__", "__or__", "__ror__", "__xor__", "__rxor__"] : List Str), (PySem.fastLookup T n).map Option.isNone = some true := by decide +kernel
  have noneD : ∀ n ∈ (["__and__", "__rand__", "__xor__", "__rxor__"] : List Str), (PySem.fastLookup "dict" n).map Option.isNone = some true := by decide +kernel
  have d1 : PySem.dunder Operator.BitAnd.info.2 = "__and__" ∧ dunderR Operator.BitAnd.info.2 = "__rand__" := by decide +kernel
  have d2 : PySem.dunder Operator.BitOr.info.2 = "__or__" ∧ dunderR Operator.BitOr.info.2 = "__ror__" := by decide +kernel
  have d3 : PySem.dunder Operator.BitXor.info.2 = "__xor__" ∧ dunderR Operator.BitXor.info.2 = "__rxor__" := by decide +kernel
  have lk : ∀ (T : String) (n : Str) (r : Option Value), PySem.W.findIn K (.type T) n = some r → PySem.fastLookup T n = some r := fun _ _ _ e => e
  replace e1 := lk _ _ _ e1
  replace e2 := lk _ _ _ e2
  have clash : ∀ (T : String) (n1 n2 : Str), (PySem.fastLookup T n1).map Option.isNone = some true → (PySem.fastLookup T n2).map Option.isNone = some true → PySem.fastLookup T n1 = some fo → PySem.fastLookup T n2 = some ro → False := by
    intro T n1 n2 y1 y2 z1 z2
    rw [z1] at y1
    rw [z2] at y2
    cases fo with
    | some _ => cases y1
    | none =>
      cases ro with
      | some _ => cases y2
      | none => cases fl
  have four : t.ty ∈ ["NoneType", "str", "tuple", "list"] → False := by
    intro ht
    simp only [ops3, List.mem_cons, List.not_mem_nil, or_false] at ho
    rcases ho with rfl | rfl | rfl
    · rw [d1.1] at e1
      rw [d1.2] at e2
      exact clash _ _ _ (none4 _ ht "__and__" (by simp)) (none4 _ ht "__rand__" (by simp)) e1 e2
    · rw [d2.1] at e1
      rw [d2.2] at e2
      exact clash _ _ _ (none4 _ ht "__or__" (by simp)) (none4 _ ht "__ror__" (by simp)) e1 e2
    · rw [d3.1] at e1
      rw [d3.2] at e2
      exact clash _ _ _ (none4 _ ht "__xor__" (by simp)) (none4 _ ht "__rxor__" (by simp)) e1 e2
  cases t with
  | sc sc0 =>
    obtain rfl : v = sc0.v := od
    cases sc0 with
    | non => exact (four (by simp [Dt.ty])).elim
    | str => exact (four (by simp [Dt.ty])).elim
    | int i =>
      obtain ⟨tk, rfl⟩ := (show ∃ t, u = Value.int i t from r)
      refine ⟨.inl rfl, fun A Q E s' k q => ?_⟩
      exact try_int (C := C) (dx := dx) (on3 ho) (k _ _ hx) q
    | bl b =>
      obtain rfl := (show u = Value.bool b from r)
      refine ⟨.inr (.inl rfl), fun A Q E s' k q => ?_⟩
      exact try_bool (C := C) (dx := dx) (on3 ho) (k _ _ hx) q
  | tup l => exact (four (by simp [Dt.ty])).elim
  | lst l => exact (four (by simp [Dt.ty])).elim
  | dct l =>
    obtain ⟨b, rfl, e⟩ := od
    obtain rfl : u = Value.ref b := r
    obtain ⟨_, ns, vs, kv, ob, es, ep, hb, hex, hd, _, prs, _⟩ := dk_of inv.hok e
    refine ⟨.inr (.inr rfl), fun A Q E s' k q => ?_⟩
    simp only [ops3, List.mem_cons, List.not_mem_nil, or_false] at ho
    rcases ho with rfl | rfl | rfl
    · rw [d1.1] at e1
      rw [d1.2] at e2
      exact (clash "dict" _ _ (noneD "__and__" (by simp)) (noneD "__rand__" (by simp)) e1 e2).elim
    · obtain ⟨cls, dd, data, sl⟩ := ob
      have hc := hex.1
      simp only at hc hd
      subst hc hd
      exact try_dict (C := C) (dx := dx) (k _ _ hb) (k _ _ hx) ((PySem.W.looks_subIn XK s3).keeps k) q
    · rw [d3.1] at e1
      rw [d3.2] at e2
      exact (clash "dict" _ _ (noneD "__xor__" (by simp)) (noneD "__rxor__" (by simp)) e1 e2).elim
theorem op_binR {CX : CXT} {E : XK} {C : Addr} {op : Operator} {ps : List Str} {sp : Sp} {n : Nat} (c : OwnBR X.prog X.w X.K X.mg X.base CX n C op ps sp) (room : Room n X.A) (pass : Passes CX X E) : OpR X (binaryOp op) (rBinR C sp E) := by
  obtain ⟨g, g2, fd, ho, c1, c2, c3, c4, s1, s2, s3, F, bind⟩ := c.ex
  intro pins st σ h x y v u Z inv rx ry pre
  obtain ⟨a, dx, fs, t, rfl, ha, od, z⟩ := pre
  obtain rfl : u = Value.ref a := ry
  obtain ⟨oo, J⟩ := inst_of inv ha
  obtain ⟨m, hF⟩ := inv.fr
  have ho5 : op ∈ ops5 := by
    simp only [ops3, ops5, List.mem_cons, List.not_mem_nil, or_false] at ho ⊢
    rcases ho with h | h | h <;> simp [h]
  obtain ⟨⟨fo, e1⟩, ro, e2⟩ := find5 X.K (ty_in t) ho5
  have dc := declines (P := X.prog) (w := X.w) ho inv inv.kIn od rx J s3 e1 e2
  refine bin_right hF inv.ok.mod.kin J (type_looks (od_type inv od rx)) c1 c2 c3 c4 e1 e2 rfl (fun y => ?_) (fun y => (dc y).2) ?_
  · rcases (dc y).1 with e | e | e <;> rw [e] <;> assumption
  refine wpAny_mono (run_fn (us := [.ref a, v]) (vs := [.ref a, x]) F room bind .nil pass inv (.cons rfl (.cons rx .nil)) z) (fun w s2 r => ?_) fun _ _ z => z
  obtain ⟨z', h2, inv2, rz, qz⟩ := r
  exact SlX.cmpback rz ⟨z', h2, inv2, rz, qz⟩
end
end KR

/-! KP: repr of a list of scalars and of own objects that have a __repr__ of their own. -/
namespace KP
open PySem PySem.Spec PyProof.Rows L2 KB KG KO KY
section
variable {prog : Program} {w : World} {A : Around} {E : Value → Shared → Prop} {s : Shared} {K : PySem.W.Frag} {x C L f : Addr} {hb : Heap} {m : Str → Option Value} {ox : Obj} {od : Option Obj}
open PySem.W in
theorem boundBy_K {M : Model} {last : Value → List Value → Sem Value} {name : Str} {Z : Option Value → Shared → Prop} (XK : K.In s.heap) (J : InstAt s.heap x ox C od) (c1 : findIn K (.ref C) name = some (some (.ref f))) (c2 : isFn K (.ref f) = true)
    (go : wpAny M A (last (.ref f) [.ref x]) (fun v => Z (some v)) E s) : wpAny M A (callSpecialIfBoundBy? last (.ref x) name) Z E s := by
  simp only [callSpecialIfBoundBy?, bindSpecialIfBound?]
  refine wpAny_holding (wpAny_bind (wpAny_bind (wpAny_bind (J.type.here ((looks_findIn XK c1).here ?_)))))
  refine wpAny_bind (wpAny_askSetting (wpAny_ite ?_))
  have last1 : wpAny M A (last (.ref f) [.ref x] >>= fun v => pure (some v)) Z E s := wpAny_bind (wpAny_mono go (fun _ _ y => wpAny_pure y) fun _ _ y => y)
  split
  · exact wpAny_bind ((bind_fn XK _ (beq_iff_eq.mp c2)).here (wpAny_pure (by exact last1)))
  · exact wpAny_tryCatch (wpAny_bind ((bind_fn XK _ (beq_iff_eq.mp c2)).here (wpAny_pure (by exact last1))))
open PySem.W in
theorem reprUnder_K {b : Nat} {Z : Str → Shared → Prop} (hz : b ≤ sizeLine) (hu : A.units < cLine) (XK : K.In s.heap) (J : InstAt s.heap x ox C od) (c1 : findIn K (.ref C) "__repr__" = some (some (.ref f))) (c2 : isFn K (.ref f) = true)
    (go : wpAny (model prog w) A (call (.ref f) [.ref x]) (fun v s' => ∃ t u, v = .str t u ∧ Z t s') E s) : wpAny (model prog w) A (pyReprUnder b (.ref x)) Z E s := by
  refine wpAny_pyReprUnder_ref hz ?_
  unfold pyReprObjUnder pyReprObjBy
  refine wpAny_bind (wpAny_cRoomFor hu ?_)
  refine wpAny_bind (wpAny_bind (J.type.here ((looks_findIn XK c1).here ?_)))
  show wpAny _ _ (if (some (Value.ref f)).isNone = true then _ else _) _ _ _
  rw [if_neg (by simp)]
  refine wpAny_bind (m := callSpecialIfBoundBy? _ (.ref x) (Str.ofString "__repr__")) (boundBy_K XK J c1 c2 ?_)
  refine wpAny_mono go (fun v s' y => ?_) fun _ _ y => y
  obtain ⟨t, u, rfl, q⟩ := y
  exact wpAny_bind (wpAny_isInstance (T := "str") (b := true) rfl isSubtype_str_str (wpAny_pure ⟨_, _, rfl, q⟩))
end
/-- an item and its text -/
def ItOk (P : Program) (w : World) (C : Addr) (sp : Sp) (H : Hp) (v : V) (t : Str) : Prop :=
  (∀ u, RelV v u → ReprIs P w u t) ∨ ∃ (a dx : Addr) (fs : List (Str × V)), v = .ref a ∧ H a = some (.ins C dx fs) ∧ ∀ H', Same H H' → ∀ Q : VK, Q (.str t) H' → sp [.ref a] H' Q E0
section
variable {X : Cx}
theorem frames_loop (A : Around) (args : Args) : (A.under (.builtin "list.__repr__.loop" args)).frames = A.frames ∧ (A.under (.builtin "list.__repr__.loop" args)).handled = A.handled ∧ (A.under (.builtin "list.__repr__.loop" args)).depth ≤ A.depth + 1 := by
  refine ⟨?_, ?_, ?_⟩ <;> first | rfl | simp [Around.under, Code.weight, Code.isCreation, Code.isGuard, Code.isCaller, Code.frames, Code.isFrame, guardIds]
theorem strs_done : ∀ (ts : List Str) (us : List Value), Vals (ts.map V.str) us → ∃ dn : List (Str × Tok), us = strValues dn ∧ dn.map (·.1) = ts
  | [], us, r => by cases r; exact ⟨[], rfl, rfl⟩
  | t :: ts, us, r => by
    cases r with
    | cons r1 r2 =>
      obtain ⟨tk, rfl⟩ := r1
      obtain ⟨dn, rfl, e⟩ := strs_done ts _ r2
      exact ⟨(t, tk) :: dn, rfl, by rw [List.map_cons, e]⟩
theorem vals_at : ∀ {xs : List V} {us : List Value}, Vals xs us → ∀ (i : Nat) (v : V), xs[i]? = some v → ∃ u, us[i]? = some u ∧ RelV v u
  | _, _, .nil, i, v, e => by simp at e
  | _, _, .cons r1 r2, 0, v, e => ⟨_, rfl, by cases e; exact r1⟩
  | _, _, .cons r1 r2, i + 1, v, e => vals_at r2 i v e
theorem loop {C : Addr} {sp : Sp} {ps : List Str} {n : Nat} (c : OwnM X.prog X.w X.K X.mg X.base n C "__repr__" ps sp) {A : Around} (hfr : A.frames = X.A.frames) (hh : A.handled = none) (hd : A.depth + 1 + 3 * n + 5 < recursionLimit) (hu : A.units + 1 + 16 * n + 200 < cLine)
    {p P : Addr} {vs : List V} {ts : List Str} {H0 : Hp} (len : ts.length = vs.length) (sz : (listText ts).length ≤ sizeLine) (its : ∀ (i : Nat) (v : V) (t : Str), vs[i]? = some v → ts[i]? = some t → ItOk X.prog X.w C sp H0 v t) (nP : H0 P = none) (hp : H0 p = some (.lst vs)) {pins : List (Addr × Obj)} {σ : L2.St} {R : Result → Shared → Prop}
    (last : ∀ H' s' u, Same H0 H' → Inv X pins σ H' s' → R (.ok (.ret (.str (listText ts) u))) s') :
    ∀ (k i : Nat) (s : Shared) (H : Hp), vs.length - i = k → i ≤ vs.length → Same H0 H → Inv X pins σ H s → H P = some (.lst ((ts.take i).map V.str)) →
      codeAny (model X.prog X.w) A (.builtin "list.__repr__.loop" ⟨[.ref p, rawInt i, .ref P, rawInt ((piled (ts.take i) : Nat) : Int)], []⟩) R s := by
  obtain ⟨g, fd, hs, hf, F, bind⟩ := c.ex
  have tl := textFrom_len ts 0 "["
  have sl : (listText ts).length = (textFrom 0 "[" ts).length + 1 := by
    show (textFrom 0 "[" ts ++ "]").length = _
    rw [strLen_append]; rfl
  have s2 : ∀ t ∈ ts, t.length ≤ sizeLine := fun t ht => by
    have := tl.2.1 t ht
    omega
  have pl := piled_le_listText ts
  intro k
  induction k with
  | zero =>
    intro i s H hk hi sm inv eP
    have hin : i = vs.length := by omega
    obtain ⟨us, rv, ⟨ob, nb, ho, hc, _, hdt⟩, _⟩ := inv.list (SqL.of (sm _ _ hp))
    obtain ⟨z2, us2, n2, r2, l2, e2⟩ := inv.lstM eP
    have lu := rv.length
    refine codeAny_builtin PySem.F.entry_list_repr_loop ?_
    show wpAny _ _ (Builtin.«list.__repr__.loop» ⟨[.ref p, .int i 0, .ref P, .int ((piled (ts.take i) : Nat) : Int) 0], []⟩) _ _ s
    rw [repr_loop_tree]
    refine wpAny_bind (wpAny_listItems ho hdt ?_)
    have hno : us.toArray[(i : Int).toNat]? = none := by simp [hin, lu]
    simp only [hno]
    unfold reprEnd
    refine wpAny_bind (wpAny_listItems e2 rfl ?_)
    rw [hin, ← len, List.take_length] at r2
    obtain ⟨dn, rfl, ed⟩ := strs_done ts us2 r2
    rw [repr_fold, ed]
    refine wpAny_bind (wpAny_pure ?_)
    refine wpAny_bind (wpAny_mkStr (wpAny_pure ?_) sz)
    exact last H _ _ sm (inv.tok _)
  | succ k ih =>
    intro i s H hk hi sm inv eP
    have hlt : i < vs.length := by omega
    obtain ⟨us, rv, ⟨ob, nb, ho, hc, _, hdt⟩, _⟩ := inv.list (SqL.of (sm _ _ hp))
    have lu := rv.length
    have ev : vs[i]? = some vs[i] := List.getElem?_eq_getElem hlt
    have et : ts[i]? = some (ts[i]'(by omega)) := List.getElem?_eq_getElem (by omega)
    obtain ⟨u, eu, ru⟩ := vals_at rv i _ ev
    have it := its i _ _ ev et
    generalize ts[i]'(by omega) = t at et it
    generalize vs[i] = v at ev ru it
    have p1 := piled_take_succ et
    have p2 := piled_take_le ts (i + 1)
    refine codeAny_builtin PySem.F.entry_list_repr_loop ?_
    show wpAny _ _ (Builtin.«list.__repr__.loop» ⟨[.ref p, .int i 0, .ref P, .int ((piled (ts.take i) : Nat) : Int) 0], []⟩) _ _ s
    rw [repr_loop_tree]
    refine wpAny_bind (wpAny_listItems ho hdt ?_)
    have hso : us.toArray[(i : Int).toNat]? = some u := by simpa using eu
    simp only [hso]
    rw [Int.toNat_natCast]
    have rest : ∀ s', Inv X pins σ H s' → wpAny (model X.prog X.w) (A.under (.builtin "list.__repr__.loop" ⟨[.ref p, rawInt i, .ref P, rawInt ((piled (ts.take i) : Nat) : Int)], []⟩)) (do
        let r ← mkStr t
        Builtin.List.listUpdate (.ref P) (·.push r)
        again (.builtin "list.__repr__.loop" ⟨[.ref p, rawInt (i + 1), .ref P, rawInt ((piled (ts.take i) + (t.length + 2) : Nat) : Int)], []⟩))
        (fun fin s' => match fin with | .done f => R (.ok f) s' | .again c' => c'.quiet = true ∧ codeAny (model X.prog X.w) A c' R s') (fun e s' => R (.error e) s') s' := by
      intro s' inv'
      obtain ⟨z2, us2, n2, r2, l2, e2⟩ := inv'.lstM eP
      have l3 := r2.length
      have l4 : ((ts.take i).map V.str).length ≤ i := by simp; omega
      have l5 : i < sizeLine := by
        have := tl.1
        rw [if_neg (Nat.lt_irrefl 0)] at this
        omega
      refine wpAny_bind (wpAny_mkStr ?_ (s2 t (List.mem_of_getElem? et)))
      refine wpAny_bind ?_
      show wpAny _ _ (updateSeq P _) _ _ _
      refine wpAny_updateSeq e2 rfl (wpAny_pure ⟨PySem.F.quiet_list_repr_loop _, ?_⟩) (by rw [List.size_toArray]; omega)
      have a1 : ((i : Int) + 1) = ((i + 1 : Nat) : Int) := by omega
      have a2 : piled (ts.take i) + (t.length + 2) = piled (ts.take (i + 1)) := by omega
      rw [a1, a2]
      refine ih (i + 1) _ (upd H P (.lst ((ts.take (i + 1)).map V.str))) (by omega) hlt (same_mut sm nP) ?_ upd_same
      refine inv'.lset (its' := us2 ++ [.str t s'.toks]) eP e2 (by simp) ?_ (by simp; omega)
      rw [List.take_add_one, et, List.map_append]
      exact r2.append (.cons ⟨_, rfl⟩ .nil)
    rcases it with it | ⟨a, dx, fs, rfl, ha, it⟩
    · refine wpAny_bind (wpAny_holding (it u ru (piled (ts.take i) + 1) (by omega) _ _ _ _ fun tk => ?_))
      exact rest _ (inv.tok _)
    · obtain rfl : u = Value.ref a := ru
      obtain ⟨oo, J⟩ := inst_of inv (sm _ _ ha)
      have fl := frames_loop A ⟨[.ref p, rawInt i, .ref P, rawInt ((piled (ts.take i) : Nat) : Int)], []⟩
      have ul := units_under_list_loop A ⟨[.ref p, rawInt i, .ref P, rawInt ((piled (ts.take i) : Nat) : Int)], []⟩
      refine wpAny_bind (wpAny_holding (reprUnder_K (by omega) (by rw [ul]; omega) inv.kIn J hs hf ?_))
      have e0 := inv.env0
      refine wpAny_mono (run0 (E' := fun e s' => R (.error e) s') (xs := [.ref a]) F ⟨by rw [fl.2.1]; exact hh, by have := fl.2.2; omega, by rw [ul]; omega⟩ ⟨by rw [fl.1, hfr]; exact e0.frames, e0.mod, e0.bs, e0.bsz, e0.funs, e0.frf, e0.hok, e0.bare⟩ bind inv (.cons rfl .nil) (it H sm (fun v' H' => v' = .str t ∧ H' = H) ⟨rfl, rfl⟩)) (fun v' st y => ?_) fun _ _ y => y
      obtain ⟨w', H', inv2, rw', e1, e2⟩ := y
      subst e1 e2
      obtain ⟨tk, rfl⟩ := (show ∃ tk, v' = Value.str t tk from rw')
      exact ⟨t, tk, rfl, rest _ inv2⟩
def rReprL (P : Program) (w : World) (C : Addr) (sp : Sp) : List V → Hp → VK → Prop := fun xs H Q => ∃ (p : Addr) (vs : List V) (ts : List Str), xs = [.ref p] ∧ H p = some (.lst vs) ∧ vs ≠ [] ∧ ts.length = vs.length ∧ (listText ts).length ≤ sizeLine ∧
  (∀ (i : Nat) (v : V) (t : Str), vs[i]? = some v → ts[i]? = some t → ItOk P w C sp H v t) ∧ ∀ H', Same H H' → Q (.str (listText ts)) H'
theorem call_reprL {C : Addr} {sp : Sp} {ps : List Str} {n : Nat} (c : OwnM X.prog X.w X.K X.mg X.base n C "__repr__" ps sp) (fr : Free X.A) (room : Room (n + 1) X.A) : CallR X (.builtin "repr") (rReprL X.prog X.w C sp) := by
  intro pins st σ h xs us Z inv rel pre
  obtain ⟨p, vs, ts, rfl, hp, ne, len, sz, its, z⟩ := pre
  obtain ⟨u, rfl, rv⟩ := vals_one rel
  obtain rfl : u = Value.ref p := rv
  obtain ⟨us, rl, ⟨ob, nb, ho, hc, hsl, hd⟩, _⟩ := inv.list (SqL.of hp)
  have ty : st.TypeIs (.ref p) "list" := ⟨_, ho, hc⟩
  have un := room.un
  have dp := room.dp
  refine KG.repr_slot (by omega) ty PySem.F.slot_list_repr.toG ?_
  refine wpAny_callSpecialIfBound?_slot (name := Str.ofString "__repr__") ty PySem.F.slot_list_repr ?_
  cases us with
  | nil =>
    cases rl
    exact absurd rfl ne
  | cons u1 us =>
    refine wpAny_call (codeAny_call_builtin PySem.F.slot_list_repr.plain PySem.F.entry_list_repr (PySem.F.slot_list_repr.check _ _ _ _ _ _ _ _ ty (PySem.F.args_list_repr_1 _) ?_))
    refine wpAny_list_repr_head (A := X.A.in1.in1) (g := []) fr (fun v rest kw m => absurd m List.not_mem_nil) ho hd ?_
    refine wpAny_bind (m := newList []) (wpAny_newObj_type ?_)
    refine wpAny_pure ⟨PySem.F.quiet_list_repr_loop _, ?_⟩
    have fresh : h st.heap.objs.size = none := inv.hok.fresh (Nat.le_refl _)
    refine loop c (A := X.A.in1) (pins := pins) (σ := σ) rfl room.hd (show X.A.depth + 1 + 3 * n + 5 < _ by omega) (show X.A.units + 1 + 1 + 16 * n + 200 < _ by omega) (P := st.heap.objs.size) len sz its fresh hp (fun H' s' u sm inv' => ?_) _ 0 _ (upd h st.heap.objs.size (.lst [])) rfl (Nat.zero_le _) (same_new fresh) ?_ upd_same
    · exact ⟨_, _, rfl, .str (listText ts), H', inv', ⟨u, rfl⟩, z H' sm⟩
    · exact inv.lnew (its := []) .nil (Nat.zero_le _)
/-- one of two ways -/
theorem call_or {f : Value} {r1 r2 : List V → Hp → VK → Prop} (c1 : CallR X f r1) (c2 : CallR X f r2) : CallR X f (fun xs H Q => r1 xs H Q ∨ r2 xs H Q) := by
  intro pins st σ h xs us Z inv rel pre
  rcases pre with pre | pre
  · exact c1 pins st σ h xs us Z inv rel pre
  · exact c2 pins st σ h xs us Z inv rel pre
end
end KP
/-! ### classmethods; cls(..) -/
namespace KP
open PySem PySem.Spec PyProof.Rows L2 KB KG KO KY
section
variable {X : Cx}
structure CalleeC (P : Program) (w : World) (K : PySem.W.Frag) (mg : Str → Option Value) (base : Heap) (CX : CXT) (k : Nat) (C : Addr) (m : Str) (sp : Sp) : Prop where
  ex : ∃ (mc : Value) (p g : Addr), ClX.CRead K C mc ∧ ClX.CMet K C mc m p g ∧ FnR P w K mg base CX k g sp
theorem pe_cmethC {pl : Sem Bool} {CX : CXT} {k : Nat} {C : Addr} {m : Str} {sp : Sp} {E : XK} {o e : Expr} {es : List Expr} {apos pos : Pos} {ta : TE} {t : TA} (c : CalleeC X.prog X.w X.K X.mg X.base CX k C m sp) (ho : PE X o ta) (room : Room k X.A) (pass : Passes CX X E) (ha : PA X (e :: es) t)
    (d1 : starEach (e :: es) X.env = (false, eval e X.env) :: starEach es X.env := by rfl) (d2 : (backTo pos (starEach es X.env)).any (·.1) = false := by rfl)
    (d3 : eval (.Call (.Attribute o m apos) (e :: es) [] pos) X.env = (do
      let ov ← eval o X.env
      standAt apos.atName
      let (f, first) ← holding [ov] (getMethod ov m pl)
      callWith pos f first (backTo pos (starEach (e :: es) X.env)) (backToKw pos (keywordEach [] X.env))) := by rfl) :
    PE X (.Call (.Attribute o m apos) (e :: es) [] pos) (ClX.tCMeth C sp E ta t) := by
  obtain ⟨mc, p, g, r, cm, F⟩ := c.ex
  exact ClX.pe_cmeth ho r cm F room pass ha d1 d2 d3
def tMakeL (C : Addr) (sp : Sp) (E : XK) (tf : TE) (t : TA) : TE := fun σ H Q => tf σ H fun v H1 => v = .ref C ∧ tMake C sp [] E t σ H1 Q
theorem pe_makeL {CX : CXT} {k : Nat} {C : Addr} {x y : Str} {ps : List Str} {sp : Sp} {E : XK} {e : Expr} {es : List Expr} {p pos : Pos} {tf : TE} {t : TA} (c : CalleeI X.prog X.w X.K X.mg X.base CX k C y ps sp) (room : Room (k + 1) X.A) (pass : Passes CX X E) (hn : PE X (.Name x p) tf) (ha : PA X (e :: es) t)
    (d1 : starEach (e :: es) X.env = (false, eval e X.env) :: starEach es X.env := by rfl) (d2 : (backTo pos (starEach es X.env)).any (·.1) = false := by rfl) :
    PE X (.Call (.Name x p) (e :: es) [] pos) (tMakeL C sp E tf t) := by
  obtain ⟨f, fd, F, M, hm, hb⟩ := c.ex
  refine ⟨fun pins s σ H Q I h => wpAny_Call_Name_kw (thn (hn.run pins s σ H _ I h) fun u s1 r => ?_)⟩
  obtain ⟨v, H1, I1, rv, rfl, z⟩ := r
  obtain rfl : u = Value.ref C := rv
  refine PySem.W.callWith_K (h₀ := X.base) I1.ok.mod.kin M.kp (thn (ha.run pos pins s1 σ H1 _ I1 z) fun us s2 y => ?_) d1 d2
  obtain ⟨vs, H2, I2, r2, q2⟩ := y
  exact ⟨I2.kIn, run_make M F room hb .nil pass I2 r2 q2⟩
end
theorem r_cmeth {σ : L2.St} {H : Hp} {Q : VK} {C : Addr} {sp : Sp} {E : XK} {ta : TE} {t : TA} (q : ta σ H fun x H1 => x = .ref C ∧ t σ H1 fun vs H2 => sp (.ref C :: vs) H2 Q E) : ClX.tCMeth C sp E ta t σ H Q := q
theorem r_makeL {σ : L2.St} {H : Hp} {Q : VK} {C : Addr} {sp : Sp} {E : XK} {tf : TE} {t : TA} (q : tf σ H fun v H1 => v = .ref C ∧ tMake C sp [] E t σ H1 Q) : tMakeL C sp E tf t σ H Q := q
end KP

/-! KS: lists of texts compared; small helpers. -/
namespace KS
open PySem PySem.Spec PyProof.Rows L2 KB KG KO KY
theorem dp_strs {K : PySem.W.Frag} {H : Hp} : ∀ zs : List Str, DpAll K H (zs.map V.str) (zs.map PyData.str)
  | [] => .nil
  | z :: r => .cons (.str z) (dp_strs r)
theorem lay_strs : ∀ zs : List Str, (∀ z ∈ zs, PyData.strOk z = true) → PyData.canLayAll0 (zs.map PyData.str) = true
  | [], _ => rfl
  | n :: r, h => by
    show (PyData.canLay0 (.str n) && PyData.canLayAll0 (r.map PyData.str)) = true
    rw [lay_strs r fun z m => h z (List.mem_cons_of_mem _ m)]
    simp [PyData.canLay0, h n (List.mem_cons_self ..)]
theorem depth_strs : ∀ zs : List Str, PyData.depthAll (zs.map PyData.str) = 0
  | [] => rfl
  | n :: r => by
    show max (PyData.depth (.str n)) (PyData.depthAll (r.map PyData.str)) = 0
    rw [depth_strs r]; rfl
theorem shaped_strs {zs : List Str} (h : ∀ z ∈ zs, PyData.strOk z = true) : SeqAt.shaped (.list (zs.map PyData.str)) = true := by
  show (PyData.canLayAll0 (zs.map PyData.str) && decide (PyData.depthAll (zs.map PyData.str) + 1 ≤ 64)) = true
  rw [lay_strs zs h, depth_strs]; rfl
theorem eqv_strs : ∀ ns ms : List Str, PyData.eqvAll (ns.map PyData.str) (ms.map PyData.str) = decide (ns = ms)
  | [], [] => rfl
  | [], _ :: _ => rfl
  | _ :: _, [] => rfl
  | n :: r, m :: q => by
    show (PyData.eqv (.str n) (.str m) && PyData.eqvAll (r.map PyData.str) (q.map PyData.str)) = decide (n :: r = m :: q)
    rw [eqv_strs r q]
    have e : PyData.eqv (.str n) (.str m) = decide (n = m) := by
      simp only [PyData.eqv]
      by_cases h : n = m <;> simp [h]
    rw [e]
    by_cases h1 : n = m <;> by_cases h2 : r = q <;> simp [h1, h2]
theorem r_eqStrs {K : PySem.W.Frag} {H : Hp} {Q : VK} {a b : Addr} {ns ms : List Str} (h : SqL K H a (ns.map V.str)) (h' : SqL K H b (ms.map V.str)) (o1 : ∀ z ∈ ns, PyData.strOk z = true) (o2 : ∀ z ∈ ms, PyData.strOk z = true) (q : Q (.bl (decide (ns = ms))) H) : rEqD K (.ref a) (.ref b) H Q :=
  ⟨_, _, .lst h (dp_strs ns), .lst h' (dp_strs ms), shaped_strs o1, shaped_strs o2, (show Q (.bl (PyData.eqvAll (ns.map PyData.str) (ms.map PyData.str))) H by rw [eqv_strs]; exact q)⟩
theorem r_neStrs {K : PySem.W.Frag} {H : Hp} {Q : VK} {a b : Addr} {ns ms : List Str} (h : SqL K H a (ns.map V.str)) (h' : SqL K H b (ms.map V.str)) (o1 : ∀ z ∈ ns, PyData.strOk z = true) (o2 : ∀ z ∈ ms, PyData.strOk z = true) (q : Q (.bl (!decide (ns = ms))) H) : rNeD K (.ref a) (.ref b) H Q :=
  ⟨_, _, .lst h (dp_strs ns), .lst h' (dp_strs ms), shaped_strs o1, shaped_strs o2, (show Q (.bl (!PyData.eqvAll (ns.map PyData.str) (ms.map PyData.str))) H by rw [eqv_strs]; exact q)⟩
theorem r_sls {H : Hp} {Q : VK} {z : Str} {lo hi : Option Int} (h : z.length ≤ sizeLine) (q : Q (.str (cutS z lo hi)) H) : rSlS (.str z) lo hi H Q := ⟨z, rfl, h, q⟩
theorem rep_map {n : Nat} (z : Str) : (List.replicate ((n : Nat) : Int).toNat [V.str z]).flatten = (List.replicate n z).map V.str := by
  rw [Int.toNat_natCast]
  induction n with
  | zero => rfl
  | succ n ih => rw [List.replicate_succ, List.flatten_cons, ih, List.replicate_succ]; rfl
theorem all_rep {zs : List Str} {z : Str} (h : ∀ y ∈ zs, y = z) : zs = List.replicate zs.length z := List.eq_replicate_of_mem h
/-! ### repr of a value of a kind -/
section
variable {X : Cx}
def rReprOd : List V → Hp → VK → Prop := fun xs H Q => ∃ (v : V) (t : Dt), xs = [v] ∧ OdAt H v t ∧ t.d.showable = true ∧ t.d.depth ≤ 60 ∧ t.d.shown.length ≤ sizeLine ∧ Q (.str t.d.shown) H
theorem call_reprOd {k : Nat} (fr : Free X.A) (room : Room k X.A) : CallR X (.builtin "repr") rReprOd := by
  intro pins st σ h xs us Z inv rel pre
  obtain ⟨v, t, rfl, od, ok, deep, sz, z⟩ := pre
  obtain ⟨u, rfl, rv⟩ := vals_one rel
  obtain ⟨as, rd, ns⟩ := od_reads inv od rv
  by_cases nod : t.d.hasDict = false
  · exact KG.repr_data rd ok nod sz fr (by have := room.un; omega) fun h' t1 tk kp => ⟨.str t.d.shown, h, inv.kept kp, ⟨t1, rfl⟩, z⟩
  · cases t with
    | dct l =>
      obtain ⟨a, rfl, e⟩ := id od
      obtain rfl : u = Value.ref a := rv
      exact repr_of_reads' rd ok ns fr (by have := room.un; omega) (fun _ _ e => e) (fun h' t1 tk kp => ⟨.str _, h, inv.kept kp, ⟨t1, rfl⟩, z⟩) sz
    | sc s => exact absurd (noD_sc s) nod
    | tup l => exact absurd (show PyData.hasDictAll _ = false from noD_scs l) nod
    | lst l => exact absurd (show PyData.hasDictAll _ = false from noD_scs l) nod
end
end KS

/-! KT: sets of ints made of lists; enumerate over texts and tuples; keywords at own objects and classmethods. -/
namespace KT
open PySem PySem.Spec PyProof.Rows L2 KB KG KO KY
/-! ### set(l) of a list of ints -/
def freshSet (w : World) : Obj := { cls := .type "set", dict := none, data := .set #[] 0 (.fresh 0 0 (!w.params.followText "set-order")) }
section
variable {P : Program} {w : World} {A : Around} {E : Value → Shared → Prop} {s : Shared}
theorem set_ofL {l : Addr} {items : Array Value} (ns : List Int) {Z : Value → Shared → Prop} (calm : A.handled = none) (isL : s.heap.IsList l items) (allI : IntsAre items.toList ns) (few : ns.length + 1 < scanBound)
    (fin : ∀ (h' : Heap) (tk c : Nat), SetR w h' s.heap.objs.size (fun j => decide (j ∈ ns)) c → c ≤ ns.length → (∀ b o, s.heap.get? b = some o → h'.get? b = some o) → Z (.ref s.heap.objs.size) { s with heap := h', toks := tk }) :
    wpAny (model P w) A (call (.type "set") [.ref l]) Z E s := by
  have size : items.size = ns.length := (Array.length_toList ▸ allI.length : items.size = ns.length)
  obtain ⟨c0, tl0, mro0⟩ := F.called_set.mro
  have made0 := F.called_set.made
  have sub0 := F.called_set.sub
  refine wpAny_call (codeAny_of_tree ?_)
  show wpAny _ _ (callAny (.type "set") _) _ _ _
  refine wpAny_pure ⟨Code.quiet_builtin _ (by decide +kernel), codeAny_builtin F.entry_type_call ?_⟩
  rw [Around.under_plain (weight_type_call_type "set" [.ref l] []) rfl]
  have nt0 := F.called_set.notType
  have cc0 := F.called_set.canCreate
  have tc0 := F.typeCall_set_1 (.ref l)
  repeat (any_goals (first | assumption | wp_step))
  refine codeAny_mono (code_set_led1 (.ref l) (E := E) (Q₁ := fun ob s1 => ob = .ref s.heap.objs.size ∧ s1 = { s with heap := s.heap.push (freshSet w) }) ⟨rfl, rfl⟩) fun res s1 hres => ?_
  match res, hres with
  | .error e, hres => exact hres
  | .ok .next, hres => exact hres.elim
  | .ok .brk, hres => exact hres.elim
  | .ok .cont, hres => exact hres.elim
  | .ok (.ret ob), hres =>
    obtain ⟨rfl, rfl⟩ := hres
    have atS : (s.heap.push (freshSet w)).get? s.heap.objs.size = some (freshSet w) := Heap.get?_push_size _ rfl
    have tyS : Shared.TypeIs { s with heap := s.heap.push (freshSet w) } (.ref s.heap.objs.size) "set" := ⟨_, atS, rfl⟩
    have li0 := F.called_set.init.lookup
    have bi0 := F.called_set.init.bind (.ref s.heap.objs.size)
    repeat (any_goals (first | assumption | wp_step))
    refine codeAny_mono (codeAny_call_builtin (R := wants (fun u s2 => u = .none ∧ ∃ h' tk c, s2 = { s with heap := h', toks := tk } ∧ SetR w h' s.heap.objs.size (fun j => decide (j ∈ ns)) c ∧ c ≤ ns.length ∧ ∀ b o, s.heap.get? b = some o → h'.get? b = some o) E) F.called_set.init.plain F.entry_set_init (check_set_init_1 tyS ?_)) fun res2 s2 hres2 => ?_
    · obtain ⟨⟨lc, ld, lda, lsl⟩, lat, lcl, ln, ldd⟩ := isL
      simp only at lcl ldd
      subst lcl ldd
      have lat2 : (s.heap.push (freshSet w)).get? l = some { cls := .type "list", dict := ld, data := .seq items ln, slots := lsl } := Heap.get?_push_of_some _ lat
      have sls := F.sub_list_set
      have slf := F.sub_list_frozenset
      have lnd : (Value.type "list" == Value.type "dict") = false := by decide
      have isL2 : (s.heap.push (freshSet w)).IsList l items := ⟨_, lat2, rfl, ln, rfl⟩
      unfold Builtin.«set.__init__» noKeywords Builtin.Frozenset.updateFrom
      generalize hPI : pyIter = PI
      wp_walk
      subst hPI
      refine wpAny_pyIter_list isL2 ?_
      refine wpAny_bind (wpAny_runValue ?_)
      have lt0 : l < s.heap.objs.size := Heap.lt_size lat
      have calm3 : A.in1.in1.in1.handled = none := by simp [calm]
      have sz1 : (s.heap.push (freshSet w)).objs.size = s.heap.objs.size + 1 := Heap.size_push ..
      have ne1 : l ≠ (s.heap.push (freshSet w)).objs.size := by rw [sz1]; exact Nat.ne_of_lt (Nat.lt_succ_of_lt lt0)
      have off1 : s.heap.objs.size ∉ [(s.heap.push (freshSet w)).objs.size, l] := by
        rw [sz1]
        simp only [List.mem_cons, List.not_mem_nil, or_false, not_or]
        exact ⟨Nat.ne_of_lt (Nat.lt_succ_self _), Nat.ne_of_gt lt0⟩
      have vals1 : ∀ (i : Nat) (v : Value), items[i]? = some v → ∃ k t, ns[i]? = some k ∧ v = .int k t := fun i v hv => by
        have hi : i < ns.length := size ▸ (Array.getElem?_eq_some_iff.mp hv).1
        obtain ⟨t, e⟩ := PyProof.Rows.IntsAre.int_at allI i v ((Array.getElem?_toList ..).trans hv)
        refine ⟨ns[i], t, List.getElem?_eq_getElem hi, e.trans ?_⟩
        rw [List.getD_eq_getElem?_getD, List.getElem?_eq_getElem hi]
        rfl
      refine set_update_ints ((Walks.list calm3 _ l ne1 items).toS) s.heap.objs.size off1 ns size few vals1 (items.size - 0) 0 _ (by omega) (Nat.zero_le _) ⟨⟨_, Heap.get?_push_size _ rfl, rfl, rfl⟩, isL2.at fun o e => Heap.get?_push_of_some _ e⟩ ?S0 ?SR
      case S0 => exact ⟨0, Nat.le_refl 0, setR_new_at (Heap.get?_push_of_some _ atS)⟩
      case SR =>
        intro s3 c3 mv le3 R3
        obtain ⟨h3, g3, d3, tk3, os3⟩ := s3
        obtain rfl : g3 = s.gens := mv.gens
        obtain rfl : d3 = s.drawn := mv.drawn
        obtain rfl : os3 = s.os := mv.os
        show wpAny _ _ _ _ _ _
        refine wpAny_pure ?_
        show wpAny _ _ (ret Value.none) _ _ _
        refine wpAny_pure ⟨rfl, h3, tk3, c3, rfl, R3, size ▸ le3, fun b o e => ?_⟩
        have lb : b < s.heap.objs.size := Heap.lt_size e
        refine mv.heap b o ?_ (Heap.get?_push_of_some _ (Heap.get?_push_of_some _ e))
        simp only [List.mem_cons, List.not_mem_nil, or_false, not_or]
        exact ⟨Nat.ne_of_lt lb, fun z => absurd (z.trans sz1) (Nat.ne_of_lt (Nat.lt_succ_of_lt lb))⟩
    · match res2, hres2 with
      | .error e, hres2 => exact hres2
      | .ok .next, hres2 => exact hres2.elim
      | .ok .brk, hres2 => exact hres2.elim
      | .ok .cont, hres2 => exact hres2.elim
      | .ok (.ret u), hres2 =>
        obtain ⟨rfl, h3, tk3, c3, rfl, R3, le3, kp3⟩ := hres2
        repeat (any_goals (first | assumption | wp_step))
        exact fin _ _ _ R3 le3 kp3
end
section
variable {X : Cx}
def rSetOfI (K : PySem.W.Frag) (w : World) : List V → Hp → VK → Prop := fun xs H Q => ∃ (l : Addr) (ns : List Int), xs = [.ref l] ∧ (SqL K H l (ns.map V.int) ∨ SqT K H l (ns.map V.int)) ∧ ns.length ≤ 1000 ∧ ∀ p n, H p = none → n ≤ ns.length → Q (.ref p) (upd H p (SetO w p (fun j => decide (j ∈ ns)) n))
theorem cr_setOfI (calm : X.calm = true) : CallR X (.type "set") (rSetOfI X.K X.w) := by
  intro pins st σ h xs us Z inv rel pre
  obtain ⟨l, ns, rfl, sq, few, q⟩ := pre
  obtain ⟨u, rfl, rv⟩ := vals_one rel
  obtain rfl : u = Value.ref l := rv
  have hd := inv.ok.hd calm
  have fin : ∀ (h' : Heap) (tk c : Nat), SetR X.w h' st.heap.objs.size (fun j => decide (j ∈ ns)) c → c ≤ ns.length → (∀ b o, st.heap.get? b = some o → h'.get? b = some o) → EP X pins σ Z (.ref st.heap.objs.size) { st with heap := h', toks := tk } := fun h' tk c R le kp =>
    ⟨.ref _, upd h st.heap.objs.size (SetO X.w st.heap.objs.size (fun j => decide (j ∈ ns)) c), inv.laid (t' := tk) kp (Nat.le_refl _) (setO_new R), rfl, q _ c (inv.hok.fresh (Nat.le_refl _)) le⟩
  rcases sq with sq | sq
  · obtain ⟨its, r, pl, _⟩ := inv.list sq
    exact set_ofL ns hd pl.isList (by simpa using RZ.intsAre_vals r) (by unfold scanBound; omega) fin
  · obtain ⟨its, r, pt, _⟩ := inv.tuple sq
    exact call_set_tupI ns hd (show st.heap.IsTuple l its.toArray from pt) (by simpa using RZ.intsAre_vals r) (by unfold scanBound; omega) fin
/-- the ints of a list, each once, ascending -/
theorem sorted_unique {a b : List Int} (ha : a.Pairwise (· < ·)) (hb : b.Pairwise (· < ·)) (h : ∀ k, k ∈ a ↔ k ∈ b) : a = b := by
  induction a generalizing b with
  | nil =>
    cases b with
    | nil => rfl
    | cons y b => exact absurd ((h y).mpr (List.mem_cons_self ..)) List.not_mem_nil
  | cons x a ih =>
    cases b with
    | nil => exact absurd ((h x).mp (List.mem_cons_self ..)) List.not_mem_nil
    | cons y b =>
      have hx := List.pairwise_cons.mp ha
      have hy := List.pairwise_cons.mp hb
      have e : x = y := by
        rcases List.mem_cons.mp ((h x).mp (List.mem_cons_self ..)) with e | m
        · exact e
        · rcases List.mem_cons.mp ((h y).mpr (List.mem_cons_self ..)) with e | m2
          · exact e.symm
          · have := hy.1 x m; have := hx.1 y m2; omega
      subst e
      congr 1
      refine ih hx.2 hy.2 fun k => ?_
      constructor
      · intro m
        rcases List.mem_cons.mp ((h k).mp (List.mem_cons_of_mem _ m)) with e | m2
        · have := hx.1 k m; omega
        · exact m2
      · intro m
        rcases List.mem_cons.mp ((h k).mpr (List.mem_cons_of_mem _ m)) with e | m2
        · have := hy.1 k m; omega
        · exact m2
end
/-! ### enumerate over a text, over a tuple -/
def ItES (z : Str) : It := ⟨fun i _ => i < z.cps.size, fun i H v H' => ∃ T c, v = .ref T ∧ H T = none ∧ H' = upd H T (.tup [.int (i : Nat), .str ⟨#[c]⟩]) ∧ z.cps[i]? = some c, fun i _ => i = z.cps.size⟩
def ItET (K : PySem.W.Frag) (a : Addr) : It :=
  ⟨fun i H => ∃ (xs : List V) (x : V), SqT K H a xs ∧ xs[i]? = some x, fun i H v H' => ∃ T x, v = .ref T ∧ H T = none ∧ H' = upd H T (.tup [.int (i : Nat), x]) ∧ ∀ xs, SqT K H a xs → xs[i]? = some x, fun i H => ∃ xs : List V, SqT K H a xs ∧ xs.length = i⟩
section
variable {P : Program} {w : World} {K : PySem.W.Frag}
theorem two_obj {h : Heap} {e it : Addr} {oe oi : Obj} (h1 : h.get? e = some oe) (h2 : h.get? it = some oi) (n1 : ∀ v, oe.data ≠ .cell v) (n2 : ∀ v, oi.data ≠ .cell v) : ∀ b ∈ [e, it], ∃ o, h.get? b = some o ∧ ∀ v, o.data ≠ .cell v := fun b hb => by
  rcases List.mem_cons.mp hb with rfl | hb
  · exact ⟨_, h1, n1⟩
  · rw [List.mem_singleton.mp hb]; exact ⟨_, h2, n2⟩
/-- a new pair has come -/
theorem pair_new {X : Cx} {pins : List (Addr × Obj)} {σ : L2.St} {H : Hp} {s : Shared} {e it : Addr} {x : V} {u : Value} {i tk : Nat} {h1 h2 : Heap} (I : Inv X pins σ H s) (fp : ∀ b ∈ [e, it], FpOk X pins H b) (le : e < s.heap.objs.size) (li : it < s.heap.objs.size) (ru : RelV x u)
    (pr : h1.get? s.heap.objs.size = some { cls := .type "tuple", data := .seq #[.int i tk, u] }) (kp : ∀ b o, b ≠ e → b ≠ it → s.heap.get? b = some o → h1.get? b = some o) (sb : Heap.SameBut e h1 h2) :
    Inv X pins σ (upd H s.heap.objs.size (.tup [.int (i : Nat), x])) { s with heap := h2, toks := tk + 1 } ∧ H s.heap.objs.size = none ∧ ∀ b ∈ [e, it], upd H s.heap.objs.size (.tup [.int (i : Nat), x]) b = none := by
  have pr2 := (sb.2 _ (Nat.ne_of_gt le)).trans pr
  have ok : ObjOk X.prog X.w (upd H s.heap.objs.size (.tup [.int (i : Nat), x])) h2 s.heap.objs.size (.tup [.int (i : Nat), x]) := ⟨(by show 2 ≤ sizeLine; decide), [.int i tk, u], .cons ⟨_, rfl⟩ (.cons ru .nil), ⟨_, pr2, rfl, _, rfl⟩⟩
  refine ⟨I.turnedNew (ch := [e, it]) (fun b ob hb q => (sb.2 b (fun z => hb (by simp [z]))).trans (kp b ob (fun z => hb (by simp [z])) (fun z => hb (by simp [z])) q)) fp (Nat.le_refl _) ok, I.hok.fresh (Nat.le_refl _), fun b hb => ?_⟩
  have lb : b < s.heap.objs.size := by
    rcases List.mem_cons.mp hb with rfl | hb
    · exact le
    · rw [List.mem_singleton.mp hb]; exact li
  rw [upd_ne (Nat.ne_of_lt lb)]
  exact (fp b hb).1
theorem turn_enumS {elts : List Expr} {kk : Nat} {tpos : Pos} (z : Str) (t : Tok) (e it : Addr) :
    Turn P w K (.Tuple elts kk tpos) (ItES z) [e, it] e (fun i h => (∃ old, IsEnum h e it ((i : Nat) : Int) old) ∧ h.IsStrIter it (strIterType z) z t i ∧ e ≠ it) where
  mem := List.mem_cons_self
  obj := fun i h st => by
    obtain ⟨⟨old, he⟩, ⟨o, ho, _, hd⟩, _⟩ := st
    exact two_obj he ho (fun v q => nomatch q) (fun v q => by rw [hd] at q; cases q)
  keep := fun i h h' st k => by
    obtain ⟨⟨old, he⟩, ⟨o, ho, r⟩, ne⟩ := st
    exact ⟨⟨old, k e (by simp) _ he⟩, ⟨o, k it (by simp) o ho, r⟩, ne⟩
  item := by
    intro X e1 e2 e3 calm i pins s σ H E I fp st go
    subst e1 e2 e3
    obtain ⟨⟨old, he⟩, hit, ne⟩ := st
    have li : it < s.heap.objs.size := by obtain ⟨_, q, _⟩ := hit; exact Heap.lt_size q
    have hd : X.A.in1.handled = none := I.ok.hd calm
    refine wpAny_pyNext_enum_itemD (Draws.text hd it z t) he hit go ne (by simpa using ne) fun x h1 tk hx out hit1 pr _ kp => ?_
    obtain ⟨c, u, hc, rfl⟩ := hx
    refine ⟨_, rfl, wpAny_letOwnedTupleGo_enum (s := { s with heap := h1, toks := tk + 1 }) out fun h2 he2 sb => ?_⟩
    obtain ⟨I2, fr, no⟩ := pair_new (x := .str ⟨#[c]⟩) I fp (Heap.lt_size he) li ⟨u, rfl⟩ pr kp sb
    refine ⟨.ref s.heap.objs.size, _, I2, rfl, ⟨_, c, rfl, fr, rfl, hc⟩, ⟨⟨_, he2⟩, ?_, ne⟩, no⟩
    obtain ⟨o, ho, r⟩ := hit1
    exact ⟨o, (sb.2 it (Ne.symm ne)).trans ho, r⟩
  done := by
    intro X e1 e2 e3 calm i pins s σ H E I fp st stop
    subst e1 e2 e3
    obtain ⟨⟨old, he⟩, hit, ne⟩ := st
    obtain ⟨f0, f1, f2, f3, f4, f5⟩ := fp it (by simp)
    have hd : X.A.in1.handled = none := I.ok.hd calm
    refine wpAny_pyNext_enum_endD (Draws.text hd it z t) he (stop ▸ hit) fun h' eb => ⟨rfl, I.turned (t' := s.toks) (fun b o hb q => eb b o hb q) f0 f1 f3 f4 f5⟩
  self := fun A i s Q E st h => by
    obtain ⟨⟨_, he⟩, _⟩ := st
    exact wpAny_pyIter_enum he h
theorem turn_enumT {elts : List Expr} {kk : Nat} {tpos : Pos} (a e it : Addr) :
    Turn P w K (.Tuple elts kk tpos) (ItET K a) [e, it] e (fun i h => (∃ old, IsEnum h e it ((i : Nat) : Int) old) ∧ h.IsTupleIter it a i ∧ e ≠ it ∧ e ≠ a ∧ a ≠ it) where
  mem := List.mem_cons_self
  obj := fun i h st => by
    obtain ⟨⟨old, he⟩, ⟨o, ho, _, hd⟩, _⟩ := st
    exact two_obj he ho (fun v q => nomatch q) (fun v q => by rw [hd] at q; cases q)
  keep := fun i h h' st k => by
    obtain ⟨⟨old, he⟩, ⟨o, ho, r⟩, ne⟩ := st
    exact ⟨⟨old, k e (by simp) _ he⟩, ⟨o, k it (by simp) o ho, r⟩, ne⟩
  item := by
    intro X e1 e2 e3 calm i pins s σ H E I fp st go
    subst e1 e2 e3
    obtain ⟨⟨old, he⟩, hit, ne, nea, nai⟩ := st
    obtain ⟨xs, x, sq, hx⟩ := go
    obtain ⟨its, rv, pt, _⟩ := I.tuple sq
    obtain ⟨u, hu, ru⟩ := rv.get hx
    have li : it < s.heap.objs.size := by obtain ⟨_, q, _⟩ := hit; exact Heap.lt_size q
    have hd : X.A.in1.handled = none := I.ok.hd calm
    have lt : i < its.toArray.size := by
      rw [List.size_toArray]
      exact (List.getElem?_eq_some_iff.mp hu).1
    refine wpAny_pyNext_enum_itemD (Draws.tuple hd it a nai its.toArray) he ⟨hit, (show s.heap.IsTuple a its.toArray from pt)⟩ lt ne (by simp [ne, nea]) fun y h1 tk hy out hit1 pr _ kp => ?_
    obtain rfl : y = u := by
      have hy' : its.toArray[i]? = some y := hy
      rw [List.getElem?_toArray, hu] at hy'
      exact (Option.some.inj hy').symm
    refine ⟨_, rfl, wpAny_letOwnedTupleGo_enum (s := { s with heap := h1, toks := tk + 1 }) out fun h2 he2 sb => ?_⟩
    obtain ⟨I2, fr, no⟩ := pair_new (x := x) I fp (Heap.lt_size he) li ru pr kp sb
    refine ⟨.ref s.heap.objs.size, _, I2, rfl, ⟨_, x, rfl, fr, rfl, fun ys hy2 => ?_⟩, ⟨⟨_, he2⟩, ?_, ne, nea, nai⟩, no⟩
    · rw [I.tuple_inj hy2 sq]; exact hx
    · obtain ⟨o, ho, r⟩ := hit1.1
      exact ⟨o, (sb.2 it (Ne.symm ne)).trans ho, r⟩
  done := by
    intro X e1 e2 e3 calm i pins s σ H E I fp st stop
    subst e1 e2 e3
    obtain ⟨⟨old, he⟩, hit, ne, nea, nai⟩ := st
    obtain ⟨xs, sq, hl⟩ := stop
    obtain ⟨its, rv, pt, _⟩ := I.tuple sq
    obtain ⟨f0, f1, f2, f3, f4, f5⟩ := fp it (by simp)
    have hd : X.A.in1.handled = none := I.ok.hd calm
    have sz : its.toArray.size = i := by rw [List.size_toArray, ← rv.length, hl]
    refine wpAny_pyNext_enum_endD (Draws.tuple hd it a nai its.toArray) he ⟨sz ▸ hit, (show s.heap.IsTuple a its.toArray from pt)⟩ fun h' eb => ⟨rfl, I.turned (t' := s.toks) (fun b o hb q => eb b o hb q) f0 f1 f3 f4 f5⟩
  self := fun A i s Q E st h => by
    obtain ⟨⟨_, he⟩, _⟩ := st
    exact wpAny_pyIter_enum he h
end
section
abbrev iterT (l : Addr) : Obj := { cls := .type "tuple_iterator", data := .fields #[.ref l, .int 0 0] }
abbrev enumO (n : Addr) : Obj := { cls := .type "enumerate", data := .fields #[.none, .bool false, .ref n, rawInt 0, .none, .none] }
open AutoSeq1 (wpAny_loadPart') in
theorem enum_newT (l : Addr) (items : Array Value) (n : Nat) (dct : Option Addr) (sl : Array (Option Value)) :
    Meets (Builtin.«enumerate.__new__» ⟨[.type "enumerate", .ref l], []⟩) (fun _ R s => s.heap.get? l = some { cls := .type "tuple", dict := dct, data := .seq items n, slots := sl } ∧
      R (.ok (.ret (.ref (s.heap.push (iterT l)).objs.size))) { s with heap := (s.heap.push (iterT l)).push (enumO s.heap.objs.size) }) :=
  .of_wp fun prog w A R s pre => by
    obtain ⟨hp, g, d, tk, os⟩ := s
    obtain ⟨at0, fin⟩ := pre
    have sub0 := sub_enumerate
    have isT : Heap.IsTuple (Shared.heap ⟨hp, g, d, tk, os⟩) l items := ⟨_, at0, rfl, n, rfl⟩
    wp_walk using wpAny_loadPart' at0
    refine wpAny_stack_any fun stk => wpAny_pure ?_
    split
    · rename_i cl _ _ _ _ _
      cases (cl == Value.type "enumerate")
      · wp_walk using wpAny_loadPart' at0, wpAny_pyIter_tuple isT
        exact ⟨_, rfl, fin⟩
      · wp_walk using wpAny_loadPart' at0, wpAny_pyIter_tuple isT
        exact ⟨_, rfl, fin⟩
    · wp_walk using wpAny_loadPart' at0, wpAny_pyIter_tuple isT
      exact ⟨_, rfl, fin⟩
theorem enum_tuple {prog : Program} {w : World} {A : Around} {E : Value → Shared → Prop} {s : Shared} {l : Addr} {items : Array Value} {Z : Value → Shared → Prop} (isT : s.heap.IsTuple l items)
    (fin : ∀ h', IsEnum h' (s.heap.objs.size + 1) s.heap.objs.size 0 .none → h'.IsTupleIter s.heap.objs.size l 0 → (∀ b o, s.heap.get? b = some o → h'.get? b = some o) → Z (.ref (s.heap.objs.size + 1)) { s with heap := h' }) :
    wpAny (model prog w) A (call (.type "enumerate") [.ref l]) Z E s := by
  obtain ⟨⟨oc, od, oda, osl⟩, at0, oc1, n, od1⟩ := isT
  simp only at oc1 od1
  subst oc1 od1
  refine callType_new F.called_enumerate (by decide) (F.typeCall_enumerate_1 _) (F.newCall_enumerate_1 _) (fun ob => F.args_object_init_2 ob _) F.entry_enumerate_new (enum_newT l items n od osl) ⟨at0, ?_⟩
  have sz : (s.heap.push (iterT l)).objs.size = s.heap.objs.size + 1 := Heap.size_push ..
  show _ ∧ _
  rw [sz]
  have en : IsEnum ((s.heap.push (iterT l)).push (enumO s.heap.objs.size)) (s.heap.objs.size + 1) s.heap.objs.size 0 .none := by
    have z := Heap.get?_push_size (s.heap.push (iterT l)) (o := enumO s.heap.objs.size) rfl
    rw [sz] at z
    exact z
  exact ⟨⟨_, en, rfl⟩, fin _ en ⟨_, Heap.get?_push_of_some _ (Heap.get?_push_size _ rfl), rfl, rfl⟩ fun b o x => Heap.get?_push_of_some _ (Heap.get?_push_of_some _ x)⟩
end
section
variable {X : Cx} {e : Expr} {ta : TA} {p pos tpos : Pos} {elts : List Expr} {kk : Nat}
def iEnumS (ta : TA) : TI := fun σ H R => ta σ H fun vs H1 => ∃ z, vs = [.str z] ∧ R (ItES z) H1
def iEnumT (K : PySem.W.Frag) (ta : TA) : TI := fun σ H R => ta σ H fun vs H1 => ∃ a xs, vs = [.ref a] ∧ SqT K H1 a xs ∧ R (ItET K a) H1
theorem two_new {pins : List (Addr × Obj)} {σ : L2.St} {H : Hp} {s : Shared} (I : Inv X pins σ H s) : ∀ b ∈ [s.heap.objs.size + 1, s.heap.objs.size], FpOk X pins H b := fun b hb => by
  have le : s.heap.objs.size ≤ b := by
    rcases List.mem_cons.mp hb with rfl | hb
    · exact Nat.le_add_right _ _
    · rw [List.mem_singleton.mp hb]; exact Nat.le_refl _
  exact I.fpOk le (I.hok.fresh le)
theorem pi_enumS (hg : Gl X "enumerate") (hm : X.mg "enumerate" = none) (ha : PA X [e] ta) (hs : starEach [e] X.env = [(false, eval e X.env)] := by rfl) : PI X (.Tuple elts kk tpos) (.Call (.Name "enumerate" p) [e] [] pos) (iEnumS ta) := by
  refine ⟨fun pins s σ H R I h => ?_⟩
  refine Call_ (ld_blt I hg hm boot_enumerate (PyProof.Rows.callWith_type1 (thn (ha.run pos pins s σ H _ I h) fun us s1 res => ?_) hs rfl))
  obtain ⟨vs, H1, I1, r1, z, rfl, q⟩ := res
  obtain ⟨u, rfl, ru⟩ := vals_one r1
  obtain ⟨t, rfl⟩ := (show ∃ t, u = Value.str z t from ru)
  refine call_enumerate_str fun h' en hit _ kp => wpAny_pyIter_enum en ?_
  exact ⟨s1.heap.objs.size + 1, [s1.heap.objs.size + 1, s1.heap.objs.size], _, _, H1, rfl, I1.kept (t' := s1.toks) kp, turn_enumS z t (s1.heap.objs.size + 1) s1.heap.objs.size, ⟨⟨.none, en⟩, hit, Nat.succ_ne_self _⟩, two_new I1, q⟩
theorem pi_enumT (hg : Gl X "enumerate") (hm : X.mg "enumerate" = none) (ha : PA X [e] ta) (hs : starEach [e] X.env = [(false, eval e X.env)] := by rfl) : PI X (.Tuple elts kk tpos) (.Call (.Name "enumerate" p) [e] [] pos) (iEnumT X.K ta) := by
  refine ⟨fun pins s σ H R I h => ?_⟩
  refine Call_ (ld_blt I hg hm boot_enumerate (PyProof.Rows.callWith_type1 (thn (ha.run pos pins s σ H _ I h) fun us s1 res => ?_) hs rfl))
  obtain ⟨vs, H1, I1, r1, a, xs, rfl, sq, q⟩ := res
  obtain ⟨u, rfl, ru⟩ := vals_one r1
  obtain rfl : u = Value.ref a := ru
  obtain ⟨its, rv, pt, _⟩ := I1.tuple sq
  have isT : s1.heap.IsTuple a its.toArray := pt
  have la : a < s1.heap.objs.size := by obtain ⟨o, ho, _⟩ := isT; exact Heap.lt_size ho
  refine enum_tuple isT fun h' en hit kp => wpAny_pyIter_enum en ?_
  exact ⟨s1.heap.objs.size + 1, [s1.heap.objs.size + 1, s1.heap.objs.size], _, _, H1, rfl, I1.kept (t' := s1.toks) kp, turn_enumT a (s1.heap.objs.size + 1) s1.heap.objs.size, ⟨⟨.none, en⟩, hit, Nat.succ_ne_self _, Nat.ne_of_gt (Nat.lt_succ_of_lt la), Nat.ne_of_lt la⟩, two_new I1, q⟩
end
/-! ### walks -/
theorem walk_enumS {z : Str} : Walk (ItES z) z.cps.size (fun _ => True) (fun i H v H' => ∃ T c, v = .ref T ∧ H T = none ∧ H' = upd H T (.tup [.int (i : Nat), .str ⟨#[c]⟩]) ∧ z.cps[i]? = some c) := ⟨fun _ _ hi _ => hi, fun _ _ => rfl, fun _ _ _ _ _ _ y => y⟩
theorem walk_enumT {K : PySem.W.Frag} {a : Addr} {xs : List V} : Walk (ItET K a) xs.length (fun H => SqT K H a xs) (fun i H v H' => ∃ T x, v = .ref T ∧ H T = none ∧ H' = upd H T (.tup [.int (i : Nat), x]) ∧ xs[i]? = some x) :=
  ⟨fun i _ hi q => ⟨xs, xs[i], q, by simp [hi]⟩, fun _ q => ⟨xs, q, rfl⟩, fun _ _ _ _ _ q y => by obtain ⟨T, x, h1, h2, h3, h4⟩ := y; exact ⟨T, x, h1, h2, h3, h4 xs q⟩⟩
/-- a loop of a generator, by the walk -/
theorem gforW {J : It} {n : Nat} {G : Hp → Prop} {Y : Nat → Hp → V → Hp → Prop} (wk : Walk J n G Y) {g : TG} {tb : TGn} {D : GEnds} {ys : List V} {σ : L2.St} {H : Hp} (Pv : Nat → List V → L2.St → Hp → Prop) (h0 : Pv 0 ys σ H) (hG : ∀ i ys σ H, i ≤ n → Pv i ys σ H → G H)
    (hs : ∀ i x ys σ H H', i < n → Pv i ys σ H → Y i H x H' → g x σ H' fun σ2 H2 => tb { D with nx := Pv (i + 1), ct := Pv (i + 1), bk := D.nx } ys σ2 H2) (hd : ∀ ys σ H, Pv n ys σ H → D.nx ys σ H) :
    ∃ W : Nat → Nat → List V → L2.St → Hp → Prop, (∃ m, W 0 m ys σ H) ∧ ∀ i m ys σ H, W i m ys σ H → (J.stop i H ∧ D.nx ys σ H) ∨ (J.go i H ∧ ∃ N : List V → L2.St → Hp → Prop, (∀ ys' σ' H', N ys' σ' H' → ∃ m', m' < m ∧ W (i + 1) m' ys' σ' H') ∧ ∀ x H', J.yld i H x H' → g x σ H' fun σ2 H2 => tb { D with nx := N, ct := N, bk := D.nx } ys σ2 H2) := by
  refine ⟨fun i m ys σ H => m = n - i ∧ i ≤ n ∧ Pv i ys σ H, ⟨n, by simp, Nat.zero_le _, h0⟩, ?_⟩
  rintro i m ys σ H ⟨rfl, hi, p⟩
  have q := hG i ys σ H hi p
  by_cases lt : i < n
  · exact .inr ⟨wk.goes i H lt q, Pv (i + 1), fun ys' σ' H' p' => ⟨n - (i + 1), by omega, rfl, lt, p'⟩, fun x H' y => hs i x ys σ H H' lt p (wk.yields i H x H' lt q y)⟩
  · obtain rfl : i = n := by omega
    exact .inl ⟨wk.stops H q, hd ys σ H p⟩
end KT

/-! KGen: if and for within a generator def. -/
namespace KGen
open PySem PySem.Spec PyProof.Rows L2 GenW
section
variable {X : Cx}
/-! ### if -/
def tGIf (tc : TT) (t1 t2 : TGn) : TGn := fun D ys σ H => tc σ H fun b H1 => if b = true then t1 D ys σ H1 else t2 D ys σ H1
theorem gs_if {test : Expr} {b1 b2 : List Stmt} {pos : Pos} {tc : TT} {t1 t2 : TGn} (hc : PT X test tc) (h1 : GSs X b1 t1) (h2 : GSs X b2 t2) : GS X (.If test b1 b2 pos) (tGIf tc t1 t2) := by
  refine ⟨fun A S ip R n ys s₀ c fs K J gd lv s σ H D g hn k hI ht => ?_⟩
  obtain ⟨acc, cc, r, I⟩ := hI
  rw [exec_If]
  refine seg_bind_wrap (wpAny_standAt ?_)
  refine seg_bind_wrap ?_
  rw [g.over]
  refine wpAny_mono (hc.run _ s σ H _ I ht) (fun b s' hb => ?_) fun x s' hx => k.exc n s₀ x s' hx
  obtain ⟨H2, I2, q2⟩ := hb
  cases b with
  | true =>
    rw [if_pos rfl] at q2 ⊢
    exact h1.run A S ip R n ys s₀ c fs K J gd lv s' σ H2 D g hn k ⟨acc, cc, r, I2⟩ q2
  | false =>
    rw [if_neg Bool.false_ne_true] at q2 ⊢
    exact h2.run A S ip R n ys s₀ c fs K J gd lv s' σ H2 D g hn k ⟨acc, cc, r, I2⟩ q2
/-! ### for -/
def tGFor (wi : TI) (g : TG) (tb : TGn) : TGn := fun D ys σ H => wi σ H fun J H1 => ∃ W : Nat → Nat → List V → L2.St → Hp → Prop, (∃ m, W 0 m ys σ H1) ∧ ∀ i m ys σ H, W i m ys σ H →
  (J.stop i H ∧ D.nx ys σ H) ∨ (J.go i H ∧ ∃ N : List V → L2.St → Hp → Prop, (∀ ys' σ' H', N ys' σ' H' → ∃ m', m' < m ∧ W (i + 1) m' ys' σ' H') ∧ ∀ x H', J.yld i H x H' → g x σ H' fun σ2 H2 => tb { D with nx := N, ct := N, bk := D.nx } ys σ2 H2)
/-- what a loop does with an exception -/
abbrev noted (e : Value) (env : Env) : Sem PySem.Fin := (do noteFrame e env; theTreesLotGoes e : Sem Unit).wrap (fun _ => .raise e) .raise id id
abbrev turned (tg : Expr) (it : Value) (body : List Stmt) (env : Env) : Flow → Sem PySem.Fin := fun f => match f with
  | .next | .cont => .pure (.again (.forLoop tg it body [] env))
  | .brk => .pure (.done .next)
  | .ret v => .pure (.done (.ret v))
theorem seg_for_ {prog : Program} {w : World} {A : Around} {R : GenEnd} {Y : Protocol} {n : Nat} {s₀ : Shared} {fs : List Frame} {s : Shared} {env : Env} {tg : Expr} {it : Value} {body : List Stmt}
    (h : wpAny (model prog w) (A.over (.forLoop tg it body [] env) fs) (pyNext it) (fun r s1 => match r with
        | none => Seg (model prog w) A R Y n s₀ (.forLoop tg it body [] env) (.pure (.again (.block [] env))) fs s1
        | some v => wpAny (model prog w) (A.over (.forLoop tg it body [] env) fs) (letOwnedTupleGo tg it v) (fun _ s2 => wpAny (model prog w) (A.over (.forLoop tg it body [] env) fs) (assign tg env v) (fun _ s3 =>
            Seg (model prog w) A R Y n s₀ (.forLoop tg it body [] env) ((execs body env).wrap (turned tg it body env) (fun e => noted e env) id id) fs s3)
            (fun x s' => Seg (model prog w) A R Y n s₀ (.forLoop tg it body [] env) (noted x env) fs s') s2) (fun x s' => Seg (model prog w) A R Y n s₀ (.forLoop tg it body [] env) (noted x env) fs s') s1)
      (fun x s' => Seg (model prog w) A R Y n s₀ (.forLoop tg it body [] env) (noted x env) fs s') s) :
    Seg (model prog w) A R Y n s₀ (.forLoop tg it body [] env) ((model prog w).den (.forLoop tg it body [] env)) fs s := by
  show Seg _ A R Y n s₀ _ ((forTurn tg it body [] env).onRaise (fun x => do noteFrame x env; theTreesLotGoes x)) fs s
  have bad : ∀ (x : Value) (s' : Shared), Seg (model prog w) A R Y n s₀ (.forLoop tg it body [] env) (noted x env) fs s' → Seg (model prog w) A R Y n s₀ (.forLoop tg it body [] env) ((do noteFrame x env; theTreesLotGoes x : Sem Unit).bind fun _ => .raise x) fs s' := fun x s' hx => by
    rw [Sem.bind_eq_wrap]
    exact hx
  unfold forTurn
  rw [Sem.onRaise_eq_wrap]
  refine seg_bind_wrap (wpAny_standAt ?_)
  refine seg_bind_wrap (wpAny_onRaise (wpAny_mono h (fun r s1 h1 => ?_) fun x s' hx => wpAny_standAt (bad x s' hx)))
  cases r with
  | none => exact h1
  | some v =>
    refine seg_bind_wrap (wpAny_mono h1 (fun _ s2 h2 => ?_) fun x s' hx => bad x s' hx)
    refine seg_bind_wrap (wpAny_mono h2 (fun _ s3 h3 => ?_) fun x s' hx => bad x s' hx)
    rw [Sem.bind_eq_wrap', Sem.wrap_wrap]
    rw [Sem.wrap_congr (execs body env) _ _ (K' := turned tg it body env) (H' := fun e => noted e env) (fun f => by cases f <;> rfl) (fun e => by exact Sem.bind_eq_wrap _ _)]
    exact h3
theorem pinsAt_ne {pins : List (Addr × Obj)} {H : Hp} {fp : List Addr} {h : Heap} {S : Addr} {o : Obj} (hf : ∀ b ∈ fp, FpOk X ((S, o) :: pins) H b) : ∀ p ∈ pinsAt fp h, p.1 ≠ S := fun p hp z => by
  obtain ⟨hb, _⟩ := of_pinsAt hp
  exact (hf p.1 hb).2.2.2.2.2 (S, o) (List.mem_append_right _ List.mem_cons_self) z.symm
theorem gs_for {tg iter : Expr} {body : List Stmt} {wi : TI} {g : TG} {tb : TGn} {pos : Pos} (hp : PassesOwn (model X.prog X.w) X.A X.env X.xe) (calm : X.calm = true) (hi : PI X tg iter wi) (hg : PG X tg g) (hb : GSs X body tb)
    (hs : ∀ x, foldedSetIterable iter X.env x = pure x := by intro _; rfl) : GS X (.For tg iter body [] pos) (tGFor wi g tb) := by
  refine ⟨fun A S ip R n ys s₀ c fs K J gd lv s σ H D gc hn k hI ht => ?_⟩
  obtain ⟨acc, cc, r, I⟩ := hI
  rw [exec_For]
  refine seg_bind_wrap (wpAny_standAt ?_)
  refine seg_bind_wrap ?_
  rw [gc.over]
  refine wpAny_mono (hi.run _ s σ H _ I ht) (fun v s1 h1 => ?_) fun x s' hx => k.exc n s₀ x s' hx
  refine seg_bind_wrap (wpAny_of_eq (hs v) ?_)
  refine seg_bind_wrap (wpAny_standAt ?_)
  refine seg_bind_wrap (wpAny_holding ?_)
  rw [gc.over]
  refine wpAny_mono h1 (fun itv s2 h2 => ?_) fun x s' hx => k.exc n s₀ x s' hx
  obtain ⟨it, fp, tn, JJ, H2, rfl, I2, T, st2, f2, W, ⟨m0, w0⟩, turn⟩ := h2
  refine seg_call fun p => ?_
  have gl := fun (kk : Result → Sem PySem.Fin) => gc_loop (k := kk) (c' := .forLoop tg (.ref it) body [] X.env) (l := lv []) (kp := []) (p := p) gc rfl rfl
  have gb := fun (kk : Result → Sem PySem.Fin) => gc_loop (k := kk) (c' := .block [] X.env) (l := lv []) (kp := []) (p := p) gc rfl rfl
  have loop : ∀ (m i n : Nat) (ys : List V) (acc : Array Value) (cc : Nat) (s₀ s : Shared) (σ : L2.St) (H : Hp), Vals ys acc.toList → n + ys.length = sizeLine → W i m ys σ H → Inv X ((S, lstObj acc cc) :: ip) σ H s → tn i s.heap → (∀ b ∈ fp, FpOk X ((S, lstObj acc cc) :: ip) H b) →
      Seg (model X.prog X.w) A R (GY X S) n s₀ (.forLoop tg (.ref it) body [] X.env) ((model X.prog X.w).den (.forLoop tg (.ref it) body [] X.env))
        (.ret (fun r => ((match r with | .ok f => (.pure f : Sem Flow) | .error e => .raise e).onRaise (cameBack X.env)).wrap K J gd lv) none (gd false) (lv []) c p [] :: fs) s := by
    intro m
    induction m using Nat.strongRecOn with
    | ind m ih =>
      intro i n ys acc cc s₀ s σ H r hn w I st f
      have ee : ∀ (n : Nat) (s₀ : Shared) (x : Value) (s' : Shared), X.xe x s' → Seg (model X.prog X.w) A R (GY X S) n s₀ (.forLoop tg (.ref it) body [] X.env) (noted x X.env)
          (.ret (fun r => ((match r with | .ok f => (.pure f : Sem Flow) | .error e => .raise e).onRaise (cameBack X.env)).wrap K J gd lv) none (gd false) (lv []) c p [] :: fs) s' := fun n s₀ x s' hx => by
        refine seg_wrap ?_
        rw [(gl _).over]
        refine wpAny_bind (wpAny_mono (hp x s' hx) (fun _ s'' hcb => wpAny_theTreesLotGoes ?_) fun y s'' hcb => ?_)
        · exact seg_leaf (.error x) (seg_cameBack gc k hcb)
        · exact seg_leaf (.error y) (seg_cameBack gc k hcb)
      refine seg_for_ ?_
      rw [(gl _).over]
      rcases turn i m ys σ H w with ⟨stop, qn⟩ | ⟨go, N, hN, step⟩
      · refine wpAny_mono (T.done X rfl rfl rfl calm i _ s σ H X.xe I f st stop) (fun r' s3 hr => ?_) fun x s' hx => ee n s₀ x s' hx
        obtain ⟨rfl, I3⟩ := hr
        refine seg_again rfl ?_
        show Seg _ _ _ _ _ _ _ (((execs [] X.env).onRaise (fun x => do noteFrame x X.env; theTreesLotGoes x)) >>= fun f => pure (.done f)) _ _
        exact seg_leaf (.ok .next) (k.ok n ys s₀ s3 .next hn ⟨σ, H, ⟨acc, cc, r, I3⟩, qn⟩)
      · refine wpAny_mono (T.item X rfl rfl rfl calm i _ s σ H X.xe I f st go) (fun r' s3 hr => ?_) fun x s' hx => ee n s₀ x s' hx
        obtain ⟨u, rfl, h3⟩ := hr
        refine wpAny_mono h3 (fun _ s5 h5 => ?_) fun x s' hx => ee n s₀ x s' hx
        obtain ⟨x5, H5, I5, r5, y5, st5, fr5⟩ := h5
        have f5 : ∀ b ∈ fp, FpOk X ((S, lstObj acc cc) :: ip) H5 b := fun b hb => ⟨fr5 b hb, (f b hb).2⟩
        have I5' := I5.pinned f5 (T.obj _ _ st5)
        refine wpAny_mono (hg.run _ s5 σ H5 x5 u _ I5' r5 (step x5 H5 y5)) (fun _ s6 h6 => ?_) fun x s' hx => ee n s₀ x s' hx
        obtain ⟨σ6, H6, I6, q6⟩ := h6
        have gp : GC X S (ip ++ pinsAt fp s5.heap) A (.forLoop tg (.ref it) body [] X.env) (.ret (fun r => ((match r with | .ok f => (.pure f : Sem Flow) | .error e => .raise e).onRaise (cameBack X.env)).wrap K J gd lv) none (gd false) (lv []) c p [] :: fs) id :=
          { gl _ with ip := fun p hp => (List.mem_append.mp hp).elim (gc.ip p) (pinsAt_ne f5 p) }
        refine hb.run A S (ip ++ pinsAt fp s5.heap) R n ys s₀ _ _ _ _ id id s6 σ6 H6 { D with nx := N, ct := N, bk := D.nx } gp hn ⟨fun n' ys' s₀' s7 fl hn' hs' => ?_, fun n' s₀' x s7 hx => ee n' s₀' x s7 hx⟩ ⟨acc, cc, r, I6⟩ q6
        have again : ∀ {σ7 : L2.St} {H7 : Hp}, GI X S (ip ++ pinsAt fp s5.heap) ys' σ7 H7 s7 → N ys' σ7 H7 → Seg (model X.prog X.w) A R (GY X S) n' s₀' (.forLoop tg (.ref it) body [] X.env) (.pure (.again (.forLoop tg (.ref it) body [] X.env)))
            (.ret (fun r => ((match r with | .ok f => (.pure f : Sem Flow) | .error e => .raise e).onRaise (cameBack X.env)).wrap K J gd lv) none (gd false) (lv []) c p [] :: fs) s7 := fun {σ7 H7} G7 n7 => by
          obtain ⟨acc7, cc7, r7, I7⟩ := G7
          obtain ⟨m', hm, w7⟩ := hN ys' σ7 H7 n7
          have at7 : ∀ b ∈ fp, ∀ o, s5.heap.get? b = some o → s7.heap.get? b = some o ∧ H7 b = none := fun b hb o e => by
            have z := I7.pin (b, o) (List.mem_append_right _ (List.mem_cons_of_mem _ (List.mem_append_right _ (mem_pinsAt hb e))))
            exact ⟨z.1, z.2.1⟩
          refine seg_again rfl (ih m' hm (i + 1) n' ys' acc7 cc7 s₀' s7 σ7 H7 r7 hn' w7 (I7.pins_of fun q hq => I7.pin q (List.mem_append_right _ ?_)) (T.keep _ _ _ st5 fun b hb o e => (at7 b hb o e).1) fun b hb => ?_)
          · rcases List.mem_cons.mp hq with rfl | hq
            · exact List.mem_cons_self
            · exact List.mem_cons_of_mem _ (List.mem_append_left _ hq)
          · obtain ⟨o, e, _⟩ := T.obj _ _ st5 b hb
            obtain ⟨z1, z2, z3, z4, z5, z6⟩ := f b hb
            refine ⟨(at7 b hb o e).2, z2, z3, z4, z5, fun q hq => ?_⟩
            rcases List.mem_append.mp hq with hq | hq
            · exact z6 q (List.mem_append_left _ hq)
            · rcases List.mem_cons.mp hq with rfl | hq
              · exact z6 (S, lstObj acc cc) (List.mem_append_right _ List.mem_cons_self)
              · exact z6 q (List.mem_append_right _ (List.mem_cons_of_mem _ hq))
        have drop : ∀ {σ7 : L2.St} {H7 : Hp}, GI X S (ip ++ pinsAt fp s5.heap) ys' σ7 H7 s7 → GI X S ip ys' σ7 H7 s7 := fun {σ7 H7} G7 => by
          obtain ⟨acc7, cc7, r7, I7⟩ := G7
          refine ⟨acc7, cc7, r7, I7.pins_of fun q hq => I7.pin q (List.mem_append_right _ ?_)⟩
          rcases List.mem_cons.mp hq with rfl | hq
          · exact List.mem_cons_self
          · exact List.mem_cons_of_mem _ (List.mem_append_left _ hq)
        cases fl with
        | next => obtain ⟨σ7, H7, G7, n7⟩ := hs'; exact again G7 n7
        | cont => obtain ⟨σ7, H7, G7, n7⟩ := hs'; exact again G7 n7
        | brk => obtain ⟨σ7, H7, G7, q7⟩ := hs'; exact seg_leaf (.ok .next) (k.ok n' ys' s₀' s7 .next hn' ⟨σ7, H7, drop G7, q7⟩)
        | ret v => obtain ⟨x7, σ7, H7, G7, r7, q7⟩ := hs'; exact seg_leaf (.ok (.ret v)) (k.ok n' ys' s₀' s7 (.ret v) hn' ⟨x7, σ7, H7, drop G7, r7, q7⟩)
  exact loop m0 0 n ys acc cc s₀ s2 σ H2 r hn w0 I2 st2 f2
end
end KGen

/-! KU: classmethods and own objects called by keywords; list(o.m()) of a generator method. -/
namespace KU
open PySem PySem.Spec PyProof.Rows L2 KB KG KO KY
section
variable {X : Cx}
/-- n: the positional values, the class among them -/
structure CalleeCK (P : Program) (w : World) (K : PySem.W.Frag) (mg : Str → Option Value) (base : Heap) (CX : CXT) (k : Nat) (C : Addr) (m : Str) (ps : List Str) (sp : Sp) (n : Nat) (ks : List Str) (gV : List V → List V → List V) : Prop where
  ex : ∃ (mc : Value) (p g : Addr) (fd : FuncData) (gg : List Value → List Value → List Value), ClX.CRead K C mc ∧ ClX.CMet K C mc m p g ∧ FnOk P w K mg base CX k g fd ps sp ∧ KBn K fd ps n ks gg gV
theorem run_cmK {CX : CXT} {k n : Nat} {g C q : Addr} {fd : FuncData} {ps ks : List Str} {sp : Sp} {gg : List Value → List Value → List Value} {gV : List V → List V → List V} {E : XK} {Z : VK} {pins : List (Addr × Obj)} {σ : L2.St} {H : Hp} {s : Shared} {us ws : List Value} {vs zs : List V}
    (F : FnOk X.prog X.w X.K X.mg X.base CX k g fd ps sp) (room : Room k X.A) (hb : KBn X.K fd ps n ks gg gV) (pass : Passes CX X E) (I : Inv X ((q, PySem.W.methodObj (.ref g) (.ref C)) :: pins) σ H s) (r : Vals vs us) (rz : Vals zs ws) (l1 : vs.length + 1 = n) (l2 : zs.length = ks.length)
    (h : sp (gV (.ref C :: vs) zs) H Z E) : wpAny (model X.prog X.w) X.A (call (.ref q) us (ks.zip ws)) (EP X pins σ Z) X.xe s := by
  have rel : Vals (V.ref C :: vs) (Value.ref C :: us) := .cons rfl r
  have bt := hb.to s (Value.ref C :: us) ws I.kIn (by rw [List.length_cons, ← r.length]; exact l1) (rz.length.symm.trans l2)
  have z : wpAny (model X.prog X.w) X.A (call (.ref q) us (ks.zip ws)) (EP X ((q, PySem.W.methodObj (.ref g) (.ref C)) :: pins) σ Z) X.xe s := by
    refine wpAny_call (PySem.W.method_call (ClX.pin_at I) ?_)
    refine codeAny_mono (F.run X.A X.stack s H ⟨.ref C :: us, ks.zip ws⟩ _ _ Z E room I.env0 bt (hb.rel rel rz) h) fun res s2 y => ?_
    match res, y with
    | .error e, y => exact pass _ σ H s e s2 I y
    | .ok (.ret u), y => exact I.after y
    | .ok .next, y => exact y.elim
    | .ok .brk, y => exact y.elim
    | .ok .cont, y => exact y.elim
  exact thn z fun _ _ y => ClX.unpinE y
def tCMethK (C : Addr) (sp : Sp) (n m : Nat) (gV : List V → List V → List V) (E : XK) (ta : TE) (t tk : TA) : TE := fun σ H Q => ta σ H fun x H1 => x = .ref C ∧ t σ H1 fun vs H2 => tk σ H2 fun zs H3 => (vs.length + 1 = n ∧ zs.length = m) ∧ sp (gV (.ref C :: vs) zs) H3 Q E
/-- C.m(e, .., k = v, ..) -/
theorem pe_cmethK {pl : Sem Bool} {CX : CXT} {k n : Nat} {C : Addr} {m : Str} {ps ks : List Str} {sp : Sp} {gV : List V → List V → List V} {E : XK} {o e : Expr} {es : List Expr} {kws : List Keyword} {apos pos : Pos} {ta : TE} {t tk : TA} (c : CalleeCK X.prog X.w X.K X.mg X.base CX k C m ps sp n ks gV) (ho : PE X o ta) (room : Room k X.A) (pass : Passes CX X E)
    (ha : PA X (e :: es) t) (hkw : PK X kws tk) (d1 : (backToKw pos (keywordEach kws X.env)).all (·.1.isSome) = true := by rfl) (d2 : (backToKw pos (keywordEach kws X.env)).filterMap (·.1) = ks := by rfl) (d3 : ((backTo pos (starEach (e :: es) X.env)).any (·.1) || (backToKw pos (keywordEach kws X.env)).any (·.1.isNone)) = false := by rfl)
    (d5 : starEach (e :: es) X.env = (false, eval e X.env) :: starEach es X.env := by rfl)
    (d4 : eval (.Call (.Attribute o m apos) (e :: es) kws pos) X.env = (do
      let ov ← eval o X.env
      standAt apos.atName
      let (f, first) ← holding [ov] (getMethod ov m pl)
      callWith pos f first (backTo pos (starEach (e :: es) X.env)) (backToKw pos (keywordEach kws X.env))) := by rfl) :
    PE X (.Call (.Attribute o m apos) (e :: es) kws pos) (tCMethK C sp n ks.length gV E ta t tk) := by
  obtain ⟨mc, p, g, fd, gg, r, cm, F, hb⟩ := c.ex
  refine ⟨fun pins s σ H Z I h => PySem.W.methodCall_KW (pl := pl) (thn (ho.run pins s σ H _ I h) fun u s1 res => ?_) d4⟩
  obtain ⟨x, H1, I1, rx, rfl, q⟩ := res
  obtain rfl : u = Value.ref C := rx
  refine ClX.getmethcm_ok I1 r cm fun s2 I2 => ?_
  refine PySem.W.callWith_of d3 (PySem.W.keeps_M (self := .ref C) cm.fi) (evalArgs_kw2 d1 (thn (ha.run pos _ s2 σ H1 _ I2 q) fun us s3 res => ?_) d5)
  obtain ⟨vs, H2, I3, rv, q⟩ := res
  refine thn (hkw.run pos _ s3 σ H2 _ I3 q) fun ws s4 res => ?_
  obtain ⟨zs, H3, I4, rz, l, q⟩ := res
  refine ⟨⟨ClX.pin_at I4, I4.kIn⟩, ?_⟩
  rw [d2]
  exact run_cmK F room hb pass I4 rv rz l.1 l.2 q
/-- C.m(k = v, ..) -/
theorem pe_cmethK0 {pl : Sem Bool} {CX : CXT} {k : Nat} {C : Addr} {m : Str} {ps ks : List Str} {sp : Sp} {gV : List V → List V → List V} {E : XK} {o : Expr} {kws : List Keyword} {apos pos : Pos} {ta : TE} {tk : TA} (c : CalleeCK X.prog X.w X.K X.mg X.base CX k C m ps sp 1 ks gV) (ho : PE X o ta) (room : Room k X.A) (pass : Passes CX X E)
    (hkw : PK X kws tk) (d1 : (backToKw pos (keywordEach kws X.env)).all (·.1.isSome) = true := by rfl) (d2 : (backToKw pos (keywordEach kws X.env)).filterMap (·.1) = ks := by rfl) (d3 : ((backTo pos (starEach [] X.env)).any (·.1) || (backToKw pos (keywordEach kws X.env)).any (·.1.isNone)) = false := by rfl)
    (d4 : eval (.Call (.Attribute o m apos) [] kws pos) X.env = (do
      let ov ← eval o X.env
      standAt apos.atName
      let (f, first) ← holding [ov] (getMethod ov m pl)
      callWith pos f first (backTo pos (starEach [] X.env)) (backToKw pos (keywordEach kws X.env))) := by rfl) :
    PE X (.Call (.Attribute o m apos) [] kws pos) (tCMethK C sp 1 ks.length gV E ta tNil tk) := by
  obtain ⟨mc, p, g, fd, gg, r, cm, F, hb⟩ := c.ex
  refine ⟨fun pins s σ H Z I h => PySem.W.methodCall_KW (pl := pl) (thn (ho.run pins s σ H _ I h) fun u s1 res => ?_) d4⟩
  obtain ⟨x, H1, I1, rx, rfl, q⟩ := res
  obtain rfl : u = Value.ref C := rx
  refine ClX.getmethcm_ok I1 r cm fun s2 I2 => ?_
  refine PySem.W.callWith_of d3 (PySem.W.keeps_M (self := .ref C) cm.fi) (evalArgs_kw2_nil d1 (thn (hkw.run pos _ s2 σ H1 _ I2 q) fun ws s4 res => ?_))
  obtain ⟨zs, H3, I4, rz, l, q⟩ := res
  refine ⟨⟨ClX.pin_at I4, I4.kIn⟩, ?_⟩
  rw [d2]
  exact run_cmK (us := []) (vs := []) F room hb pass I4 .nil rz l.1 l.2 q
theorem r_cmethK {σ : L2.St} {H : Hp} {Q : VK} {C : Addr} {sp : Sp} {n m : Nat} {gV : List V → List V → List V} {E : XK} {ta : TE} {t tk : TA} (q : ta σ H fun x H1 => x = .ref C ∧ t σ H1 fun vs H2 => tk σ H2 fun zs H3 => (vs.length + 1 = n ∧ zs.length = m) ∧ sp (gV (.ref C :: vs) zs) H3 Q E) : tCMethK C sp n m gV E ta t tk σ H Q := q
/-! ### o(k = v) of an own object -/
structure OwnCK (P : Program) (w : World) (K : PySem.W.Frag) (mg : Str → Option Value) (base : Heap) (CX : CXT) (k : Nat) (C : Addr) (ps : List Str) (sp : Sp) (ks : List Str) (gV : List V → List V → List V) : Prop where
  ex : ∃ (g : Addr) (fd : FuncData) (gg : List Value → List Value → List Value), PySem.W.findIn K (.ref C) "__call__" = some (some (.ref g)) ∧ PySem.W.isFn K (.ref g) = true ∧ PySem.W.fnIn K g = true ∧ FnOk P w K mg base CX k g fd ps sp ∧ KBn K fd ps 1 ks gg gV
def tCallOK (C : Addr) (sp : Sp) (m : Nat) (gV : List V → List V → List V) (E : XK) (tf : TE) (tk : TA) : TE := fun σ H Q => tf σ H fun x H1 => ∃ (a dx : Addr) (fs : List (Str × V)), x = .ref a ∧ H1 a = some (.ins C dx fs) ∧ tk σ H1 fun zs H2 => H2 a = some (.ins C dx fs) ∧ zs.length = m ∧ sp (gV [.ref a] zs) H2 Q E
theorem pe_callOK {CX : CXT} {k : Nat} {C : Addr} {x : Str} {ps ks : List Str} {sp : Sp} {gV : List V → List V → List V} {E : XK} {kws : List Keyword} {p pos : Pos} {tf : TE} {tk : TA} (c : OwnCK X.prog X.w X.K X.mg X.base CX k C ps sp ks gV) (room : Room k X.A) (pass : Passes CX X E) (hf : PE X (.Name x p) tf) (hkw : PK X kws tk)
    (d1 : (backToKw pos (keywordEach kws X.env)).all (·.1.isSome) = true := by rfl) (d2 : (backToKw pos (keywordEach kws X.env)).filterMap (·.1) = ks := by rfl) (d3 : ((backTo pos (starEach [] X.env)).any (·.1) || (backToKw pos (keywordEach kws X.env)).any (·.1.isNone)) = false := by rfl) :
    PE X (.Call (.Name x p) [] kws pos) (tCallOK C sp ks.length gV E tf tk) := by
  obtain ⟨g, fd, gg, hs, hfn, hfi, F, hb⟩ := c.ex
  refine ⟨fun pins st σ h Z inv pre => wpAny_Call_Name_kw (thn (hf.run pins st σ h _ inv pre) fun u s1 r => ?_)⟩
  obtain ⟨v, h1, inv1, rv, a, dx, fs, rfl, ea, z⟩ := r
  obtain rfl : u = Value.ref a := rv
  refine KC.callWith_own (C := C) (dx := dx) d3 (evalArgs_kw2_nil d1 (thn (hkw.run pos pins s1 σ h1 _ inv1 z) fun ws s2 r => ?_))
  obtain ⟨zs, h2, inv2, rel, ea2, l, z2⟩ := r
  obtain ⟨od, J⟩ := inst_of inv2 ea2
  refine ⟨⟨_, J⟩, ?_⟩
  rw [d2]
  have bt := hb.to s2 [Value.ref a] ws inv2.kIn rfl (rel.length.symm.trans l)
  refine wpAny_call (codeAny_mono (PySem.W.kco_code inv2.kIn J rfl hs hfn hfi (F.run X.A X.stack s2 h2 ⟨[Value.ref a], ks.zip ws⟩ _ _ Z E room inv2.env0 bt (hb.rel (vs := [.ref a]) (us := [Value.ref a]) (.cons rfl .nil) rel) z2)) fun res s3 y => ?_)
  match res, y with
  | .error e, y => exact pass pins σ h2 s2 e s3 inv2 y
  | .ok (.ret u), y => exact inv2.after y
  | .ok .next, y => exact y.elim
  | .ok .brk, y => exact y.elim
  | .ok .cont, y => exact y.elim
theorem r_callOK {σ : L2.St} {H : Hp} {Q : VK} {C : Addr} {sp : Sp} {m : Nat} {gV : List V → List V → List V} {E : XK} {tf : TE} {tk : TA} (q : tf σ H fun x H1 => ∃ (a dx : Addr) (fs : List (Str × V)), x = .ref a ∧ H1 a = some (.ins C dx fs) ∧ tk σ H1 fun zs H2 => H2 a = some (.ins C dx fs) ∧ zs.length = m ∧ sp (gV [.ref a] zs) H2 Q E) : tCallOK C sp m gV E tf tk σ H Q := q
/-! ### list(o.m()) -/
structure CalleeGM (P : Program) (w : World) (K : PySem.W.Frag) (mg : Str → Option Value) (base : Heap) (k : Nat) (C : Addr) (m : Str) (ps : List Str) (sp : SpG) : Prop where
  ex : ∃ (f : Addr) (fd : FuncData), GFn P w K mg base k f fd ps sp ∧ Meth K C m f ∧ Binds K fd ps []
  cl : Cls K C
theorem noStop0 {K : PySem.W.Frag} : NoStop K E0 := fun _ _ _ h => h.elim
theorem pe_listM {pl : Sem Bool} {k : Nat} {C : Addr} {m : Str} {ps : List Str} {sp : SpG} {o : Expr} {apos pos pos' p : Pos} {ta : TE} (c : CalleeGM X.prog X.w X.K X.mg X.base k C m ps sp) (ho : PE X o ta) (room : Room (k + 3) X.A) (hg : Gl X "list") (hm : X.mg "list" = none)
    (d1 : starEach [.Call (.Attribute o m apos) [] [] pos'] X.env = (false, eval (.Call (.Attribute o m apos) [] [] pos') X.env) :: starEach [] X.env := by rfl)
    (d4 : eval (.Call (.Attribute o m apos) [] [] pos') X.env = (do
      let ov ← eval o X.env
      standAt apos.atName
      let (f, first) ← holding [ov] (getMethod ov m pl)
      callWith pos' f first (backTo pos' (starEach [] X.env)) (backToKw pos' (keywordEach [] X.env))) := by rfl) :
    PE X (.Call (.Name "list" p) [.Call (.Attribute o m apos) [] [] pos'] [] pos) (tListG (tMethG C m sp [] E0 ta tNil)) := by
  obtain ⟨f, fd, F, hme, hb⟩ := c.ex
  exact pe_listG (pgen_meth0 (dvs := []) (ds := []) ho c.cl hme F (room.mono (by omega)) hb .nil d4) passL noStop0 room hg hm (by decide +kernel) (by decide) (by decide) d1
theorem r_listM {σ : L2.St} {H : Hp} {Q : VK} {C : Addr} {m : Str} {sp : SpG} {ta : TE} (q : ta σ H fun x H1 => ∃ a dx fs, x = .ref a ∧ H1 a = some (.ins C dx fs) ∧ fs.lookup m = none ∧ sp [x] H1 (fun out H2 => ∀ p, H2 p = none → Q (.ref p) (upd H2 p (.lst out))) E0) : tListG (tMethG C m sp [] E0 ta tNil) σ H Q := q
end
/-! ### name = {k: v for ..} -/
section
variable {X : Cx}
theorem sw_dict {kx vx : Expr} {gs : List Comprehension} {scope : Scope} {pos py : Pos} {y : Str} {l : Nat} {env : Env} (h1 : env.scope.kind = .function) (h2 : env.scope.names.lookup y = some .local) (h3 : (py.line == pos.line) = true)
    (h4 : (scope.names.any fun (n, k) => n == y && (k == .local || k == .cell)) = false) : swapsWith (.DictComp kx vx gs scope pos) (some (.Name y py)) l env = pure true := by
  have k1 : env.kindOf y = some .local := h2
  have k2 : env.blockKind = .function := by
    unfold Env.blockKind
    rw [h1]
    rfl
  unfold swapsWith
  simp only [k2, k1, h4, Expr.pos, h3]
  rfl
theorem ps_setDc {i : Nat} {y : Str} {py : Pos} {kx vx tg iter : Expr} {ifs : List Expr} {scope : Scope} {own : List (Str × Nat)} {pos spos : Pos} {wi : TI} {g : TG} {tt : TT} {tk tv : TE} (calm : X.calm = true) (nd : X.N.Nodup) (hy : X.N[i]? = some y) (loc : X.env.scope.names.lookup y = some .local)
    (sw : swapsWith (.DictComp kx vx [⟨tg, iter, ifs, 0⟩] scope pos) (some (.Name y py)) spos.line X.env = pure true) (hi : PI X tg iter wi) (ok : BlkOk X.N X.env.scope scope own)
    (hg : ∀ (s : Shared) (H : Hp) (C : Addr) (cl : List (Str × Addr)) (fp : List Addr), PG (X.blk s H scope (compEnvC scope cl C X.env) fp) tg g)
    (ht : ∀ (s : Shared) (H : Hp) (C : Addr) (cl : List (Str × Addr)) (fp : List Addr), PTs (X.blk s H scope (compEnvC scope cl C X.env) fp) ifs tt)
    (hk : ∀ (s : Shared) (H : Hp) (C : Addr) (cl : List (Str × Addr)) (fp : List Addr), PE (X.blk s H scope (compEnvC scope cl C X.env) fp) kx tk)
    (hv : ∀ (s : Shared) (H : Hp) (C : Addr) (cl : List (Str × Addr)) (fp : List Addr), PE (X.blk s H scope (compEnvC scope cl C X.env) fp) vx tv) (hs : ∀ x, foldedSetIterable iter X.env x = pure x := by intro _; rfl) :
    PS X (.Assign [.Name y py] (.DictComp kx vx [⟨tg, iter, ifs, 0⟩] scope pos) spos) (tAsg (tDc wi g tt tk tv (own.map (·.2))) (gName i)) := by
  refine ⟨fun pins s σ H D I h => ?_⟩
  rw [exec_Assign_Name_used _ _ _ _ sw]
  refine wpAny_bind (wpAny_standAt (wpAny_bind ?_))
  show wpAny _ X.A (do let _ ← comprehension (.DictComp kx vx [⟨tg, iter, ifs, 0⟩] scope pos) scope X.env (firstIterPos [⟨tg, iter, ifs, 0⟩] pos) newDict false (eval iter X.env) (some (assign (.Name y py) X.env))) _ _ s
  have h' : tDc wi g tt tk tv (own.map (·.2)) σ H (fun x H1 => gName i x σ H1 D.nx) := h
  refine wpAny_bind (thn (dc_core (Qf := fun _ s' => SP X pins D .next s') calm nd I hi ok hg ht hk hv hs h' fun L C s' m H' I' q ns f => ?_) fun _ s' z => wpAny_pure (wpAny_pure z))
  show wpAny _ _ (assign (.Name y py) X.env (.ref L)) _ _ _
  refine wpAny_assign_Name (store_ok2 (v := V.ref L) I' nd hy (.inl loc) rfl (fun s2 I2 at2 => ?_) (.inr loc))
  obtain ⟨a, sb, ha⟩ := at2
  obtain ⟨f0, f1, f2, f3, f4, f5⟩ := f
  have ne : C ≠ a := by
    rcases ha with z | z
    · exact fun e => f1 (e.trans z)
    · exact fun e => f4 y a z e.symm
  exact ⟨m, ns.sameBut sb ne, fun h3 sb3 => ⟨_, H', I2.turned (t' := s2.toks) (fun b o hb e => (sb3.2 b hb).trans e) f0 f1 f3 f4 f5, q⟩⟩
end
theorem r_enumS {σ : L2.St} {H : Hp} {ta : TA} {R : It → Hp → Prop} (q : ta σ H fun vs H1 => ∃ z, vs = [.str z] ∧ R (KT.ItES z) H1) : KT.iEnumS ta σ H R := q
theorem r_enumT {K : PySem.W.Frag} {σ : L2.St} {H : Hp} {ta : TA} {R : It → Hp → Prop} (q : ta σ H fun vs H1 => ∃ a xs, vs = [.ref a] ∧ SqT K H1 a xs ∧ R (KT.ItET K a) H1) : KT.iEnumT K ta σ H R := q
theorem r_gif {σ : L2.St} {H : Hp} {D : GEnds} {ys : List V} {tc : TT} {t1 t2 : TGn} (q : tc σ H fun b H1 => if b = true then t1 D ys σ H1 else t2 D ys σ H1) : KGen.tGIf tc t1 t2 D ys σ H := q
theorem r_gfor {σ : L2.St} {H : Hp} {D : GEnds} {ys : List V} {wi : TI} {g : TG} {tb : TGn} (q : wi σ H fun J H1 => ∃ W : Nat → Nat → List V → L2.St → Hp → Prop, (∃ m, W 0 m ys σ H1) ∧ ∀ i m ys σ H, W i m ys σ H →
  (J.stop i H ∧ D.nx ys σ H) ∨ (J.go i H ∧ ∃ N : List V → L2.St → Hp → Prop, (∀ ys' σ' H', N ys' σ' H' → ∃ m', m' < m ∧ W (i + 1) m' ys' σ' H') ∧ ∀ x H', J.yld i H x H' → g x σ H' fun σ2 H2 => tb { D with nx := N, ct := N, bk := D.nx } ys σ2 H2)) : KGen.tGFor wi g tb D ys σ H := q
theorem r_gthen {σ : L2.St} {H : Hp} {D : GEnds} {ys : List V} {t u : TGn} (q : t { D with nx := fun ys' σ' H' => u D ys' σ' H' } ys σ H) : tGThen t u D ys σ H := q
theorem r_gyield {σ : L2.St} {H : Hp} {D : GEnds} {ys : List V} {te : TE} (h : ys.length < sizeLine) (q : te σ H fun x H1 => D.nx (ys ++ [x]) σ H1) : tGYield te D ys σ H := ⟨h, q⟩
theorem r_g0 {σ : L2.St} {H : Hp} {D : GEnds} {ys : List V} (q : D.nx ys σ H) : tG0 D ys σ H := q
end KU

/-! KV: data that is small enough to be shown by repr; what of a pen is kept; comprehensions that draw. -/
namespace KV
open PySem PySem.Spec PyProof.Rows L2 KB KG KO
/-- may be shown: at most n signs, at most k deep -/
structure Sm (n k : Nat) (d : PyData) : Prop where
  ok : d.showable = true
  nod : d.hasDict = false
  deep : d.depth ≤ k
  len : d.shown.length ≤ n
theorem Sm.mono {n k n' k' : Nat} {d : PyData} (h : Sm n k d) (a : n ≤ n') (b : k ≤ k') : Sm n' k' d := ⟨h.ok, h.nod, Nat.le_trans h.deep b, Nat.le_trans h.len a⟩
theorem sm_all {n k : Nat} : ∀ xs : List PyData, (∀ x ∈ xs, Sm n k x) → PyData.showableAll xs = true ∧ PyData.hasDictAll xs = false ∧ PyData.depthAll xs ≤ k ∧ ((PyData.shownAll xs).map (·.length)).sum ≤ xs.length * n
  | [], _ => ⟨rfl, rfl, Nat.zero_le _, by simp [PyData.shownAll]⟩
  | x :: xs, h => by
    obtain ⟨a, b, c, d⟩ := sm_all xs fun y m => h y (List.mem_cons_of_mem _ m)
    have z := h x List.mem_cons_self
    refine ⟨by simp only [PyData.showableAll, z.ok, a, Bool.and_self], by simp only [PyData.hasDictAll, z.nod, b, Bool.or_self], ?_, ?_⟩
    · simp only [PyData.depthAll]
      exact Nat.max_le.mpr ⟨z.deep, c⟩
    · simp only [PyData.shownAll, List.map_cons, List.sum_cons, List.length_cons, Nat.succ_mul]
      have := z.len
      omega
theorem Sm.tuple {n k : Nat} {xs : List PyData} (h : ∀ x ∈ xs, Sm n k x) : Sm (xs.length * (n + 2) + 3) (k + 1) (.tuple xs) := by
  obtain ⟨a, b, c, d⟩ := sm_all xs h
  refine ⟨by simpa only [PyData.showable] using a, by simpa only [PyData.hasDict] using b, by simp only [PyData.depth]; omega, ?_⟩
  have l := tupleText_len_le (PyData.shownAll xs)
  rw [PyData.shownAll_length] at l
  simp only [PyData.shown]
  rw [Nat.mul_add]
  omega
theorem Sm.list {n k : Nat} {xs : List PyData} (h : ∀ x ∈ xs, Sm n k x) : Sm (xs.length * (n + 2) + 3) (k + 1) (.list xs) := by
  obtain ⟨a, b, c, d⟩ := sm_all xs h
  refine ⟨by simpa only [PyData.showable] using a, by simpa only [PyData.hasDict] using b, by simp only [PyData.depth]; omega, ?_⟩
  have l := listText_len_le (PyData.shownAll xs)
  rw [PyData.shownAll_length] at l
  simp only [PyData.shown]
  rw [Nat.mul_add]
  omega
theorem Sm.int {i : Int} (h : i.natAbs < 10 ^ 12) : Sm 13 0 (.int i) := by
  refine ⟨?_, rfl, Nat.le_refl _, PyData.shown_int_le h⟩
  simp only [PyData.showable]
  refine decide_eq_true ?_
  by_cases z : i.natAbs = 0
  · rw [z]; decide
  · exact (Nat.log2_lt z).mpr (Nat.lt_of_lt_of_le h (by decide +kernel))
theorem Sm.big {i : Int} (h : i.natAbs.log2 < 1920) : Sm 1921 0 (.int i) := by
  refine ⟨?_, rfl, Nat.le_refl _, KBL.num_len h⟩
  simp only [PyData.showable]
  exact decide_eq_true h
theorem Sm.bool {b : Bool} : Sm 5 0 (.bool b) := by cases b <;> exact ⟨rfl, rfl, Nat.le_refl _, by decide +kernel⟩
theorem Sm.none : Sm 4 0 .none := ⟨rfl, rfl, Nat.le_refl _, by decide +kernel⟩
theorem Sm.str {z : Str} {n : Nat} (h : (reprText z).length ≤ n) : Sm n 0 (.str z) := ⟨rfl, rfl, Nat.le_refl _, h⟩
theorem r_reprS {K : PySem.W.Frag} {H : Hp} {Q : VK} {v : V} {d : PyData} {n k : Nat} (dp : Dp K H v d) (f : Sm n k d) (hk : k ≤ 60) (hn : n ≤ 1000000) (q : Q (.str d.shown) H) : KG.rRepr K [v] H Q :=
  ⟨v, d, rfl, dp, f.ok, f.nod, Nat.le_trans f.deep hk, Nat.le_trans f.len (Nat.le_trans hn (by decide)), q⟩
/-! ### the pen -/
/-- the pen: its cells, the next index, what is left; room for k draws more -/
def PenC (H : Hp) (p c : Addr) (k : Nat) : Prop := ∃ (ns : List Int) (at_ : Nat) (left : Int),
  H p = some (.lst [.ref c, .int at_, .int left]) ∧ H c = some (.lst (ns.map V.int)) ∧ p ≠ c ∧ ns.length ≤ 63 ∧ at_ + k ≤ 100000
def Keep (p : Addr) (H H' : Hp) : Prop := ∀ b o, H b = some o → b ≠ p → H' b = some o
theorem PenC.mono {H : Hp} {p c : Addr} {j k : Nat} (h : PenC H p c k) (e : j ≤ k) : PenC H p c j := by
  obtain ⟨ns, at_, left, h1, h2, h3, h4, h5⟩ := h
  exact ⟨ns, at_, left, h1, h2, h3, h4, by omega⟩
theorem PenC.up {H H' : Hp} {p c : Addr} {k : Nat} (h : PenC H p c k) (s : Same H H') : PenC H' p c k := by
  obtain ⟨ns, at_, left, h1, h2, h3, h4, h5⟩ := h
  exact ⟨ns, at_, left, s _ _ h1, s _ _ h2, h3, h4, h5⟩
theorem PenC.ne {H : Hp} {p c q : Addr} {k : Nat} (h : PenC H p c k) (n : H q = none) : q ≠ p := by
  obtain ⟨ns, at_, left, h1, h2, h3, h4, h5⟩ := h
  exact (ne_of_none h1 n).symm
theorem PenC.nec {H : Hp} {p c q : Addr} {k : Nat} (h : PenC H p c k) (n : H q = none) : q ≠ c := by
  obtain ⟨ns, at_, left, h1, h2, h3, h4, h5⟩ := h
  exact (ne_of_none h2 n).symm
theorem PenC.keep {H H' : Hp} {p c q : Addr} {k : Nat} (h : PenC H p c k) (s : Keep q H H') (n1 : q ≠ p) (n2 : q ≠ c) : PenC H' p c k := by
  obtain ⟨ns, at_, left, h1, h2, h3, h4, h5⟩ := h
  exact ⟨ns, at_, left, s _ _ h1 n1.symm, s _ _ h2 n2.symm, h3, h4, h5⟩
theorem PenC.lst {H : Hp} {p c : Addr} {k : Nat} (h : PenC H p c k) : ∃ xs, H p = some (.lst xs) := by
  obtain ⟨ns, at_, left, h1, _⟩ := h
  exact ⟨_, h1⟩
theorem PenC.not {H : Hp} {p c b : Addr} {k : Nat} {o : HO} (h : PenC H p c k) (e : H b = some o) (n : ∀ xs, o ≠ .lst xs) : b ≠ p := by
  obtain ⟨xs, h1⟩ := h.lst
  intro z
  rw [z, h1] at e
  exact n xs (Option.some.inj e).symm
def spPen (K : PySem.W.Frag) : Sp := fun vs H Q _ => ∃ (a : Addr) (ns : List Int), vs = [.ref a] ∧ SqL K H a (ns.map V.int) ∧ ns.length ≤ 63 ∧
  ∀ H' p c, Same H H' → H p = none → H c = none → PenC H' p c 100000 → Q (.ref p) H'
def spDraw : Sp := fun vs H Q _ => ∃ (p c : Addr) (many : Int) (k : Nat), vs = [.ref p, .int many] ∧ 0 < many ∧ many < 1000000000 ∧ PenC H p c (k + 1) ∧
  ∀ (r : Int) H', 0 ≤ r → r < many → PenC H' p c k → Keep p H H' → Q (.int r) H'
theorem Keep.tr {p : Addr} {H1 H2 H3 : Hp} (a : Keep p H1 H2) (b : Keep p H2 H3) : Keep p H1 H3 := fun x o e n => b x o (a x o e n) n
theorem Keep.same {p : Addr} {H1 H2 : Hp} (a : Same H1 H2) : Keep p H1 H2 := fun x o e n => a x o e
theorem Keep.refl {p : Addr} {H : Hp} : Keep p H H := fun _ _ e _ => e
open KD
/-- a draw keeps all but lists -/
theorem Keep.sn {p c : Addr} {k : Nat} {H H' : Hp} (s : Keep p H H') (pn : PenC H p c k) : SameN H H' := fun a o e n => s a o e (pn.not e n)
theorem SameN.refl {H : Hp} : SameN H H := fun _ _ e _ => e
theorem SameN.lset {H : Hp} {D : Addr} {xs ys : List V} (h : H D = some (.lst xs)) : SameN H (upd H D (.lst ys)) := fun a o e n => by
  rw [upd_ne (fun z => n xs (by rw [z, h] at e; exact (Option.some.inj e).symm))]
  exact e
theorem SameN.seqT {K : PySem.W.Frag} {H H' : Hp} {a : Addr} {xs : List V} (s : SameN H H') (h : SqT K H a xs) : SqT K H' a xs := by
  rcases h with (h | ⟨o, h⟩) | h
  · exact .inl (.inl (s.tup h))
  · exact .inl (.inr ⟨o, s a _ h fun _ z => by cases z⟩)
  · exact .inr h
theorem Keep.mut {p D : Addr} {H1 H : Hp} {o : HO} (s : Keep p H1 H) (hD : H1 D = none) : Keep p H1 (upd H D o) := fun b o e n => by
  rw [upd_ne (ne_of_none e hD)]
  exact s b o e n
theorem PenC.mut {H : Hp} {p c D : Addr} {k : Nat} {o : HO} (h : PenC H p c k) (n1 : D ≠ p) (n2 : D ≠ c) : PenC (upd H D o) p c k := by
  obtain ⟨ns, at_, left, h1, h2, h3, h4, h5⟩ := h
  exact ⟨ns, at_, left, by rw [upd_ne n1.symm]; exact h1, by rw [upd_ne n2.symm]; exact h2, h3, h4, h5⟩
/-- a comprehension that draws: Kr i: the draws that are left ahead of the i-th element -/
theorem lc_pen {J : It} {n : Nat} {G : Hp → Prop} {Y : Nat → Hp → V → Hp → Prop} (wk : Walk J n G Y) {g : TG} {tt : TT} {te : TE} {vs : List Nat} {σ : L2.St} {H1 : Hp} {Q : VK} {pen c : Addr} (R : Nat → V → Hp → Prop) (Kr : Nat → Nat) (hn : n ≤ 10000) (pn : PenC H1 pen c (Kr 0))
    (up : ∀ i v H H', R i v H → SameN H H' → R i v H') (hG : ∀ H', Keep pen H1 H' → G H')
    (hs : ∀ i x H H' (N : V → Hp → Prop) (B : Hp → Prop), i < n → Keep pen H1 H → PenC H pen c (Kr i) → Y i H x H' → (∀ v H2, Keep pen H H2 → PenC H2 pen c (Kr (i + 1)) → R i v H2 → N v H2) → g x (wipe σ vs) H' fun σ2 H2 => wipe σ2 vs = wipe σ vs ∧ tt σ2 H2 fun b H3 => if b = true then te σ2 H3 N else B H3)
    (hd : ∀ D H' (ys : List V), H1 D = none → Keep pen H1 H' → PenC H' pen c (Kr n) → H' D = some (.lst ys) → ys.length = n → (∀ i v, ys[i]? = some v → R i v H') → Q (.ref D) H') :
    LcW J g tt te vs σ H1 Q := by
  intro D hD
  have dp := pn.ne hD
  have dc := pn.nec hD
  refine lc_it wk (Qd := fun H => Q (.ref D) H) (fun i H => Keep pen H1 H ∧ PenC H pen c (Kr i) ∧ ∃ ys : List V, H D = some (.lst ys) ∧ ys.length = i ∧ ∀ j v, ys[j]? = some v → R j v H) ⟨Keep.same (same_new hD), pn.up (same_new hD), [], upd_same, rfl, fun j v e => by simp at e⟩ (fun i H _ p => hG H p.1) (fun i x H H' hi p y => ?_) (fun H p => ?_)
  · obtain ⟨sm, pi, ys, hy, hl, hR⟩ := p
    refine hs i x H H' _ _ hi sm pi y (fun v H2 k2 p2 r => ?_)
    have e2 := k2 _ _ hy dp
    refine ⟨ys, e2, small1000' (by omega), (sm.tr k2).mut hD, p2.mut dp dc, ys ++ [v], upd_same, by simp [hl], fun j w e => ?_⟩
    by_cases hj : j < ys.length
    · rw [List.getElem?_append_left hj] at e
      exact up _ _ _ _ (hR j w e) ((k2.sn pi).trans (SameN.lset e2))
    · rw [List.getElem?_append_right (by omega)] at e
      have h0 : j - ys.length = 0 := by
        cases z : j - ys.length with
        | zero => rfl
        | succ m => rw [z] at e; simp at e
      rw [h0] at e
      have ew : v = w := Option.some.inj e
      subst ew
      have ej : j = i := by omega
      subst ej
      exact up _ _ _ _ r (SameN.lset e2)
  · obtain ⟨sm, pi, ys, hy, hl, hR⟩ := p
    exact hd D H ys hD sm pi hy hl hR
theorem walk_zipT {K : PySem.W.Frag} {a b : Addr} {xs ys : List V} {n : Nat} (hn : n = min xs.length ys.length) : Walk (RZ.ItzT K a b) n (fun H => SqT K H a xs ∧ SqT K H b ys) (YPair (fun i => xs[i]?) (fun i => ys[i]?)) := by
  subst hn
  refine ⟨fun i _ hi q => ?_, fun _ q => ⟨xs, ys, q.1, q.2, by omega⟩, fun i H v H' _ q y => ?_⟩
  · have h1 : i < xs.length := by omega
    have h2 : i < ys.length := by omega
    exact ⟨xs, ys, xs[i], ys[i], q.1, q.2, by simp [h1], by simp [h2]⟩
  · obtain ⟨T, x, z, h1, h2, h3, h4, h5⟩ := y
    exact ⟨T, x, z, h1, h2, h3, h4 xs q.1, h5 ys q.2⟩
/-- f(e, ..) where the keyword-only parameters lack: their defaults -/
theorem kbn_def {K : PySem.W.Frag} {x qual : Str} {params : Arguments} {body : List Stmt} {scope : Scope} {kws : List (Str × V)} {f : Addr} {fd : FuncData} {ps : List Str} (F : FunD K x qual params body scope [] kws f fd) (n : Nat) (hk : kws ≠ []) (hn : n + kws.length = ps.length)
    (h : ∀ (D : Addr) (doc pm : Value) (an : Option Addr) (cdv ct : Value) (us ks : List Value), us.length = n → ks.length = kws.length →
      KwChain D ((kws.map (·.1)).zip ks) (bindArgs (PySem.W.fnOf x qual params body scope .none (.ref D) doc pm an cdv ct) ⟨us, []⟩) (ps.zip (us ++ ks))) : ∃ gg : List Value → List Value → List Value, KBn K fd ps n [] gg (fun vs _ => vs ++ kws.map (·.2)) := by
  obtain ⟨ds, rd, bd⟩ := F.binds0 n hk hn h
  have ld : ds.length = kws.length := by have := rd.length; simpa using this.symm
  refine ⟨fun us _ => us ++ ds, fun s us ws X l1 l2 => ?_, fun r1 _ => r1.append rd⟩
  exact bd s us X (by rw [List.length_append]; omega)
theorem r_zipA {K : PySem.W.Frag} {σ : L2.St} {H : Hp} {ta : TA} {R : It → Hp → Prop} (q : ta σ H fun vs H1 => ∃ a b xs ys, vs = [.ref a, .ref b] ∧ ((SqL K H1 a xs ∧ SqL K H1 b ys ∧ R (Itz K a b) H1) ∨ (SqT K H1 a xs ∧ SqT K H1 b ys ∧ R (RZ.ItzT K a b) H1))) : RZ.iZipA K ta σ H R := q
theorem atI_mem {α : Type} {xs : List α} {r : Int} (h0 : 0 ≤ r) (h1 : r < (xs.length : Int)) : ∃ x ∈ xs, atI xs r = some x := by
  obtain ⟨n, rfl⟩ : ∃ n : Nat, r = (n : Int) := ⟨r.toNat, by omega⟩
  have hl : n < xs.length := by omega
  exact ⟨xs[n], List.getElem_mem hl, atI_nat (by simp [hl])⟩
/-- what all elements are, as one list -/
theorem choose_list {α : Type} {f : α → V} {Pr : Nat → α → Prop} : ∀ (ys : List V), (∀ (i : Nat) (v : V), ys[i]? = some v → ∃ a, Pr i a ∧ v = f a) → ∃ as : List α, ys = as.map f ∧ as.length = ys.length ∧ ∀ (i : Nat) (a : α), as[i]? = some a → Pr i a
  | ys, h => by
    induction ys generalizing Pr with
    | nil => exact ⟨[], rfl, rfl, fun i a e => by simp at e⟩
    | cons y ys ih =>
      obtain ⟨a, pa, rfl⟩ := h 0 y rfl
      obtain ⟨as, rfl, l, q⟩ := ih (Pr := fun i a => Pr (i + 1) a) fun i v e => h (i + 1) v e
      refine ⟨a :: as, rfl, by simp, fun i b e => ?_⟩
      cases i with
      | zero => cases e; exact pa
      | succ i => exact q i b e
def sign (c : Nat) : Str := ⟨#[c]⟩
theorem str_ext {a b : Str} (h : a.cps.toList = b.cps.toList) : a = b := by
  cases a; cases b
  congr 1
  exact Array.toList_inj.mp h
theorem append_toList (a b : Str) : (a ++ b).cps.toList = a.cps.toList ++ b.cps.toList := Array.toList_append
theorem join_signs : ∀ cs : List Nat, (Str.join ⟨#[]⟩ (cs.map sign)).cps.toList = cs
  | [] => rfl
  | [c] => rfl
  | c :: d :: r => by
    show (sign c ++ (⟨#[]⟩ : Str) ++ Str.join ⟨#[]⟩ ((d :: r).map sign)).cps.toList = c :: d :: r
    rw [append_toList, append_toList, join_signs (d :: r)]
    rfl
theorem sum_signs (cs : List Nat) : ((cs.map sign).map (·.length)).sum = cs.length := by
  induction cs with
  | nil => rfl
  | cons c r ih =>
    rw [List.map_cons, List.map_cons, List.sum_cons, ih, List.length_cons]
    show 1 + r.length = _
    omega
end KV

/-! KW: o op= v by an own operator without an in-place form; ~o; a property read. -/
namespace KW
open PySem PySem.Spec PyProof.Rows L2 KB KG KO KY KR
section
variable {prog : Program} {w : World} {A : Around} {E : Value → Shared → Prop} {s : Shared} {K : PySem.W.Frag} {x C L g g2 : Addr} {hb : Heap} {m : Str → Option Value} {ox : Obj} {od : Option Obj} {T : String} {nm : String}
open PySem.W in
theorem fillsI_no {M : Model} {h : Heap} {cd : ClassData} {add : Bool} (X : K.In h) (hc : clsIn K C = some cd) (hm : cd.mro = [.ref C, .type "object"]) (h1 : findIn K (.ref C) (dunderI nm) = some none) (h2 : findIn K (.type "object") (dunderI nm) = some none) : Looks M h (fillsInplaceSlot (.ref C) nm add) false := by
  intro A Q E s k q
  have Lm : Looks M h (mroOf (.ref C)) cd.mro := (looks_clsIn X hc).andThen (f := fun cd => pure cd.mro) .now
  have Lm' := Lm.keeps k
  obtain ⟨hh, g, d, tt, os⟩ := s
  have X' : K.In hh := X.keeps k
  have L1 : Looks M hh (typeLookup (.ref C) (dunderI nm)) none := looks_findIn X' h1
  have L2 : Looks M hh (typeLookup (.type "object") (dunderI nm)) none := looks_findIn X' h2
  unfold fillsInplaceSlot
  refine wpAny_bind (Lm'.at ?_)
  rw [hm, List.anyM_cons]
  refine wpAny_bind ?_
  refine wpAny_bind (L1.at ?_)
  refine wpAny_pure ?_
  simp only [Bool.false_eq_true, if_false]
  rw [List.anyM_cons]
  refine wpAny_bind ?_
  refine wpAny_bind (L2.at ?_)
  refine wpAny_pure ?_
  simp only [Bool.false_eq_true, if_false]
  exact wpAny_pure q
open PySem.W in
/-- o op= v -/
theorem in_left {op : Operator} {v : Value} {fo ro rc : Option Value} {Z : Value → Shared → Prop} (F : Fr hb L s.heap m) (X0 : K.In hb) (I : InstAt s.heap x ox C od) (lv : Looks (model prog w) s.heap (typeOf v) (.type T)) (c1 : ∃ cd, clsIn K C = some cd ∧ cd.mro = [.ref C, .type "object"])
    (c2 : findIn K (.ref C) (PySem.dunder op.info.2) = some (some (.ref g))) (c3 : isFn K (.ref g) = true) (c4 : findIn K (.ref C) (dunderR op.info.2) = some rc) (c5 : rc = none ∨ ∃ z : Addr, rc = some (.ref z))
    (c6 : findIn K (.type T) (PySem.dunder op.info.2) = some fo) (c7 : findIn K (.type T) (dunderR op.info.2) = some ro) (c8 : subIn K (.type T) (.ref C) = some false)
    (c9 : findIn K (.ref C) (dunderI op.info.2) = some none) (c10 : findIn K (.type "object") (dunderI op.info.2) = some none)
    (go : wpAny (model prog w) A (call (.ref g) [.ref x, v]) (PySem.W.CmpBack Z) E s) : wpAny (model prog w) A (inplaceOp op (.ref x) v) Z E s := by
  have XK := X0.keeps F.keep
  obtain ⟨cd, hcd, hmro⟩ := c1
  rcases oi : op.info with ⟨sy, n1⟩
  rw [oi] at c2 c4 c6 c7 c9 c10
  dsimp only at c2 c4 c6 c7 c9 c10
  have once := ksp_try XK I c2 c3 go
  obtain ⟨sh, sg, sd, stk, sos⟩ := s
  have k1 : Looks (model prog w) sh (typeOf (.ref x)) (.ref C) := I.type
  have k2 : Looks (model prog w) sh (typeOf v) (.type T) := lv
  have k0 : Looks (model prog w) sh (fillsInplaceSlot (.ref C) n1 (op == .Add)) false := fillsI_no XK hcd hmro c9 c10
  have k3 : Looks (model prog w) sh (fillsNumberSlot (.ref C) n1) true := fills_K XK hcd hmro c2
  have k4 : Looks (model prog w) sh (fillsNumberSlot (.type T) n1) _ := ksp_fillsT XK c6 c7
  have k5 : Looks (model prog w) sh (isSubtype (.type T) (.ref C)) false := looks_subIn XK c8
  have k6 : Looks (model prog w) sh (numberSlotInPython (.ref C) n1) true := ksp_inPy XK c2 c4 c5
  have k7 : Looks (model prog w) sh (numberSlotInPython (.type T) n1) false := Looks.of_pure rfl
  have k8 : Looks (model prog w) sh (typeLookup (.type T) (dunderR n1)) ro := looks_findIn XK c7
  revert k4
  generalize ((fo.isSome && !isSeqSlot fo) || (ro.isSome && !isSeqSlot ro)) = rt
  intro k4
  have nq : (Value.ref C == Value.type T) = false := Bool.eq_false_iff.mpr fun q => by cases beq_iff_eq.mp q
  unfold inplaceOp
  simp only [oi]
  refine wpAny_holding ?_
  refine wpAny_bind (k1.at ?_)
  refine wpAny_bind (k0.at ?_)
  simp only [Bool.false_eq_true, if_false]
  refine wpAny_bind ?_
  unfold binaryOp1
  refine wpAny_bind (k1.at (wpAny_bind (k2.at (wpAny_bind (k3.at ?_)))))
  simp only [nq, Bool.false_eq_true, if_false]
  cases rt
  all_goals
    ksp_lk
    refine wpAny_mono once (fun r s' y => ?_) fun _ _ e => e
    obtain ⟨v', rfl, hq⟩ := y
    ksp_lk
    exact hq
end
section
variable {X : Cx} {pins : List (Addr × Obj)} {σ : L2.St} {H : Hp} {st : Shared}
structure OwnIn (P : Program) (w : World) (K : PySem.W.Frag) (mg : Str → Option Value) (base : Heap) (CX : CXT) (k : Nat) (C : Addr) (op : Operator) (ps : List Str) (sp : Sp) : Prop where
  ex : ∃ (g : Addr) (fd : FuncData) (rc fo ro : Option Value), (∃ cd, PySem.W.clsIn K C = some cd ∧ cd.mro = [.ref C, .type "object"]) ∧ PySem.W.findIn K (.ref C) (PySem.dunder op.info.2) = some (some (.ref g)) ∧ PySem.W.isFn K (.ref g) = true ∧ PySem.W.findIn K (.ref C) (dunderR op.info.2) = some rc ∧ (rc = none ∨ ∃ g : Addr, rc = some (.ref g)) ∧
    PySem.W.findIn K (.type "int") (PySem.dunder op.info.2) = some fo ∧ PySem.W.findIn K (.type "int") (dunderR op.info.2) = some ro ∧ PySem.W.subIn K (.type "int") (.ref C) = some false ∧ PySem.W.findIn K (.ref C) (dunderI op.info.2) = some none ∧ PySem.W.findIn K (.type "object") (dunderI op.info.2) = some none ∧
    FnOk P w K mg base CX k g fd ps sp ∧ Binds K fd ps []
/-- x op= v, v an int -/
def tipO (C : Addr) (sp : Sp) (E : XK) : TIp := fun x y H Q => ∃ (a dx : Addr) (fs : List (Str × V)) (i : Int), x = .ref a ∧ H a = some (.ins C dx fs) ∧ y = .int i ∧ sp [x, y] H Q E
theorem ip_own {CX : CXT} {E : XK} {C : Addr} {op : Operator} {ps : List Str} {sp : Sp} {n : Nat} (c : OwnIn X.prog X.w X.K X.mg X.base CX n C op ps sp) (room : Room n X.A) (pass : Passes CX X E) : PIp X op (tipO C sp E) := by
  obtain ⟨g, fd, rc, fo, ro, c1, c2, c3, c4, c5, c6, c7, c8, c9, c10, F, bind⟩ := c.ex
  intro pins st σ h x y v u Z inv rx ry pre
  obtain ⟨a, dx, fs, i, rfl, ha, rfl, z⟩ := pre
  obtain rfl : v = Value.ref a := rx
  obtain ⟨tk, rfl⟩ := (show ∃ t, u = Value.int i t from ry)
  obtain ⟨od, J⟩ := inst_of inv ha
  obtain ⟨m, hF⟩ := inv.fr
  refine in_left (T := "int") hF inv.ok.mod.kin J (PySem.W.Looks.of_pure rfl) c1 c2 c3 c4 c5 c6 c7 c8 c9 c10 ?_
  refine wpAny_mono (run_fn (us := [.ref a, .int i tk]) (vs := [.ref a, .int i]) F room bind .nil pass inv (.cons rfl (.cons ⟨tk, rfl⟩ .nil)) z) (fun w s2 r => ?_) fun _ _ z => z
  obtain ⟨z', h2, inv2, rz, qz⟩ := r
  exact SlX.cmpback rz ⟨z', h2, inv2, rz, qz⟩
structure OwnU (P : Program) (w : World) (K : PySem.W.Frag) (mg : Str → Option Value) (base : Heap) (CX : CXT) (k : Nat) (C : Addr) (ps : List Str) (sp : Sp) : Prop where
  ex : ∃ (g : Addr) (fd : FuncData), PySem.W.findIn K (.ref C) "__invert__" = some (some (.ref g)) ∧ PySem.W.isFn K (.ref g) = true ∧ FnOk P w K mg base CX k g fd ps sp ∧ Binds K fd ps []
def rUnO (C : Addr) (sp : Sp) (E : XK) : V → Hp → VK → Prop := fun x H Q => ∃ (a dx : Addr) (fs : List (Str × V)), x = .ref a ∧ H a = some (.ins C dx fs) ∧ sp [x] H Q E
theorem un_invO {CX : CXT} {E : XK} {C : Addr} {ps : List Str} {sp : Sp} {n : Nat} (c : OwnU X.prog X.w X.K X.mg X.base CX n C ps sp) (room : Room n X.A) (pass : Passes CX X E) : UnR X (unaryOp .Invert) (rUnO C sp E) := by
  obtain ⟨g, fd, c1, c2, F, bind⟩ := c.ex
  intro pins st σ h x v Z inv rx pre
  obtain ⟨a, dx, fs, rfl, ha, z⟩ := pre
  obtain rfl : v = Value.ref a := rx
  obtain ⟨od, J⟩ := inst_of inv ha
  obtain ⟨m, hF⟩ := inv.fr
  refine PySem.W.ksp_inv hF inv.ok.mod.kin J c1 c2 ?_
  exact run_fn (us := [.ref a]) (vs := [.ref a]) F room bind .nil pass inv (.cons rfl .nil) z
structure OwnP (P : Program) (w : World) (K : PySem.W.Frag) (mg : Str → Option Value) (base : Heap) (k : Nat) (C : Addr) (f : Str) (ps : List Str) (sp : Sp) : Prop where
  ex : ∃ (p g : Addr) (fd : FuncData), PropOf K C f p g ∧ FnOk P w K mg base CX0 k g fd ps sp ∧ Binds K fd ps []
  cl : Cls K C
theorem pe_propO {C : Addr} {f : Str} {ps : List Str} {sp : Sp} {n : Nat} {e : Expr} {pos : Pos} {ta : TE} (c : OwnP X.prog X.w X.K X.mg X.base n C f ps sp) (he : PE X e ta) (room : Room (n + 1) X.A)
    (hab : attributeBase e f X.env (eval e X.env) = eval e X.env := by rfl) : PE X (.Attribute e f pos) (tProp C sp [] E0 ta) := by
  obtain ⟨p, g, fd, hp, F, hb⟩ := c.ex
  exact pe_prop he c.cl hp F room hb .nil pass0 hab
theorem r_prop {σ : L2.St} {H : Hp} {Q : VK} {C : Addr} {sp : Sp} {E : XK} {ta : TE} (q : ta σ H fun x H1 => ∃ a dx fs, x = .ref a ∧ H1 a = some (.ins C dx fs) ∧ sp [.ref a] H1 Q E) : tProp C sp [] E ta σ H Q := q
end
/-! ### lists of pairs of ints -/
def PairsAt (H : Hp) (ys : List V) (ps : List (Int × Int)) : Prop := ys.length = ps.length ∧ ∀ (i : Nat) (v : V) (p : Int × Int), ys[i]? = some v → ps[i]? = some p → ∃ a, v = .ref a ∧ H a = some (.tup [.int p.1, .int p.2])
theorem PairsAt.sn {H H' : Hp} {ys : List V} {ps : List (Int × Int)} (h : PairsAt H ys ps) (s : KD.SameN H H') : PairsAt H' ys ps := ⟨h.1, fun i v p h1 h2 => by
  obtain ⟨a, e1, e2⟩ := h.2 i v p h1 h2
  exact ⟨a, e1, s.tup e2⟩⟩
theorem PairsAt.up {H H' : Hp} {ys : List V} {ps : List (Int × Int)} (h : PairsAt H ys ps) (s : Same H H') : PairsAt H' ys ps := h.sn (KD.SameN.of s)
theorem PairsAt.nil {H : Hp} : PairsAt H [] [] := ⟨rfl, fun i v p h1 _ => by simp at h1⟩
theorem PairsAt.append {H : Hp} {ys zs : List V} {ps qs : List (Int × Int)} (h : PairsAt H ys ps) (g : PairsAt H zs qs) : PairsAt H (ys ++ zs) (ps ++ qs) := by
  refine ⟨by simp [h.1, g.1], fun i v p h1 h2 => ?_⟩
  by_cases lt : i < ys.length
  · rw [List.getElem?_append_left lt] at h1
    rw [List.getElem?_append_left (by rw [← h.1]; exact lt)] at h2
    exact h.2 i v p h1 h2
  · rw [List.getElem?_append_right (by omega)] at h1
    rw [List.getElem?_append_right (by rw [← h.1]; omega), ← h.1] at h2
    exact g.2 _ v p h1 h2
theorem PairsAt.one {H : Hp} {a : Addr} {p : Int × Int} (e : H a = some (.tup [.int p.1, .int p.2])) : PairsAt H [.ref a] [p] := by
  refine ⟨rfl, fun i v q h1 h2 => ?_⟩
  cases i with
  | zero => cases h1; cases h2; exact ⟨a, rfl, e⟩
  | succ i => simp at h1
theorem PairsAt.snoc {H : Hp} {ys : List V} {ps : List (Int × Int)} {a : Addr} {p : Int × Int} (h : PairsAt H ys ps) (e : H a = some (.tup [.int p.1, .int p.2])) : PairsAt H (ys ++ [.ref a]) (ps ++ [p]) := h.append (.one e)
theorem PairsAt.tail {H : Hp} {y : V} {p : Int × Int} {ys : List V} {ps : List (Int × Int)} (h : PairsAt H (y :: ys) (p :: ps)) : PairsAt H ys ps := ⟨by simpa using h.1, fun i v q h1 h2 => h.2 (i + 1) v q h1 h2⟩
def dPair (p : Int × Int) : PyData := .tuple [.int p.1, .int p.2]
def dPairs (ps : List (Int × Int)) : PyData := .list (ps.map dPair)
theorem PairsAt.dp {K : PySem.W.Frag} {H : Hp} : ∀ {ys : List V} {ps : List (Int × Int)}, PairsAt H ys ps → DpAll K H ys (ps.map dPair)
  | [], [], _ => .nil
  | [], _ :: _, h => by have := h.1; simp at this
  | _ :: _, [], h => by have := h.1; simp at this
  | y :: ys, p :: ps, h => by
    obtain ⟨a, rfl, e⟩ := h.2 0 y p rfl rfl
    exact .cons (.tup (SqT.of e) (.cons (.int _) (.cons (.int _) .nil))) (PairsAt.dp h.tail)
theorem sm_pair {p : Int × Int} (h1 : p.1.natAbs < 10 ^ 12) (h2 : p.2.natAbs < 10 ^ 12) : KV.Sm 33 1 (dPair p) := by
  refine (KV.Sm.tuple (n := 13) (k := 0) (xs := [.int p.1, .int p.2]) fun y my => ?_).mono (by simp) (Nat.le_refl _)
  rcases List.mem_cons.mp my with rfl | my
  · exact KV.Sm.int h1
  · rw [List.mem_singleton.mp my]
    exact KV.Sm.int h2
theorem sm_pairs {ps : List (Int × Int)} (h : ∀ p ∈ ps, p.1.natAbs < 10 ^ 12 ∧ p.2.natAbs < 10 ^ 12) (l : ps.length ≤ 2000) : KV.Sm 70003 2 (dPairs ps) := by
  refine (KV.Sm.list (n := 33) (k := 1) (xs := ps.map dPair) fun x m => ?_).mono (by rw [List.length_map]; omega) (Nat.le_refl _)
  obtain ⟨p, hp, rfl⟩ := List.mem_map.mp m
  exact sm_pair (h p hp).1 (h p hp).2
/-- the pair that a value is -/
noncomputable def pairV (H : Hp) (v : V) : Int × Int := match v with
  | .ref a => match H a with
    | some (.tup [.int i, .int j]) => (i, j)
    | _ => (0, 0)
  | _ => (0, 0)
theorem pairV_at {H : Hp} {a : Addr} {p : Int × Int} (e : H a = some (.tup [.int p.1, .int p.2])) : pairV H (.ref a) = p := by
  simp only [pairV, e]
theorem PairsAt.map {H : Hp} : ∀ {ys : List V} {ps : List (Int × Int)}, PairsAt H ys ps → ys.map (pairV H) = ps ∧ ∀ y ∈ ys, ∃ t, y = .ref t ∧ H t = some (.tup [.int (pairV H y).1, .int (pairV H y).2])
  | [], [], _ => ⟨rfl, fun y m => (List.not_mem_nil m).elim⟩
  | [], _ :: _, h => by have := h.1; simp at this
  | _ :: _, [], h => by have := h.1; simp at this
  | y :: ys, p :: ps, h => by
    obtain ⟨a, rfl, e⟩ := h.2 0 y p rfl rfl
    obtain ⟨m1, m2⟩ := PairsAt.map h.tail
    have e2 := pairV_at e
    refine ⟨by rw [List.map_cons, e2, m1], fun z m => ?_⟩
    rcases List.mem_cons.mp m with rfl | m
    · exact ⟨a, rfl, by rw [e2]; exact e⟩
    · exact m2 z m
/-- sorted(xs) of pairs that ascend already -/
theorem r_sortedUp {K : PySem.W.Frag} {H : Hp} {Q : VK} {a : Addr} {xs : List V} {ps : List (Int × Int)} (sq : SqL K H a xs) (pa : PairsAt H xs ps) (asc : ps.Pairwise fun p q => p.1 < q.1) (q : ∀ p, H p = none → Q (.ref p) (upd H p (.lst xs))) : rSortedPO K [.ref a] H Q := by
  obtain ⟨m1, m2⟩ := pa.map
  refine ⟨a, xs, pairV H, rfl, sq, m2, fun ys p so st np => ?_⟩
  have asc2 : xs.Pairwise fun x y => (pairV H x).1 < (pairV H y).1 := by
    rw [← m1] at asc
    exact (List.pairwise_map (R := fun p q : Int × Int => p.1 < q.1)).mp asc
  have inj : ∀ x ∈ xs, ∀ y ∈ xs, (pairV H x).1 = (pairV H y).1 → x = y := by
    have key : ∀ l : List V, (l.Pairwise fun x y => (pairV H x).1 < (pairV H y).1) → ∀ x ∈ l, ∀ y ∈ l, (pairV H x).1 = (pairV H y).1 → x = y := by
      intro l
      induction l with
      | nil => intro _ x hx; exact (List.not_mem_nil hx).elim
      | cons z l ih =>
        intro pw x hx y hy e
        obtain ⟨p1, p2⟩ := List.pairwise_cons.mp pw
        rcases List.mem_cons.mp hx with rfl | hx2 <;> rcases List.mem_cons.mp hy with rfl | hy2
        · rfl
        · have := p1 y hy2; omega
        · have := p1 x hx2; omega
        · exact ih p2 x hx2 y hy2 e
    exact key xs asc2
  have le_no : ∀ {x y : V}, ltP (pairV H) y x = false → (pairV H x).1 ≤ (pairV H y).1 := fun {x y} h => by
    have z := SrtO.lexB_no.mp h
    omega
  have e : ys = xs := by
    refine List.Perm.eq_of_pairwise (le := fun x y => (pairV H x).1 ≤ (pairV H y).1) (fun x y hx hy h1 h2 => ?_) ?_ ?_ st.perm
    · exact inj x (st.perm.mem_iff.mp hx) y hy (by omega)
    · exact List.Pairwise.imp (fun {x y} h => le_no h) so
    · exact asc2.imp fun h => by omega
  rw [e]
  exact q p np
end KW

/-! KM: what blends do, operation by operation; the normal form read off the columns. -/
namespace KBL
open PySem
theorem ap_made (w : Nat) (s : Int) (m f v : Nat) : f ^^^ (keepN w s m &&& shN w v (shiftN w s m)) = ap w s m f v := ap_norm w s m f v
theorem src_lt {w : Nat} {s : Int} {k p : Nat} (h : w ≤ p) : src w s k p = false := by
  unfold src
  rw [decide_eq_false (by omega)]
  rfl
theorem keepN_idem (w : Nat) (s : Int) (m n : Nat) : keepN w (shiftN w s m) (keepN w s m &&& n) = keepN w s m &&& n := by
  by_cases h : keepN w s m = 0
  · rw [h, Nat.zero_and]
    unfold keepN
    rw [Nat.and_zero]
  · unfold shiftN
    rw [if_neg h]
    refine Nat.eq_of_testBit_eq fun p => ?_
    rw [bit_keep, Nat.testBit_and, bit_keep]
    unfold src
    rw [Nat.testBit_and, bit_keep]
    unfold src
    cases decide (p < w) <;> cases decide (s ≤ (p : Int)) <;> cases decide ((p : Int) - s < w) <;> cases m.testBit p <;> rfl
theorem and_keep (w : Nat) (s : Int) (m : Nat) : keepN w s m &&& onesN w = keepN w s m := by
  refine Nat.eq_of_testBit_eq fun p => ?_
  rw [Nat.testBit_and, show onesN w = 2 ^ w - 1 from rfl, Nat.testBit_two_pow_sub_one]
  by_cases h : p < w
  · rw [decide_eq_true h, Bool.and_true]
  · rw [bit_keep, src_lt (by omega)]
    rfl
theorem keepN_idem0 (w : Nat) (s : Int) (m : Nat) : keepN w (shiftN w s m) (keepN w s m) = keepN w s m := by
  have h := keepN_idem w s m (onesN w)
  rw [and_keep] at h
  exact h
theorem ap_form {w : Nat} {s : Int} {m k' f' v : Nat} (h : keepN w (shiftN w s m) k' = k') : ap w (shiftN w s m) k' f' v = f' ^^^ (k' &&& shN w v (shiftN w s m)) := by
  unfold ap
  rw [h]
theorem bits_ext {a b : Nat} (h : ∀ p, a.testBit p = b.testBit p) : a = b := Nat.eq_of_testBit_eq h
theorem ap_and (w : Nat) (s : Int) (m f n v : Nat) : ap w (shiftN w s m) (keepN w s m &&& n) (f &&& n) v = ap w s m f v &&& n := by
  rw [ap_form (keepN_idem w s m n), ← ap_made]
  refine bits_ext fun p => ?_
  simp only [Nat.testBit_xor, Nat.testBit_and]
  cases f.testBit p <;> cases n.testBit p <;> cases (keepN w s m).testBit p <;> cases (shN w v (shiftN w s m)).testBit p <;> rfl
theorem ap_or {w : Nat} {s : Int} {m f n v : Nat} : ap w (shiftN w s m) (keepN w s m &&& (onesN w ^^^ n)) (f ||| n) v = ap w s m f v ||| n := by
  rw [ap_form (keepN_idem w s m _), ← ap_made]
  refine bits_ext fun p => ?_
  simp only [Nat.testBit_xor, Nat.testBit_and, Nat.testBit_or]
  rw [show onesN w = 2 ^ w - 1 from rfl, Nat.testBit_two_pow_sub_one]
  by_cases h : p < w
  · rw [decide_eq_true h]
    cases f.testBit p <;> cases n.testBit p <;> cases (keepN w s m).testBit p <;> cases (shN w v (shiftN w s m)).testBit p <;> rfl
  · rw [bit_keep, src_lt (by omega)]
    simp
theorem ap_xor (w : Nat) (s : Int) (m f n v : Nat) : ap w (shiftN w s m) (keepN w s m) (f ^^^ n) v = ap w s m f v ^^^ n := by
  rw [ap_form (keepN_idem0 w s m), ← ap_made]
  refine bits_ext fun p => ?_
  simp only [Nat.testBit_xor, Nat.testBit_and]
  cases f.testBit p <;> cases n.testBit p <;> cases (keepN w s m).testBit p <;> cases (shN w v (shiftN w s m)).testBit p <;> rfl
theorem ap_begin {w : Nat} {s : Int} {m f v : Nat} (hv : v < 2 ^ w) : ap w s m f v = (shN w v s &&& m) ^^^ f := by
  refine bits_ext fun p => ?_
  rw [bit_ap hv, Nat.testBit_xor, Nat.testBit_and, bit_sh hv, Bool.xor_comm]
  congr 1
  unfold src
  by_cases h1 : p < w
  · by_cases h2 : s ≤ (p : Int)
    · rw [decide_eq_true h1, decide_eq_true h2]
      by_cases h3 : v.testBit ((p : Int) - s).toNat = true
      · have := bits_below hv h3
        rw [h3, decide_eq_true (show (p : Int) - s < w by omega)]
        cases m.testBit p <;> rfl
      · rw [Bool.eq_false_iff.mpr h3]
        cases m.testBit p <;> simp
    · rw [decide_eq_false h2]
      simp
  · rw [decide_eq_false h1]
    simp
/-- the shift behind a move -/
def movT (w : Nat) (s s' : Int) (k : Nat) : Int := if shN w k s' = 0 then 0 else s + s'
theorem ap_move {w : Nat} {s s' : Int} {m f v : Nat} (hf : f < 2 ^ w) (hv : v < 2 ^ w) : ap w (movT w (shiftN w s m) s' (keepN w s m)) (shN w (keepN w s m) s') (shN w f s') v = shN w (ap w s m f v) s' := by
  have hk := keep_lt w s m
  refine bits_ext fun p => ?_
  rw [bit_ap hv, bit_sh hf, bit_sh (ap_lt hf hv), bit_ap hv]
  by_cases h1 : p < w
  rotate_left
  · rw [src_lt (by omega), decide_eq_false h1]
    rfl
  by_cases h2 : s' ≤ (p : Int)
  rotate_left
  · rw [decide_eq_false h2]
    unfold src
    rw [bit_sh hk, decide_eq_false h2]
    simp
  rw [decide_eq_true h1, decide_eq_true h2, Bool.true_and, Bool.true_and]
  congr 1
  by_cases hz : src w s m ((p : Int) - s').toNat = true
  · have hb : (shN w (keepN w s m) s').testBit p = true := by
      rw [bit_sh hk, decide_eq_true h1, decide_eq_true h2, bit_keep, hz]
      rfl
    have n1 : shN w (keepN w s m) s' ≠ 0 := fun e => by rw [e, Nat.zero_testBit] at hb; cases hb
    have n2 : keepN w s m ≠ 0 := fun e => by
      have := bit_keep w s m ((p : Int) - s').toNat
      rw [hz, e, Nat.zero_testBit] at this
      cases this
    obtain ⟨g1, g2, g3⟩ := src_of hz
    unfold movT shiftN
    rw [if_neg n1, if_neg n2, hz, Bool.true_and]
    have e0 : ((p : Int) - (s + s')).toNat = ((((p : Int) - s').toNat : Int) - s).toNat := by omega
    rw [e0]
    unfold src
    rw [hb, decide_eq_true h1, decide_eq_true (show s + s' ≤ (p : Int) by omega), decide_eq_true (show (p : Int) - (s + s') < w by omega)]
    rfl
  · rw [Bool.eq_false_iff.mpr hz, Bool.false_and]
    have hb : (shN w (keepN w s m) s').testBit p = false := by
      rw [bit_sh hk, decide_eq_true h1, decide_eq_true h2, bit_keep, Bool.eq_false_iff.mpr hz]
      rfl
    unfold src
    rw [hb]
    simp
/-! ### the normal form, column by column -/
theorem column {w : Nat} {s : Int} {m f j : Nat} (hj : j < w) (p : Nat) : (ap w s m f (2 ^ j) ^^^ f).testBit p = (src w s m p && decide ((p : Int) - s = j)) := by
  rw [Nat.testBit_xor, bit_two hj]
  cases f.testBit p <;> cases (src w s m p && decide ((p : Int) - s = j)) <;> rfl
theorem range_next (P : Nat → Bool) (t : Nat) : ∀ n : Nat, (List.range n).filter (fun p => P p && decide (p < t + 1)) = (List.range n).filter (fun p => P p && decide (p < t)) ++ (if t < n ∧ P t = true then [t] else [])
  | 0 => by simp
  | n + 1 => by
    rw [List.range_succ, List.filter_append, List.filter_append, range_next P t n]
    by_cases h1 : t < n
    · have e1 : List.filter (fun p => P p && decide (p < t + 1)) [n] = [] := by
        rw [List.filter_cons, if_neg (by simp; omega)]; rfl
      have e2 : List.filter (fun p => P p && decide (p < t)) [n] = [] := by
        rw [List.filter_cons, if_neg (by simp; omega)]; rfl
      rw [e1, e2, List.append_nil, List.append_nil]
      by_cases h2 : P t = true
      · rw [if_pos ⟨h1, h2⟩, if_pos ⟨by omega, h2⟩]
      · rw [if_neg (fun z => h2 z.2), if_neg (fun z => h2 z.2)]
    · rw [if_neg (fun z => h1 z.1), List.append_nil]
      have e2 : List.filter (fun p => P p && decide (p < t)) [n] = if n < t ∧ P n = true then [n] else [] := by
        rw [List.filter_cons]
        by_cases z : n < t ∧ P n = true
        · rw [if_pos (by simp [z.1, z.2]), if_pos z]; rfl
        · rw [if_neg (by simp; intro a; have : ¬ n < t := fun b => z ⟨b, a⟩; omega), if_neg z]; rfl
      rw [e2]
      by_cases h3 : t = n
      · subst h3
        rw [if_neg (fun z => by omega), List.append_nil]
        congr 1
        rw [List.filter_cons]
        by_cases h4 : P t = true
        · rw [if_pos (by simp [h4]), if_pos ⟨by omega, h4⟩]; rfl
        · rw [if_neg (by simp [h4]), if_neg (fun z => h4 z.2)]; rfl
      · rw [if_neg (show ¬ (t < n + 1 ∧ P t = true) from fun z => by omega), List.append_nil]
        congr 1
        rw [List.filter_cons]
        by_cases h4 : n < t ∧ P n = true
        · rw [if_pos h4, if_pos (by simp [h4.2]; omega)]; rfl
        · rw [if_neg h4, if_neg (by simp; intro a; have : ¬ n < t := fun b => h4 ⟨b, a⟩; omega)]; rfl
/-- the sources, places ascending -/
def srcs (w : Nat) (s : Int) (m : Nat) : List (Int × Int) := ((List.range w).filter (src w s m)).map fun (p : Nat) => ((p : Int), (p : Int) - s)
def srcsTo (w : Nat) (s : Int) (m i : Nat) : List (Int × Int) := ((List.range w).filter fun p => src w s m p && decide ((p : Int) - s < i)).map fun (p : Nat) => ((p : Int), (p : Int) - s)
theorem srcsTo_zero (w : Nat) (s : Int) (m : Nat) : srcsTo w s m 0 = [] := by
  unfold srcsTo
  rw [List.map_eq_nil_iff, List.filter_eq_nil_iff]
  intro p _ h
  simp only [Bool.and_eq_true, decide_eq_true_eq] at h
  have := (src_of h.1)
  omega
theorem srcsTo_all (w : Nat) (s : Int) (m : Nat) : srcsTo w s m w = srcs w s m := by
  unfold srcsTo srcs
  congr 1
  refine List.filter_congr fun p _ => ?_
  by_cases h : src w s m p = true
  · have := src_of h
    rw [h, decide_eq_true (by omega)]
    rfl
  · rw [Bool.eq_false_iff.mpr h]
    rfl
theorem srcsTo_next {w : Nat} {s : Int} {m i p : Nat} (hp : (p : Int) - s = i) (h : src w s m p = true) : srcsTo w s m (i + 1) = srcsTo w s m i ++ [((p : Int), (i : Int))] := by
  have g := src_of h
  have e1 : srcsTo w s m (i + 1) = ((List.range w).filter fun q => src w s m q && decide (q < p + 1)).map fun (q : Nat) => ((q : Int), (q : Int) - s) := by
    unfold srcsTo
    congr 1
    refine List.filter_congr fun q _ => ?_
    congr 1
    exact decide_eq_decide.mpr (by omega)
  have e2 : srcsTo w s m i = ((List.range w).filter fun q => src w s m q && decide (q < p)).map fun (q : Nat) => ((q : Int), (q : Int) - s) := by
    unfold srcsTo
    congr 1
    refine List.filter_congr fun q _ => ?_
    congr 1
    exact decide_eq_decide.mpr (by omega)
  rw [e1, e2, range_next, if_pos ⟨g.1, h⟩, List.map_append, List.map_cons, List.map_nil, hp]
theorem srcsTo_same {w : Nat} {s : Int} {m i : Nat} (h : ∀ p, src w s m p = true → (p : Int) - s ≠ i) : srcsTo w s m (i + 1) = srcsTo w s m i := by
  unfold srcsTo
  congr 1
  refine List.filter_congr fun q _ => ?_
  by_cases z : src w s m q = true
  · have := h q z
    congr 1
    exact decide_eq_decide.mpr (by omega)
  · rw [Bool.eq_false_iff.mpr z]
    rfl
theorem srcs_asc (w : Nat) (s : Int) (m : Nat) : (srcs w s m).Pairwise fun p q => p.1 < q.1 := by
  unfold srcs
  rw [List.pairwise_map]
  refine List.Pairwise.filter _ ?_
  exact (List.pairwise_lt_range).imp fun h => by simpa using h
theorem srcs_len (w : Nat) (s : Int) (m : Nat) : (srcs w s m).length ≤ w := by
  unfold srcs
  rw [List.length_map]
  exact Nat.le_trans (List.length_filter_le _ _) (by simp)
theorem srcs_small {w : Nat} {s : Int} {m : Nat} (hw : w ≤ 32) : ∀ p ∈ srcs w s m, 0 ≤ p.1 ∧ p.1 < w ∧ 0 ≤ p.2 ∧ p.2 < w := by
  intro p hp
  obtain ⟨q, hq, rfl⟩ := List.mem_map.mp hp
  have := src_of (List.mem_filter.mp hq).2
  exact ⟨by omega, by omega, by omega, by omega⟩
/-- what the object yields: by its own keep and shift -/
def srcsK (w : Nat) (s : Int) (k : Nat) : List (Int × Int) := ((List.range w).filter (k.testBit ·)).map fun (p : Nat) => ((p : Int), (p : Int) - s)
theorem srcsK_made (w : Nat) (s : Int) (m : Nat) : srcsK w (shiftN w s m) (keepN w s m) = srcs w s m := by
  unfold srcsK srcs
  by_cases h : keepN w s m = 0
  · have e1 : (List.range w).filter ((keepN w s m).testBit ·) = [] := by
      rw [List.filter_eq_nil_iff]
      intro p _ z
      rw [h, Nat.zero_testBit] at z
      cases z
    have e2 : (List.range w).filter (src w s m) = [] := by
      rw [List.filter_eq_nil_iff]
      intro p _ z
      rw [← bit_keep, h, Nat.zero_testBit] at z
      cases z
    rw [e1, e2]
    rfl
  · unfold shiftN
    rw [if_neg h]
    congr 1
    exact List.filter_congr fun p _ => bit_keep w s m p
end KBL

/-! KN: methods of own classes that say super().m(..) at their own level (in a statement of the body, in an if, in a return). -/
namespace KN
open PySem PySem.Spec PyProof.Rows L2 KB KG KO
/-! ### binding by position -/
theorem lookup_nd {y : Str} {u : Value} : ∀ {l : List (Str × Value)}, (l.map (·.1)).Nodup → (y, u) ∈ l → l.lookup y = some u
  | [], _, m => by cases m
  | (k, v) :: l, nd, m => by
    obtain ⟨h1, h2⟩ := List.nodup_cons.mp nd
    rcases List.mem_cons.mp m with e | m
    · cases e
      simp [List.lookup]
    · have hk : (y == k) = false := by
        refine Bool.eq_false_iff.mpr fun z => h1 ?_
        rw [← beq_iff_eq.mp z]
        exact List.mem_map.mpr ⟨_, m, rfl⟩
      rw [List.lookup, hk]
      exact lookup_nd h2 m
theorem zip_fst : ∀ {ps : List Str} {us : List Value}, ps.length = us.length → (ps.zip us).map (·.1) = ps
  | [], [], _ => rfl
  | [], _ :: _, h => by simp at h
  | _ :: _, [], h => by simp at h
  | p :: ps, u :: us, h => by
    rw [List.zip_cons_cons, List.map_cons, zip_fst (by simpa using h)]
theorem zip_get {ps : List Str} {us : List Value} {i : Nat} {y : Str} {u : Value} (h1 : ps[i]? = some y) (h2 : us[i]? = some u) : (y, u) ∈ ps.zip us := by
  refine List.mem_of_getElem? (i := i) ?_
  rw [List.getElem?_zip_eq_some]
  exact ⟨h1, h2⟩
/-- a scope of such a def -/
structure SScope (N ps : List Str) (sc : Scope) : Prop where
  kind : sc.kind = .function
  co : sc.isCoroutine = false
  gen : sc.isGenerator = false
  nd : N.Nodup
  pre : N.take ps.length = ps
  par : ∀ x ∈ ps, sc.names.lookup x = some .local
  nocell : ∀ y ∈ sc.names, y.2 ≠ .cell
  nofree : ∀ y ∈ sc.names, y.2 = .free → y.1 = "__class__"
  sup : sc.names.lookup ("super" : Str) = some .globalImplicit
  cls : sc.names.lookup ("__class__" : Str) = some .free
theorem SScope.free {N ps : List Str} {sc : Scope} (S : SScope N ps sc) : ∀ y, sc.names.lookup y = some .free → y = "__class__" := fun y e => S.nofree (y, .free) (PySem.mem_of_lookup e) rfl
theorem inv_supN {CXx : CXT} {P : Program} {w : World} {K : PySem.W.Frag} {mg : Str → Option Value} {base : Heap} {N ps : List Str} {ql : Str} {sc : Scope} {f cda cc : Addr} {A : Around} {out : List Env} {st : Shared} {h : Hp} {W : XK} {us : List Value} {vs : List V} {h1 : Heap} {tk : Nat} {cl : Value} {cld : Option Addr} {csl : Array (Option Value)} {cv : Option Value}
    (S : SScope N ps sc) (e0 : Env0 P w K mg base A out st h) (hd : A.handled = none) (hl : vs.length = ps.length)
    (hc : K.lookup cc = some ⟨cl, cld, .cell cv, csl⟩) (hns : h1.Ns st.heap.objs.size (fun y => (ps.zip us).reverse.lookup y)) (kp : ∀ b o, st.heap.get? b = some o → h1.get? b = some o) (r : Vals vs us) :
    Inv (KX.supCx CXx P w K mg base N ql sc f cda cc A out st h W) [] (L2.start N vs) h { st with heap := h1, toks := tk } := by
  have noA : ∀ b : Addr, b ∉ (KX.supCx CXx P w K mg base N ql sc f cda cc A out st h W).ex := fun b z => absurd (show b ∈ ([] : List Addr) from z) (by simp)
  have ccb := e0.bs _ _ (e0.mod.kin _ _ hc)
  have hpl : ps.length ≤ N.length := by have := congrArg List.length S.pre; rw [List.length_take] at this; omega
  refine ⟨⟨e0.mod, S.kind, rfl, rfl, Nat.le_refl _, fun y z c a b => (KX.cls_only a).1.trans (KX.cls_only b).1.symm, fun y hy => ?_, fun y c z _ => ?_, fun _ => hd, Around.frames_deeper e0.frames, .inr ⟨rfl, rfl⟩, fun b z => absurd z (noA b), e0.bs, e0.bsz, fun b _ _ => noA b, fun b z => absurd z (noA b), e0.funs, e0.frf⟩,
    rfl, e0.bare, Un.kept kp, ⟨_, hns, fun i y v a b c => ?_⟩, fun y c e => ?_, e0.hok.fresh (Nat.le_refl _), fun y c e => ?_, fun p hp => absurd (show p ∈ ([] : List (Addr × Obj)) from hp) (by simp), e0.hok.kept kp, ?_⟩
  · have hy : sc.names.lookup y = some .cell ∨ sc.names.lookup y = some .free := hy
    rcases hy with hy | hy
    · exact absurd rfl (S.nocell _ (PySem.mem_of_lookup hy))
    · rw [S.free y hy]
      exact ⟨cc, rfl⟩
  · have z : false = true := z
    cases z
  · have hi : i < vs.length := by
      unfold L2.start at b
      by_cases hi : i < vs.length
      · exact hi
      · rw [List.getElem?_append_right (by simpa using hi)] at b
        rw [List.getElem?_replicate] at b
        split at b <;> cases b
    have ha : vs[i]? = some v := by
      unfold L2.start at b
      rw [List.getElem?_append_left (by simpa using hi), List.getElem?_map] at b
      cases e : vs[i]? with
      | none => rw [e] at b; cases b
      | some a => rw [e] at b; cases b; rfl
    obtain ⟨u, hu, rv⟩ := r.get ha
    have hp : ps[i]? = some y := by
      rw [← S.pre, List.getElem?_take_of_lt (by omega)]; exact a
    have ndP : ps.Nodup := by rw [← S.pre]; exact S.nd.sublist (List.take_sublist _ _)
    refine ⟨u, rv, .inl ⟨S.par y (List.mem_of_getElem? hp), ?_⟩⟩
    refine lookup_nd ?_ (List.mem_reverse.mpr (zip_get hp hu))
    rw [List.map_reverse, zip_fst (by rw [← r.length, hl])]
    exact List.pairwise_reverse.mpr (List.Pairwise.imp Ne.symm ndP)
  · obtain ⟨rfl, rfl⟩ := KX.cls_only e
    exact ⟨cv, _, kp _ _ ccb.1, rfl⟩
  · obtain ⟨rfl, rfl⟩ := KX.cls_only e
    exact ccb.2
  · unfold L2.start
    show _ = N.length
    rw [List.length_append, List.length_map, List.length_replicate]
    omega
/-! ### statements at the def's own level -/
structure PEA (X : Cx) (c : Code) (e : Expr) (t : TE) : Prop where
  run : ∀ (pins : List (Addr × Obj)) (s : Shared) (σ : L2.St) (H : Hp) (Q : VK), Inv X pins σ H s → t σ H Q → _root_.PySem.wpAt (model X.prog X.w) X.A c (eval e X.env) (EP X pins σ Q) X.xe s
structure PSA (X : Cx) (c : Code) (st : Stmt) (t : TS) : Prop where
  run : ∀ (pins : List (Addr × Obj)) (s : Shared) (σ : L2.St) (H : Hp) (D : Ends), Inv X pins σ H s → t D σ H → _root_.PySem.wpAt (model X.prog X.w) X.A c (exec st X.env) (SP X pins D) X.xe s
structure PSsA (X : Cx) (c : Code) (st : List Stmt) (t : TS) : Prop where
  run : ∀ (pins : List (Addr × Obj)) (s : Shared) (σ : L2.St) (H : Hp) (D : Ends), Inv X pins σ H s → t D σ H → _root_.PySem.wpAt (model X.prog X.w) X.A c (execs st X.env) (SP X pins D) X.xe s
section
variable {X : Cx} {c : Code} {st : Stmt} {rest : List Stmt} {t u : TS} {e : Expr} {te : TE} {pos : Pos}
theorem psa_any (h : PS X st t) : PSA X c st t := ⟨fun pins s σ H D I q => wpAt_of_wpAny (h.run pins s σ H D I q)⟩
theorem pssa_any (h : PSs X rest t) : PSsA X c rest t := ⟨fun pins s σ H D I q => wpAt_of_wpAny (h.run pins s σ H D I q)⟩
theorem pssa_cons (a : PSA X c st t) (b : PSsA X c rest u) : PSsA X c (st :: rest) (tSeq t u) := by
  refine ⟨fun pins s σ H D I q => ks_wpAt_execs_cons (PySem.wpAt_mono (a.run pins s σ H { D with nx := fun σ' H' => u D σ' H' } I q) (fun f s' z => ?_) fun _ _ z => z)⟩
  cases f with
  | next => obtain ⟨σ', H', J, q'⟩ := z; exact b.run pins s' σ' H' D J q'
  | brk => exact z
  | cont => exact z
  | ret u => exact z
theorem pssa_one (a : PSA X c st t) : PSsA X c [st] t := by
  refine ⟨fun pins s σ H D I q => ks_wpAt_execs_cons (PySem.wpAt_mono (a.run pins s σ H D I q) (fun f s' z => ?_) fun _ _ z => z)⟩
  cases f with
  | next => obtain ⟨σ', H', J, q'⟩ := z; exact wpAt_of_wpAny (pss_nil.run pins s' σ' H' D J q')
  | brk => exact z
  | cont => exact z
  | ret u => exact z
theorem psa_ret (he : PEA X c e te) : PSA X c (.Return (some e) pos) (tRet te) := by
  refine ⟨fun pins s σ H D I q => ks_wpAt_Return_some (PySem.wpAt_mono (he.run pins s σ H _ I q) (fun v s' z => ?_) fun _ _ z => z)⟩
  obtain ⟨x, H', J, r, q'⟩ := z
  exact ⟨x, σ, H', J, r, q'⟩
theorem psa_set {i : Nat} {x : Str} {pos' : Pos} (hN : X.N.Nodup) (hi : X.N[i]? = some x) (hx : X.env.scope.names.lookup x = some .local) (he : PEA X c e te) (hs : swapsWith e (some (.Name x pos')) pos.line X.env = pure false := by rfl) : PSA X c (.Assign [.Name x pos'] e pos) (tAsg te (gName i)) := by
  refine ⟨fun pins s σ H D I q => ks_wpAt_Assign_Name (PySem.wpAt_mono (he.run pins s σ H _ I q) (fun v s' z => ?_) fun _ _ z => z) hs⟩
  obtain ⟨y, H', J, r, q'⟩ := z
  exact store_ok J hN hi (.inl hx) r (fun s2 I2 => ⟨_, H', I2, q'⟩) (.inr hx)
theorem psa_expr (he : PEA X c e te) (hint : interactive X.env = false) (hs : swapsWith e none pos.line X.env = pure false := by rfl) : PSA X c (.Expr e pos) (tDrop te) := by
  refine ⟨fun pins s σ H D I q => ks_wpAt_Expr_any (PySem.wpAt_mono (he.run pins s σ H _ I q) (fun v s' z => ?_) fun _ _ z => z) hint hs⟩
  obtain ⟨y, H', J, r, q'⟩ := z
  exact ⟨σ, H', J, q'⟩
theorem psa_if {test : Expr} {b1 b2 : List Stmt} {tc : TT} {t1 t2 : TS} (hc : PT X test tc) (h1 : PSsA X c b1 t1) (h2 : PSsA X c b2 t2) : PSA X c (.If test b1 b2 pos) (tIfS tc t1 t2) := by
  refine ⟨fun pins s σ H D I q => ks_wpAt_If (wpAt_of_wpAny (wpAny_mono (hc.run pins s σ H _ I q) (fun b s' z => ?_) fun _ _ z => z))⟩
  obtain ⟨H', J, q'⟩ := z
  cases b with
  | true => exact h1.run pins s' σ H' D J q'
  | false => exact h2.run pins s' σ H' D J q'
end
/-! ### such a def -/
structure SupF (P : Program) (K : PySem.W.Frag) (f : Addr) (fd : FuncData) (name qual : Str) (params : Arguments) (body : List Stmt) (scope : Scope) (cda cc D : Addr) : Prop where
  fn : ∃ (oc dV kV doc pm ct : Value) (an od : Option Addr) (osl : Array (Option Value)), fd = PySem.W.ksFn name qual params body scope dV kV doc pm an (.ref cda) ct cc ∧ K.lookup f = some ⟨oc, od, .func fd, osl⟩
  code : PySem.W.codeIn K (.ref cda) qual = true
  cd : ∃ (ccl : Value) (cdd : Option Addr) (vs : Array Value) (ccs : Array (Option Value)) (file : Str) (tf : Tok), K.lookup cda = some ⟨ccl, cdd, .fields vs, ccs⟩ ∧ vs[2]? = some (.str file tf) ∧ ((P.main.file : Str) == file) = true
  cell : ∃ (cl : Value) (cld : Option Addr) (csl : Array (Option Value)), K.lookup cc = some ⟨cl, cld, .cell (some (.ref D)), csl⟩
  top : (P.main.scope.names.lookup ("super" : Str)).isSome = false
  opq : PySem.W.nsIn K cStatics "thirdparty.any" = some none
  dcl : ∃ cdD, PySem.W.clsIn K D = some cdD
section
variable {P : Program} {w : World} {K : PySem.W.Frag} {mg : Str → Option Value} {base : Heap} {f cda cc D : Addr} {fd : FuncData} {name qual : Str} {params : Arguments} {body : List Stmt} {scope : Scope} {N ps : List Str}
theorem SupF.ok {CX : CXT} {k : Nat} {sp : Sp} (F : SupF P K f fd name qual params body scope cda cc D) (S : SScope N ps scope) (len : ∀ vs H Q E, sp vs H Q E → vs.length = ps.length)
    (hbody : ∀ (A : Around) (outer : List Env) (s : Shared) (H : Hp) (vs : List V) (Q : VK) (E : XK), Room k (A.deeper (PySem.W.ksEnv qual scope s.heap.objs.size f (.ref cda) cc)) → sp vs H Q E →
      ∃ t, PSsA (KX.supCx CX P w K mg base N qual scope f cda cc A outer s H E) (.func body (PySem.W.ksEnv qual scope s.heap.objs.size f (.ref cda) cc)) body t ∧ t { nx := fun _ H' => Q .non H', rt := Q } (L2.start N vs) H) :
    FnOk P w K mg base CX (k + 1) f fd ps sp := by
  refine ⟨len, fun A outer st h args us vs Q E room env bind r pre => ?_⟩
  have hl := len _ _ _ _ pre
  obtain ⟨oc, dV, kV, doc, pm, ct, an, od, osl, rfl, lf⟩ := F.fn
  obtain ⟨cl, cld, csl, lcc⟩ := F.cell
  have kin : K.In st.heap := env.mod.kin.keeps fun b o e => (env.bs b o e).1
  have nolim : st.heap.NoLimit := env.mod.nolimit.keeps fun b o e => (env.bs b o e).1
  refine ks_codeAny_call_defAt (binds := ps.zip us) room.depth (kin _ _ lf) rfl nolim (PySem.W.codeRec_of kin F.code) rfl bind S.nocell (fun y hy => S.par y.1 (List.of_mem_zip (show (y.1, y.2) ∈ ps.zip us from hy)).1) (fun h1 hns kp => ?_) S.co S.gen S.kind
  obtain ⟨t, ht, hq⟩ := hbody A outer st h vs Q E (room.deeper _) pre
  have I : Inv (KX.supCx CX P w K mg base N qual scope f cda cc A outer st h E) [] (L2.start N vs) h { st with heap := h1, toks := st.toks + (ps.zip us).length } := inv_supN S env room.hd hl lcc hns kp r
  refine PySem.wpAt_mono (ht.run [] _ (L2.start N vs) h _ I hq) (fun fl s' hs => ?_) fun e s' hs => hs
  cases fl with
  | ret u => obtain ⟨v, _, h2, J, rel, z⟩ := hs; exact ⟨v, h2, J.os, J.bare, J.base, J.hok, rel, z⟩
  | next => obtain ⟨_, h2, J, z⟩ := hs; exact ⟨.non, h2, J.os, J.bare, J.base, J.hok, rfl, z⟩
  | brk => exact (let ⟨_, _, _, z⟩ := hs; z : False).elim
  | cont => exact (let ⟨_, _, _, z⟩ := hs; z : False).elim
/-- super().m(e, ..): self stands in the slot 0; C: the object's class -/
def tSup (C : Addr) (sp : Sp) (E : XK) (t : TA) : TE := fun σ H Q => ∃ (a dx : Addr) (fs : List (Str × V)), σ[0]? = some (some (.ref a)) ∧ H a = some (.ins C dx fs) ∧ t σ H fun vs H1 => sp (.ref a :: vs) H1 Q E
structure SupM (P : Program) (w : World) (K : PySem.W.Frag) (mg : Str → Option Value) (base : Heap) (CX : CXT) (k : Nat) (C D : Addr) (m : Str) (ps : List Str) (sp : Sp) : Prop where
  ex : ∃ (g : Addr) (gd : FuncData), PySem.W.ks_superIn K C D m = some (some (.ref g)) ∧ PySem.W.typeIn K (.ref g) = some (.type "function") ∧ PySem.W.fnIn K g = true ∧ FnOk P w K mg base CX k g gd ps sp ∧ Binds K gd ps []
  sub : PySem.W.mroIn K C (.ref D) = some true
theorem sup_core {CX1 : CXT} {C g : Addr} {m : Str} {E : XK} {A : Around} {outer : List Env} {st : Shared} {H0 : Hp} {p0 p1 p2 p4 : Pos} {es : List Expr} {pl : Sem Bool} {ar : Arg} {pins : List (Addr × Obj)} {s : Shared} {σ : L2.St} {H : Hp} {Z : Value → Shared → Prop} {a dx : Addr} {fs : List (Str × V)}
    (F : SupF P K f fd name qual params body scope cda cc D) (S : SScope N ps scope) (har : (params.posonlyargs ++ params.args).head? = some ar) (hself : N[0]? = some ar.arg) (hpar : ar.arg ∈ ps) (hm : mg "super" = none) (hin : PySem.W.ks_superIn K C D m = some (some (.ref g))) (hty : PySem.W.typeIn K (.ref g) = some (.type "function")) (sub : PySem.W.mroIn K C (.ref D) = some true) (hat : (m == ("__class__" : Str)) = false)
    (I : Inv (KX.supCx CX1 P w K mg base N qual scope f cda cc A outer st H0 E) pins σ H s) (h0 : σ[0]? = some (some (.ref a))) (hH : H a = some (.ins C dx fs))
    (hev : eval (.Call (.Attribute (.Call (.Name "super" p0) [] [] p1) m p2) es [] p4) (PySem.W.ksEnv qual scope st.heap.objs.size f (.ref cda) cc) = (do
      let ov ← attributeBase (.Call (.Name "super" p0) [] [] p1) m (PySem.W.ksEnv qual scope st.heap.objs.size f (.ref cda) cc) (eval (.Call (.Name "super" p0) [] [] p1) (PySem.W.ksEnv qual scope st.heap.objs.size f (.ref cda) cc))
      standAt p2.atName
      let (g, first) ← holding [ov] (getMethod ov m pl)
      callWith p4 g first (backTo p4 (starEach es (PySem.W.ksEnv qual scope st.heap.objs.size f (.ref cda) cc))) []) )
    (go : ∀ q s', base.get? q = none → Inv (KX.supCx CX1 P w K mg base N qual scope f cda cc A outer st H0 E) ((q, PySem.W.methodObj (.ref g) (.ref a)) :: pins) σ H s' → wpAny (model P w) (KX.supCx CX1 P w K mg base N qual scope f cda cc A outer st H0 E).A (callWith p4 (.ref q) [] (backTo p4 (starEach es (PySem.W.ksEnv qual scope st.heap.objs.size f (.ref cda) cc))) []) Z (KX.supCx CX1 P w K mg base N qual scope f cda cc A outer st H0 E).xe s') :
    _root_.PySem.wpAt (model P w) (KX.supCx CX1 P w K mg base N qual scope f cda cc A outer st H0 E).A (.func body (PySem.W.ksEnv qual scope st.heap.objs.size f (.ref cda) cc)) (eval (.Call (.Attribute (.Call (.Name "super" p0) [] [] p1) m p2) es [] p4) (PySem.W.ksEnv qual scope st.heap.objs.size f (.ref cda) cc)) Z (KX.supCx CX1 P w K mg base N qual scope f cda cc A outer st H0 E).xe s := by
  obtain ⟨oc, dV, kV, doc, pm, ct, an, od, osl, rfl, lf⟩ := F.fn
  obtain ⟨ccl, cdd, vs, ccs, file, tf, lcd, hvs, hfile⟩ := F.cd
  obtain ⟨cl, cld, csl, lcc⟩ := F.cell
  obtain ⟨cdD, hD⟩ := F.dcl
  refine ks_wpAt_MethodCall (pl := pl) (env := PySem.W.ksEnv qual scope st.heap.objs.size f (.ref cda) cc) ?_ hev
  have kin : K.In s.heap := I.kIn
  obtain ⟨ml, hns, hlk⟩ := I.loc
  have hloc : scope.names.lookup ar.arg = some .local := S.par ar.arg hpar
  obtain ⟨u0, ru0, hu0⟩ := hlk 0 ar.arg (.ref a) hself h0 (.inl hloc)
  obtain rfl : u0 = Value.ref a := ru0
  have hself2 : ml ar.arg = some (.ref a) := by
    rcases hu0 with ⟨_, e⟩ | ⟨z, _⟩
    · exact e
    · rcases z with z | z
      · have z2 : scope.names.lookup ar.arg = some .cell := z
        rw [hloc] at z2; cases z2
      · have z2 : scope.names.lookup ar.arg = some .free := z
        rw [hloc] at z2; cases z2
  obtain ⟨oinst, J⟩ := inst_of I hH
  obtain ⟨mb, b1, b2⟩ := I.ok.mod.blt
  have kb : ∀ b o, base.get? b = some o → s.heap.get? b = some o := fun b o e => (I.bs b o e).1
  obtain ⟨hh, g0, d0, t0, os0⟩ := s
  obtain ⟨oD, hD1, hD2⟩ : ∃ oD, hh.get? D = some oD ∧ oD.data = .cls cdD := by
    unfold PySem.W.clsIn at hD
    split at hD
    · rename_i c d cd' sl ho
      cases hD
      exact ⟨_, kin _ _ ho, rfl⟩
    · cases hD
  refine ks_wpAt_super_base (env := PySem.W.ksEnv qual scope st.heap.objs.size f (.ref cda) cc) S.sup S.cls hat rfl (kin _ _ lf) rfl har rfl (kin _ _ lcd) rfl hvs hfile F.top ?_
  refine PySem.W.ks_loadName_global S.kind S.sup (Calls.loadGlobal_builtin (env := PySem.W.ksEnv qual scope st.heap.objs.size f (.ref cda) cc) (I.ok.mod.glob.keeps kb) hm (b1.keeps kb) ((b2 "super" (by decide)).trans (by decide +kernel)) ⟨rfl, ?_⟩)
  refine wpAny_loadName_free S.kind S.cls rfl ⟨_, kin _ _ lcc, rfl⟩ ?_
  refine wpAny_loadName_local S.kind hloc hns (v := .ref a) hself2 ?_
  refine ks_wpAny_isType_cls hD1 hD2 ⟨rfl, ?_⟩
  refine ks_wpAny_call_super hD1 hD2 J.at_ J.cls (fun c e => ?_) (PySem.W.looks_mroIn kin sub) (fun h2 e2 kp2 => ?_)
  · have := J.no
    unfold PySem.W.notCls at this
    rw [e] at this
    exact Bool.noConfusion this
  have I2 : Inv (KX.supCx CX1 P w K mg base N qual scope f cda cc A outer st H0 E) pins σ H ⟨h2, g0, d0, t0, os0⟩ := I.kept (t' := t0) kp2
  have kin2 : K.In h2 := kin.keeps kp2
  cases hc : PySem.W.clsIn K C with
  | none => unfold PySem.W.ks_superIn at hin; rw [hc] at hin; cases hin
  | some cdC =>
  have hin2 := hin
  unfold PySem.W.ks_superIn at hin2
  rw [hc] at hin2
  obtain ⟨of, hof, hofc⟩ : ∃ of, h2.get? g = some of ∧ of.cls = .type "function" := by
    have ht' : (K.lookup g).map (·.cls) = some (.type "function") := hty
    cases z : K.lookup g with
    | none => rw [z] at ht'; cases ht'
    | some of => rw [z] at ht'; exact ⟨of, kin2 _ _ z, Option.some.inj ht'⟩
  obtain ⟨oinst2, J2⟩ := inst_of I2 hH
  refine ks_wpAny_getMethod_super e2 (PySem.W.looks_opaque kin2 F.opq) (l₀ := cdC.mro) (fun A Q E s k q => wpAny_bind ((PySem.W.looks_clsIn kin2 hc) A _ E s k (wpAny_pure q))) rfl kin2 hin2 hof hofc (PySem.W.ks_ne kin2 J2 hc) hat ?_
  have I3 : Inv (KX.supCx CX1 P w K mg base N qual scope f cda cc A outer st H0 E) ((h2.objs.size, PySem.W.methodObj (.ref g) (.ref a)) :: pins) σ H ⟨h2.push (PySem.W.methodObj (.ref g) (.ref a)), g0, d0, t0 + 1, os0⟩ := ClX.met_new I2
  exact go _ _ (ClX.base_none I2 (Nat.le_refl _)) I3
theorem sup_run {CX1 CX2 : CXT} {k : Nat} {g a q : Addr} {gd : FuncData} {ps2 : List Str} {sp : Sp} {E E2 : XK} {A : Around} {outer : List Env} {st : Shared} {H0 H1 : Hp} {us : List Value} {xs : List V} {Q : VK} {pins : List (Addr × Obj)} {s4 : Shared} {σ : L2.St}
    (room : Room k (KX.supCx CX1 P w K mg base N qual scope f cda cc A outer st H0 E).A) (pass : Passes CX2 (KX.supCx CX1 P w K mg base N qual scope f cda cc A outer st H0 E) E2) (G : FnOk P w K mg base CX2 k g gd ps2 sp) (bind : Binds K gd ps2 []) (I4 : Inv (KX.supCx CX1 P w K mg base N qual scope f cda cc A outer st H0 E) ((q, PySem.W.methodObj (.ref g) (.ref a)) :: pins) σ H1 s4) (rv : Vals xs us) (q1 : sp (.ref a :: xs) H1 Q E2) :
    wpAny (model P w) (KX.supCx CX1 P w K mg base N qual scope f cda cc A outer st H0 E).A (call (.ref q) us) (EP (KX.supCx CX1 P w K mg base N qual scope f cda cc A outer st H0 E) pins σ Q) (KX.supCx CX1 P w K mg base N qual scope f cda cc A outer st H0 E).xe s4 := by
  have z : wpAny (model P w) (KX.supCx CX1 P w K mg base N qual scope f cda cc A outer st H0 E).A (call (.ref q) us) (EP (KX.supCx CX1 P w K mg base N qual scope f cda cc A outer st H0 E) ((q, PySem.W.methodObj (.ref g) (.ref a)) :: pins) σ Q) (KX.supCx CX1 P w K mg base N qual scope f cda cc A outer st H0 E).xe s4 := by
    refine wpAny_call (PySem.W.method_call (ClX.pin_at I4) ?_)
    have rel : Vals (V.ref a :: xs) (Value.ref a :: us) := .cons rfl rv
    have size : ((Value.ref a :: us) ++ []).length = ps2.length := by rw [List.append_nil, ← rel.length]; exact G.len _ _ _ _ q1
    have bd := bind s4 (Value.ref a :: us) I4.kIn size
    rw [List.append_nil] at bd
    refine codeAny_mono (G.run _ (KX.supCx CX1 P w K mg base N qual scope f cda cc A outer st H0 E).stack s4 H1 ⟨Value.ref a :: us, []⟩ _ _ Q E2 room I4.env0 bd rel q1) fun res s5 y => ?_
    match res, y with
    | .error e, y => exact pass _ σ H1 s4 e s5 I4 y
    | .ok (.ret u), y => exact I4.after y
    | .ok .next, y => exact y.elim
    | .ok .brk, y => exact y.elim
    | .ok .cont, y => exact y.elim
  exact thn z fun _ _ y => ClX.unpinE y
theorem pea_super0 {CX1 CX2 : CXT} {k : Nat} {C : Addr} {m : Str} {ps2 : List Str} {sp : Sp} {E E2 : XK} {A : Around} {outer : List Env} {st : Shared} {H0 : Hp} {p0 p1 p2 p4 : Pos} {pl : Sem Bool} {ar : Arg}
    (F : SupF P K f fd name qual params body scope cda cc D) (S : SScope N ps scope) (har : (params.posonlyargs ++ params.args).head? = some ar) (hself : N[0]? = some ar.arg) (hpar : ar.arg ∈ ps) (hm : mg "super" = none) (c : SupM P w K mg base CX2 k C D m ps2 sp) (room : Room k (KX.supCx CX1 P w K mg base N qual scope f cda cc A outer st H0 E).A)
    (pass : Passes CX2 (KX.supCx CX1 P w K mg base N qual scope f cda cc A outer st H0 E) E2) (hat : (m == ("__class__" : Str)) = false := by decide)
    (hev : eval (.Call (.Attribute (.Call (.Name "super" p0) [] [] p1) m p2) [] [] p4) (PySem.W.ksEnv qual scope st.heap.objs.size f (.ref cda) cc) = (do
      let ov ← attributeBase (.Call (.Name "super" p0) [] [] p1) m (PySem.W.ksEnv qual scope st.heap.objs.size f (.ref cda) cc) (eval (.Call (.Name "super" p0) [] [] p1) (PySem.W.ksEnv qual scope st.heap.objs.size f (.ref cda) cc))
      standAt p2.atName
      let (g, first) ← holding [ov] (getMethod ov m pl)
      callWith p4 g first (backTo p4 (starEach [] (PySem.W.ksEnv qual scope st.heap.objs.size f (.ref cda) cc))) []) := by rfl) :
    PEA (KX.supCx CX1 P w K mg base N qual scope f cda cc A outer st H0 E) (.func body (PySem.W.ksEnv qual scope st.heap.objs.size f (.ref cda) cc)) (.Call (.Attribute (.Call (.Name "super" p0) [] [] p1) m p2) [] [] p4) (tSup C sp E2 tNil) := by
  obtain ⟨g, gd, hin, hty, hfi, G, bind⟩ := c.ex
  refine ⟨fun pins s σ H Q I h => ?_⟩
  obtain ⟨a, dx, fs, h0, hH, q⟩ := h
  refine sup_core F S har hself hpar hm hin hty c.sub hat I h0 hH hev fun r s' hb I3 => ?_
  refine PySem.W.callWith_M0 (K := K) (self := .ref a) ⟨ClX.pin_at I3, I3.kIn⟩ hfi ?_
  exact sup_run room pass G bind I3 .nil q
theorem pea_super {CX1 CX2 : CXT} {k : Nat} {C : Addr} {m : Str} {ps2 : List Str} {sp : Sp} {E E2 : XK} {A : Around} {outer : List Env} {st : Shared} {H0 : Hp} {p0 p1 p2 p4 : Pos} {pl : Sem Bool} {ar : Arg} {e : Expr} {es : List Expr} {t : TA}
    (F : SupF P K f fd name qual params body scope cda cc D) (S : SScope N ps scope) (har : (params.posonlyargs ++ params.args).head? = some ar) (hself : N[0]? = some ar.arg) (hpar : ar.arg ∈ ps) (hm : mg "super" = none) (c : SupM P w K mg base CX2 k C D m ps2 sp) (room : Room k (KX.supCx CX1 P w K mg base N qual scope f cda cc A outer st H0 E).A)
    (pass : Passes CX2 (KX.supCx CX1 P w K mg base N qual scope f cda cc A outer st H0 E) E2) (ha : PA (KX.supCx CX1 P w K mg base N qual scope f cda cc A outer st H0 E) (e :: es) t) (hat : (m == ("__class__" : Str)) = false := by decide) (hst : starEach (e :: es) (PySem.W.ksEnv qual scope st.heap.objs.size f (.ref cda) cc) = (false, eval e (PySem.W.ksEnv qual scope st.heap.objs.size f (.ref cda) cc)) :: starEach es (PySem.W.ksEnv qual scope st.heap.objs.size f (.ref cda) cc) := by rfl) (hpl : (backTo p4 (starEach es (PySem.W.ksEnv qual scope st.heap.objs.size f (.ref cda) cc))).any (·.1) = false := by rfl)
    (hev : eval (.Call (.Attribute (.Call (.Name "super" p0) [] [] p1) m p2) (e :: es) [] p4) (PySem.W.ksEnv qual scope st.heap.objs.size f (.ref cda) cc) = (do
      let ov ← attributeBase (.Call (.Name "super" p0) [] [] p1) m (PySem.W.ksEnv qual scope st.heap.objs.size f (.ref cda) cc) (eval (.Call (.Name "super" p0) [] [] p1) (PySem.W.ksEnv qual scope st.heap.objs.size f (.ref cda) cc))
      standAt p2.atName
      let (g, first) ← holding [ov] (getMethod ov m pl)
      callWith p4 g first (backTo p4 (starEach (e :: es) (PySem.W.ksEnv qual scope st.heap.objs.size f (.ref cda) cc))) []) := by rfl) :
    PEA (KX.supCx CX1 P w K mg base N qual scope f cda cc A outer st H0 E) (.func body (PySem.W.ksEnv qual scope st.heap.objs.size f (.ref cda) cc)) (.Call (.Attribute (.Call (.Name "super" p0) [] [] p1) m p2) (e :: es) [] p4) (tSup C sp E2 t) := by
  obtain ⟨g, gd, hin, hty, hfi, G, bind⟩ := c.ex
  refine ⟨fun pins s σ H Q I h => ?_⟩
  obtain ⟨a, dx, fs, h0, hH, q⟩ := h
  refine sup_core F S har hself hpar hm hin hty c.sub hat I h0 hH hev fun r s' hb I3 => ?_
  refine ClX.callwith_cm (C := a) I3 hb hfi (thn (ha.run p4 _ s' σ H _ I3 q) fun us s4 res => ?_) hst hpl
  obtain ⟨xs, H1, I4, rv, q1⟩ := res
  exact ⟨⟨ClX.pin_at I4, I4.kIn⟩, sup_run room pass G bind I4 rv q1⟩
end
theorem r_sup {C : Addr} {sp : Sp} {E : XK} {t : TA} {σ : L2.St} {H : Hp} {Q : VK} {a dx : Addr} {fs : List (Str × V)} (h0 : σ[0]? = some (some (.ref a))) (hH : H a = some (.ins C dx fs)) (q : t σ H fun vs H1 => sp (.ref a :: vs) H1 Q E) : tSup C sp E t σ H Q := ⟨a, dx, fs, h0, hH, q⟩
end KN

/-! KH: a sleeping generator stays as it is while other code runs. -/
namespace KH
open PySem PySem.Spec PyProof.Rows L2 GenW
/-! ### runs that cannot wake the sleepers -/
/-- no resumption comes back -/
def StuckK (k : Resume → Sem PySem.Fin) : Prop := ∀ r, k r = .unsupported "asleep"
def Stuck : GenState → Prop
  | .suspended k _ _ _ _ _ => StuckK k
  | _ => False
def NG (fs : List Frame) : Prop := ∀ F ∈ fs, ∃ k h g l c p kp, F = Frame.ret k h g l c p kp
theorem NG.nil : NG [] := fun F h => absurd h List.not_mem_nil
theorem NG.tail {F : Frame} {fs : List Frame} (h : NG (F :: fs)) : NG fs := fun G m => h G (List.mem_cons_of_mem _ m)
theorem NG.append {fs gs : List Frame} (h : NG fs) (g : NG gs) : NG (fs ++ gs) := fun F m => (List.mem_append.mp m).elim (h F) (g F)
theorem NG.one {k h g l c p kp} : NG [Frame.ret k h g l c p kp] := fun F m => ⟨_, _, _, _, _, _, _, List.mem_singleton.mp m⟩
theorem NG.split : ∀ {fs : List Frame}, NG fs → splitAtGen fs = none
  | [], _ => rfl
  | F :: fs, h => by
    obtain ⟨k, hd, g, l, c, p, kp, rfl⟩ := h F List.mem_cons_self
    show ((splitAtGen fs).map _) = none
    rw [NG.split h.tail]
    rfl
def OkS : GenState → Prop
  | .suspended k _ _ _ fs _ => StuckK k ∨ NG fs
  | _ => True
def OkG (a : Array GenState) : Prop := ∀ (i : Nat) (x : GenState), a[i]? = some x → OkS x
def EndOk : End → Prop
  | .susp _ _ _ _ _ _ fs => NG fs
  | .ret _ => True
theorem EndOk.state {e : End} (h : EndOk e) : OkS e.genState := by
  cases e with
  | ret r => exact trivial
  | susp v g l k c p fs => exact .inr h
structure Rel (a b : Array GenState) : Prop where
  size : a.size = b.size
  at_ : ∀ (i : Nat) (x : GenState), a[i]? = some x → ∃ y, b[i]? = some y ∧ x.bare = y.bare ∧ (x = y ∨ (Stuck x ∧ x.seen = y.seen))
def Kept (a b a' b' : Array GenState) : Prop := ∀ (i : Nat) (x : GenState), a[i]? = some x → Stuck x → a'[i]? = some x ∧ b'[i]? = b[i]?
theorem Kept.refl {a b : Array GenState} : Kept a b a b := fun _ _ e _ => ⟨e, rfl⟩
theorem Kept.trans {a b a1 b1 a2 b2 : Array GenState} (h : Kept a b a1 b1) (g : Kept a1 b1 a2 b2) : Kept a b a2 b2 := fun i x e st => by
  obtain ⟨e1, e2⟩ := h i x e st
  obtain ⟨e3, e4⟩ := g i x e1 st
  exact ⟨e3, e4.trans e2⟩
theorem Rel.lt {a b : Array GenState} (r : Rel a b) {i : Nat} : i < a.size ↔ i < b.size := by rw [r.size]
theorem get_set {a : Array GenState} {g i : Nat} {x z : GenState} (h : (a.setIfInBounds g x)[i]? = some z) : (i = g ∧ z = x) ∨ (i ≠ g ∧ a[i]? = some z) := by
  rw [Array.getElem?_setIfInBounds] at h
  split at h
  · rename_i e
    split at h
    · exact .inl ⟨e.symm, (Option.some.inj h).symm⟩
    · cases h
  · rename_i e
    exact .inr ⟨fun z => e z.symm, h⟩
theorem OkG.set {a : Array GenState} (h : OkG a) {g : Nat} {x : GenState} (ox : OkS x) : OkG (a.setIfInBounds g x) := fun i z e => by
  rcases get_set e with ⟨_, rfl⟩ | ⟨_, e⟩
  · exact ox
  · exact h i z e
theorem Rel.set {a b : Array GenState} (r : Rel a b) {g : Nat} {x : GenState} : Rel (a.setIfInBounds g x) (b.setIfInBounds g x) := by
  refine ⟨by rw [Array.size_setIfInBounds, Array.size_setIfInBounds, r.size], fun i z e => ?_⟩
  rcases get_set e with ⟨rfl, rfl⟩ | ⟨n, e⟩
  · refine ⟨z, ?_, rfl, .inl rfl⟩
    have lt : i < a.size := by
      have := (Array.getElem?_eq_some_iff.mp e).1
      rw [Array.size_setIfInBounds] at this
      exact this
    rw [Array.getElem?_setIfInBounds_self_of_lt (r.lt.mp lt)]
  · obtain ⟨y, ey, h⟩ := r.at_ i z e
    exact ⟨y, by rw [Array.getElem?_setIfInBounds_ne n.symm]; exact ey, h⟩
theorem Kept.set {a b a1 b1 : Array GenState} {g : Nat} {x y w : GenState} (hg : a[g]? = some w) (nw : ¬ Stuck w) (h : Kept (a.setIfInBounds g x) (b.setIfInBounds g x) a1 b1) : Kept a b (a1.setIfInBounds g y) (b1.setIfInBounds g y) := fun i z e st => by
  have n : g ≠ i := fun q => by
    subst q
    rw [hg] at e
    cases e
    exact nw st
  obtain ⟨e1, e2⟩ := h i z (by rw [Array.getElem?_setIfInBounds_ne n]; exact e) st
  rw [Array.getElem?_setIfInBounds_ne n] at e2
  exact ⟨by rw [Array.getElem?_setIfInBounds_ne n]; exact e1, by rw [Array.getElem?_setIfInBounds_ne n]; exact e2⟩
theorem Kept.set1 {a b : Array GenState} {g : Nat} {y w : GenState} (hg : a[g]? = some w) (nw : ¬ Stuck w) : Kept a b (a.setIfInBounds g y) (b.setIfInBounds g y) := fun i z e st => by
  have n : g ≠ i := fun q => by
    subst q
    rw [hg] at e
    cases e
    exact nw st
  exact ⟨by rw [Array.getElem?_setIfInBounds_ne n]; exact e, by rw [Array.getElem?_setIfInBounds_ne n]⟩
theorem push_get {a : Array GenState} {x z : GenState} {i : Nat} (h : (a.push x)[i]? = some z) : (i = a.size ∧ z = x) ∨ a[i]? = some z := by
  rw [Array.getElem?_push] at h
  split at h
  · rename_i e
    exact .inl ⟨e, (Option.some.inj h).symm⟩
  · exact .inr h
theorem push_old {a : Array GenState} {x z : GenState} {i : Nat} (h : a[i]? = some z) : (a.push x)[i]? = some z := by
  have lt := (Array.getElem?_eq_some_iff.mp h).1
  rw [Array.getElem?_push_lt lt]
  rw [Array.getElem?_eq_getElem lt] at h
  exact h
theorem OkG.push {a : Array GenState} (h : OkG a) {c : Code} : OkG (a.push (.fresh c)) := fun i z e => by
  rcases push_get e with ⟨_, rfl⟩ | e
  · exact trivial
  · exact h i z e
theorem Rel.push {a b : Array GenState} (r : Rel a b) {x : GenState} : Rel (a.push x) (b.push x) := by
  refine ⟨by rw [Array.size_push, Array.size_push, r.size], fun i z e => ?_⟩
  rcases push_get e with ⟨rfl, rfl⟩ | e
  · exact ⟨z, by rw [r.size]; exact Array.getElem?_push_size .., rfl, .inl rfl⟩
  · obtain ⟨y, ey, h⟩ := r.at_ i z e
    exact ⟨y, push_old ey, h⟩
theorem Kept.push {a b : Array GenState} (r : Rel a b) {x : GenState} : Kept a b (a.push x) (b.push x) := fun i z e _ => by
  obtain ⟨y, ey, _⟩ := r.at_ i z e
  exact ⟨push_old e, by rw [push_old ey, ey]⟩
theorem no_runs {M : Model} {Γ : PySem.Ctx} {p : Pos} {t : Sem PySem.Fin} {fs : List Frame} {s s' : Shared} {e : End} (h : Runs M Γ p t fs s e s') : ∀ w, t ≠ .unsupported w := by
  induction h with
  | segRet _ _ ih _ => exact ih
  | segGen _ _ ih _ => exact ih
  | segSuspOut _ _ ih => exact ih
  | segSuspGen _ _ _ _ ih _ => exact ih
  | _ => intro w z; cases z
theorem stuck_no {M : Model} {Γ : PySem.Ctx} {p : Pos} {k : Resume → Sem PySem.Fin} {r : Resume} {fs : List Frame} {s s' : Shared} {e : End} (hk : StuckK k) (h : Runs M Γ p (k r) fs s e s') : False := no_runs h _ (hk r)
/-- a run from where some sleepers cannot wake is a run from where they could -/
theorem runs_swap {M : Model} {Γ : PySem.Ctx} {p : Pos} {t : Sem PySem.Fin} {fs : List Frame} {s s' : Shared} {e : End} (h : Runs M Γ p t fs s e s') :
    OkG s.gens → NG fs → ∀ b, Rel s.gens b → OkG s'.gens ∧ EndOk e ∧ ∃ b', Rel s'.gens b' ∧ Kept s.gens b s'.gens b' ∧ Runs M Γ p t fs { s with gens := b } e { s' with gens := b' } := by
  induction h with
  | done => intro ok ng b r; exact ⟨ok, trivial, b, r, .refl, .done⟩
  | raise => intro ok ng b r; exact ⟨ok, trivial, b, r, .refl, .raise⟩
  | again hq _ ih => intro ok ng b r; obtain ⟨o, e, b', r', k, h⟩ := ih ok ng b r; exact ⟨o, e, b', r', k, .again hq h⟩
  | rule _ ih => intro ok ng b r; obtain ⟨o, e, b', r', k, h⟩ := ih ok ng b r; exact ⟨o, e, b', r', k, .rule h⟩
  | «at» _ ih => intro ok ng b r; obtain ⟨o, e, b', r', k, h⟩ := ih ok ng b r; exact ⟨o, e, b', r', k, .at h⟩
  | load ha _ ih => intro ok ng b r; obtain ⟨o, e, b', r', k, h⟩ := ih ok ng b r; exact ⟨o, e, b', r', k, .load ha h⟩
  | update ha _ ih => intro ok ng b r; obtain ⟨o, e, b', r', k, h⟩ := ih ok ng b r; exact ⟨o, e, b', r', k, .update ha h⟩
  | loadIfAlive _ ih => intro ok ng b r; obtain ⟨o, e, b', r', k, h⟩ := ih ok ng b r; exact ⟨o, e, b', r', k, .loadIfAlive h⟩
  | point _ ih => intro ok ng b r; obtain ⟨o, e, b', r', k, h⟩ := ih ok ng b r; exact ⟨o, e, b', r', k, .point h⟩
  | alloc _ ih => intro ok ng b r; obtain ⟨o, e, b', r', k, h⟩ := ih ok ng b r; exact ⟨o, e, b', r', k, .alloc h⟩
  | fresh _ ih => intro ok ng b r; obtain ⟨o, e, b', r', k, h⟩ := ih ok ng b r; exact ⟨o, e, b', r', k, .fresh h⟩
  | ask _ ih => intro ok ng b r; obtain ⟨o, e, b', r', k, h⟩ := ih ok ng b r; exact ⟨o, e, b', r', k, .ask h⟩
  | choose hn _ ih => intro ok ng b r; obtain ⟨o, e, b', r', k, h⟩ := ih ok ng b r; exact ⟨o, e, b', r', k, .choose hn h⟩
  | os _ ih => intro ok ng b r; obtain ⟨o, e, b', r', k, h⟩ := ih ok ng b r; exact ⟨o, e, b', r', k, .os h⟩
  | handled _ ih => intro ok ng b r; obtain ⟨o, e, b', r', k, h⟩ := ih ok ng b r; exact ⟨o, e, b', r', k, .handled h⟩
  | genState hg _ ih =>
    intro ok ng b r
    obtain ⟨o, e, b', r', k, h⟩ := ih ok ng b r
    obtain ⟨y, ey, _, q⟩ := r.at_ _ _ hg
    refine ⟨o, e, b', r', k, .genState ey ?_⟩
    rcases q with rfl | ⟨_, q⟩
    · exact h
    · rw [← q]; exact h
  | stack _ ih => intro ok ng b r; obtain ⟨o, e, b', r', k, h⟩ := ih ok ng b r; exact ⟨o, e, b', r', k, .stack h⟩
  | thread _ ih => intro ok ng b r; obtain ⟨o, e, b', r', k, h⟩ := ih ok ng b r; exact ⟨o, e, b', r', k, .thread h⟩
  | newGen _ ih =>
    intro ok ng b r
    obtain ⟨o, e, b', r', k, h⟩ := ih ok.push ng _ r.push
    refine ⟨o, e, b', r', (Kept.push r).trans k, .newGen ?_⟩
    have z := r.size
    rw [z] at h
    exact h
  | call _ _ ih1 ih2 =>
    intro ok ng b r
    obtain ⟨o1, _, b1, r1, k1, h1⟩ := ih1 ok .nil b r
    obtain ⟨o2, e2, b2, r2, k2, h2⟩ := ih2 o1 ng b1 r1
    exact ⟨o2, e2, b2, r2, k1.trans k2, .call h1 h2⟩
  | callSusp _ ih1 =>
    intro ok ng b r
    obtain ⟨o1, e1, b1, r1, k1, h1⟩ := ih1 ok .nil b r
    exact ⟨o1, NG.append e1 .one, b1, r1, k1, .callSusp h1⟩
  | yield => intro ok ng b r; exact ⟨ok, NG.nil, b, r, .refl, .yield⟩
  | resumeFresh hg _ hq _ ih1 ih2 =>
    intro ok ng b r
    obtain ⟨y, ey, _, q⟩ := r.at_ _ _ hg
    rcases q with rfl | ⟨q, _⟩
    · obtain ⟨o1, e1, b1, r1, k1, h1⟩ := ih1 (ok.set trivial) .nil _ r.set
      obtain ⟨o2, e2, b2, r2, k2, h2⟩ := ih2 (o1.set e1.state) ng _ r1.set
      exact ⟨o2, e2, b2, r2, (Kept.set hg (fun z => z) k1).trans k2, .resumeFresh ey h1 hq h2⟩
    · exact q.elim
  | resumeSuspended hg h0 hq _ ih1 ih2 =>
    intro ok ng b r
    obtain ⟨y, ey, _, q⟩ := r.at_ _ _ hg
    rcases q with rfl | ⟨q, _⟩
    · rcases ok _ _ hg with z | z
      · exact (stuck_no z h0).elim
      · obtain ⟨o1, e1, b1, r1, k1, h1⟩ := ih1 (ok.set trivial) z _ r.set
        obtain ⟨o2, e2, b2, r2, k2, h2⟩ := ih2 (o1.set e1.state) ng _ r1.set
        exact ⟨o2, e2, b2, r2, (Kept.set hg (fun z => stuck_no z h0) k1).trans k2, .resumeSuspended ey h1 hq h2⟩
    · exact (stuck_no q h0).elim
  | resumeJustStarted hg hv _ ih =>
    intro ok ng b r
    obtain ⟨y, ey, _, q⟩ := r.at_ _ _ hg
    rcases q with rfl | ⟨q, _⟩
    · obtain ⟨o, e, b', r', k, h⟩ := ih ok ng b r
      exact ⟨o, e, b', r', k, .resumeJustStarted ey hv h⟩
    · exact q.elim
  | resumeThrowFresh hg _ ih =>
    intro ok ng b r
    obtain ⟨y, ey, _, q⟩ := r.at_ _ _ hg
    rcases q with rfl | ⟨q, _⟩
    · obtain ⟨o, e, b', r', k, h⟩ := ih (ok.set trivial) ng _ r.set
      exact ⟨o, e, b', r', (Kept.set1 hg (fun z => z)).trans k, .resumeThrowFresh ey h⟩
    · exact q.elim
  | resumeRunning hg _ ih =>
    intro ok ng b r
    obtain ⟨y, ey, _, q⟩ := r.at_ _ _ hg
    rcases q with rfl | ⟨q, _⟩
    · obtain ⟨o, e, b', r', k, h⟩ := ih ok ng b r
      exact ⟨o, e, b', r', k, .resumeRunning ey h⟩
    · exact q.elim
  | resumeFinished hg _ ih =>
    intro ok ng b r
    obtain ⟨y, ey, _, q⟩ := r.at_ _ _ hg
    rcases q with rfl | ⟨q, _⟩
    · obtain ⟨o, e, b', r', k, h⟩ := ih ok ng b r
      exact ⟨o, e, b', r', k, .resumeFinished ey h⟩
    · exact q.elim
  | segRet _ _ ih1 ih2 =>
    intro ok ng b r
    obtain ⟨o1, _, b1, r1, k1, h1⟩ := ih1 ok .nil b r
    obtain ⟨o2, e2, b2, r2, k2, h2⟩ := ih2 o1 ng.tail b1 r1
    exact ⟨o2, e2, b2, r2, k1.trans k2, .segRet h1 h2⟩
  | segGen _ _ ih1 ih2 =>
    intro ok ng b r
    obtain ⟨_, _, _, _, _, _, _, z⟩ := ng _ List.mem_cons_self
    cases z
  | segSuspOut hs _ ih1 =>
    intro ok ng b r
    obtain ⟨o1, e1, b1, r1, k1, h1⟩ := ih1 ok .nil b r
    exact ⟨o1, NG.append e1 ng, b1, r1, k1, .segSuspOut hs h1⟩
  | segSuspGen hs _ _ _ ih1 ih2 =>
    intro ok ng b r
    rw [ng.split] at hs
    cases hs
theorem wakes_swap {M : Model} {Γ : PySem.Ctx} {p : Pos} {g : Nat} {r : Resume} {s s' : Shared} {res : GenResult} (h : Wakes M Γ p g r s res s') (ok : OkG s.gens) {b : Array GenState} (rl : Rel s.gens b) :
    OkG s'.gens ∧ ∃ b', Rel s'.gens b' ∧ Kept s.gens b s'.gens b' ∧ Wakes M Γ p g r { s with gens := b } res { s' with gens := b' } := by
  cases hg : s.gens[g]? with
  | none =>
    unfold Wakes at h
    rw [hg] at h
    exact h.elim
  | some x =>
    obtain ⟨y, ey, _, q⟩ := rl.at_ _ _ hg
    have eb : ({ s with gens := b } : Shared).gens[g]? = some y := ey
    unfold Wakes at h ⊢
    rw [hg] at h
    rw [eb]
    cases x with
    | fresh c =>
      rcases q with rfl | ⟨q, _⟩
      · cases r with
        | send v =>
          by_cases hv : v = .none
          · subst hv
            obtain ⟨e1, s1, h1, hq, rfl, rfl⟩ := h
            obtain ⟨o1, eo, b1, r1, k1, g1⟩ := runs_swap h1 (ok.set trivial) .nil _ rl.set
            exact ⟨o1.set eo.state, _, r1.set, Kept.set hg (fun z => z) k1, e1, _, g1, hq, rfl, rfl⟩
          · have h' : res = .justStarted ∧ s' = s := by cases v <;> first | exact absurd rfl hv | exact h
            obtain ⟨rfl, rfl⟩ := h'
            refine ⟨ok, b, rl, .refl, ?_⟩
            cases v <;> first | exact absurd rfl hv | exact ⟨rfl, rfl⟩
        | throw x =>
          obtain ⟨rfl, rfl⟩ := h
          exact ⟨ok.set trivial, _, rl.set, Kept.set1 hg (fun z => z), rfl, rfl⟩
      · exact q.elim
    | suspended k l c p0 fs cl =>
      obtain ⟨e1, s1, h1, hq, rfl, rfl⟩ := h
      rcases q with rfl | ⟨q, _⟩
      · rcases ok _ _ hg with z | z
        · exact (stuck_no z h1).elim
        · obtain ⟨o1, eo, b1, r1, k1, g1⟩ := runs_swap h1 (ok.set trivial) z _ rl.set
          exact ⟨o1.set eo.state, _, r1.set, Kept.set hg (fun z => stuck_no z h1) k1, e1, _, g1, hq, rfl, rfl⟩
      · exact (stuck_no q h1).elim
    | running =>
      obtain ⟨rfl, rfl⟩ := h
      rcases q with rfl | ⟨q, _⟩
      · exact ⟨ok, b, rl, .refl, rfl, rfl⟩
      · exact q.elim
    | finished =>
      obtain ⟨rfl, rfl⟩ := h
      rcases q with rfl | ⟨q, _⟩
      · exact ⟨ok, b, rl, .refl, rfl, rfl⟩
      · exact q.elim
/-- what holds behind, told where the sleepers could wake -/
def Post (a b : Array GenState) (q : Shared → Prop) (s2 : Shared) : Prop := ∃ s', q s' ∧ OkG s'.gens ∧ ∃ b', Rel s'.gens b' ∧ Kept a b s'.gens b' ∧ s2 = { s' with gens := b' }
theorem Post.back {a b a1 b1 : Array GenState} {q : Shared → Prop} {s2 : Shared} (k : Kept a b a1 b1) (h : Post a1 b1 q s2) : Post a b q s2 := by
  obtain ⟨s', h1, h2, b', h3, h4, h5⟩ := h
  exact ⟨s', h1, h2, b', h3, k.trans h4, h5⟩
theorem wp_swap {M : Model} {Γ : PySem.Ctx} {α : Type} (t : Sem α) : ∀ {Q : α → Pos → Shared → Prop} {E : Value → Pos → Shared → Prop} {p : Pos} {s : Shared}, Sem.wp M Γ t Q E p s → OkG s.gens → ∀ b, Rel s.gens b →
    Sem.wp M Γ t (fun a p' s2 => Post s.gens b (Q a p') s2) (fun e p' s2 => Post s.gens b (E e p') s2) p { s with gens := b } := by
  induction t with
  | pure a => intro Q E p s h ok b r; exact ⟨s, h, ok, b, r, .refl, rfl⟩
  | raise e => intro Q E p s h ok b r; exact ⟨s, h, ok, b, r, .refl, rfl⟩
  | unsupported _ => intro Q E p s z; exact z.elim
  | finish _ => intro Q E p s z; exact z.elim
  | rule _ k ih => intro Q E p s h ok b r; exact ih () h ok b r
  | «at» p' k ih => intro Q E p s h ok b r; exact ih () h ok b r
  | load a _ k ih => intro Q E p s h ok b r; obtain ⟨o, ho, h⟩ := h; exact ⟨o, ho, ih o h ok b r⟩
  | update a _ f k ih => intro Q E p s h ok b r; exact ⟨h.1, ih () h.2 ok b r⟩
  | loadIfAlive a k ih => intro Q E p s h ok b r; exact ih _ h ok b r
  | point _ k ih => intro Q E p s h ok b r; exact ih () h ok b r
  | register _ _ => intro Q E p s h; exact h.elim
  | alloc o k ih => intro Q E p s h ok b r; exact ih _ h ok b r
  | fresh k ih => intro Q E p s h ok b r; exact ih _ h ok b r
  | ask k ih => intro Q E p s h ok b r; exact ih _ h ok b r
  | choose src m k ih => intro Q E p s h ok b r; exact ⟨h.1, ih _ h.2 ok b r⟩
  | os q _ k ih => intro Q E p s h ok b r; exact ih _ h ok b r
  | call c hd _ _ k ih =>
    intro Q E p s h ok b r
    obtain ⟨rr, s1, hr, h⟩ := h
    obtain ⟨o1, _, b1, r1, k1, g1⟩ := runs_swap hr ok .nil b r
    refine ⟨rr, _, g1, ?_⟩
    exact Sem.wp_mono _ _ _ (fun _ _ _ z => z.back k1) (fun _ _ _ z => z.back k1) _ _ (ih rr h o1 b1 r1)
  | handled own k ih => intro Q E p s h ok b r; exact ih _ h ok b r
  | genState g k ih =>
    intro Q E p s h ok b r
    obtain ⟨x, hx, h⟩ := h
    obtain ⟨y, ey, _, q⟩ := r.at_ _ _ hx
    refine ⟨y, ey, ?_⟩
    rcases q with rfl | ⟨_, q⟩
    · exact ih _ h ok b r
    · rw [← q]; exact ih _ h ok b r
  | newGen c k ih =>
    intro Q E p s h ok b r
    have z := ih _ h ok.push _ r.push
    have e := r.size
    show Sem.wp M Γ (k b.size) _ _ p _
    rw [← e]
    exact Sem.wp_mono _ _ _ (fun _ _ _ z => z.back (Kept.push r)) (fun _ _ _ z => z.back (Kept.push r)) _ _ z
  | resume g rs _ k ih =>
    intro Q E p s h ok b r
    obtain ⟨res, s1, hw, h⟩ := h
    obtain ⟨o1, b1, r1, k1, g1⟩ := wakes_swap hw ok r
    refine ⟨res, _, g1, ?_⟩
    exact Sem.wp_mono _ _ _ (fun _ _ _ z => z.back k1) (fun _ _ _ z => z.back k1) _ _ (ih res h o1 b1 r1)
  | yield _ _ _ _ => intro Q E p s h; exact h.elim
  | stack k ih => intro Q E p s h ok b r; exact ih _ h ok b r
  | fork _ _ => intro Q E p s h; exact h.elim
  | thread k ih => intro Q E p s h ok b r; exact ih _ h ok b r
  | await _ _ _ _ _ => intro Q E p s h; exact h.elim
/-! ### all that sleep, made unable to wake -/
def asleep : GenState → GenState
  | .suspended _ l c p fs cl => .suspended (fun _ => .unsupported "asleep") l c p fs cl
  | x => x
theorem asleep_bare (x : GenState) : (asleep x).bare = x.bare := by cases x <;> rfl
theorem asleep_seen (x : GenState) : (asleep x).seen = x.seen := by cases x <;> rfl
theorem asleep_ok (a : Array GenState) : OkG (a.map asleep) := fun i x e => by
  rw [Array.getElem?_map] at e
  obtain ⟨y, _, rfl⟩ := Option.map_eq_some_iff.mp e
  cases y with
  | suspended => exact .inl fun _ => rfl
  | _ => exact trivial
theorem asleep_rel (a : Array GenState) : Rel (a.map asleep) a := by
  refine ⟨Array.size_map .., fun i x e => ?_⟩
  rw [Array.getElem?_map] at e
  obtain ⟨y, ey, rfl⟩ := Option.map_eq_some_iff.mp e
  refine ⟨y, ey, asleep_bare y, ?_⟩
  cases y with
  | suspended => exact .inr ⟨fun _ => rfl, rfl⟩
  | _ => exact .inl rfl
theorem Rel.bare {a b : Array GenState} (r : Rel a b) (h : AllBare a) : AllBare b := fun y m => by
  obtain ⟨i, hi, e⟩ := Array.mem_iff_getElem.mp m
  have la : i < a.size := r.lt.mpr hi
  obtain ⟨z, ez, bz, _⟩ := r.at_ i a[i] (Array.getElem?_eq_getElem la)
  rw [Array.getElem?_eq_getElem hi, e] at ez
  cases ez
  rw [← bz]
  exact h _ (Array.getElem_mem la)
theorem asleep_all {a : Array GenState} (h : AllBare a) : AllBare (a.map asleep) := fun y m => by
  obtain ⟨x, hx, rfl⟩ := Array.mem_map.mp m
  rw [asleep_bare]
  exact h x hx
/-- what is kept of the generators: those that sleep -/
def SameGens (a b : Array GenState) : Prop := ∀ (i : Nat) k l c p fs cl, a[i]? = some (GenState.suspended k l c p fs cl) → b[i]? = some (GenState.suspended k l c p fs cl)
theorem SameGens.refl {a : Array GenState} : SameGens a a := fun _ _ _ _ _ _ _ e => e
theorem SameGens.trans {a b c : Array GenState} (h : SameGens a b) (g : SameGens b c) : SameGens a c := fun i k l cc p fs cl e => g i k l cc p fs cl (h i k l cc p fs cl e)
/-- THE RULE: what is shown of a run from any generators holds while the sleepers sleep on -/
theorem wpAny_keep {M : Model} {A : Around} {α : Type} {t : Sem α} {Q : α → Shared → Prop} {E : Value → Shared → Prop} {s : Shared} (h : wpAny M A t Q E { s with gens := s.gens.map asleep }) :
    wpAny M A t (fun a s2 => ∃ s', Q a s' ∧ OkG s'.gens ∧ Rel s'.gens s2.gens ∧ s2 = { s' with gens := s2.gens } ∧ SameGens s.gens s2.gens) (fun e s2 => ∃ s', E e s' ∧ OkG s'.gens ∧ Rel s'.gens s2.gens ∧ s2 = { s' with gens := s2.gens } ∧ SameGens s.gens s2.gens) s := by
  intro Γ p hΓ
  have z := wp_swap t (h Γ p hΓ) (asleep_ok s.gens) s.gens (asleep_rel s.gens)
  have fin : ∀ {q : Shared → Prop} {s2 : Shared}, Post (s.gens.map asleep) s.gens q s2 → ∃ s', q s' ∧ OkG s'.gens ∧ Rel s'.gens s2.gens ∧ s2 = { s' with gens := s2.gens } ∧ SameGens s.gens s2.gens := fun {q s2} y => by
    obtain ⟨s', h1, h2, b', h3, h4, rfl⟩ := y
    refine ⟨s', h1, h2, h3, rfl, fun i k l c p fs cl e => ?_⟩
    have e2 : (s.gens.map asleep)[i]? = some (asleep (.suspended k l c p fs cl)) := by rw [Array.getElem?_map, e]; rfl
    exact ((h4 i _ e2 (fun _ => rfl)).2).trans e
  exact Sem.wp_mono _ _ _ (fun _ _ _ y => fin y) (fun _ _ _ y => fin y) _ _ z
end KH

/-! KH2: a generator def's body for any consumer: it is resumed at any heap that its consumer warrants. -/
namespace KH
open PySem PySem.Spec PyProof.Rows L2 GenW
/-- a state's heap below an address -/
def cutS (L : Nat) (s : Shared) : Shared := { s with heap := { s.heap with objs := s.heap.objs.extract 0 L } }
theorem cut_at {L : Nat} {s : Shared} (b : Nat) : (cutS L s).heap.objs[b]? = if b < L then s.heap.objs[b]? else none := by
  show (s.heap.objs.extract 0 L)[b]? = _
  rw [Array.getElem?_extract, Nat.zero_add]
  by_cases h1 : b < L
  · rw [if_pos h1]
    by_cases h2 : b < s.heap.objs.size
    · rw [if_pos (by omega)]
    · rw [if_neg (by omega)]
      symm
      exact Array.getElem?_eq_none_iff.mpr (by omega)
  · rw [if_neg h1, if_neg (by omega)]
theorem cut_get {L : Nat} {s : Shared} {b : Addr} {o : Obj} (h : (cutS L s).heap.get? b = some o) : b < L ∧ s.heap.get? b = some o := by
  unfold Heap.get? at h ⊢
  rw [cut_at] at h
  by_cases lt : b < L
  · rw [if_pos lt] at h
    exact ⟨lt, h⟩
  · rw [if_neg lt] at h
    cases h
theorem get_cut {L : Nat} {s : Shared} {b : Addr} {o : Obj} (lt : b < L) (h : s.heap.get? b = some o) : (cutS L s).heap.get? b = some o := by
  unfold Heap.get? at h ⊢
  rw [cut_at, if_pos lt]
  exact h
theorem cut_size {L : Nat} {s : Shared} (h : L ≤ s.heap.objs.size) : (cutS L s).heap.objs.size = L := by
  show (s.heap.objs.extract 0 L).size = L
  rw [Array.size_extract]
  omega
/-- a generator def, called: its frame's object at L, its own object at a -/
structure GN where
  prog : Program
  w : World
  K : PySem.W.Frag
  mg : Str → Option Value
  base : Heap
  N : List Str
  qual : Str
  scope : Scope
  L : Addr
  f : Addr
  cd : Value
  A : Around
  outer : List Env
  a : Addr
  go : Obj
  ops : List Addr
  most : Nat
abbrev GN.env (G : GN) : Env := envOfC G.qual G.scope G.L G.f G.cd
def GN.cx (G : GN) (s0 : Shared) (H0 : Hp) (pp : List (Addr × Obj)) : Cx where
  prog := G.prog
  w := G.w
  K := G.K
  mg := G.mg
  base := G.base
  A := G.A.deeper G.env
  N := G.N
  s_0 := s0
  H_0 := H0
  env := G.env
  outer := G.outer
  stack := G.env :: G.outer
  ex := []
  fn := fun _ => true
  calm := true
  pn := (G.a, G.go) :: pp
  xe := fun _ _ => False
abbrev GN.at (G : GN) (s0 : Shared) (H0 : Hp) : Cx := G.cx (cutS G.L s0) H0 (pinsAt G.ops s0.heap)
/-- its consumer's young objects, which it leaves alone -/
def Ow (ops : List Addr) (s : Shared) (H : Hp) : Prop := ∀ b ∈ ops, (∃ o, s.heap.get? b = some o ∧ ∀ v, o.data ≠ .cell v) ∧ H b = none
/-- what does not change of it -/
structure GN.Ok (G : GN) : Prop where
  kind : G.scope.kind = .function
  cells : cellsFrom (G.L + 1) G.scope.names [] = []
  plain : ∀ y ∈ G.scope.names, y.2 ≠ .cell ∧ y.2 ≠ .free
  hd : (G.A.deeper G.env).handled = none
  bsz : G.base.objs.size ≤ G.L
  old : ∀ b ∈ frs G.outer, b < G.L
  god : ∀ v, G.go.data ≠ .cell v
  al : G.L < G.a
  opl : ∀ b ∈ G.ops, G.L < b
/-- what the generator wakes in -/
abbrev GN.E0 (G : GN) (s' : Shared) (H' : Hp) : Prop := Env0 G.prog G.w G.K G.mg G.base G.A G.outer s' H'
theorem GN.Ok.cx {G : GN} (ok : G.Ok) {s' : Shared} {H' : Hp} (e0 : G.E0 s' H') (lt : G.L ≤ s'.heap.objs.size) : (G.at s' H').Ok where
  mod := e0.mod
  kind := ok.kind
  glob := rfl
  blt := rfl
  above := Nat.le_of_eq (cut_size lt)
  inj := fun x y c h => by
    have h : (cellsFrom (G.L + 1) G.scope.names []).lookup x = some c := h
    rw [ok.cells] at h
    cases h
  has := fun x h => by
    have h : G.scope.names.lookup x = some .cell ∨ G.scope.names.lookup x = some .free := h
    rcases h with h | h
    · exact absurd rfl (ok.plain _ (PySem.mem_of_lookup h)).1
    · exact absurd rfl (ok.plain _ (PySem.mem_of_lookup h)).2
  cab := fun x c _ h => by
    have h : (cellsFrom (G.L + 1) G.scope.names []).lookup x = some c := h
    rw [ok.cells] at h
    cases h
  hd := fun _ => ok.hd
  frames := Around.frames_deeper e0.frames
  stk := .inr ⟨rfl, rfl⟩
  exf := fun b z => absurd z List.not_mem_nil
  bs := fun b o e => ⟨get_cut (Nat.lt_of_lt_of_le (Heap.lt_size e) ok.bsz) (e0.bs b o e).1, (e0.bs b o e).2⟩
  bsz := by
    show G.base.objs.size ≤ (cutS G.L s').heap.objs.size
    rw [cut_size lt]
    exact ok.bsz
  noex := fun b o _ z => absurd z List.not_mem_nil
  exfs := fun b z => absurd z List.not_mem_nil
  funs := by
    have all : ∀ (l : List Env), (∀ b ∈ frs l, b < G.L) → s'.heap.FunFrames G.base l → (cutS G.L s').heap.FunFrames G.base l := by
      intro l
      induction l with
      | nil => intro _ _; trivial
      | cons env r ih =>
        intro hs hl
        obtain ⟨nm, ⟨L, o, hf, hn, ho, hd⟩, below⟩ := hl
        have hL : L < G.L := hs L (by unfold frs; rw [List.filterMap_cons, hf]; exact List.mem_cons_self)
        exact ⟨nm, ⟨L, o, hf, hn, get_cut hL ho, hd⟩, ih (fun b hb => hs b (by unfold frs; rw [List.filterMap_cons, hf]; exact List.mem_cons_of_mem _ hb)) below⟩
    exact all G.outer ok.old e0.funs
  frf := e0.frf
/-- its own things are as they were -/
def Kp (G : GN) (ip : List (Addr × Obj)) (s1 s' : Shared) (H' : Hp) : Prop := ∀ b, b = G.L ∨ b = G.a ∨ b ∈ ip.map (·.1) → (∀ o, s1.heap.get? b = some o → s'.heap.get? b = some o) ∧ H' b = none
/-- woken at another state and heap: what its frame holds, its own objects -/
theorem GN.Ok.wake_of {G : GN} (ok : G.Ok) {ip : List (Addr × Obj)} {σ : L2.St} {H' : Hp} {s1 s' : Shared} (loc : ∃ m, s1.heap.Ns G.L m ∧ ∀ (i : Nat) (x : Str) (v : V), G.N[i]? = some x → σ[i]? = some (some v) → Vis G.scope x → ∃ u, RelV v u ∧ Look G.env s1.heap m x u)
    (pins : ∀ p ∈ [(G.a, G.go)] ++ ip, s1.heap.get? p.1 = some p.2 ∧ p.1 ≠ G.L ∧ p.1 ∉ frs G.outer ∧ ∀ v, p.2.data ≠ .cell v) (len : σ.length = G.N.length) (e0 : G.E0 s' H') (k : Kp G ip s1 s' H') (ow : Ow G.ops s' H') : Inv (G.at s' H') ip σ H' s' := by
  obtain ⟨m, hn, hl⟩ := loc
  obtain ⟨oL, es, ep, hoL, r⟩ := id hn
  have hoL' : s1.heap.get? G.L = some oL := hoL
  have kL := (k G.L (.inl rfl)).1 oL hoL'
  have lt : G.L ≤ s'.heap.objs.size := Nat.le_of_lt (Heap.lt_size kL)
  have nocell : ∀ x c, (G.at s' H').env.cells.lookup x = some c → False := fun x c h => by
    have h : (cellsFrom (G.L + 1) G.scope.names []).lookup x = some c := h
    rw [ok.cells] at h
    cases h
  refine ⟨ok.cx e0 lt, rfl, e0.bare, Un.kept fun b o e => (cut_get e).2, ⟨m, ⟨oL, es, ep, kL, r⟩, fun i y v e1 e2 e3 => ?_⟩, fun x c h => (nocell x c h).elim, (k G.L (.inl rfl)).2, fun x c h => (nocell x c h).elim, fun p hp => ?_, e0.hok, len⟩
  · obtain ⟨u, ru, l⟩ := hl i y v e1 e2 e3
    refine ⟨u, ru, ?_⟩
    rcases l with l | ⟨_, c, h, _⟩
    · exact .inl l
    · exact (nocell y c h).elim
  · have mine : p ∈ [(G.a, G.go)] ++ ip → s'.heap.get? p.1 = some p.2 ∧ H' p.1 = none ∧ p.1 ≠ G.L ∧ p.1 ∉ frs G.outer ∧ ∀ v, p.2.data ≠ .cell v := fun hp => by
      obtain ⟨h1, h3, h4, h5⟩ := pins p hp
      have z := k p.1 (by
        rcases List.mem_append.mp hp with hz | hz
        · rw [List.mem_singleton.mp hz]; exact .inr (.inl rfl)
        · exact .inr (.inr (List.mem_map_of_mem hz)))
      exact ⟨z.1 _ h1, z.2, h3, h4, h5⟩
    have hp : p ∈ ((G.a, G.go) :: pinsAt G.ops s'.heap) ++ ip := hp
    rcases List.mem_append.mp hp with hz | hz
    · rcases List.mem_cons.mp hz with hz | hz
      · exact mine (List.mem_append_left _ (List.mem_singleton.mpr hz))
      · obtain ⟨hb, e⟩ := of_pinsAt hz
        obtain ⟨⟨o, e2, d⟩, n⟩ := ow p.1 hb
        rw [e2] at e
        cases e
        refine ⟨e2, n, Nat.ne_of_gt (ok.opl _ hb), fun z => ?_, d⟩
        exact absurd (Nat.lt_trans (ok.old _ z) (ok.opl _ hb)) (Nat.lt_irrefl _)
    · exact mine (List.mem_append_right _ hz)
theorem GN.Ok.woken {G : GN} (ok : G.Ok) {ip : List (Addr × Obj)} {σ : L2.St} {H0 H1 H' : Hp} {s0 s1 s' : Shared} (I : Inv (G.at s0 H0) ip σ H1 s1) (e0 : G.E0 s' H') (k : Kp G ip s1 s' H') (ow : Ow G.ops s' H') : Inv (G.at s' H') ip σ H' s' :=
  ok.wake_of I.loc (fun p hp => by
    obtain ⟨h1, h2, h3, h4, h5⟩ := I.pin p (by
      rcases List.mem_append.mp hp with z | z
      · exact List.mem_append_left _ (by rw [List.mem_singleton.mp z]; exact List.mem_cons_self)
      · exact List.mem_append_right _ z)
    exact ⟨h1, h3, h4, h5⟩) I.len e0 k ow
/-! ### the judgement -/
/-- what is wanted behind a statement: the number of what is out, the heap of the last waking; yl: of what is handed out; rs: of the heap at which one was handed out, and the heap of the next waking -/
structure GD where
  nx : Nat → Hp → L2.St → Hp → Prop
  rt : Nat → Hp → V → Hp → Prop
  bk : Nat → Hp → L2.St → Hp → Prop := fun _ _ _ _ => False
  ct : Nat → Hp → L2.St → Hp → Prop := fun _ _ _ _ => False
  yl : Nat → Hp → V → Hp → Prop
  rs : Nat → Hp → Hp → Prop
abbrev TW := GD → Nat → Hp → L2.St → Hp → Prop
def GD.at (D : GD) (j : Nat) (H0 : Hp) : Ends := { nx := D.nx j H0, rt := D.rt j H0, bk := D.bk j H0, ct := D.ct j H0 }
def HY (G : GN) (Tk : Nat → Shared → Hp → Prop) (yl : Nat → Hp → V → Hp → Prop) (rs : Nat → Hp → Hp → Prop) : Protocol := fun n s₀ v s1 kap =>
  ∃ j x ip σ H0 H1, n + 1 + j = G.most ∧ 1 ≤ n ∧ (∀ p ∈ ip, G.L ≤ p.1 ∧ p.1 ∉ G.ops) ∧ RelV x v ∧ Tk j s₀ H0 ∧ yl j H0 x H1 ∧ Inv (G.at s₀ H0) ip σ H1 s1 ∧ ∀ s' H', Tk (j + 1) s' H' → rs (j + 1) H1 H' → G.E0 s' H' → Kp G ip s1 s' H' → kap (.send .none) s'
def HSP (G : GN) (ip : List (Addr × Obj)) (D : GD) (j : Nat) (s₀ : Shared) (H0 : Hp) (f : Flow) (s : Shared) : Prop := SP (G.at s₀ H0) ip (D.at j H0) f s
/-- the place of its code, whoever wakes it -/
structure HC (G : GN) (c : Code) (fs : List Frame) (gd : Bool → Bool) : Prop where
  ok : G.Ok
  over : G.A.over c fs = G.A.deeper G.env
  split : splitAtGen fs = none
  guard : (fs.any Frame.guarded) = false
  gd : gd false = false
structure HK (G : GN) (Tk : Nat → Shared → Hp → Prop) (ip : List (Addr × Obj)) (R : GenEnd) (c : Code) (fs : List Frame) (Kf : Flow → Sem PySem.Fin) (D : GD) : Prop where
  ok : ∀ (n j : Nat) (s₀ s : Shared) (H0 : Hp) (f : Flow), n + j = G.most → Tk j s₀ H0 → HSP G ip D j s₀ H0 f s → Seg (model G.prog G.w) G.A R (HY G Tk D.yl D.rs) n s₀ c (Kf f) fs s
  lt : ∀ j s H, Tk j s H → G.L ≤ s.heap.objs.size ∧ Ow G.ops s H
  ip : ∀ p ∈ ip, G.L ≤ p.1 ∧ p.1 ∉ G.ops
structure GT (G : GN) (st : Stmt) (t : TW) : Prop where
  run : ∀ (Tk : Nat → Shared → Hp → Prop) (ip : List (Addr × Obj)) (R : GenEnd) (n j : Nat) (s₀ : Shared) (H0 : Hp) (c : Code) (fs : List Frame) (Kf : Flow → Sem PySem.Fin) (J : Value → Sem PySem.Fin) (gd : Bool → Bool) (lv : List Value → List Value) (s : Shared) (σ : L2.St) (H : Hp) (D : GD),
    HC G c fs gd → n + j = G.most → Tk j s₀ H0 → HK G Tk ip R c fs Kf D → Inv (G.at s₀ H0) ip σ H s → t D j H0 σ H → Seg (model G.prog G.w) G.A R (HY G Tk D.yl D.rs) n s₀ c ((exec st G.env).wrap Kf J gd lv) fs s
structure GTs (G : GN) (st : List Stmt) (t : TW) : Prop where
  run : ∀ (Tk : Nat → Shared → Hp → Prop) (ip : List (Addr × Obj)) (R : GenEnd) (n j : Nat) (s₀ : Shared) (H0 : Hp) (c : Code) (fs : List Frame) (Kf : Flow → Sem PySem.Fin) (J : Value → Sem PySem.Fin) (gd : Bool → Bool) (lv : List Value → List Value) (s : Shared) (σ : L2.St) (H : Hp) (D : GD),
    HC G c fs gd → n + j = G.most → Tk j s₀ H0 → HK G Tk ip R c fs Kf D → Inv (G.at s₀ H0) ip σ H s → t D j H0 σ H → Seg (model G.prog G.w) G.A R (HY G Tk D.yl D.rs) n s₀ c ((execs st G.env).wrap Kf J gd lv) fs s
section
variable {G : GN} {st : Stmt} {rest : List Stmt}
def tWPlain (t : TS) : TW := fun D j H0 σ H => t (D.at j H0) σ H
theorem gt_ps {t : TS} (h : ∀ s0 H0 pp, PS (G.cx s0 H0 pp) st t) : GT G st (tWPlain t) := by
  refine ⟨fun Tk ip R n j s₀ H0 c fs Kf J gd lv s σ H D g hn tk k I ht => ?_⟩
  refine seg_wrap ?_
  rw [g.over]
  exact wpAny_mono ((h _ H0 _).run _ s σ H (D.at j H0) I ht) (fun f s' hs => k.ok n j s₀ s' H0 f hn tk hs) fun x s' hx => hx.elim
def tW0 : TW := fun D j H0 σ H => D.nx j H0 σ H
theorem gts_nil : GTs G [] tW0 := by
  refine ⟨fun Tk ip R n j s₀ H0 c fs Kf J gd lv s σ H D g hn tk k I ht => ?_⟩
  exact seg_execs_nil (k.ok n j s₀ s H0 .next hn tk ⟨σ, H, I, ht⟩)
def tWThen (t u : TW) : TW := fun D j H0 σ H => t { D with nx := fun j' H0' σ' H' => u D j' H0' σ' H' } j H0 σ H
theorem gts_cons {t u : TW} (a : GT G st t) (b : GTs G rest u) : GTs G (st :: rest) (tWThen t u) := by
  refine ⟨fun Tk ip R n j s₀ H0 c fs Kf J gd lv s σ H D g hn tk k I ht => ?_⟩
  refine seg_execs_cons ?_
  refine a.run Tk ip R n j s₀ H0 c fs _ J gd lv s σ H { D with nx := fun j' H0' σ' H' => u D j' H0' σ' H' } g hn tk ⟨fun n' j' s₀' s' H0' f hn' tk' hs => ?_, k.lt, k.ip⟩ I ht
  cases f with
  | next =>
    obtain ⟨σ', H', I', q⟩ := hs
    exact b.run Tk ip R n' j' s₀' H0' c fs Kf J gd lv s' σ' H' D g hn' tk' k I' q
  | brk => exact k.ok n' j' s₀' s' H0' .brk hn' tk' hs
  | cont => exact k.ok n' j' s₀' s' H0' .cont hn' tk' hs
  | ret u => exact k.ok n' j' s₀' s' H0' (.ret u) hn' tk' hs
/-! ### yield -/
def tWYield (m : Nat) (te : TE) : TW := fun D j H0 σ H => j + 1 < m ∧ te σ H fun x H1 => D.yl j H0 x H1 ∧ ∀ H2, D.rs (j + 1) H1 H2 → D.nx (j + 1) H2 σ H2
theorem gt_yield {e : Expr} {yp pos : Pos} {te : TE} (he : ∀ s0 H0 pp, PE (G.cx s0 H0 pp) e te) (hco : G.env.scope.isCoroutine = false := by rfl) (hi : interactive G.env = false := by rfl) : GT G (.Expr (.Yield (some e) yp) pos) (tWYield G.most te) := by
  refine ⟨fun Tk ip R n j s₀ H0 c fs Kf J gd lv s σ H D g hn tk k I ht => ?_⟩
  obtain ⟨hlt, ht⟩ := ht
  obtain ⟨left, rfl⟩ : ∃ left, n = left + 1 := ⟨n - 1, by omega⟩
  refine seg_Expr_Yield (hfs := g.split) (hgd := g.gd) (hfg := g.guard) ?_ hco hi
  rw [g.over]
  refine wpAny_mono ((he _ H0 _).run _ s σ H _ I ht) (fun v s' hv => ?_) fun x s' hx => hx.elim
  obtain ⟨x, H1, I1, rv, q1, q2⟩ := hv
  intro kap hk
  refine ⟨j, x, ip, σ, H0, H1, hn, by omega, k.ip, rv, tk, q1, I1, fun s'' H'' tk' r' e0 kp => hk .none s'' ?_⟩
  exact k.ok left (j + 1) s'' s'' H'' .next (by omega) tk' ⟨σ, H'', g.ok.woken I1 e0 kp (k.lt _ _ _ tk').2, q2 H'' r'⟩
/-! ### if -/
def tWIf (tc : TT) (t1 t2 : TW) : TW := fun D j H0 σ H => tc σ H fun b H1 => if b = true then t1 D j H0 σ H1 else t2 D j H0 σ H1
theorem gt_if {test : Expr} {b1 b2 : List Stmt} {pos : Pos} {tc : TT} {t1 t2 : TW} (hc : ∀ s0 H0 pp, PT (G.cx s0 H0 pp) test tc) (h1 : GTs G b1 t1) (h2 : GTs G b2 t2) : GT G (.If test b1 b2 pos) (tWIf tc t1 t2) := by
  refine ⟨fun Tk ip R n j s₀ H0 c fs Kf J gd lv s σ H D g hn tk k I ht => ?_⟩
  rw [exec_If]
  refine seg_bind_wrap (m := standAt _) (wpAny_standAt ?_)
  refine seg_bind_wrap ?_
  rw [g.over]
  refine wpAny_mono ((hc _ H0 _).run _ s σ H _ I ht) (fun b s' hb => ?_) fun x s' hx => hx.elim
  obtain ⟨H2, I2, q2⟩ := hb
  cases b with
  | true =>
    rw [if_pos rfl] at q2 ⊢
    exact h1.run Tk ip R n j s₀ H0 c fs Kf J gd lv s' σ H2 D g hn tk k I2 q2
  | false =>
    rw [if_neg Bool.false_ne_true] at q2 ⊢
    exact h2.run Tk ip R n j s₀ H0 c fs Kf J gd lv s' σ H2 D g hn tk k I2 q2
/-! ### loops -/
theorem hc_loop {c c' : Code} {fs : List Frame} {gd : Bool → Bool} {k : Result → Sem PySem.Fin} {l kp : List Value} {p : Pos} (g : HC G c fs gd) (hw : c'.weight = 0) (hu : c'.cUnits = 0) : HC G c' (.ret k none (gd false) l c p kp :: fs) id where
  ok := g.ok
  over := by rw [over_loop hw hu]; exact g.over
  split := by
    show ((splitAtGen fs).map _) = none
    rw [g.split]; rfl
  guard := by
    show (gd false || (fs.any Frame.guarded)) = false
    rw [g.gd, g.guard]; rfl
  gd := rfl
def tWWhile (c : TT) (tb : TW) : TW := fun D j H0 σ H => ∃ W : Nat → Nat → Hp → L2.St → Hp → Prop, (∃ m, W m j H0 σ H) ∧ ∀ m j H0 σ H, W m j H0 σ H →
  c σ H fun b H1 => if b = true then ∃ N : Nat → Hp → L2.St → Hp → Prop, (∀ j' H0' σ' H', N j' H0' σ' H' → ∃ m', m' < m ∧ W m' j' H0' σ' H') ∧ tb { D with nx := N, ct := N, bk := D.nx } j H0 σ H1 else D.nx j H0 σ H1
theorem gt_while {test : Expr} {body : List Stmt} {pos : Pos} {tc : TT} {tb : TW} (hc : ∀ s0 H0 pp, PT (G.cx s0 H0 pp) test tc) (hb : GTs G body tb) : GT G (.While test body [] pos) (tWWhile tc tb) := by
  refine ⟨fun Tk ip R n j s₀ H0 c fs Kf J gd lv s σ H D g hn tk k I ht => ?_⟩
  obtain ⟨W, ⟨m0, begun⟩, turn⟩ := ht
  refine seg_While fun p => ?_
  have gl := fun (kk : Result → Sem PySem.Fin) => hc_loop (k := kk) (c' := .whileLoop test body [] G.env) (l := lv []) (kp := []) (p := p) g rfl rfl
  have loop : ∀ (m n j : Nat) (s₀ s : Shared) (H0 : Hp) (σ : L2.St) (H : Hp), n + j = G.most → Tk j s₀ H0 → W m j H0 σ H → Inv (G.at s₀ H0) ip σ H s →
      Seg (model G.prog G.w) G.A R (HY G Tk D.yl D.rs) n s₀ (.whileLoop test body [] G.env) ((model G.prog G.w).den (.whileLoop test body [] G.env))
        (.ret (fun r => ((match r with | .ok f => (.pure f : Sem Flow) | .error e => .raise e).onRaise (cameBack G.env)).wrap Kf J gd lv) none (gd false) (lv []) c p [] :: fs) s := by
    intro m
    induction m using Nat.strongRecOn with | ind m ih =>
      intro n j s₀ s H0 σ H hn tk w I
      refine seg_whileLoop ?_
      rw [(gl _).over]
      refine wpAny_mono ((hc _ H0 _).run _ s σ H _ I (turn m j H0 σ H w)) (fun b s' hb' => ?_) fun x s' hx => hx.elim
      obtain ⟨H2, I2, q2⟩ := hb'
      cases b with
      | true =>
        obtain ⟨N, hN, q2⟩ := q2
        rw [if_pos rfl]
        refine hb.run Tk ip R n j s₀ H0 _ _ _ _ id id s' σ H2 { D with nx := N, ct := N, bk := D.nx } (gl _) hn tk ⟨fun n' j' s₀' s3 H0' f hn' tk' hs => ?_, k.lt, k.ip⟩ I2 q2
        cases f with
        | next =>
          obtain ⟨σ3, H3, I3, n3⟩ := hs
          obtain ⟨m', hm, w3⟩ := hN j' H0' σ3 H3 n3
          exact seg_again rfl (ih m' hm n' j' s₀' s3 H0' σ3 H3 hn' tk' w3 I3)
        | cont =>
          obtain ⟨σ3, H3, I3, n3⟩ := hs
          obtain ⟨m', hm, w3⟩ := hN j' H0' σ3 H3 n3
          exact seg_again rfl (ih m' hm n' j' s₀' s3 H0' σ3 H3 hn' tk' w3 I3)
        | brk => exact seg_leaf (.ok .next) (k.ok n' j' s₀' s3 H0' .next hn' tk' hs)
        | ret v => exact seg_leaf (.ok (.ret v)) (k.ok n' j' s₀' s3 H0' (.ret v) hn' tk' hs)
      | false =>
        rw [if_neg (show ¬ false = true from Bool.false_ne_true)]
        refine seg_execs_nil ?_
        exact seg_leaf (.ok .next) (k.ok n j s₀ s' H0 .next hn tk ⟨σ, H2, I2, q2⟩)
  exact loop m0 n j s₀ s H0 σ H hn tk begun I
/-! ### for -/
def tWFor (wi : TI) (g : TG) (tb : TW) : TW := fun D j H0 σ H => wi σ H fun J H1 => ∃ W : Nat → Nat → Nat → Hp → L2.St → Hp → Prop, (∃ m, W 0 m j H0 σ H1) ∧ ∀ i m j H0 σ H, W i m j H0 σ H →
  (J.stop i H ∧ D.nx j H0 σ H) ∨ (J.go i H ∧ ∃ N : Nat → Hp → L2.St → Hp → Prop, (∀ j' H0' σ' H', N j' H0' σ' H' → ∃ m', m' < m ∧ W (i + 1) m' j' H0' σ' H') ∧ ∀ x H', J.yld i H x H' → g x σ H' fun σ2 H2 => tb { D with nx := N, ct := N, bk := D.nx } j H0 σ2 H2)
theorem fp_move {s₀ s₀' : Shared} {H0 H0' H H' : Hp} {ip : List (Addr × Obj)} {b : Addr} (l : G.L ≤ s₀.heap.objs.size) (l' : G.L ≤ s₀'.heap.objs.size) (no : b ∉ G.ops) (h : FpOk (G.at s₀ H0) ip H b) (hn : H' b = none) : FpOk (G.at s₀' H0') ip H' b := by
  obtain ⟨z1, z2, z3, z4, z5, z6⟩ := h
  refine ⟨hn, z2, z3, ?_, z5, fun p hp => ?_⟩
  rotate_left
  · have hp : p ∈ ((G.a, G.go) :: pinsAt G.ops s₀'.heap) ++ ip := hp
    rcases List.mem_append.mp hp with hz | hz
    · rcases List.mem_cons.mp hz with hz | hz
      · exact z6 p (List.mem_append_left _ (by rw [hz]; exact List.mem_cons_self))
      · exact fun e => no (e ▸ (of_pinsAt hz).1)
    · exact z6 p (List.mem_append_right _ hz)
  rcases z4 with z | z
  · exact .inl z
  · right
    have z : (cutS G.L s₀).heap.objs.size ≤ b := z
    show (cutS G.L s₀').heap.objs.size ≤ b
    rw [cut_size l] at z
    rw [cut_size l']
    exact z
theorem fp_no {s₀ : Shared} {H0 H : Hp} {ip : List (Addr × Obj)} {b : Addr} (ow : Ow G.ops s₀ H0) (h : FpOk (G.at s₀ H0) ip H b) : b ∉ G.ops := fun m => by
  obtain ⟨⟨o, e, _⟩, _⟩ := ow b m
  exact h.2.2.2.2.2 (b, o) (List.mem_append_left _ (List.mem_cons_of_mem _ (mem_pinsAt m e))) rfl
theorem gt_for {tg iter : Expr} {body : List Stmt} {wi : TI} {g : TG} {tb : TW} {pos : Pos} (hi : ∀ s0 H0 pp, PI (G.cx s0 H0 pp) tg iter wi) (hg : ∀ s0 H0 pp, PG (G.cx s0 H0 pp) tg g) (hb : GTs G body tb) (hs : ∀ x, foldedSetIterable iter G.env x = pure x := by intro _; rfl) : GT G (.For tg iter body [] pos) (tWFor wi g tb) := by
  refine ⟨fun Tk ip R n j s₀ H0 c fs Kf J gd lv s σ H D gc hn tk k I ht => ?_⟩
  rw [exec_For]
  refine seg_bind_wrap (m := standAt _) (wpAny_standAt ?_)
  refine seg_bind_wrap ?_
  rw [gc.over]
  refine wpAny_mono ((hi _ H0 _).run _ s σ H _ I ht) (fun v s1 h1 => ?_) fun x s' hx => hx.elim
  refine seg_bind_wrap (wpAny_of_eq (hs v) ?_)
  refine seg_bind_wrap (m := standAt _) (wpAny_standAt ?_)
  refine seg_bind_wrap (m := holding _ _) (wpAny_holding ?_)
  rw [gc.over]
  refine wpAny_mono h1 (fun itv s2 h2 => ?_) fun x s' hx => hx.elim
  obtain ⟨it, fp, tn, JJ, H2, rfl, I2, T, st2, f2, W, ⟨m0, w0⟩, turn⟩ := h2
  refine seg_call fun p => ?_
  have gl := fun (kk : Result → Sem PySem.Fin) => hc_loop (k := kk) (c' := .forLoop tg (.ref it) body [] G.env) (l := lv []) (kp := []) (p := p) gc rfl rfl
  have loop : ∀ (m i n j : Nat) (s₀ s : Shared) (H0 : Hp) (σ : L2.St) (H : Hp), n + j = G.most → Tk j s₀ H0 → W i m j H0 σ H → Inv (G.at s₀ H0) ip σ H s → tn i s.heap → (∀ b ∈ fp, FpOk (G.at s₀ H0) ip H b) →
      Seg (model G.prog G.w) G.A R (HY G Tk D.yl D.rs) n s₀ (.forLoop tg (.ref it) body [] G.env) ((model G.prog G.w).den (.forLoop tg (.ref it) body [] G.env))
        (.ret (fun r => ((match r with | .ok f => (.pure f : Sem Flow) | .error e => .raise e).onRaise (cameBack G.env)).wrap Kf J gd lv) none (gd false) (lv []) c p [] :: fs) s := by
    intro m
    induction m using Nat.strongRecOn with | ind m ih =>
      intro i n j s₀ s H0 σ H hn tk w I st f
      refine KGen.seg_for_ ?_
      rw [(gl _).over]
      rcases turn i m j H0 σ H w with ⟨stop, qn⟩ | ⟨go, N, hN, step⟩
      · refine wpAny_mono (T.done (G.at s₀ H0) rfl rfl rfl rfl i _ s σ H (fun _ _ => False) I f st stop) (fun r' s3 hr => ?_) fun x s' hx => hx.elim
        obtain ⟨rfl, I3⟩ := hr
        refine seg_again rfl ?_
        show Seg _ _ _ _ _ _ _ (((execs [] G.env).onRaise (fun x => do noteFrame x G.env; theTreesLotGoes x)) >>= fun f => pure (.done f)) _ _
        exact seg_leaf (.ok .next) (k.ok n j s₀ s3 H0 .next hn tk ⟨σ, H, I3, qn⟩)
      · refine wpAny_mono (T.item (G.at s₀ H0) rfl rfl rfl rfl i _ s σ H (fun _ _ => False) I f st go) (fun r' s3 hr => ?_) fun x s' hx => hx.elim
        obtain ⟨u, rfl, h3⟩ := hr
        refine wpAny_mono h3 (fun _ s5 h5 => ?_) fun x s' hx => hx.elim
        obtain ⟨x5, H5, I5, r5, y5, st5, fr5⟩ := h5
        have f5 : ∀ b ∈ fp, FpOk (G.at s₀ H0) ip H5 b := fun b hb => ⟨fr5 b hb, (f b hb).2⟩
        have I5' := I5.pinned f5 (T.obj _ _ st5)
        refine wpAny_mono ((hg _ H0 _).run _ s5 σ H5 x5 u _ I5' r5 (step x5 H5 y5)) (fun _ s6 h6 => ?_) fun x s' hx => hx.elim
        obtain ⟨σ6, H6, I6, q6⟩ := h6
        refine hb.run Tk (ip ++ pinsAt fp s5.heap) R n j s₀ H0 _ _ _ _ id id s6 σ6 H6 { D with nx := N, ct := N, bk := D.nx } (gl _) hn tk ⟨fun n' j' s₀' s7 H0' fl hn' tk' hs' => ?_, k.lt, fun q hq => ?_⟩ I6 q6
        rotate_left
        · rcases List.mem_append.mp hq with mine | mine
          · exact k.ip q mine
          · obtain ⟨hb', _⟩ := of_pinsAt mine
            refine ⟨?_, fp_no (k.lt _ _ _ tk).2 (f q.1 hb')⟩
            rcases (f q.1 hb').2.2.2.1 with z | z
            · exact absurd z List.not_mem_nil
            · have z : (cutS G.L s₀).heap.objs.size ≤ q.1 := z
              rw [cut_size (k.lt _ _ _ tk).1] at z
              exact z
        have again : ∀ {σ7 : L2.St} {H7 : Hp}, Inv (G.at s₀' H0') (ip ++ pinsAt fp s5.heap) σ7 H7 s7 → N j' H0' σ7 H7 → Seg (model G.prog G.w) G.A R (HY G Tk D.yl D.rs) n' s₀' (.forLoop tg (.ref it) body [] G.env) (.pure (.again (.forLoop tg (.ref it) body [] G.env)))
            (.ret (fun r => ((match r with | .ok f => (.pure f : Sem Flow) | .error e => .raise e).onRaise (cameBack G.env)).wrap Kf J gd lv) none (gd false) (lv []) c p [] :: fs) s7 := fun {σ7 H7} I7 n7 => by
          obtain ⟨m', hm, w7⟩ := hN j' H0' σ7 H7 n7
          have at7 : ∀ b ∈ fp, ∀ o, s5.heap.get? b = some o → s7.heap.get? b = some o ∧ H7 b = none := fun b hb o e => by
            have z := I7.pin (b, o) (List.mem_append_right _ (List.mem_append_right _ (mem_pinsAt hb e)))
            exact ⟨z.1, z.2.1⟩
          refine seg_again rfl (ih m' hm (i + 1) n' j' s₀' s7 H0' σ7 H7 hn' tk' w7 I7.unpinned (T.keep _ _ _ st5 fun b hb o e => (at7 b hb o e).1) fun b hb => ?_)
          obtain ⟨o, e, _⟩ := T.obj _ _ st5 b hb
          exact fp_move (k.lt _ _ _ tk).1 (k.lt _ _ _ tk').1 (fp_no (k.lt _ _ _ tk).2 (f b hb)) (f b hb) (at7 b hb o e).2
        cases fl with
        | next => obtain ⟨σ7, H7, I7, n7⟩ := hs'; exact again I7 n7
        | cont => obtain ⟨σ7, H7, I7, n7⟩ := hs'; exact again I7 n7
        | brk => obtain ⟨σ7, H7, I7, q7⟩ := hs'; exact seg_leaf (.ok .next) (k.ok n' j' s₀' s7 H0' .next hn' tk' ⟨σ7, H7, I7.unpinned, q7⟩)
        | ret v => obtain ⟨x7, σ7, H7, I7, r7, q7⟩ := hs'; exact seg_leaf (.ok (.ret v)) (k.ok n' j' s₀' s7 H0' (.ret v) hn' tk' ⟨x7, σ7, H7, I7.unpinned, r7, q7⟩)
  exact loop m0 0 n j s₀ s2 H0 σ H2 hn tk w0 I2 st2 f2
end
/-! ### a generator def -/
theorem cells_none : ∀ (l : List (Str × NameKind)) (n : Nat), (∀ y ∈ l, y.2 ≠ .cell) → cellsFrom n l [] = []
  | [], _, _ => rfl
  | (x, k) :: r, n, h => by
    have hk : k ≠ .cell := h (x, k) List.mem_cons_self
    show (if k == .cell then _ else cellsFrom n r []) = []
    rw [if_neg (show ¬ (k == .cell) = true by simpa using hk)]
    exact cells_none r n fun y m => h y (List.mem_cons_of_mem _ m)
/-- what is wanted of a generator def's call: rs: what its consumer warrants of the heap of the j-th waking beside the one handed out last (at first that of the call); yl: of what is handed out; en: of its end -/
abbrev SpH := List V → Hp → (Nat → Hp → Hp → Prop) → (Nat → Hp → V → Hp → Prop) → (Nat → Hp → Hp → Prop) → Prop
def HF (G : GN) (Tk : Nat → Shared → Hp → Prop) (en : Nat → Hp → Hp → Prop) (n : Nat) (s₀ s1 : Shared) : Prop :=
  ∃ j H0 H1, n + j = G.most ∧ Tk j s₀ H0 ∧ en j H0 H1 ∧ s1.os = s₀.os ∧ AllBare s1.gens ∧ Un (frs G.outer) [] H0 H1 (cutS G.L s₀).heap s1.heap ∧ HOk G.prog G.w H1 s1.heap ∧ ∀ p ∈ pinsAt G.ops s₀.heap, s1.heap.get? p.1 = some p.2 ∧ H1 p.1 = none
abbrev HR (G : GN) (Tk : Nat → Shared → Hp → Prop) (en : Nat → Hp → Hp → Prop) : GenEnd := fun n s₀ r s1 => r = .ok (.ret .none) ∧ HF G Tk en n s₀ s1
/-- what such a call gives: a generator that has not begun -/
def HMade (P : Program) (w : World) (K : PySem.W.Frag) (mg : Str → Option Value) (base : Heap) (k most : Nat) (outer : List Env) (s : Shared) (Hc : Hp) (rs : Nat → Hp → Hp → Prop) (yl : Nat → Hp → V → Hp → Prop) (en : Nat → Hp → Hp → Prop) (u : Value) (s' : Shared) : Prop :=
  ∃ (N : List Str) (qual : Str) (scope : Scope) (f : Addr) (cd : Value) (a g : Nat) (go : Obj) (c : Code), u = .ref a ∧ s.heap.objs.size < a ∧ s'.heap.get? a = some go ∧ (∀ h : Heap, h.get? a = some go → h.IsGen a g) ∧ (∀ v, go.data ≠ .cell v) ∧ s'.gens[g]? = some (.fresh c) ∧ s'.os = s.os ∧ AllBare s'.gens ∧
    (∃ oL, s'.heap.get? s.heap.objs.size = some oL ∧ ∀ v, oL.data ≠ .cell v) ∧ (∀ b o, s.heap.get? b = some o → s'.heap.get? b = some o) ∧
    ∀ (A : Around) (ops : List Addr) (Tk : Nat → Shared → Hp → Prop), Room k A → A.frames = some outer → (∀ b ∈ ops, s.heap.objs.size < b) → (∀ j s2 H2, Tk j s2 H2 → s.heap.objs.size ≤ s2.heap.objs.size ∧ Ow ops s2 H2) → (GN.mk P w K mg base N qual scope s.heap.objs.size f cd A outer a go ops most).Ok ∧ ∀ (s2 : Shared) (H2 : Hp), Tk 0 s2 H2 → rs 0 Hc H2 → Env0 P w K mg base A outer s2 H2 → Kp (GN.mk P w K mg base N qual scope s.heap.objs.size f cd A outer a go ops most) [] s' s2 H2 →
      Seg (model P w) A (HR (GN.mk P w K mg base N qual scope s.heap.objs.size f cd A outer a go ops most) Tk en) (HY (GN.mk P w K mg base N qual scope s.heap.objs.size f cd A outer a go ops most) Tk yl rs) most s2 c ((model P w).den c) [] s2
structure HFn (P : Program) (w : World) (K : PySem.W.Frag) (mg : Str → Option Value) (base : Heap) (k most : Nat) (f : Addr) (fd : FuncData) (ps : List Str) (sp : SpH) : Prop where
  len : ∀ vs H rs yl en, sp vs H rs yl en → vs.length = ps.length
  run : ∀ (A : Around) (outer : List Env) (s : Shared) (H : Hp) (args : Args) (us : List Value) (vs : List V) (rs : Nat → Hp → Hp → Prop) (yl : Nat → Hp → V → Hp → Prop) (en : Nat → Hp → Hp → Prop), Room k A → Env0 P w K mg base A outer s H → BindsTo s fd args (ps.zip us) → Vals vs us → sp vs H rs yl en →
    codeAny (model P w) A (.call (.ref f) args) (fun r s' => match r with | .ok (.ret u) => HMade P w K mg base k most outer s H rs yl en u s' | _ => False) s
theorem hfn_of {P : Program} {w : World} {K : PySem.W.Frag} {mg : Str → Option Value} {base : Heap} {k most : Nat} {f : Addr} {name qual : Str} {params : Arguments} {body : List Stmt} {scope : Scope} {dV kV doc pm cdv ct oc : Value} {an od : Option Addr}
    {osl : Array (Option Value)} {N ps : List Str} {sp : SpH} (look : K.lookup f = some ⟨oc, od, .func (PySem.W.fnOf name qual params body scope dV kV doc pm an cdv ct), osl⟩) (codeK : PySem.W.codeIn K cdv qual = true) (S : GScope N ps scope) (plain : ∀ y ∈ scope.names, y.2 ≠ .cell ∧ y.2 ≠ .free)
    (len : ∀ vs H rs yl en, sp vs H rs yl en → vs.length = ps.length)
    (hbody : ∀ (A : Around) (outer : List Env) (L a : Addr) (go : Obj) (ops : List Addr) (vs : List V) (H : Hp) (rs : Nat → Hp → Hp → Prop) (yl : Nat → Hp → V → Hp → Prop) (en : Nat → Hp → Hp → Prop), Room k (A.deeper (envOfC qual scope L f cdv)) → sp vs H rs yl en →
      ∃ t, GTs (GN.mk P w K mg base N qual scope L f cdv A outer a go ops most) body t ∧ ∀ H0, rs 0 H H0 → t { nx := fun j H0 _ H' => en j H0 H', rt := fun j H0 v H' => v = .non ∧ en j H0 H', yl := yl, rs := rs } 0 H0 (start N vs) H0) :
    HFn P w K mg base (k + 1) most f (PySem.W.fnOf name qual params body scope dV kV doc pm an cdv ct) ps sp := by
  refine ⟨len, fun A outer s H args us vs rs yl en room ent binds r hsp => ?_⟩
  have lens := len _ _ _ _ _ hsp
  have inK : K.In s.heap := ent.mod.kin.keeps fun b o e => (ent.bs b o e).1
  have noLim : s.heap.NoLimit := ent.mod.nolimit.keeps fun b o e => (ent.bs b o e).1
  have parKinds : ∀ y ∈ ps.zip us, scope.names.lookup y.1 = some .local ∨ (scope.names.lookup y.1 = some .cell ∧ ((cellsFrom (s.heap.objs.size + 1) scope.names []).lookup y.1).isSome = true) := fun ⟨n, v⟩ hy => by
    cases S.par n (List.of_mem_zip hy).1 with
    | inl here => exact .inl here
    | inr cell => exact absurd rfl (plain _ (PySem.mem_of_lookup cell)).1
  refine codeAny_call_generator room.depth (inK _ _ look) rfl S.co S.gen rfl (PySem.W.codeRec_of inK codeK) (binds _ _ _ _ ?_)
  refine wpAny_newFunctionEnv_cells S.kind parKinds fun env he s1 x => ?_
  subst he
  have noLim1 : s1.heap.NoLimit := noLim.keeps x.toInCall.keep
  refine ⟨noLim1, ?_⟩
  obtain ⟨h1, tk, eqS, keepS⟩ := x.done
  have sameOs : s1.os = s.os := by rw [eqS]
  have sameGens : s1.gens = s.gens := by rw [eqS]
  have youngL : s.heap.objs.size < s1.heap.objs.size := x.toInCall.ns.lt
  have keepAll : ∀ b o, s.heap.get? b = some o → s1.heap.get? b = some o := x.toInCall.keep
  have atStart : Inv (gcxOf P w K mg base N qual scope f cdv A outer s H (fun _ _ _ => False) []) [] (start N vs) H s1 := inv_startG S room.hd ent lens r x
  have made : ∀ (go : Obj) (nm qn : Value) (tokens : Nat), go.cls = .type "generator" → go.data = .fields #[.int s1.gens.size 0, nm, qn] → go.slots = #[] → (∀ h : Heap, (h.push go).get? h.objs.size = some go) →
      HMade P w K mg base (k + 1) most outer s H rs yl en (.ref s1.heap.objs.size) { s1 with gens := s1.gens.push (.fresh (.func body (envOfC qual scope s.heap.objs.size f cdv))), toks := tokens, heap := s1.heap.push go } := by
    intro go nm qn tokens gCls gData gSlots gAt
    have isG : ∀ h : Heap, h.get? s1.heap.objs.size = some go → h.IsGen s1.heap.objs.size s1.gens.size := fun h e => ⟨go, nm, qn, e, gCls, gData, gSlots⟩
    have atA : (s1.heap.push go).get? s1.heap.objs.size = some go := gAt _
    have gPlain : ∀ v, go.data ≠ .cell v := fun v q => by rw [gData] at q; cases q
    obtain ⟨m, hn, hlk⟩ := atStart.loc
    obtain ⟨oL, es, ep, hoL, hdL, rL⟩ := id hn
    have hoL' : s1.heap.get? s.heap.objs.size = some oL := hoL
    refine ⟨N, qual, scope, f, cdv, s1.heap.objs.size, s1.gens.size, go, _, rfl, youngL, atA, isG, gPlain, Array.getElem?_push_size .., sameOs, AllBare.push (by rw [sameGens]; exact ent.bare) rfl, ⟨oL, Heap.get?_push_of_some _ hoL', fun v q => by rw [hdL] at q; cases q⟩, fun b o e => Heap.get?_push_of_some _ (keepAll b o e), ?_⟩
    intro Aw ops Tk hrw hfr hops htk
    have ok : (GN.mk P w K mg base N qual scope s.heap.objs.size f cdv Aw outer s1.heap.objs.size go ops most).Ok := {
      kind := S.kind
      cells := cells_none _ _ fun y m => (plain y m).1
      plain := plain
      hd := hrw.hd
      bsz := ent.bsz
      old := fun b binds => by
        obtain ⟨_, o, ho, _⟩ := ent.funs.mem binds
        exact Heap.lt_size ho
      god := gPlain
      al := youngL
      opl := hops }
    refine ⟨ok, fun s2 H2 tk0 r0 e2 kp => ?_⟩
    obtain ⟨t, ht, hq⟩ := hbody Aw outer s.heap.objs.size s1.heap.objs.size go ops vs H rs yl en (hrw.deeper _) hsp
    have I2 : Inv ((GN.mk P w K mg base N qual scope s.heap.objs.size f cdv Aw outer s1.heap.objs.size go ops most).at s2 H2) [] (start N vs) H2 s2 := by
      refine ok.wake_of (s1 := { s1 with gens := s1.gens.push (.fresh (.func body (envOfC qual scope s.heap.objs.size f cdv))), toks := tokens, heap := s1.heap.push go }) ⟨m, ⟨oL, es, ep, Heap.get?_push_of_some _ hoL', hdL, rL⟩, fun i y v e1 e2 e3 => ?_⟩ (fun p hp => ?_) atStart.len e2 kp (htk _ _ _ tk0).2
      · obtain ⟨u, ru, l⟩ := hlk i y v e1 e2 e3
        refine ⟨u, ru, ?_⟩
        rcases l with l | ⟨kk, c, h, hc⟩
        · exact .inl l
        · refine .inr ⟨kk, c, h, ?_⟩
          obtain ⟨oc, ho, hd⟩ := hc
          exact ⟨oc, Heap.get?_push_of_some _ ho, hd⟩
      · rcases List.mem_append.mp hp with own | own
        · rw [List.mem_singleton.mp own]
          exact ⟨atA, Nat.ne_of_gt youngL, atStart.nofs (Nat.le_refl _), gPlain⟩
        · exact absurd own List.not_mem_nil
    refine seg_func ?_
    refine ht.run Tk [] _ most 0 s2 H2 _ [] _ _ id id s2 (start N vs) H2 _ ⟨ok, over_func, rfl, rfl, rfl⟩ rfl tk0 ⟨fun n j s₀ s' H0 fl hn tk' hs => ?_, fun j s2 H2 z => htk j s2 H2 z, fun p hp => absurd hp List.not_mem_nil⟩ I2 (hq H2 r0)
    have fin : ∀ {σ' : L2.St} {H' : Hp}, Inv ((GN.mk P w K mg base N qual scope s.heap.objs.size f cdv Aw outer s1.heap.objs.size go ops most).at s₀ H0) [] σ' H' s' → en j H0 H' → HR (GN.mk P w K mg base N qual scope s.heap.objs.size f cdv Aw outer s1.heap.objs.size go ops most) Tk en n s₀ (.ok (.ret .none)) s' := fun {σ' H'} I' q =>
      ⟨rfl, j, H0, H', hn, tk', q, I'.os, I'.bare, I'.base, I'.hok, fun p hp => by obtain ⟨z1, z2, _⟩ := I'.pin p (List.mem_append_left _ (List.mem_cons_of_mem _ hp)); exact ⟨z1, z2⟩⟩
    cases fl with
    | next =>
      obtain ⟨σ', H', I', q⟩ := hs
      exact seg_end (.ok (.ret .none)) (fin I' q)
    | brk => obtain ⟨_, _, _, no⟩ := hs; exact no.elim
    | cont => obtain ⟨_, _, _, no⟩ := hs; exact no.elim
    | ret u =>
      obtain ⟨v, σ', H', I', rv, ev, q⟩ := hs
      subst ev
      obtain rfl : u = Value.none := rv
      exact seg_end (.ok (.ret .none)) (fin I' q)
  exact made _ _ _ _ rfl rfl rfl fun h => Heap.get?_push_size _ rfl
end KH

/-! KH3: loops over a generator that a call gives. -/
namespace KH
open PySem PySem.Spec PyProof.Rows L2 GenW
/-! ### next of a generator; it sleeps behind it, or is done -/
section
variable {M : Model}
theorem quiet_state {v : Value} {gd : Bool} {l : List Value} {k : Resume → Sem PySem.Fin} {c : Code} {p : Pos} {fs : List Frame} (h : (End.susp v gd l k c p fs).quiet = true) : (End.susp v gd l k c p fs).genState = .suspended k l c p fs false := by
  have e : (gd || fs.any Frame.guarded) = false := by
    unfold End.quiet at h
    simpa using h
  show GenState.suspended k l c p fs (gd || fs.any Frame.guarded) = _
  rw [e]
theorem resume_sleep {A : Around} {R : GenEnd} {Y : Protocol} {n : Nat} {E : Value → Shared → Prop} {s : Shared} {g : Nat} {gs : GenState} {r : Resume} {l : List Value} {α : Type} {kk : GenResult → Sem α} {Q : α → Shared → Prop} (hg : s.gens[g]? = some gs) (hgo : gs.Goes M A R Y n r (s.setGen g .running))
    (hR : ∀ x s1, R n (s.setGen g .running) x s1 → wpAny M A (kk (End.ret x).result) Q E (s1.setGen g .finished))
    (hY : ∀ v s1 k lv c p fs, Y (n - 1) (s.setGen g .running) v s1 (fun r2 s2 => Seg.next M A R Y n c (k r2) fs s2) → wpAny M A (kk (.yielded v)) Q E (s1.setGen g (.suspended k lv c p fs false))) : wpAny M A (.resume g r l kk) Q E s := by
  intro Γ p hΓ
  have ends : ∀ e1 s1, SegEnd R Y n (Seg.next M A R Y n) (s.setGen g .running) e1 s1 → e1.quiet = true ∧ Sem.wp M Γ (kk e1.result) (fun a _ s2 => Q a s2) (fun e _ s2 => E e s2) p (s1.setGen g e1.genState) := by
    intro e1 s1 h
    cases e1 with
    | ret x => exact ⟨rfl, hR x s1 h Γ p hΓ⟩
    | susp v gd lv k c q fs =>
      refine ⟨h.1, ?_⟩
      rw [quiet_state h.1]
      exact hY v s1 k lv c q fs h.2 Γ p hΓ
  rw [Sem.wp_resume]
  cases gs with
  | fresh c =>
    obtain ⟨rfl, seg⟩ := hgo
    obtain ⟨e1, s1, run, fin⟩ := seg_iff.mp seg (Γ.wake c p) p rfl (hΓ.wake c p)
    exact ⟨e1.result, s1.setGen g e1.genState, by unfold Wakes; rw [hg]; exact ⟨e1, s1, run, (ends e1 s1 fin).1, rfl, rfl⟩, (ends e1 s1 fin).2⟩
  | suspended k lv c q fs cl =>
    obtain ⟨e1, s1, run, fin⟩ := seg_iff.mp hgo (Γ.wake c p) q rfl (hΓ.wake c p)
    exact ⟨e1.result, s1.setGen g e1.genState, by unfold Wakes; rw [hg]; exact ⟨e1, s1, run, (ends e1 s1 fin).1, rfl, rfl⟩, (ends e1 s1 fin).2⟩
  | running => exact hgo.elim
  | finished => exact hgo.elim
end
section
variable {P : Program} {w : World} {A : Around} {E : Value → Shared → Prop} {s : Shared}
theorem next_sleep {a : Addr} {g n : Nat} {gs : GenState} {F : Nat → Shared → Shared → Prop} {Y : Protocol} {Q : Option Value → Shared → Prop} (free : A.handled = none) (nolim : s.heap.NoLimit) (deep : A.depth < recursionLimit) (isg : s.heap.IsGen a g) (hgs : s.gens[g]? = some gs)
    (hgo : gs.Goes (model P w) A.in1 (fun n s0 r s1 => r = .ok (.ret .none) ∧ F n s0 s1) Y n (.send .none) (s.setGen g .running))
    (hY : ∀ v s1 k lv c p fs, Y (n - 1) (s.setGen g .running) v s1 (fun r2 s2 => Seg.next (model P w) A.in1 (fun n s0 r s1 => r = .ok (.ret .none) ∧ F n s0 s1) Y n c (k r2) fs s2) → Q (some v) (s1.setGen g (.suspended k lv c p fs false)))
    (hP : ∀ s1, F n (s.setGen g .running) s1 → ∀ h', (∀ b o, s1.heap.get? b = some o → h'.get? b = some o) → Q none { s1.setGen g .finished with heap := h' }) : wpAny (model P w) A (pyNext (.ref a)) Q E s := by
  unfold pyNext
  refine wpAny_bind (wpAny_attempt (wpAny_callSpecial?_slot (name := Str.ofString "__next__") isg.typeIs slot_gen_next (wpAny_call_entry slot_gen_next isg.typeIs entry_gen_next ?_ (args_gen_next _))))
  show wpAny (model P w) A.in1 (Builtin.Generator.genWake (.ref a) (.send .none)) _ _ s
  unfold Builtin.Generator.genWake
  refine wpAny_bind (wpAny_holding (wpAny_genNumber isg (wpAny_bind (wpAny_genState (st := gs) hgs ?_))))
  cases gs with
  | running => exact hgo.elim
  | finished => exact hgo.elim
  | _ =>
    refine wpAny_bind (wpAny_roomToWake nolim deep ?_)
    show wpAny (model P w) A.in1 (.resume g (.send .none) [] _) _ _ s
    refine resume_sleep (M := model P w) hgs hgo (fun x s1 done => ?_) fun v s1 k lv c p fs y => wpAny_pure ⟨v, rfl, wpAny_pure (hY v s1 k lv c p fs y)⟩
    obtain ⟨rfl, over⟩ := done
    show wpAny (model P w) A.in1 (newExc (.type "StopIteration") [] >>= _) _ _ _
    refine wpAny_bind ?_
    unfold newExc newTuple
    refine wpAny_bind (wpAny_newObj_type ?_ (hd := by size_fits))
    refine wpAny_bind (m := firstArgMember _ _) (wpAny_of_eq (a := Value.none) (by first | rfl | (simp only [firstArgMember]; rfl)) (wpAny_newObj_type ?_ (hd := by size_fits)))
    unfold raiseNew
    refine wpAny_bind (wpAny_bind (wpAny_handled ?_))
    have h0 : A.in1.handled = none := free
    rw [h0]
    refine wpAny_throw (wpAny_bind (wpAny_isInstance (T := "StopIteration") (b := true) ⟨_, Heap.get?_push_size _ rfl, rfl⟩ isSubtype_stop (wpAny_pure ?_)))
    exact hP s1 over _ fun b o e => Heap.get?_push_of_some _ (Heap.get?_push_of_some _ e)
end
/-! ### the consumer -/
/-- a generator called from a def that runs in X -/
abbrev gOf (X : Cx) (N : List Str) (qual : Str) (scope : Scope) (L f : Addr) (cd : Value) (a : Addr) (go : Obj) (ops : List Addr) (most : Nat) : GN := GN.mk X.prog X.w X.K X.mg X.base N qual scope L f cd X.A.in1 X.stack a go ops most
/-- all that the def has is older than the generator, or among ops -/
structure By (X : Cx) (pins : List (Addr × Obj)) (L : Addr) (ops : List Addr) : Prop where
  loc : X.env.locals < L ∨ X.env.locals ∈ ops
  old : ∀ b : Addr, L ≤ b → b ∉ ops → b ∈ X.ex ∨ X.s_0.heap.objs.size ≤ b
  stk : ∀ b ∈ frs X.stack, b < L
  pin : ∀ p ∈ X.pn ++ pins, p.1 < L
  cell : ∀ x c, X.env.cells.lookup x = some c → c < L
theorem By.of {X : Cx} {pins : List (Addr × Obj)} {σ : L2.St} {H : Hp} {s : Shared} (I : Inv X pins σ H s) : By X pins s.heap.objs.size [] :=
  ⟨.inl I.lt, fun b h _ => .inr (Nat.le_trans I.sz h), fun b z => by obtain ⟨_, o, ho, _⟩ := I.env0.funs.mem z; exact Heap.lt_size ho, fun p hp => Heap.lt_size (I.pin p hp).1, fun x c e => by obtain ⟨v, o, ho, _⟩ := I.cell x c e; exact Heap.lt_size ho⟩
section
variable {X : Cx} {pins : List (Addr × Obj)} {L : Addr} {ops : List Addr}
theorem inv_gens {σ : L2.St} {H : Hp} {s : Shared} {b : Array GenState} (I : Inv X pins σ H s) (hb : AllBare b) : Inv X pins σ H { s with gens := b } := ⟨I.ok, I.os, hb, I.base, I.loc, I.cell, I.free, I.freeC, I.pin, I.hok, I.len⟩
/-- the def's state is carried over a stretch of the generator's -/
theorem By.across (y : By X pins L ops) {σ : L2.St} {H0 H1 : Hp} {s0 s1 : Shared} (I : Inv X pins σ H0 s0) (un : Un (frs X.stack) [] H0 H1 (cutS L s0).heap s1.heap) (op : ∀ p ∈ pinsAt ops s0.heap, s1.heap.get? p.1 = some p.2 ∧ H1 p.1 = none) (os : s1.os = s0.os) (bare : AllBare s1.gens) (hok : HOk X.prog X.w H1 s1.heap) : Inv X pins σ H1 s1 := by
  obtain ⟨h1, g1, d1, t1, o1⟩ := s1
  obtain rfl : o1 = s0.os := os
  have inch : ∀ b, b ∈ (List.range' L (s0.heap.objs.size - L)).filter (fun b => decide (b ∉ ops)) → L ≤ b ∧ b ∉ ops := fun b m => by
    obtain ⟨z, q⟩ := List.mem_filter.mp m
    exact ⟨(List.mem_range'_1.mp z).1, by simpa using q⟩
  have low : ∀ b o, b ∉ (List.range' L (s0.heap.objs.size - L)).filter (fun b => decide (b ∉ ops)) → s0.heap.get? b = some o → b < L ∨ (h1.get? b = some o ∧ H1 b = none) := fun b o nm e => by
    have lt : (b : Nat) < s0.heap.objs.size := Heap.lt_size e
    by_cases q : (b : Nat) < L
    · exact .inl q
    · by_cases w : b ∈ ops
      · exact .inr (op (b, o) (mem_pinsAt w e))
      · have ge : L ≤ (b : Nat) := Nat.le_of_not_lt q
        have m : b ∈ List.range' L (s0.heap.objs.size - L) := List.mem_range'_1.mpr ⟨ge, by rw [Nat.add_sub_cancel' (Nat.le_trans ge (Nat.le_of_lt lt))]; exact lt⟩
        exact absurd (List.mem_filter.mpr ⟨m, by simpa using w⟩) nm
  have nil : ∀ b : Addr, b ∉ ([] : List Addr) := fun b => List.not_mem_nil
  have far : ∀ {b c : Addr}, c < L → L ≤ b → c ≠ b := fun l1 l2 z => absurd (Nat.lt_of_lt_of_le l1 (z ▸ l2)) (Nat.lt_irrefl _)
  refine I.step (g' := g1) (d' := d1) (t' := t1) (h' := h1) (ch := (List.range' L (s0.heap.objs.size - L)).filter (fun b => decide (b ∉ ops))) (fun b hb => ⟨y.old b (inch b hb).1 (inch b hb).2, fun z => ?_, fun x c e => far (y.cell x c e) (inch b hb).1, fun p hp => far (y.pin p hp) (inch b hb).1⟩) (fun b o nl nf nc e n => ?_) (fun b o nl hf nc e n => ?_) (fun b o nc e n => ?_) (fun b o nc e => ?_) un.tups un.frzs un.tbls (fun m hm => ?_) hok bare
  · rcases y.loc with l | l
    · exact far l (inch b hb).1 z.symm
    · exact (inch b hb).2 (z ▸ l)
  · rcases low b o nc e with l | l
    · exact un.keep b o (get_cut l e) n (fun z => (List.mem_cons.mp (I.stkSub b z)).elim nl nf) (nil b)
    · exact l.1
  · rcases low b o nc e with l | l
    · exact un.any (get_cut l e) n (nil b)
    · exact ⟨o.slots, l.1⟩
  · rcases low b o nc e with l | l
    · exact un.free b o (get_cut l e) n (nil b)
    · exact l.2
  · rcases low b o nc e with l | l
    · exact un.there b o (get_cut l e) (nil b)
    · exact ⟨o, l.1⟩
  · obtain ⟨o, es, ep, ho, r⟩ := hm
    rcases y.loc with l | l
    · obtain ⟨sl, e⟩ := un.any (get_cut l ho) I.free (nil _)
      exact ⟨_, es, ep, e, r⟩
    · exact ⟨_, es, ep, (op _ (mem_pinsAt l ho)).1, r⟩
variable {N : List Str} {qual : Str} {scope : Scope} {f a : Addr} {cd : Value} {go : Obj} {most : Nat}
def TkX (X : Cx) (pins : List (Addr × Obj)) (L : Addr) (ops : List Addr) (Rd : Nat → Hp → L2.St → Hp → Shared → Prop) : Nat → Shared → Hp → Prop := fun j s H => (L ≤ s.heap.objs.size ∧ Ow ops s H) ∧ ∃ σ Hy, Inv X pins σ H s ∧ Rd j Hy σ H s
/-- the generator stands at j, n turns at most are left -/
def Live (X : Cx) (G : GN) (g : Nat) (Tk : Nat → Shared → Hp → Prop) (rs : Nat → Hp → Hp → Prop) (yl : Nat → Hp → V → Hp → Prop) (en : Nat → Hp → Hp → Prop) (gs : GenState) (ip : List (Addr × Obj)) (n j : Nat) (Hy : Hp) (s : Shared) (H : Hp) : Prop :=
  s.gens[g]? = some gs ∧ (∀ p ∈ ip, G.L ≤ p.1 ∧ p.1 ∉ G.ops) ∧ s.heap.get? G.a = some G.go ∧ (∀ h : Heap, h.get? G.a = some G.go → h.IsGen G.a g) ∧ ∃ sy : Shared, (∀ b, b = G.L ∨ b = G.a ∨ b ∈ ip.map (·.1) → ∃ o, sy.heap.get? b = some o ∧ s.heap.get? b = some o ∧ H b = none ∧ ∀ v, o.data ≠ .cell v) ∧
    ∀ s' H', Tk j s' H' → rs j Hy H' → G.E0 s' H' → Kp G ip sy s' H' → gs.Goes (model X.prog X.w) X.A.in1 (HR G Tk en) (HY G Tk yl rs) n (.send .none) s'
theorem env0_in1 {σ : L2.St} {H : Hp} {s : Shared} (I : Inv X pins σ H s) : Env0 X.prog X.w X.K X.mg X.base X.A.in1 X.stack s H :=
  ⟨I.ok.frames, I.env0.mod, I.env0.bs, I.env0.bsz, I.env0.funs, I.env0.frf, I.env0.hok, I.env0.bare⟩
theorem live_turn {E : Value → Shared → Prop} {g n j : Nat} {gs : GenState} {ip : List (Addr × Obj)} {σ : L2.St} {Hy H : Hp} {s : Shared} {Rd : Nat → Hp → L2.St → Hp → Shared → Prop} {rs : Nat → Hp → Hp → Prop} {yl : Nat → Hp → V → Hp → Prop} {en : Nat → Hp → Hp → Prop}
    (y : By X pins L ops) (free : X.A.handled = none) (deep : X.A.depth < recursionLimit) (ok : (gOf X N qual scope L f cd a go ops most).Ok) (I : Inv X pins σ H s) (r0 : Rd j Hy σ H s) (hrs : rs j Hy H) (rgen : ∀ j Hy σ H s gens, Rd j Hy σ H s → Rd j Hy σ H { s with gens := gens }) (hn : n + j = most) (h1 : 1 ≤ n) (lt : L ≤ s.heap.objs.size ∧ Ow ops s H)
    (lv : Live X (gOf X N qual scope L f cd a go ops most) g (TkX X pins L ops Rd) rs yl en gs ip n j Hy s H) :
    wpAny (model X.prog X.w) X.A (pyNext (.ref a)) (fun r s1 => (r = none ∧ ∃ σ0 Hz H0 H1 s0, Rd j Hz σ0 H0 s0 ∧ en j H0 H1 ∧ Inv X pins σ0 H1 s1 ∧ ∀ p ∈ pinsAt ops s0.heap, s1.heap.get? p.1 = some p.2 ∧ H1 p.1 = none) ∨ ∃ u, r = some u ∧ ∃ x σ0 Hz H0 H1 s0, RelV x u ∧ Rd j Hz σ0 H0 s0 ∧ yl j H0 x H1 ∧ Inv X pins σ0 H1 s1 ∧ (∀ p ∈ pinsAt ops s0.heap, s1.heap.get? p.1 = some p.2 ∧ H1 p.1 = none) ∧ L ≤ s1.heap.objs.size ∧ 1 ≤ n - 1 ∧
      ∃ k lv c p fs ip', Live X (gOf X N qual scope L f cd a go ops most) g (TkX X pins L ops Rd) rs yl en (.suspended k lv c p fs false) ip' (n - 1) (j + 1) H1 s1 H1) E s := by
  obtain ⟨hgs, hip, hgo, isg, sy, own, goes⟩ := lv
  have hgl : g < s.gens.size := (Array.getElem?_eq_some_iff.mp hgs).1
  have Ir : Inv X pins σ H (s.setGen g .running) := inv_gens I (allBare_setGen I.bare rfl)
  have go1 := goes (s.setGen g .running) H ⟨lt, σ, Hy, Ir, rgen _ _ _ _ _ _ r0⟩ hrs (env0_in1 Ir) fun b hb => by
    obtain ⟨o, e1, e2, e3, _⟩ := own b hb
    exact ⟨fun o' e => by rw [e1] at e; cases e; exact e2, e3⟩
  refine wpAny_gsz (n := g + 1) hgl (next_sleep free I.nolimit deep (isg _ hgo) hgs go1 (fun v s1 k lv c p fs hy => ?_) fun s1 hf h' hk => ?_)
  · intro hsz
    obtain ⟨j', x, ip', σg, H0, H1, hj, h2, hip', rv, ⟨_, σ0, Hz, I0, r1⟩, hyl, Ig, wake⟩ := hy
    have hj : n - 1 + 1 + j' = most := hj
    obtain rfl : j' = j := by omega
    have op : ∀ p ∈ pinsAt ops (s.setGen g .running).heap, s1.heap.get? p.1 = some p.2 ∧ H1 p.1 = none := fun p hp => by
      obtain ⟨z1, z2, _⟩ := Ig.pin p (List.mem_append_left _ (List.mem_cons_of_mem _ hp))
      exact ⟨z1, z2⟩
    have I1 : Inv X pins σ0 H1 s1 := y.across I0 Ig.base op Ig.os Ig.bare Ig.hok
    have Lb : ∀ b, b = L ∨ b = a ∨ b ∈ ip'.map (·.1) → ∃ o, s1.heap.get? b = some o ∧ s1.heap.get? b = some o ∧ H1 b = none ∧ ∀ v, o.data ≠ .cell v := fun b hb => by
      rcases hb with rfl | rfl | hb
      · obtain ⟨m, ⟨o, es, ep, ho, hd, _⟩, _⟩ := Ig.loc
        exact ⟨o, ho, ho, Ig.free, fun v q => by rw [hd] at q; cases q⟩
      · obtain ⟨z1, z2, _, _, z5⟩ := Ig.pin (b, go) (List.mem_append_left _ List.mem_cons_self)
        exact ⟨go, z1, z1, z2, z5⟩
      · obtain ⟨p, mp, rfl⟩ := List.mem_map.mp hb
        obtain ⟨z1, z2, _, _, z5⟩ := Ig.pin p (List.mem_append_right _ mp)
        exact ⟨p.2, z1, z1, z2, z5⟩
    have ltL : L ≤ s1.heap.objs.size := by
      obtain ⟨o, z, _⟩ := Lb L (.inl rfl)
      exact Nat.le_of_lt (Heap.lt_size z)
    have hsz1 : g < s1.gens.size := by
      have q : (s1.setGen g (.suspended k lv c p fs false)).gens.size = s1.gens.size := setGen_size _ _ _
      have hsz' : g + 1 ≤ (s1.setGen g (.suspended k lv c p fs false)).gens.size := hsz
      omega
    refine .inr ⟨v, rfl, x, σ0, Hz, H0, H1, _, rv, r1, hyl, inv_gens I1 (allBare_setGen I1.bare rfl), op, ltL, h2, k, lv, c, p, fs, ip', setGen_at hsz1, hip', ?_, isg, s1, Lb, fun s' H' tk r e0 kp => ?_⟩
    · obtain ⟨z1, _⟩ := Ig.pin (a, go) (List.mem_append_left _ List.mem_cons_self)
      exact z1
    · have z := wake s' H' tk r e0 kp
      cases n with
      | zero => exact absurd h1 (Nat.not_succ_le_zero _)
      | succ m => exact z
  · intro hsz
    obtain ⟨j', H0, H1, hj, ⟨_, σ0, Hz, I0, r1⟩, hen, os, bare, un, hok, op⟩ := hf
    have hj : n + j' = most := hj
    obtain rfl : j' = j := by omega
    have I1 : Inv X pins σ0 H1 s1 := y.across I0 un op os bare hok
    have I2 : Inv X pins σ0 H1 (s1.setGen g .finished) := inv_gens I1 (allBare_setGen I1.bare rfl)
    exact .inl ⟨rfl, σ0, Hz, H0, H1, _, r1, hen, I2.kept hk, fun p hp => ⟨hk _ _ (op p hp).1, (op p hp).2⟩⟩
end
/-! ### calls that give a generator -/
/-- what is read of such a call: R: what is wanted of its consumer's choice and the heap -/
abbrev TGen := L2.St → Hp → ((Nat → Hp → Hp → Prop) → (Nat → Hp → V → Hp → Prop) → (Nat → Hp → Hp → Prop) → Hp → Prop) → Prop
structure PH (X : Cx) (e : Expr) (k most : Nat) (t : TGen) : Prop where
  run : ∀ (pins : List (Addr × Obj)) (s : Shared) (σ : L2.St) (H : Hp) (R : (Nat → Hp → Hp → Prop) → (Nat → Hp → V → Hp → Prop) → (Nat → Hp → Hp → Prop) → Hp → Prop), Inv X pins σ H s → t σ H R →
    wpAny (model X.prog X.w) X.A (eval e X.env) (fun u s1 => ∃ rs yl en H1 s0, R rs yl en H1 ∧ Inv X pins σ H1 s0 ∧ HMade X.prog X.w X.K X.mg X.base k most X.stack s0 H1 rs yl en u s1) X.xe s
section
variable {X : Cx} {k most : Nat}
theorem run_h {f : Addr} {fd : FuncData} {ps : List Str} {sp : SpH} {pins : List (Addr × Obj)} {σ : L2.St} {H : Hp} {s : Shared} {us : List Value} {kws : List (Str × Value)} {vs : List V} {rs : Nat → Hp → Hp → Prop} {yl : Nat → Hp → V → Hp → Prop} {en : Nat → Hp → Hp → Prop} {as : List Value}
    (F : HFn X.prog X.w X.K X.mg X.base k most f fd ps sp) (room : Room k X.A) (I : Inv X pins σ H s) (b : BindsTo s fd ⟨us, kws⟩ (ps.zip as)) (r : Vals vs as) (h : sp vs H rs yl en) :
    wpAny (model X.prog X.w) X.A (call (.ref f) us kws) (fun u s1 => HMade X.prog X.w X.K X.mg X.base k most X.stack s H rs yl en u s1) X.xe s := by
  refine wpAny_call (codeAny_mono (F.run X.A X.stack s H ⟨us, kws⟩ as vs rs yl en room I.env0 b r h) fun res s1 q => ?_)
  cases res with
  | error e => exact q.elim
  | ok fl => cases fl <;> first | exact q | exact q.elim
structure CalleeHM (P : Program) (w : World) (K : PySem.W.Frag) (mg : Str → Option Value) (base : Heap) (k most : Nat) (C : Addr) (m : Str) (ps : List Str) (sp : SpH) : Prop where
  ex : ∃ (f : Addr) (fd : FuncData), HFn P w K mg base k most f fd ps sp ∧ Meth K C m f ∧ Binds K fd ps []
  cl : Cls K C
structure CalleeH (P : Program) (w : World) (K : PySem.W.Frag) (mg : Str → Option Value) (base : Heap) (k most : Nat) (x : Str) (ps : List Str) (sp : SpH) (n : Nat) (ks : List Str) (gV : List V → List V → List V) : Prop where
  ex : ∃ (f : Addr) (fd : FuncData) (gg : List Value → List Value → List Value), HFn P w K mg base k most f fd ps sp ∧ mg x = some (.ref f) ∧ PySem.W.keepIn K (.ref f) = true ∧ KBn K fd ps n ks gg gV
/-- o.m() -/
def tHMeth (C : Addr) (m : Str) (sp : SpH) (ta : TE) : TGen := fun σ H R => ta σ H fun x H1 => ∃ a dx fs, x = .ref a ∧ H1 a = some (.ins C dx fs) ∧ fs.lookup m = none ∧ ∃ rs yl en, sp [x] H1 rs yl en ∧ R rs yl en H1
theorem ph_meth0 {pl : Sem Bool} {C : Addr} {m : Str} {ps : List Str} {sp : SpH} {o : Expr} {apos pos : Pos} {ta : TE} (c : CalleeHM X.prog X.w X.K X.mg X.base k most C m ps sp) (he : PE X o ta) (room : Room k X.A)
    (ht : eval (.Call (.Attribute o m apos) [] [] pos) X.env = (do
      let ov ← eval o X.env
      standAt apos.atName
      let (f, first) ← holding [ov] (getMethod ov m pl)
      callWith pos f first (backTo pos (starEach [] X.env)) (backToKw pos (keywordEach [] X.env))) := by rfl) : PH X (.Call (.Attribute o m apos) [] [] pos) k most (tHMeth C m sp ta) := by
  obtain ⟨f, fd, F, hm, hb⟩ := c.ex
  refine ⟨fun pins s σ H R I h => PySem.W.methodCall_KW (pl := pl) (thn (he.run pins s σ H _ I h) fun u s1 z => ?_) ht⟩
  obtain ⟨x, H1, I1, rx, a, dx, fs, rfl, ea, no, rs, yl, en, hsp, q⟩ := z
  obtain rfl : u = Value.ref a := rx
  refine getmeth_ok I1 ea c.cl hm no (PySem.W.callWith_K0 (first := [.ref a]) I1.kIn hm.kp ?_)
  have bnd := hb s1 [.ref a] I1.kIn (by rw [List.append_nil]; exact F.len _ _ _ _ _ hsp)
  rw [List.append_nil] at bnd
  exact wpAny_mono (run_h (vs := [.ref a]) F room I1 bnd (.cons rfl .nil) hsp) (fun u s2 m => ⟨rs, yl, en, H1, s1, q, I1, m⟩) fun _ _ z => z
/-- f(e, .., k = v, ..) -/
def tHCall (n m : Nat) (sp : SpH) (gV : List V → List V → List V) (t tk : TA) : TGen := fun σ H R => t σ H fun vs H1 => tk σ H1 fun zs H2 => vs.length = n ∧ zs.length = m ∧ ∃ rs yl en, sp (gV vs zs) H2 rs yl en ∧ R rs yl en H2
theorem ph_callKw {n : Nat} {x : Str} {ps ks : List Str} {sp : SpH} {gV : List V → List V → List V} {e : Expr} {es : List Expr} {kws : List Keyword} {p pos : Pos} {t tk : TA} (c : CalleeH X.prog X.w X.K X.mg X.base k most x ps sp n ks gV) (room : Room k X.A) (hg : Gl X x) (ha : PA X (e :: es) t) (hkw : PK X kws tk)
    (hall : (backToKw pos (keywordEach kws X.env)).all (·.1.isSome) = true := by rfl) (hks : (backToKw pos (keywordEach kws X.env)).filterMap (·.1) = ks := by rfl) (hdb : (x == ("__debug__" : Str)) = false := by decide) (he : starEach (e :: es) X.env = (false, eval e X.env) :: starEach es X.env := by rfl)
    (hpl : ((backTo pos (starEach (e :: es) X.env)).any (·.1) || (backToKw pos (keywordEach kws X.env)).any (·.1.isNone)) = false := by rfl) : PH X (.Call (.Name x p) (e :: es) kws pos) k most (tHCall n ks.length sp gV t tk) := by
  obtain ⟨f, fd, gg, F, hm, hk, hb⟩ := c.ex
  refine ⟨fun pins s σ H R I h => wpAny_Call_Name_kw (ld_glob I hg hm ?_ hdb)⟩
  refine PySem.W.callWith_KW (h₀ := X.base) I.ok.mod.kin hk hall (thn (ha.run pos pins s σ H _ I h) fun us s1 z => ?_) hpl he
  obtain ⟨vs, H1, I1, r, q⟩ := z
  refine thn (hkw.run pos pins s1 σ H1 _ I1 q) fun ws s2 z => ?_
  obtain ⟨zs, H2, I2, rz, l1, l2, rs, yl, en, hsp, q2⟩ := z
  refine ⟨I2.kIn, ?_⟩
  rw [hks]
  exact wpAny_mono (run_h F room I2 (hb.to s2 us ws I2.kIn (r.length.symm.trans l1) (rz.length.symm.trans l2)) (hb.rel r rz) hsp) (fun u s3 m => ⟨rs, yl, en, H2, s2, q2, I2, m⟩) fun _ _ z => z
theorem ph_callK0 {n : Nat} {x : Str} {ps ks : List Str} {sp : SpH} {gV : List V → List V → List V} {kws : List Keyword} {p pos : Pos} {tk : TA} (c : CalleeH X.prog X.w X.K X.mg X.base k most x ps sp n ks gV) (room : Room k X.A) (hg : Gl X x) (hkw : PK X kws tk)
    (hall : (backToKw pos (keywordEach kws X.env)).all (·.1.isSome) = true := by rfl) (hks : (backToKw pos (keywordEach kws X.env)).filterMap (·.1) = ks := by rfl) (hdb : (x == ("__debug__" : Str)) = false := by decide)
    (hpl : ((backTo pos (starEach [] X.env)).any (·.1) || (backToKw pos (keywordEach kws X.env)).any (·.1.isNone)) = false := by rfl) : PH X (.Call (.Name x p) [] kws pos) k most (tHCall n ks.length sp gV tNil tk) := by
  obtain ⟨f, fd, gg, F, hm, hk, hb⟩ := c.ex
  refine ⟨fun pins s σ H R I h => wpAny_Call_Name_kw (ld_glob I hg hm ?_ hdb)⟩
  refine PySem.W.callWith_KW0 (first := []) (h₀ := X.base) I.ok.mod.kin hk hall (thn (hkw.run pos pins s σ H _ I h) fun ws s2 z => ?_) hpl
  obtain ⟨zs, H2, I2, rz, l1, l2, rs, yl, en, hsp, q2⟩ := z
  refine ⟨I2.kIn, ?_⟩
  rw [hks]
  exact wpAny_mono (run_h F room I2 (hb.to s2 [] ws I2.kIn l1 (rz.length.symm.trans l2)) (hb.rel .nil rz) hsp) (fun u s3 m => ⟨rs, yl, en, H2, s2, q2, I2, m⟩) fun _ _ z => z
end
/-! ### for x in g(..) -/
/-- what is let out does not look at the generators -/
def XStable (X : Cx) : Prop := ∀ (e : Value) (s : Shared) (b : Array GenState), X.xe e s → OkG s.gens → Rel s.gens b → X.xe e { s with gens := b }
theorem xs_nox {X : Cx} : XStable X.nox := fun e s b h _ _ => h
def tForH (t : TGen) (g : TG) (tb : TS) : TS := fun D σ H => ∃ Rd : Nat → Hp → L2.St → Hp → Prop, t σ H fun rs yl en H1 => Rd 0 H1 σ H1 ∧ (∀ j Hy σ H, Rd j Hy σ H → rs j Hy H) ∧
  (∀ j Hy σ H0 x H', Rd j Hy σ H0 → yl j H0 x H' → g x σ H' fun σ2 H2 => tb { D with nx := Rd (j + 1) H', ct := Rd (j + 1) H', bk := D.nx } σ2 H2) ∧ ∀ j Hy σ H0 H', Rd j Hy σ H0 → en j H0 H' → D.nx σ H'
section
variable {X : Cx} {k most : Nat}
/-- the sleeper's own objects, pinned -/
theorem own_pins {pins : List (Addr × Obj)} {L : Addr} {G : GN} {g n j : Nat} {Tk : Nat → Shared → Hp → Prop} {rs : Nat → Hp → Hp → Prop} {yl : Nat → Hp → V → Hp → Prop} {en : Nat → Hp → Hp → Prop} {gs : GenState} {ip : List (Addr × Obj)} {σ : L2.St} {Hy H : Hp} {s : Shared}
    (y : By X pins G.L G.ops) (al : G.L < G.a) (an : G.L ∉ G.ops ∧ G.a ∉ G.ops) (I : Inv X pins σ H s) (lv : Live X G g Tk rs yl en gs ip n j Hy s H) : Inv X (pins ++ pinsAt (G.L :: G.a :: ip.map (·.1)) s.heap) σ H s := by
  obtain ⟨_, hip, _, _, sy, own, _⟩ := lv
  refine I.pins_of fun p hp => ?_
  rcases List.mem_append.mp hp with hp | hp
  · exact I.pin p (List.mem_append_right _ hp)
  · obtain ⟨hb, e⟩ := of_pinsAt hp
    have hb' : p.1 = G.L ∨ p.1 = G.a ∨ p.1 ∈ ip.map (·.1) := by simpa using hb
    obtain ⟨o, _, e2, n2, d⟩ := own p.1 hb'
    rw [e2] at e
    cases e
    have ge : G.L ≤ p.1 := by
      rcases hb' with z | z | z
      · exact Nat.le_of_eq z.symm
      · rw [z]; exact Nat.le_of_lt al
      · obtain ⟨q, hq, z⟩ := List.mem_map.mp z
        rw [← z]; exact (hip q hq).1
    have no : p.1 ∉ G.ops := by
      rcases hb' with z | z | z
      · rw [z]; exact an.1
      · rw [z]; exact an.2
      · obtain ⟨q, hq, z⟩ := List.mem_map.mp z
        rw [← z]; exact (hip q hq).2
    refine ⟨e2, n2, fun z => ?_, fun z => ?_, d⟩
    · rw [z] at ge no
      rcases y.loc with l | l
      · exact absurd (Nat.lt_of_lt_of_le l ge) (Nat.lt_irrefl _)
      · exact no l
    · obtain ⟨_, o3, ho3, _⟩ := I.ok.funs.mem z
      have old : p.1 < X.s_0.heap.objs.size := Heap.lt_size ho3
      rcases y.old p.1 ge no with q | q
      · exact I.ok.exfs _ q z
      · exact absurd (Nat.lt_of_lt_of_le old q) (Nat.lt_irrefl _)
/-- the sleeper behind another's run -/
theorem live_on {pins : List (Addr × Obj)} {G : GN} {g n j : Nat} {Tk : Nat → Shared → Hp → Prop} {rs : Nat → Hp → Hp → Prop} {yl : Nat → Hp → V → Hp → Prop} {en : Nat → Hp → Hp → Prop} {kk : Resume → Sem PySem.Fin} {lv : List Value} {c : Code} {p : Pos} {fs : List Frame} {ip : List (Addr × Obj)} {σ7 : L2.St} {Hy H H7 : Hp} {s s7 : Shared}
    (sg : SameGens s.gens s7.gens) (I7 : Inv X (pins ++ pinsAt (G.L :: G.a :: ip.map (·.1)) s.heap) σ7 H7 s7) (z : Live X G g Tk rs yl en (.suspended kk lv c p fs false) ip n j Hy s H) : Live X G g Tk rs yl en (.suspended kk lv c p fs false) ip n j Hy s7 H7 ∧ G.L ≤ s7.heap.objs.size := by
  obtain ⟨hgs, hip, hgo, isg, sy, own, goes⟩ := z
  have at7 : ∀ b, b = G.L ∨ b = G.a ∨ b ∈ ip.map (·.1) → ∀ o, s.heap.get? b = some o → s7.heap.get? b = some o ∧ H7 b = none := fun b hb o e => by
    have hm : b ∈ G.L :: G.a :: ip.map (·.1) := by simpa using hb
    have w := I7.pin (b, o) (List.mem_append_right _ (List.mem_append_right _ (mem_pinsAt hm e)))
    exact ⟨w.1, w.2.1⟩
  refine ⟨⟨sg _ _ _ _ _ _ _ hgs, hip, (at7 G.a (.inr (.inl rfl)) _ hgo).1, isg, sy, fun b hb => ?_, goes⟩, ?_⟩
  · obtain ⟨o, e1, e2, _, d⟩ := own b hb
    obtain ⟨e3, n3⟩ := at7 b hb o e2
    exact ⟨o, e1, e3, n3, d⟩
  · obtain ⟨o, _, e2, _⟩ := own G.L (.inl rfl)
    exact Nat.le_of_lt (Heap.lt_size (at7 G.L (.inl rfl) o e2).1)
theorem ps_forH {tg iter : Expr} {body : List Stmt} {t : TGen} {g : TG} {tb : TS} {pos : Pos} (hp : PassesOwn (model X.prog X.w) X.A X.env X.xe) (xs : XStable X) (h1 : 1 ≤ most) (room : Room (k + 1) X.A) (hi : PH X iter k most t) (hg : PG X tg g) (hb : PSs X body tb)
    (hs : ∀ x, foldedSetIterable iter X.env x = pure x := by intro _; rfl) : PS X (.For tg iter body [] pos) (tForH t g tb) := by
  refine ⟨fun pins s σ H D I h => ?_⟩
  obtain ⟨Rd, h⟩ := h
  refine wpAny_For (thn (hi.run pins s σ H _ I h) fun u s1 z => ?_) hs
  obtain ⟨rs, yl, en, H1, s0, ⟨r0, hrs, hyl, hen⟩, I0, m⟩ := z
  obtain ⟨N, qual, scope, f, cd, a, g', go, c, rfl, al, hgo, isg, god, hgs, os, bare, ⟨oL, hL, oLd⟩, keep, wake⟩ := m
  refine wpAny_pyIter_gen (isg _ hgo) ?_
  have y := By.of I0
  have I1 : Inv X pins σ H1 s1 := I0.call' (ch := []) os (Un.kept keep) (I0.hok.kept keep) bare (fun b z => absurd z List.not_mem_nil)
  obtain ⟨ok, wake⟩ := wake X.A.in1 [] (TkX X pins s0.heap.objs.size [] fun j Hy σ H _ => Rd j Hy σ H) room.in1 I0.ok.frames (fun b z => absurd z List.not_mem_nil) (fun j s2 H2 z => z.1)
  have lt : s0.heap.objs.size ≤ s1.heap.objs.size := Nat.le_of_lt (Heap.lt_size hL)
  have ow0 : ∀ (s : Shared) (H : Hp), Ow [] s H := fun s H b z => absurd z List.not_mem_nil
  have lv : Live X (gOf X N qual scope s0.heap.objs.size f cd a go [] most) g' (TkX X pins s0.heap.objs.size [] fun j Hy σ H _ => Rd j Hy σ H) rs yl en (.fresh c) [] most 0 H1 s1 H1 := by
    refine ⟨hgs, fun p hp => absurd hp List.not_mem_nil, hgo, isg, s1, fun b hb => ?_, fun s' H' tk r e0 kp => ⟨rfl, wake s' H' tk r e0 kp⟩⟩
    rcases hb with rfl | rfl | hb
    · exact ⟨oL, hL, hL, I0.hok.fresh (Nat.le_refl _), oLd⟩
    · exact ⟨go, hgo, hgo, I0.hok.fresh (Nat.le_of_lt al), god⟩
    · exact absurd hb List.not_mem_nil
  refine codeAny_forLoop_any (fun n s' => ∃ j gs ip σ' Hy H', n + j = most ∧ 1 ≤ n ∧ s0.heap.objs.size ≤ s'.heap.objs.size ∧ Inv X pins σ' H' s' ∧ Rd j Hy σ' H' ∧ Live X (gOf X N qual scope s0.heap.objs.size f cd a go [] most) g' (TkX X pins s0.heap.objs.size [] fun j Hy σ H _ => Rd j Hy σ H) rs yl en gs ip n j Hy s' H') ?_ most ⟨0, .fresh c, [], σ, H1, H1, Nat.add_zero _, h1, lt, I1, r0, lv⟩
  rintro n s3 ⟨j, gs, ip, σ3, Hy3, H3, hn, hn1, lt3, I3, r3, lv3⟩
  refine wpAny_mono (live_turn (Rd := fun j Hy σ H _ => Rd j Hy σ H) y room.hd room.depth ok I3 r3 (hrs _ _ _ _ r3) (fun _ _ _ _ _ _ z => z) hn hn1 ⟨lt3, ow0 _ _⟩ lv3) (fun r s4 q => ?_) fun _ _ z => z
  rcases q with ⟨rfl, σ0, Hz, H0, H4, _, r4, e4, I4, _⟩ | ⟨u, rfl, x, σ0, Hz, H0, H4, _, rv, r4, y4, I4, _, lt4, n4, k', lv', c', p', fs', ip', L4⟩
  · exact wpAny_execs_nil ⟨σ0, H4, I4, hen j Hz σ0 H0 H4 r4 e4⟩
  · obtain ⟨oi, nm, qn, hoi, hcl, hdt, _⟩ := isg _ L4.2.2.1
    refine go_of (n := "generator") hoi hcl hdt rfl ?_
    have Ip := own_pins (L := s0.heap.objs.size) (G := gOf X N qual scope s0.heap.objs.size f cd a go [] most) y al ⟨List.not_mem_nil, List.not_mem_nil⟩ I4 L4
    have out : ∀ (e : Value) (sx : Shared) (gens : Array GenState), (∃ s', X.xe e s' ∧ OkG s'.gens ∧ Rel s'.gens sx.gens ∧ sx = { s' with gens := sx.gens } ∧ SameGens gens sx.gens) → X.xe e sx := fun e sx gens z => by
      obtain ⟨s', hx, okg, rl, ex, _⟩ := z
      rw [ex]
      exact xs e s' _ hx okg rl
    refine wpAny_passesOwn hp (wpAny_mono (wpAny_keep (hg.run _ { s4 with gens := s4.gens.map asleep } σ0 H4 x u _ (inv_gens Ip (asleep_all Ip.bare)) rv (hyl j Hz σ0 H0 x H4 r4 y4))) (fun _ s6 z => ?_) fun e s6 z => out e s6 _ z)
    obtain ⟨s', ⟨σ6, H6, I6, q6⟩, _, rl6, e6, sg6⟩ := z
    have J6 : Inv X (pins ++ pinsAt (s0.heap.objs.size :: a :: ip'.map (·.1)) s4.heap) σ6 H6 s6 := e6 ▸ inv_gens I6 (rl6.bare I6.bare)
    refine wpAny_passesOwn hp (wpAny_mono (wpAny_keep (hb.run _ { s6 with gens := s6.gens.map asleep } σ6 H6 _ (inv_gens J6 (asleep_all J6.bare)) q6)) (fun fl s7 z => ?_) fun e s7 z => out e s7 _ z)
    obtain ⟨s'', hsp, _, rl7, e7, sg7⟩ := z
    have to7 : ∀ {σ7 : L2.St} {H7 : Hp}, Inv X (pins ++ pinsAt (s0.heap.objs.size :: a :: ip'.map (·.1)) s4.heap) σ7 H7 s'' → Inv X (pins ++ pinsAt (s0.heap.objs.size :: a :: ip'.map (·.1)) s4.heap) σ7 H7 s7 := fun {σ7 H7} I7 => e7 ▸ inv_gens I7 (rl7.bare I7.bare)
    have again : ∀ {σ7 : L2.St} {H7 : Hp}, Inv X (pins ++ pinsAt (s0.heap.objs.size :: a :: ip'.map (·.1)) s4.heap) σ7 H7 s'' → Rd (j + 1) H4 σ7 H7 → ∃ m, m < n ∧ ∃ j gs ip σ' Hy H', m + j = most ∧ 1 ≤ m ∧ s0.heap.objs.size ≤ s7.heap.objs.size ∧ Inv X pins σ' H' s7 ∧ Rd j Hy σ' H' ∧
        Live X (gOf X N qual scope s0.heap.objs.size f cd a go [] most) g' (TkX X pins s0.heap.objs.size [] fun j Hy σ H _ => Rd j Hy σ H) rs yl en gs ip m j Hy s7 H' := fun {σ7 H7} I7 n7 => by
      obtain ⟨L7, lt7⟩ := live_on (sg6.trans sg7) (to7 I7) L4
      exact ⟨n - 1, by omega, j + 1, _, ip', σ7, H4, H7, by omega, n4, lt7, (to7 I7).unpinned, n7, L7⟩
    cases fl with
    | next => obtain ⟨σ7, H7, I7, n7⟩ := hsp; exact again I7 n7
    | cont => obtain ⟨σ7, H7, I7, n7⟩ := hsp; exact again I7 n7
    | brk => obtain ⟨σ7, H7, I7, n7⟩ := hsp; exact ⟨σ7, H7, (to7 I7).unpinned, n7⟩
    | ret v => obtain ⟨x7, σ7, H7, I7, r7, n7⟩ := hsp; exact ⟨x7, σ7, H7, (to7 I7).unpinned, r7, n7⟩
end
end KH

/-! KH4: list comprehensions over a generator that a call gives. -/
namespace KH
open PySem PySem.Spec PyProof.Rows L2 GenW
/-! ### a list set aside and taken up again -/
/-- the heap without what stands at D -/
def wo (H : Hp) (D : Addr) : Hp := fun b => if b = D then none else H b
theorem wo_same {H : Hp} {D : Addr} : wo H D D = none := by unfold wo; rw [if_pos rfl]
theorem wo_ne {H : Hp} {D b : Addr} (h : b ≠ D) : wo H D b = H b := by unfold wo; rw [if_neg h]
theorem wo_upd {H : Hp} {D : Addr} {o : HO} (h : H D = none) : wo (upd H D o) D = H := by
  funext b
  by_cases hb : b = D
  · subst hb; rw [wo_same, h]
  · rw [wo_ne hb, upd_ne hb]
section
variable {X : Cx} {pins : List (Addr × Obj)} {σ : L2.St} {H : Hp} {s : Shared} {D : Addr}
theorem wo_lst {xs : List V} : wo (upd H D (.lst xs)) D = wo H D := by
  funext b
  by_cases hb : b = D
  · subst hb; rw [wo_same, wo_same]
  · rw [wo_ne hb, wo_ne hb, upd_ne hb]
theorem wo_none {b : Addr} (e : H b = Option.none) : wo H D b = Option.none := by
  by_cases hb : b = D
  · rw [hb]; exact wo_same
  · rw [wo_ne hb]; exact e
theorem aside {xs : List V} (I : Inv X pins σ H s) (h : H D = some (.lst xs)) : Inv X pins σ (wo H D) s := by
  have far : ∀ b u, H b = some u → (∀ zs, u ≠ .lst zs) → wo H D b = some u := fun b u e nl => by
    by_cases hb : b = D
    · subst hb
      rw [h] at e
      cases e
      exact absurd rfl (nl xs)
    · rw [wo_ne hb]; exact e
  have ok : HOk X.prog X.w (wo H D) s.heap := fun b u e => by
    by_cases hb : b = D
    · subst hb; rw [wo_same] at e; cases e
    · rw [wo_ne hb] at e
      exact (I.hok b u e).stay (fun _ _ _ z => z) (fun c z => far c _ z (fun _ w => by cases w)) fun c ys z => far c _ z (fun _ w => by cases w)
  refine I.un (h' := s.heap) (t' := s.toks) { keep := fun _ _ e _ _ _ => e, slot := fun b o e _ _ _ => ⟨o.slots, e⟩, free := fun b _ _ z _ => wo_none z, there := fun b o e _ => ⟨o, e⟩, tups := fun b ys z => far b _ z (fun _ w => by cases w), frzs := fun b o y z => far b _ z (fun _ w => by cases w), tbls := fun b ps z => ⟨#[], ?_⟩ } ok
  rw [far b _ z (fun _ w => by cases w)]
  simp
theorem taken {xs : List V} (I : Inv X pins σ H s) (hn : H D = Option.none) (h0 : X.H_0 D ≠ Option.none) (hL : X.env.locals ≠ D) (hc : ∀ x c, X.env.cells.lookup x = some c → c ≠ D) (hp : ∀ p ∈ X.pn ++ pins, p.1 ≠ D) (at_ : ∀ H', ObjOk X.prog X.w H' s.heap D (.lst xs)) : Inv X pins σ (upd H D (.lst xs)) s := by
  have stays : ∀ {b u}, H b = some u → upd H D (.lst xs) b = some u := fun {b u} e => by rw [upd_ne (ne_of_none e hn)]; exact e
  have ok : HOk X.prog X.w (upd H D (.lst xs)) s.heap := fun b u e => by
    by_cases hb : b = D
    · subst hb; rw [upd_same] at e; cases e; exact at_ _
    · rw [upd_ne hb] at e
      exact (I.hok b u e).stay (fun _ _ _ z => z) (fun c z => stays z) fun c ys z => stays z
  refine ⟨I.ok, I.os, I.bare, ⟨I.base.keep, I.base.slot, fun b o e n x => ?_, I.base.there, fun b ys e => stays (I.base.tups b ys e), fun b o y e => stays (I.base.frzs b o y e), fun b ps e => ?_⟩, I.loc, I.cell, ?_, fun x c e => ?_, fun p m => ?_, ok, I.len⟩
  · have ne : b ≠ D := fun z => h0 (by rw [← z]; exact n)
    rw [upd_ne ne]
    exact I.base.free b o e n x
  · obtain ⟨more, q⟩ := I.base.tbls b ps e
    exact ⟨more, stays q⟩
  · rw [upd_ne hL]; exact I.free
  · rw [upd_ne (hc x c e)]; exact I.freeC x c e
  · obtain ⟨z1, z2, z3⟩ := I.pin p m
    exact ⟨z1, by rw [upd_ne (hp p m)]; exact z2, z3⟩
end
/-- a part of the consumer's turn, while the sleepers sleep on -/
theorem keepS {M : Model} {A : Around} {α : Type} {t : Sem α} {s : Shared} {E : Value → Shared → Prop} {Q Q' : α → Shared → Prop} (h : wpAny M A t Q (fun _ _ => False) { s with gens := s.gens.map asleep }) (hQ : ∀ a s' b, Q a s' → Rel s'.gens b → SameGens s.gens b → Q' a { s' with gens := b }) : wpAny M A t Q' E s :=
  wpAny_mono (wpAny_keep h) (fun a s2 z => by
    obtain ⟨s', q, _, rl, e, sg⟩ := z
    rw [e]
    exact hQ a s' _ q rl sg) fun e s2 z => by
    obtain ⟨_, no, _⟩ := z
    exact no.elim
section
variable {X : Cx} {k most : Nat}
def tLcH (t : TGen) (g : TG) (tt : TT) (te : TE) (vs : List Nat) : TE := fun σ H Q => ∃ Rd : Nat → List V → Hp → Hp → Prop, t σ H fun rs yl en H1 => Rd 0 [] H1 H1 ∧ (∀ j acc Hy H, Rd j acc Hy H → rs j Hy H) ∧ ∀ D, H1 D = none →
  (∀ j acc Hy H0 x H', Rd j acc Hy H0 → yl j H0 x H' → H0 D = none → H' D = none → g x (wipe σ vs) (upd H' D (.lst acc)) fun σ2 H2 => wipe σ2 vs = wipe σ vs ∧ tt σ2 H2 fun b H3 =>
    if b = true then te σ2 H3 fun y H4 => H4 D = some (.lst acc) ∧ acc.length < sizeLine ∧ Rd (j + 1) (acc ++ [y]) H' (wo H4 D) else H3 D = some (.lst acc) ∧ Rd (j + 1) acc H' (wo H3 D)) ∧
  ∀ j acc Hy H0 H', Rd j acc Hy H0 → en j H0 H' → H0 D = none → H' D = none → Q (.ref D) (upd H' D (.lst acc))
theorem no_cells : ∀ (l : List (Str × NameKind)) (n : Nat) (acc : List (Str × Addr)), (∀ y ∈ l, y.2 ≠ .cell) → cellsFrom n l acc = acc
  | [], _, _, _ => rfl
  | (x, k) :: r, n, acc, h => by
    have hk : k ≠ .cell := h (x, k) List.mem_cons_self
    show (if k == .cell then _ else cellsFrom n r acc) = acc
    rw [if_neg (show ¬ (k == .cell) = true by simpa using hk)]
    exact no_cells r n acc fun y m => h y (List.mem_cons_of_mem _ m)
/-- nothing of the block but its own names and what it captures -/
theorem blk_cells {cells : List (Str × Addr)} {names : List (Str × NameKind)} {n : Nat} (hno : ∀ y ∈ names, y.2 ≠ .cell) (hfree : ∀ y ∈ names, y.2 = .free → ∃ c, cells.lookup y.1 = some c) {x : Str} {c : Addr} (e : (cellsFrom n names (cloFrom cells names [])).lookup x = some c) : cells.lookup x = some c := by
  rw [no_cells names n _ hno] at e
  rcases cloFrom_mem (PySem.mem_of_lookup e) with z | ⟨m, rfl⟩
  · cases z
  · obtain ⟨c', q⟩ := hfree _ m rfl
    have q : cells.lookup x = some c' := q
    rw [q]; rfl
theorem live_dropped {G : GN} {g n j : Nat} {Tk : Nat → Shared → Hp → Prop} {rs : Nat → Hp → Hp → Prop} {yl : Nat → Hp → V → Hp → Prop} {en : Nat → Hp → Hp → Prop} {gs : GenState} {ip : List (Addr × Obj)} {Hy H : Hp} {s : Shared} {D : Addr} (z : Live X G g Tk rs yl en gs ip n j Hy s H) : Live X G g Tk rs yl en gs ip n j Hy s (wo H D) := by
  obtain ⟨z1, z2, z3, z4, sy, own, goes⟩ := z
  refine ⟨z1, z2, z3, z4, sy, fun b hb => ?_, goes⟩
  obtain ⟨o, e1, e2, e3, e4⟩ := own b hb
  exact ⟨o, e1, e2, wo_none e3, e4⟩
theorem lcH_core {pins : List (Addr × Obj)} {s : Shared} {σ : L2.St} {H : Hp} {Q : VK} {elt tg iter : Expr} {ifs : List Expr} {scope : Scope} {own : List (Str × Nat)} {pos pos' : Pos} {t : TGen} {g : TG} {tt : TT} {te : TE} {use : Option (Value → Sem Unit)} {Qf : Value → Shared → Prop}
    (hN : X.N.Nodup) (h1 : 1 ≤ most) (room : Room (k + 1) X.A) (I : Inv X pins σ H s) (hi : PH X iter k most t) (ok : BlkOk X.N X.env.scope scope own) (hno : ∀ y ∈ scope.names, y.2 ≠ .cell)
    (hg : ∀ (s : Shared) (H : Hp) (C : Addr) (cl : List (Str × Addr)) (fp : List Addr), PG (X.blk s H scope (compEnvC scope cl C X.env) fp) tg g)
    (ht : ∀ (s : Shared) (H : Hp) (C : Addr) (cl : List (Str × Addr)) (fp : List Addr), PTs (X.blk s H scope (compEnvC scope cl C X.env) fp) ifs tt)
    (he : ∀ (s : Shared) (H : Hp) (C : Addr) (cl : List (Str × Addr)) (fp : List Addr), PE (X.blk s H scope (compEnvC scope cl C X.env) fp) elt te) (hs : ∀ x, foldedSetIterable iter X.env x = pure x)
    (h : tLcH t g tt te (own.map (·.2)) σ H Q)
    (hRR : ∀ D C s' m H', Inv X pins σ H' s' → Q (.ref D) H' → s'.heap.Ns C m → FpOk X pins H' C → compPost (model X.prog X.w) X.A X.xe use Qf (.ref D) C (.ok .next) s') :
    wpAny (model X.prog X.w) X.A (comprehension (.ListComp elt [⟨tg, iter, ifs, 0⟩] scope pos) scope X.env pos' (newList []) false (eval iter X.env) use) Qf X.xe s := by
  obtain ⟨Rd, h⟩ := h
  have hfree : ∀ y ∈ scope.names, y.2 = .free → ∃ c, X.env.cells.lookup y.1 = some c := fun y hy e => (ok.free y hy e).elim (fun z => I.ok.has _ (.inl z)) fun z => I.ok.has _ (.inr z)
  refine wpAny_comprehension_free (use := use) rfl hs (closure_ok hfree) ok.kind (fun y hy e => by rw [ok.uniq y hy, e]) (thn (hi.run pins s σ H _ I h) fun u s1 z => ?_)
  obtain ⟨rs, yl, en, H1, s0, ⟨r0, hrs, hD⟩, I0, m⟩ := z
  obtain ⟨N, qual, gsc, f, cd, a, g', go, c, rfl, al, hgo, isg, god, hgs, os, bare, ⟨oL, hL, oLd⟩, keep, wake⟩ := m
  refine wpAny_pyIter_gen (isg _ hgo) (wpAny_newObj_type (newEnv_comp ?_) (by show 0 ≤ sizeLine; decide))
  have y0 := By.of I0
  have I1 : Inv X pins σ H1 s1 := I0.call' (ch := []) os (Un.kept keep) (I0.hok.kept keep) bare (fun b z => absurd z List.not_mem_nil)
  have aS : a < s1.heap.objs.size := Heap.lt_size hgo
  generalize eL : s0.heap.objs.size = L at *
  generalize eD : s1.heap.objs.size = D at *
  have nD : H1 D = none := I1.hok.fresh (Nat.le_of_eq eD)
  obtain ⟨turn, fini⟩ := hD D nD
  generalize e3 : ({ s1 with heap := s1.heap.push { cls := .type "list", data := .seq ([] : List Value).toArray } } : Shared) = s3
  have h3 : s3.heap = s1.heap.push { cls := .type "list", data := .seq ([] : List Value).toArray } := by rw [← e3]
  have sz3 : s3.heap.objs.size = D + 1 := by rw [h3, Heap.size_push, eD]
  have at3 : s3.heap.get? D = some { cls := .type "list", data := .seq ([] : List Value).toArray } := by rw [h3, ← eD]; exact Heap.get?_push_size _ rfl
  have kp3 : ∀ b o, s1.heap.get? b = some o → s3.heap.get? b = some o := fun b o e => by rw [h3]; exact Heap.get?_push_of_some _ e
  have lst3 : ∀ H', ObjOk X.prog X.w H' s3.heap D (.lst []) := fun H' => ⟨Nat.zero_le _, [], 0, .nil, at3⟩
  have I3 : Inv X pins σ (upd H1 D (.lst [])) s3 := by
    rw [← e3]
    refine I1.laid (t' := s1.toks) (fun b o e => Heap.get?_push_of_some _ e) (Nat.le_of_eq eD) ?_
    have z := lst3 (upd H1 D (.lst []))
    rw [h3] at z
    exact z
  have f3 : ∀ b ∈ List.range' L (D - L), FpOk X pins (upd H1 D (.lst [])) b ∧ b < s3.heap.objs.size := fun b hb => by
    have z := List.mem_range'_1.mp hb
    have lo : L ≤ b := z.1
    have hi : b < D := by
      have q : L ≤ D := Nat.le_of_lt (Nat.lt_trans al aS)
      have w := z.2
      rw [Nat.add_sub_cancel' q] at w
      exact w
    have nb : upd H1 D (.lst []) b = none := by
      rw [upd_ne (Nat.ne_of_lt hi)]
      exact I0.hok.fresh (by rw [eL]; exact lo)
    exact ⟨I0.fpOk (by rw [eL]; exact lo) nb, by rw [sz3]; exact Nat.lt_succ_of_lt hi⟩
  have I4 := block_start I3 ok hN f3
  have pg := hg s3 (upd H1 D (.lst [])) s3.heap.objs.size (cellsFrom (s3.heap.objs.size + 1) scope.names (cloFrom X.env.cells scope.names [])) (List.range' L (D - L))
  have pt := ht s3 (upd H1 D (.lst [])) s3.heap.objs.size (cellsFrom (s3.heap.objs.size + 1) scope.names (cloFrom X.env.cells scope.names [])) (List.range' L (D - L))
  have pe := he s3 (upd H1 D (.lst [])) s3.heap.objs.size (cellsFrom (s3.heap.objs.size + 1) scope.names (cloFrom X.env.cells scope.names [])) (List.range' L (D - L))
  show codeAny _ _ (.compStart (.ListComp elt [⟨tg, iter, ifs, 0⟩] scope pos) 0 (.ref a) (.ref D) (compEnvC scope (cellsFrom (s3.heap.objs.size + 1) scope.names (cloFrom X.env.cells scope.names [])) s3.heap.objs.size X.env)) (compPost (model X.prog X.w) X.A X.xe use Qf (.ref D) s3.heap.objs.size) { s3 with heap := pushCells (s3.heap.push { cls := .type "dict", data := .dict #[] }) scope.names }
  have cellU : ∀ x c, (compEnvC scope (cellsFrom (s3.heap.objs.size + 1) scope.names (cloFrom X.env.cells scope.names [])) s3.heap.objs.size X.env).cells.lookup x = some c → X.env.cells.lookup x = some c := fun x c e => blk_cells hno hfree e
  generalize ece : compEnvC scope (cellsFrom (s3.heap.objs.size + 1) scope.names (cloFrom X.env.cells scope.names [])) s3.heap.objs.size X.env = ce at I4 pg pt pe cellU ⊢
  have cL : ce.locals = s3.heap.objs.size := by subst ece; rfl
  generalize eC : s3.heap.objs.size = C at *
  have DC : D < C := by rw [sz3]; exact Nat.lt_succ_self _
  have LD : L < D := Nat.lt_trans al aS
  generalize eH3 : upd H1 D (.lst []) = H3 at *
  have H3D : H3 D = some (.lst []) := by rw [← eH3]; exact upd_same
  generalize efp : List.range' L (D - L) = fp at *
  have infp : ∀ b, L ≤ b → b < D → b ∈ fp := fun b l1 l2 => by
    rw [← efp]
    exact List.mem_range'_1.mpr ⟨l1, by rw [Nat.add_sub_cancel' (Nat.le_of_lt LD)]; exact l2⟩
  generalize e4 : ({ s3 with heap := pushCells (s3.heap.push { cls := .type "dict", data := .dict #[] }) scope.names } : Shared) = s4 at I4 ⊢
  have kp4 : ∀ b o, s3.heap.get? b = some o → s4.heap.get? b = some o := fun b o e => by rw [← e4]; exact pushCells_keeps _ _ _ _ (Heap.get?_push_of_some _ e)
  have g4 : s4.gens = s1.gens := by rw [← e4, ← e3]
  have y : By (X.blk s3 H3 scope ce fp) [] L [D, C] := by
    refine ⟨.inr ?_, fun b l1 nb => ?_, y0.stk, fun p hp => absurd (show p ∈ ([] : List (Addr × Obj)) ++ [] from hp) (by simp), fun x c e => y0.cell x c (cellU x c e)⟩
    · show ce.locals ∈ _
      rw [cL]
      simp
    · have n1 : b ≠ D := fun z => nb (by simp [z])
      by_cases l2 : b < D
      · exact .inl (infp b l1 l2)
      · right
        show s3.heap.objs.size ≤ b
        rw [eC, sz3]
        exact Nat.lt_of_le_of_ne (Nat.le_of_not_lt l2) (Ne.symm n1)
  have nOps : L ∉ [D, C] ∧ a ∉ [D, C] := by
    refine ⟨fun z => ?_, fun z => ?_⟩
    · rcases List.mem_cons.mp z with z | z
      · rw [z] at LD; exact Nat.lt_irrefl _ LD
      · rw [List.mem_singleton.mp z] at LD; exact Nat.lt_asymm LD DC
    · rcases List.mem_cons.mp z with z | z
      · rw [z] at aS; exact Nat.lt_irrefl _ aS
      · rw [List.mem_singleton.mp z] at aS; exact Nat.lt_asymm aS DC
  have size : ∀ {s' : Shared} {acc : List V}, (∀ H', ObjOk X.prog X.w H' s'.heap D (.lst acc)) → L ≤ s'.heap.objs.size := fun {s' acc} l => Nat.le_of_lt (Nat.lt_trans LD (l H1).lt)
  have owns : ∀ {σ' : L2.St} {H' : Hp} {s' : Shared} {acc : List V}, Inv (X.blk s3 H3 scope ce fp) [] σ' H' s' → H' D = none → (∀ H', ObjOk X.prog X.w H' s'.heap D (.lst acc)) → Ow [D, C] s' H' := fun {σ' H' s' acc} I' d l b hb => by
    rcases List.mem_cons.mp hb with rfl | hb
    · obtain ⟨_, its, nn, _, e⟩ := l H1
      exact ⟨⟨_, e, fun v q => by cases q⟩, d⟩
    · obtain rfl := List.mem_singleton.mp hb
      obtain ⟨mm, ⟨o, es, ep, ho, hd, _⟩, _⟩ := I'.loc
      have ho : s'.heap.get? ce.locals = some o := ho
      have z : H' ce.locals = none := I'.free
      rw [cL] at ho z
      exact ⟨⟨o, ho, fun v q => by rw [hd] at q; cases q⟩, z⟩
  obtain ⟨okG, wake⟩ := wake X.A.in1 [D, C] (TkX (X.blk s3 H3 scope ce fp) [] L [D, C] fun j Hy σ' H' s' => ∃ acc, Rd j acc Hy H' ∧ (∀ H'', ObjOk X.prog X.w H'' s'.heap D (.lst acc)) ∧ σ' = wipe σ (own.map (·.2)) ∧ H' D = none) room.in1 I0.ok.frames (fun b hb => by
    rcases List.mem_cons.mp hb with rfl | hb
    · exact LD
    · rw [List.mem_singleton.mp hb]; exact Nat.lt_trans LD DC) (fun j s2 H2 z => z.1)
  have lv4 : Live (X.blk s3 H3 scope ce fp) (gOf (X.blk s3 H3 scope ce fp) N qual gsc L f cd a go [D, C] most) g' (TkX (X.blk s3 H3 scope ce fp) [] L [D, C] fun j Hy σ' H' s' => ∃ acc, Rd j acc Hy H' ∧ (∀ H'', ObjOk X.prog X.w H'' s'.heap D (.lst acc)) ∧ σ' = wipe σ (own.map (·.2)) ∧ H' D = none) rs yl en (.fresh c) [] most 0 H1 s4 H1 := by
    refine ⟨by rw [g4]; exact hgs, fun p hp => absurd hp List.not_mem_nil, kp4 _ _ (kp3 _ _ hgo), isg, s1, fun b hb => ?_, fun s' H' tk r e0 kp => ⟨rfl, wake s' H' tk r e0 kp⟩⟩
    rcases hb with rfl | rfl | hb
    · exact ⟨oL, hL, kp4 _ _ (kp3 _ _ hL), I0.hok.fresh (Nat.le_of_eq eL), oLd⟩
    · exact ⟨go, hgo, kp4 _ _ (kp3 _ _ hgo), I0.hok.fresh (Nat.le_of_lt (by rw [eL]; exact al)), god⟩
    · exact absurd hb List.not_mem_nil
  have I4w : Inv (X.blk s3 H3 scope ce fp) [] (wipe σ (own.map (·.2))) H1 s4 := by
    have z := aside I4 H3D
    rw [← eH3, wo_upd nD] at z
    rw [← eH3]
    exact z
  have l4 : ∀ H', ObjOk X.prog X.w H' s4.heap D (.lst []) := fun H' => ⟨Nat.zero_le _, [], 0, .nil, kp4 _ _ at3⟩
  have nocell : ∀ x cc, (X.blk s3 H3 scope ce fp).env.cells.lookup x = some cc → cc ≠ D := fun x cc e z => by
    have w := y.cell x cc e
    rw [z] at w
    exact Nat.lt_asymm w LD
  have noloc : (X.blk s3 H3 scope ce fp).env.locals ≠ D := by
    show ce.locals ≠ D
    rw [cL]
    exact Nat.ne_of_gt DC
  have h0D : (X.blk s3 H3 scope ce fp).H_0 D ≠ none := by
    show H3 D ≠ none
    rw [H3D]
    exact fun z => by cases z
  have loop : codeAny (model X.prog X.w) X.A (.compLoop (.ListComp elt [⟨tg, iter, ifs, 0⟩] scope pos) 0 (.ref a) (.ref D) ce) (compPost (model X.prog X.w) X.A X.xe use Qf (.ref D) C) s4 := by
    refine compLoop_any (fun n s' => ∃ j gs ip Hy H' acc, n + j = most ∧ 1 ≤ n ∧ Inv (X.blk s3 H3 scope ce fp) [] (wipe σ (own.map (·.2))) H' s' ∧ H' D = none ∧ (∀ H'', ObjOk X.prog X.w H'' s'.heap D (.lst acc)) ∧ Rd j acc Hy H' ∧
      Live (X.blk s3 H3 scope ce fp) (gOf (X.blk s3 H3 scope ce fp) N qual gsc L f cd a go [D, C] most) g' (TkX (X.blk s3 H3 scope ce fp) [] L [D, C] fun j Hy σ' H' s' => ∃ acc, Rd j acc Hy H' ∧ (∀ H'', ObjOk X.prog X.w H'' s'.heap D (.lst acc)) ∧ σ' = wipe σ (own.map (·.2)) ∧ H' D = none) rs yl en gs ip n j Hy s' H') ?_ most ⟨0, .fresh c, [], H1, H1, [], Nat.add_zero _, h1, I4w, nD, l4, r0, lv4⟩
    rintro n s5 ⟨j, gs, ip, Hy, H5, acc0, hn, hn1, I5, d5, l5, r5, lv5⟩
    refine thnF (live_turn (X := X.blk s3 H3 scope ce fp) (pins := []) (Rd := fun j Hy σ' H' s' => ∃ acc, Rd j acc Hy H' ∧ (∀ H'', ObjOk X.prog X.w H'' s'.heap D (.lst acc)) ∧ σ' = wipe σ (own.map (·.2)) ∧ H' D = none) y room.hd room.depth okG I5 ⟨acc0, r5, l5, rfl, d5⟩ (hrs _ _ _ _ r5) (fun _ _ _ _ _ _ z => z) hn hn1 ⟨size l5, owns I5 d5 l5⟩ lv5) fun r s6 q => ?_
    rcases q with ⟨rfl, σ0, Hz, H0, H6, sz, ⟨acc, q0, l0, es, d0⟩, e6, I6, op⟩ | ⟨u, rfl, x, σ0, Hz, H0, H6, sz, rv, ⟨acc, q0, l0, es, d0⟩, y6, I6, op, lt6, n6, k', lv', c', p', fs', ip', L6⟩
    · have d6 : H6 D = none ∧ ∀ H'', ObjOk X.prog X.w H'' s6.heap D (.lst acc) := by
        have z := fun H'' => l0 H''
        refine ⟨?_, fun H'' => ?_⟩
        · obtain ⟨_, _, _, _, e⟩ := z H1
          exact (op (D, _) (mem_pinsAt List.mem_cons_self e)).2
        · obtain ⟨z1, its, nn, rr, e⟩ := z H''
          exact ⟨z1, its, nn, rr, (op (D, _) (mem_pinsAt List.mem_cons_self e)).1⟩
      obtain ⟨d6, l6⟩ := d6
      subst es
      have J6 : Inv (X.blk s3 H3 scope ce fp) [] (wipe σ (own.map (·.2))) (upd H6 D (.lst acc)) s6 := taken I6 d6 h0D noloc nocell (fun p hp => absurd (show p ∈ ([] : List (Addr × Obj)) ++ [] from hp) (by simp)) l6
      have J7 : Inv X pins σ (upd H6 D (.lst acc)) s6 := I3.call' (ch := fp) J6.os J6.base J6.hok J6.bare fun b hb => by
        obtain ⟨⟨_, z1, _, z3, z4, z5⟩, _⟩ := f3 b hb
        exact ⟨z3, z1, z4, z5⟩
      have nC : upd H6 D (.lst acc) ce.locals = none := J6.free
      obtain ⟨mm, hns, _⟩ := J6.loc
      have hns : s6.heap.Ns ce.locals mm := hns
      rw [cL] at nC hns
      exact hRR D C s6 mm _ J7 (fini j acc Hz H0 H6 q0 e6 d0 d6) hns (I3.fpOk (Nat.le_of_eq eC) nC)
    · have d6 : H6 D = none ∧ ∀ H'', ObjOk X.prog X.w H'' s6.heap D (.lst acc) := by
        refine ⟨?_, fun H'' => ?_⟩
        · obtain ⟨_, _, _, _, e⟩ := l0 H1
          exact (op (D, _) (mem_pinsAt List.mem_cons_self e)).2
        · obtain ⟨z1, its, nn, rr, e⟩ := l0 H''
          exact ⟨z1, its, nn, rr, (op (D, _) (mem_pinsAt List.mem_cons_self e)).1⟩
      obtain ⟨d6, l6⟩ := d6
      subst es
      obtain ⟨oi, nm, qn, hoi, hcl, hdt, _⟩ := isg _ L6.2.2.1
      refine go_of (n := "generator") hoi hcl hdt rfl ?_
      have Ip := own_pins (L := L) (G := gOf (X.blk s3 H3 scope ce fp) N qual gsc L f cd a go [D, C] most) y al nOps I6 L6
      have hip' := L6.2.1
      have Jp : Inv (X.blk s3 H3 scope ce fp) ([] ++ pinsAt (L :: a :: ip'.map (·.1)) s6.heap) (wipe σ (own.map (·.2))) (upd H6 D (.lst acc)) s6 := taken Ip d6 h0D noloc nocell (fun p hp z => by
        rcases List.mem_append.mp (show p ∈ ([] : List (Addr × Obj)) ++ ([] ++ pinsAt (L :: a :: ip'.map (·.1)) s6.heap) from hp) with w | w
        · exact absurd w List.not_mem_nil
        · obtain ⟨hb, _⟩ := of_pinsAt w
          rw [z] at hb
          rcases List.mem_cons.mp hb with w | hb
          · exact nOps.1 (by rw [← w]; exact List.mem_cons_self)
          · rcases List.mem_cons.mp hb with w | hb
            · exact nOps.2 (by rw [← w]; exact List.mem_cons_self)
            · obtain ⟨q, hq, w⟩ := List.mem_map.mp hb
              exact (hip' q hq).2 (by rw [w]; exact List.mem_cons_self)) l6
      refine keepS (pg.run _ { s6 with gens := s6.gens.map asleep } _ (upd H6 D (.lst acc)) x u _ (inv_gens Jp (asleep_all Jp.bare)) rv (turn j acc Hz H0 x H6 q0 y6 d0 d6)) fun _ s8 b8 z8 rl8 sg8 => ?_
      obtain ⟨σ8, H8, I8, hw8, q8⟩ := z8
      have K8 := inv_gens I8 (rl8.bare I8.bare)
      refine keepS (pt.run _ { ({ s8 with gens := b8 } : Shared) with gens := b8.map asleep } σ8 H8 _ (inv_gens K8 (asleep_all K8.bare)) q8) fun b s9 b9 z9 rl9 sg9 => ?_
      obtain ⟨H9, I9, q9⟩ := z9
      have K9 := inv_gens I9 (rl9.bare I9.bare)
      -- the turn's end
      have fin : ∀ {s' : Shared} {H' : Hp} {acc' : List V}, Inv (X.blk s3 H3 scope ce fp) ([] ++ pinsAt (L :: a :: ip'.map (·.1)) s6.heap) σ8 H' s' → H' D = some (.lst acc') → SameGens s6.gens s'.gens → Rd (j + 1) acc' H6 (wo H' D) → ∃ m, m < n ∧ ∃ j gs ip Hy H' acc, m + j = most ∧ 1 ≤ m ∧ Inv (X.blk s3 H3 scope ce fp) [] (wipe σ (own.map (·.2))) H' s' ∧ H' D = none ∧ (∀ H'', ObjOk X.prog X.w H'' s'.heap D (.lst acc)) ∧ Rd j acc Hy H' ∧
          Live (X.blk s3 H3 scope ce fp) (gOf (X.blk s3 H3 scope ce fp) N qual gsc L f cd a go [D, C] most) g' (TkX (X.blk s3 H3 scope ce fp) [] L [D, C] fun j Hy σ' H' s' => ∃ acc, Rd j acc Hy H' ∧ (∀ H'', ObjOk X.prog X.w H'' s'.heap D (.lst acc)) ∧ σ' = wipe σ (own.map (·.2)) ∧ H' D = none) rs yl en gs ip m j Hy s' H' := fun {s' H' acc'} I' hD' sg' rd' => by
        obtain ⟨L7, _⟩ := live_on sg' I' L6
        have hl : (wipe σ (own.map (·.2))).length = σ8.length := by rw [← hw8, wipe_length]
        refine ⟨n - 1, by omega, j + 1, _, ip', H6, wo H' D, acc', by omega, n6, (aside (I'.unpinned (pins := [])) hD').weak hl (fun i v e => ?_), wo_same, fun H'' => ?_, rd', live_dropped L7⟩
        · rw [← hw8] at e
          exact (wipe_some e).1
        · obtain ⟨z1, its, nn, rr, e⟩ := I'.hok D _ hD'
          exact ⟨z1, its, nn, rr, e⟩
      cases b with
      | false =>
        rw [if_neg Bool.false_ne_true] at q9 ⊢
        exact fin K9 q9.1 ((sg8.trans sg9)) q9.2
      | true =>
        rw [if_pos rfl] at q9 ⊢
        refine keepS (pe.run _ { ({ s9 with gens := b9 } : Shared) with gens := b9.map asleep } σ8 H9 _ (inv_gens K9 (asleep_all K9.bare)) q9) fun v s10 b10 z10 rl10 sg10 => ?_
        obtain ⟨yv, H10, I10, r10, hD10, hz10, nx⟩ := z10
        have K10 := inv_gens I10 (rl10.bare I10.bare)
        refine keepS (app_ok (X := X.blk s3 H3 scope ce fp) (Q := fun _ s' => Inv (X.blk s3 H3 scope ce fp) ([] ++ pinsAt (L :: a :: ip'.map (·.1)) s6.heap) σ8 (upd H10 D (.lst (acc ++ [yv]))) s') (s := { ({ s10 with gens := b10 } : Shared) with gens := b10.map asleep }) (inv_gens K10 (asleep_all K10.bare)) hD10 hz10 r10 fun s11 I11 => I11) fun _ s11 b11 I11 rl11 sg11 => ?_
        have K11 := inv_gens I11 (rl11.bare I11.bare)
        exact fin K11 upd_same (((sg8.trans sg9).trans sg10).trans sg11) (by rw [wo_lst]; exact nx)
  exact codeAny_compStart_list loop (wpAny_pyIter_gen (isg _ (kp4 _ _ (kp3 _ _ hgo))) loop)
/-- such a comprehension as a value -/
theorem pe_lcH {elt tg iter : Expr} {ifs : List Expr} {scope : Scope} {own : List (Str × Nat)} {pos : Pos} {t : TGen} {g : TG} {tt : TT} {te : TE} (hN : X.N.Nodup) (h1 : 1 ≤ most) (room : Room (k + 1) X.A) (hi : PH X iter k most t) (ok : BlkOk X.N X.env.scope scope own) (hno : ∀ y ∈ scope.names, y.2 ≠ .cell)
    (hg : ∀ (s : Shared) (H : Hp) (C : Addr) (cl : List (Str × Addr)) (fp : List Addr), PG (X.blk s H scope (compEnvC scope cl C X.env) fp) tg g)
    (ht : ∀ (s : Shared) (H : Hp) (C : Addr) (cl : List (Str × Addr)) (fp : List Addr), PTs (X.blk s H scope (compEnvC scope cl C X.env) fp) ifs tt)
    (he : ∀ (s : Shared) (H : Hp) (C : Addr) (cl : List (Str × Addr)) (fp : List Addr), PE (X.blk s H scope (compEnvC scope cl C X.env) fp) elt te) (hs : ∀ x, foldedSetIterable iter X.env x = pure x := by intro _; rfl) :
    PE X (.ListComp elt [⟨tg, iter, ifs, 0⟩] scope pos) (tLcH t g tt te (own.map (·.2))) := by
  refine ⟨fun pins s σ H Q I h => ?_⟩
  rw [eval_ListComp]
  refine lcH_core hN h1 room I hi ok hno hg ht he hs h fun D C s' m H' I' q hn f => ⟨m, hn, fun h'' sb => ?_⟩
  exact ⟨.ref D, H', I'.turned (t' := s'.toks) (fun b o hb e => (sb.2 b hb).trans e) f.1 f.2.1 f.2.2.2.1 f.2.2.2.2.1 f.2.2.2.2.2, rfl, q⟩
/-- y = [..] on one line, y a local -/
theorem ps_setLcH {i : Nat} {y : Str} {py : Pos} {elt tg iter : Expr} {ifs : List Expr} {scope : Scope} {own : List (Str × Nat)} {pos spos : Pos} {t : TGen} {g : TG} {tt : TT} {te : TE} (hN : X.N.Nodup) (h1 : 1 ≤ most) (room : Room (k + 1) X.A) (hy : X.N[i]? = some y) (hyl : X.env.scope.names.lookup y = some .local)
    (hsw : swapsWith (.ListComp elt [⟨tg, iter, ifs, 0⟩] scope pos) (some (.Name y py)) spos.line X.env = pure true) (hi : PH X iter k most t) (ok : BlkOk X.N X.env.scope scope own) (hno : ∀ y ∈ scope.names, y.2 ≠ .cell)
    (hg : ∀ (s : Shared) (H : Hp) (C : Addr) (cl : List (Str × Addr)) (fp : List Addr), PG (X.blk s H scope (compEnvC scope cl C X.env) fp) tg g)
    (ht : ∀ (s : Shared) (H : Hp) (C : Addr) (cl : List (Str × Addr)) (fp : List Addr), PTs (X.blk s H scope (compEnvC scope cl C X.env) fp) ifs tt)
    (he : ∀ (s : Shared) (H : Hp) (C : Addr) (cl : List (Str × Addr)) (fp : List Addr), PE (X.blk s H scope (compEnvC scope cl C X.env) fp) elt te) (hs : ∀ x, foldedSetIterable iter X.env x = pure x := by intro _; rfl) :
    PS X (.Assign [.Name y py] (.ListComp elt [⟨tg, iter, ifs, 0⟩] scope pos) spos) (tAsg (tLcH t g tt te (own.map (·.2))) (gName i)) := by
  refine ⟨fun pins s σ H D I h => ?_⟩
  rw [exec_Assign_Name_used _ _ _ _ hsw]
  refine wpAny_bind (wpAny_standAt (wpAny_bind ?_))
  show wpAny _ X.A (do let _ ← comprehension (.ListComp elt [⟨tg, iter, ifs, 0⟩] scope pos) scope X.env (firstIterPos [⟨tg, iter, ifs, 0⟩] pos) (newList []) false (eval iter X.env) (some (assign (.Name y py) X.env))) _ _ s
  have hh : tLcH t g tt te (own.map (·.2)) σ H (fun x H1 => gName i x σ H1 D.nx) := h
  refine wpAny_bind (thn (lcH_core (Qf := fun _ s' => SP X pins D .next s') hN h1 room I hi ok hno hg ht he hs hh fun L C s' m H' I' q hn f => ?_) fun _ s' hq => wpAny_pure (wpAny_pure hq))
  show wpAny _ _ (assign (.Name y py) X.env (.ref L)) _ _ _
  refine wpAny_assign_Name (store_ok2 (v := V.ref L) I' hN hy (.inl hyl) rfl (fun s2 I2 w => ?_) (.inr hyl))
  obtain ⟨a, sb, ha⟩ := w
  have other : C ≠ a := by
    rcases ha with z | z
    · rw [z]; exact f.2.1
    · exact fun e => f.2.2.2.2.1 y a z e.symm
  exact ⟨m, hn.sameBut sb other, fun h3 sb3 => ⟨_, H', I2.turned (t' := s2.toks) (fun b o hb e => (sb3.2 b hb).trans e) f.1 f.2.1 f.2.2.2.1 f.2.2.2.2.1 f.2.2.2.2.2, q⟩⟩
end
end KH

/-! KH5: readings of generator bodies, and of loops over them. -/
namespace KH
open PySem PySem.Spec PyProof.Rows L2 GenW KT
/-! ### a reading that does not look at the state of waking -/
theorem goPI {X : Cx} {tg iter : Expr} {r r' : TI} (h : PI X tg iter r) (e : r = r') : PI X tg iter r' := e ▸ h
theorem goPG {X : Cx} {tg : Expr} {r r' : TG} (h : PG X tg r) (e : r = r') : PG X tg r' := e ▸ h
theorem goPS {X : Cx} {st : Stmt} {r r' : TS} (h : PS X st r) (e : r = r') : PS X st r' := e ▸ h
theorem goPE {X : Cx} {ex : Expr} {r r' : TE} (h : PE X ex r) (e : r = r') : PE X ex r' := e ▸ h
theorem goPT {X : Cx} {ex : Expr} {r r' : TT} (h : PT X ex r) (e : r = r') : PT X ex r' := e ▸ h
section
variable {σ : L2.St} {H H0 : Hp} {D : GD} {j : Nat}
theorem r_hthen {t u : TW} (q : t { D with nx := fun j' H0' σ' H' => u D j' H0' σ' H' } j H0 σ H) : tWThen t u D j H0 σ H := q
theorem r_h0 (q : D.nx j H0 σ H) : tW0 D j H0 σ H := q
theorem r_hps {t : TS} (q : t (D.at j H0) σ H) : tWPlain t D j H0 σ H := q
theorem r_hif {tc : TT} {t1 t2 : TW} (q : tc σ H fun b H1 => if b = true then t1 D j H0 σ H1 else t2 D j H0 σ H1) : tWIf tc t1 t2 D j H0 σ H := q
theorem r_hyield {m : Nat} {te : TE} (h : j + 1 < m) (q : te σ H fun x H1 => D.yl j H0 x H1 ∧ ∀ H2, D.rs (j + 1) H1 H2 → D.nx (j + 1) H2 σ H2) : tWYield m te D j H0 σ H := ⟨h, q⟩
theorem r_hfor {wi : TI} {g : TG} {tb : TW} (q : wi σ H fun J H1 => ∃ W : Nat → Nat → Nat → Hp → L2.St → Hp → Prop, (∃ m, W 0 m j H0 σ H1) ∧ ∀ i m j H0 σ H, W i m j H0 σ H →
  (J.stop i H ∧ D.nx j H0 σ H) ∨ (J.go i H ∧ ∃ N : Nat → Hp → L2.St → Hp → Prop, (∀ j' H0' σ' H', N j' H0' σ' H' → ∃ m', m' < m ∧ W (i + 1) m' j' H0' σ' H') ∧ ∀ x H', J.yld i H x H' → g x σ H' fun σ2 H2 => tb { D with nx := N, ct := N, bk := D.nx } j H0 σ2 H2)) : tWFor wi g tb D j H0 σ H := q
end
/-- a loop of a generator, by the walk -/
theorem hforW {J : It} {n : Nat} {G : Hp → Prop} {Y : Nat → Hp → V → Hp → Prop} (wk : Walk J n G Y) {g : TG} {tb : TW} {D : GD} {j : Nat} {H0 : Hp} {σ : L2.St} {H : Hp} (Pv : Nat → Nat → Hp → L2.St → Hp → Prop) (h0 : Pv 0 j H0 σ H) (hG : ∀ i j H0 σ H, i ≤ n → Pv i j H0 σ H → G H)
    (hs : ∀ i x j H0 σ H H', i < n → Pv i j H0 σ H → Y i H x H' → g x σ H' fun σ2 H2 => tb { D with nx := Pv (i + 1), ct := Pv (i + 1), bk := D.nx } j H0 σ2 H2) (hd : ∀ j H0 σ H, Pv n j H0 σ H → D.nx j H0 σ H) :
    ∃ W : Nat → Nat → Nat → Hp → L2.St → Hp → Prop, (∃ m, W 0 m j H0 σ H) ∧ ∀ i m j H0 σ H, W i m j H0 σ H →
      (J.stop i H ∧ D.nx j H0 σ H) ∨ (J.go i H ∧ ∃ N : Nat → Hp → L2.St → Hp → Prop, (∀ j' H0' σ' H', N j' H0' σ' H' → ∃ m', m' < m ∧ W (i + 1) m' j' H0' σ' H') ∧ ∀ x H', J.yld i H x H' → g x σ H' fun σ2 H2 => tb { D with nx := N, ct := N, bk := D.nx } j H0 σ2 H2) := by
  refine ⟨fun i m j H0 σ H => m = n - i ∧ i ≤ n ∧ Pv i j H0 σ H, ⟨n, by simp, Nat.zero_le _, h0⟩, ?_⟩
  rintro i m j H0 σ H ⟨rfl, hi, p⟩
  have q := hG i j H0 σ H hi p
  rcases Nat.lt_or_ge i n with lt | ge
  · exact .inr ⟨wk.goes i H lt q, Pv (i + 1), fun j' H0' σ' H' p' => ⟨n - (i + 1), by omega, rfl, lt, p'⟩, fun x H' y => hs i x j H0 σ H H' lt p (wk.yields i H x H' lt q y)⟩
  · have e : i = n := Nat.le_antisymm hi ge
    rw [e] at p ⊢
    exact .inl ⟨wk.stops H q, hd j H0 σ H p⟩
end KH

/-! KH6: {elt for a in xs for b in ys}, whole numbers: a set comprehension of two clauses without tests. -/
namespace KH
open PySem PySem.Spec PyProof.Rows L2
section
variable {elt t0 i0 t1 i1 : Expr} {scope : Scope} {pos : Pos} {it acc : Value} {env : Env}
abbrev sc2 (elt t0 i0 t1 i1 : Expr) (scope : Scope) (pos : Pos) : Expr := .SetComp elt [⟨t0, i0, [], 0⟩, ⟨t1, i1, [], 0⟩] scope pos
theorem sTurn0 : compTurn (sc2 elt t0 i0 t1 i1 scope pos) 0 it acc env = (do
    standAt i0.pos
    match ← pyNext it with
    | none => pure (.done .next)
    | some v =>
      letOwnedTupleGo t0 it v
      assign t0 env v
      let x ← eval i1 env
      standAt i1.pos
      let x ← foldedSetIterable i1 env x
      let _ ← runOwn (.compStart (sc2 elt t0 i0 t1 i1 scope pos) 1 (← holding [x] (pyIter x)) acc env) env
      again (.compLoop (sc2 elt t0 i0 t1 i1 scope pos) 0 it acc env)) := by rfl
theorem sTurn1 : compTurn (sc2 elt t0 i0 t1 i1 scope pos) 1 it acc env = (do
    standAt i1.pos
    match ← pyNext it with
    | none => pure (.done .next)
    | some v =>
      letOwnedTupleGo t1 it v
      assign t1 env v
      (do let v ← eval elt env; standAt elt.pos; let _ ← call (.builtin "set.add") [acc, v])
      again (.compLoop (sc2 elt t0 i0 t1 i1 scope pos) 1 it acc env)) := by rfl
end
section
variable {prog : Program} {w : World} {A : Around} {R : Result → Shared → Prop} {s : Shared} {elt t0 i0 t1 i1 : Expr} {scope : Scope} {pos : Pos} {it acc : Value} {env : Env}
/-- a turn of the first clause, by what follows its next -/
theorem sLoop0 (hs : ∀ x, foldedSetIterable i1 env x = pure x) (Z : Nat → Shared → Prop)
    (turn : ∀ n s, Z n s → wpAny (model prog w) A (pyNext it) (fun r s1 => match r with
      | none => R (.ok .next) s1
      | some v => wpAny (model prog w) A (letOwnedTupleGo t0 it v) (fun _ s2 => wpAny (model prog w) A (assign t0 env v) (fun _ s3 => wpAny (model prog w) A (eval i1 env) (fun x s4 => wpAny (model prog w) A (pyIter x) (fun it1 s5 =>
          codeAny (model prog w) A (.compStart (sc2 elt t0 i0 t1 i1 scope pos) 1 it1 acc env) (fun r s' => match r with
            | .ok _ => ∃ m, m < n ∧ Z m s'
            | .error _ => False) s5) (fun _ _ => False) s4) (fun _ _ => False) s3) (fun _ _ => False) s2) (fun _ _ => False) s1) (fun _ _ => False) s)
    (n : Nat) (h : Z n s) : codeAny (model prog w) A (.compLoop (sc2 elt t0 i0 t1 i1 scope pos) 0 it acc env) R s := by
  refine codeAny_loop rfl Z (fun n s z => ?_) n h
  show wpAny _ A ((compTurn (sc2 elt t0 i0 t1 i1 scope pos) 0 it acc env).onRaise (fun x => do noteFrame x env; theTreesLotGoes x)) _ _ s
  refine wpAny_noted ?_
  rw [sTurn0]
  refine wpAny_bind (wpAny_standAt (wpAny_bind (thnF (turn n s z) fun r s1 h1 => ?_)))
  cases r with
  | none => exact wpAny_pure h1
  | some v =>
    refine wpAny_bind (thnF h1 fun _ s2 h2 => wpAny_bind (thnF h2 fun _ s3 h3 => wpAny_bind (thnF h3 fun x s4 h4 => ?_)))
    refine wpAny_bind (wpAny_standAt (wpAny_bind (wpAny_of_eq (hs x) (wpAny_bind (wpAny_holding (thnF h4 fun it1 s5 h5 => ?_))))))
    refine wpAny_bind (wpAny_runOwn ?_)
    rw [Around.mark_none]
    refine codeAny_mono h5 fun r s6 q => ?_
    cases r with
    | error e => exact q.elim
    | ok f => exact wpAny_bind (wpAny_pure (wpAny_pure ⟨rfl, q⟩))
theorem sLoop1 (Z : Nat → Shared → Prop)
    (turn : ∀ n s, Z n s → wpAny (model prog w) A (pyNext it) (fun r s1 => match r with
      | none => R (.ok .next) s1
      | some v => wpAny (model prog w) A (letOwnedTupleGo t1 it v) (fun _ s2 => wpAny (model prog w) A (assign t1 env v) (fun _ s3 => wpAny (model prog w) A (eval elt env) (fun x s4 =>
          wpAny (model prog w) A (call (.builtin "set.add") [acc, x]) (fun _ s5 => ∃ m, m < n ∧ Z m s5) (fun _ _ => False) s4) (fun _ _ => False) s3) (fun _ _ => False) s2) (fun _ _ => False) s1) (fun _ _ => False) s)
    (n : Nat) (h : Z n s) : codeAny (model prog w) A (.compLoop (sc2 elt t0 i0 t1 i1 scope pos) 1 it acc env) R s := by
  refine codeAny_loop rfl Z (fun n s z => ?_) n h
  show wpAny _ A ((compTurn (sc2 elt t0 i0 t1 i1 scope pos) 1 it acc env).onRaise (fun x => do noteFrame x env; theTreesLotGoes x)) _ _ s
  refine wpAny_noted ?_
  rw [sTurn1]
  refine wpAny_bind (wpAny_standAt (wpAny_bind (thnF (turn n s z) fun r s1 h1 => ?_)))
  cases r with
  | none => exact wpAny_pure h1
  | some v =>
    refine wpAny_bind (thnF h1 fun _ s2 h2 => wpAny_bind (thnF h2 fun _ s3 h3 => ?_))
    exact wpAny_bind (wpAny_bind (thnF h3 fun x s4 h4 => wpAny_bind (wpAny_standAt (wpAny_bind (thnF h4 fun _ s5 h5 => wpAny_pure (wpAny_pure ⟨rfl, h5⟩))))))
/-- the second clause begins -/
theorem sStart1 (own : wpAny (model prog w) A (pyIter it) (fun it' s' => codeAny (model prog w) A (.compLoop (sc2 elt t0 i0 t1 i1 scope pos) 1 it' acc env) R s') (fun _ _ => False) s) (h0 : codeAny (model prog w) A (.compLoop (sc2 elt t0 i0 t1 i1 scope pos) 1 it acc env) R s) :
    codeAny (model prog w) A (.compStart (sc2 elt t0 i0 t1 i1 scope pos) 1 it acc env) R s := by
  refine codeAny_of_tree ?_
  show wpAny _ _ ((compStart (sc2 elt t0 i0 t1 i1 scope pos) 1 it acc env).onRaise (fun x => do noteFrame x env; standAt theWindowsPlace)) _ _ s
  refine wpAny_notedAt ?_
  unfold compStart
  show wpAny _ _ (ask >>= _) _ _ s
  refine wpAny_bind (wpAny_askSetting (wpAny_ite ?_))
  split
  · first
      | exact wpAny_bind (wpAny_pure (wpAny_pure ⟨rfl, h0⟩))
      | exact wpAny_pure ⟨rfl, h0⟩
  · refine wpAny_bind (wpAny_rule ?_)
    first
      | exact wpAny_bind (wpAny_standAt (wpAny_bind (thnF own fun it' s' h' => wpAny_pure ⟨rfl, h'⟩)))
      | (show wpAny _ _ (standAt i1.pos >>= _) _ _ s; exact wpAny_bind (wpAny_standAt (wpAny_bind (thnF own fun it' s' h' => wpAny_pure ⟨rfl, h'⟩))))
end
/-! ### the whole -/
section
variable {X : Cx}
def tSc2 (w : World) (wi : TI) (g : TG) (wi1 : TI) (g1 : TG) (te : TE) (vs vs1 : List Nat) : TE := fun σ H Q => wi σ H fun J H1 => ∀ D, H1 D = none → ∃ W : Nat → Nat → Hp → Prop, (∃ m, W 0 m (upd H1 D (SetO w D (fun _ => false) 0))) ∧ ∀ i m H, W i m H →
  (J.stop i H ∧ Q (.ref D) H) ∨ (J.go i H ∧ ∃ Nx : Hp → Prop, (∀ H', Nx H' → ∃ m', m' < m ∧ W (i + 1) m' H') ∧ ∀ x H', J.yld i H x H' → g x (wipe σ vs) H' fun σ2 H2 => wipe σ2 vs = wipe σ vs ∧ wi1 σ2 H2 fun J1 H4 => ∃ W1 : Nat → Nat → Hp → Prop, (∃ m, W1 0 m H4) ∧ ∀ j k H, W1 j k H →
      (J1.stop j H ∧ Nx H) ∨ (J1.go j H ∧ ∃ Nx1 : Hp → Prop, (∀ H', Nx1 H' → ∃ k', k' < k ∧ W1 (j + 1) k' H') ∧ ∀ x H', J1.yld j H x H' → g1 x (wipe σ2 vs1) H' fun σ3 H5 => wipe σ3 vs1 = wipe σ2 vs1 ∧ te σ3 H5 fun y H7 =>
        ∃ (c : Int) (S : Int → Bool) (n : Nat), y = .int c ∧ H7 D = some (SetO w D S n) ∧ n + 1 < scanBound ∧ Nx1 (upd H7 D (SetO w D (fun j => S j || decide (j = c)) (if S c = true then n else n + 1)))))
theorem pe_sc2 {elt t0 i0 t1 i1 : Expr} {scope : Scope} {own : List (Str × Nat)} {vs1 : List Nat} {pos : Pos} {wi wi1 : TI} {g g1 : TG} {te : TE} (hc : X.calm = true) (hN : X.N.Nodup) (hi : PI X t0 i0 wi) (ok : BlkOk X.N X.env.scope scope own) (hv : ∀ i ∈ vs1, i ∈ own.map (·.2))
    (h0 : ∀ (t : Shared) (G : Hp) (b : Addr) (kl : List (Str × Addr)) (fq : List Addr), PG (X.blk t G scope (compEnvC scope kl b X.env) fq) t0 g) (h1 : ∀ (t : Shared) (G : Hp) (b : Addr) (kl : List (Str × Addr)) (fq : List Addr), PI (X.blk t G scope (compEnvC scope kl b X.env) fq) t1 i1 wi1)
    (h2 : ∀ (t : Shared) (G : Hp) (b : Addr) (kl : List (Str × Addr)) (fq : List Addr), PG (X.blk t G scope (compEnvC scope kl b X.env) fq) t1 g1) (h3 : ∀ (t : Shared) (G : Hp) (b : Addr) (kl : List (Str × Addr)) (fq : List Addr), PE (X.blk t G scope (compEnvC scope kl b X.env) fq) elt te)
    (hs : ∀ x, foldedSetIterable i0 X.env x = pure x := by intro _; rfl) (hs1 : ∀ env x, foldedSetIterable i1 env x = pure x := by intro _ _; rfl) : PE X (sc2 elt t0 i0 t1 i1 scope pos) (tSc2 X.w wi g wi1 g1 te (own.map (·.2)) vs1) := by
  refine ⟨fun pins s σ H Q I h => ?_⟩
  rw [PpSet.eval_SetComp]
  have hfree : ∀ y ∈ scope.names, y.2 = .free → ∃ c, X.env.cells.lookup y.1 = some c := fun y hy e => (ok.free y hy e).elim (fun z => I.ok.has _ (.inl z)) fun z => I.ok.has _ (.inr z)
  refine wpAny_comprehension_free (use := none) rfl hs (closure_ok hfree) ok.kind (fun y hy e => by rw [ok.uniq y hy, e]) (thn (hi.run pins s σ H _ I h) fun xv s1 hx => thn hx fun itv s2 hy => ?_)
  obtain ⟨it, fp, tn, J, H2, rfl, I2, T, st2, f2, q⟩ := hy
  refine PpSet.newSet_ok (newEnv_comp ?_)
  generalize eD : s2.heap.objs.size = D at *
  have nD : H2 D = none := I2.hok.fresh (Nat.le_of_eq eD)
  obtain ⟨W, ⟨m0, w0⟩, turn⟩ := q D nD
  generalize e3 : ({ s2 with heap := s2.heap.push { cls := .type "set", dict := none, data := .set #[] 0 (.fresh 0 0 (!X.w.params.followText "set-order")) } } : Shared) = s3
  have h3' : s3.heap = s2.heap.push { cls := .type "set", dict := none, data := .set #[] 0 (.fresh 0 0 (!X.w.params.followText "set-order")) } := by rw [← e3]
  have I3 : Inv X pins σ (upd H2 D (SetO X.w D (fun _ => false) 0)) s3 := by
    rw [← e3, ← eD]
    exact I2.laid (t' := s2.toks) (fun b o e => Heap.get?_push_of_some _ e) (Nat.le_refl _) (setO_new (setR_fresh X.w))
  have kp3 : ∀ b o, s2.heap.get? b = some o → s3.heap.get? b = some o := fun b o e => by rw [h3']; exact Heap.get?_push_of_some _ e
  have young : ∀ b ∈ fp, b < D := fun b hb => by
    obtain ⟨o, e, _⟩ := T.obj _ _ st2 b hb
    rw [← eD]
    exact Heap.lt_size e
  have f3 : ∀ b ∈ fp, FpOk X pins (upd H2 D (SetO X.w D (fun _ => false) 0)) b ∧ b < s3.heap.objs.size := fun b hb => by
    refine ⟨⟨?_, (f2 b hb).2⟩, by rw [h3', Heap.size_push, eD]; exact Nat.lt_succ_of_lt (young b hb)⟩
    rw [upd_ne (Nat.ne_of_lt (young b hb))]
    exact (f2 b hb).1
  have I4 := block_start I3 ok hN f3
  have p0 := h0 s3 (upd H2 D (SetO X.w D (fun _ => false) 0)) s3.heap.objs.size (cellsFrom (s3.heap.objs.size + 1) scope.names (cloFrom X.env.cells scope.names [])) fp
  have p1 := h1 s3 (upd H2 D (SetO X.w D (fun _ => false) 0)) s3.heap.objs.size (cellsFrom (s3.heap.objs.size + 1) scope.names (cloFrom X.env.cells scope.names [])) fp
  have p2 := h2 s3 (upd H2 D (SetO X.w D (fun _ => false) 0)) s3.heap.objs.size (cellsFrom (s3.heap.objs.size + 1) scope.names (cloFrom X.env.cells scope.names [])) fp
  have p3 := h3 s3 (upd H2 D (SetO X.w D (fun _ => false) 0)) s3.heap.objs.size (cellsFrom (s3.heap.objs.size + 1) scope.names (cloFrom X.env.cells scope.names [])) fp
  show codeAny _ _ (.compStart (sc2 elt t0 i0 t1 i1 scope pos) 0 (.ref it) (.ref D) (compEnvC scope (cellsFrom (s3.heap.objs.size + 1) scope.names (cloFrom X.env.cells scope.names [])) s3.heap.objs.size X.env)) (compPost (model X.prog X.w) X.A X.xe none _ (.ref D) s3.heap.objs.size) { s3 with heap := pushCells (s3.heap.push { cls := .type "dict", data := .dict #[] }) scope.names }
  have nfp : ∀ b ∈ fp, (upd H2 D (SetO X.w D (fun _ => false) 0)) b = none := fun b hb => (f3 b hb).1.1
  generalize ece : compEnvC scope (cellsFrom (s3.heap.objs.size + 1) scope.names (cloFrom X.env.cells scope.names [])) s3.heap.objs.size X.env = ce at I4 p0 p1 p2 p3 ⊢
  have cL : ce.locals = s3.heap.objs.size := by subst ece; rfl
  generalize eH3 : upd H2 D (SetO X.w D (fun _ => false) 0) = H3 at I3 I4 p0 p1 p2 p3 w0 nfp f3
  generalize e4 : ({ s3 with heap := pushCells (s3.heap.push { cls := .type "dict", data := .dict #[] }) scope.names } : Shared) = s4 at I4 ⊢
  have st4 : tn 0 s4.heap := T.keep _ _ _ st2 fun b _ o e => by rw [← e4]; exact pushCells_keeps _ _ _ _ (Heap.get?_push_of_some _ (kp3 _ _ e))
  have own0 : ∀ {σ' : L2.St} {H' : Hp} {s' : Shared}, Inv (X.blk s3 H3 scope ce fp) [] σ' H' s' → (∀ b ∈ fp, H' b = none) → ∀ b ∈ fp, FpOk (X.blk s3 H3 scope ce fp) [] H' b := fun {σ' H' s'} I' hn b hb =>
    ⟨hn b hb, (I'.ok.exf b hb).1, I'.ok.exfs b hb, .inl hb, fun x c e => (I'.ok.exf b hb).2 x c e, fun p hp => absurd (show p ∈ ([] : List (Addr × Obj)) ++ [] from hp) (by simp)⟩
  have loop : codeAny (model X.prog X.w) X.A (.compLoop (sc2 elt t0 i0 t1 i1 scope pos) 0 (.ref it) (.ref D) ce) (compPost (model X.prog X.w) X.A X.xe none (fun v s' => EP X pins σ Q v s') (.ref D) s3.heap.objs.size) s4 := by
    refine sLoop0 (hs1 ce) (fun n s' => ∃ i H', Inv (X.blk s3 H3 scope ce fp) [] (wipe σ (own.map (·.2))) H' s' ∧ tn i s'.heap ∧ (∀ b ∈ fp, H' b = none) ∧ W i n H') ?_ m0 ⟨0, H3, I4, st4, nfp, w0⟩
    rintro n s5 ⟨i, H5, I5, st5, n5, w5⟩
    rcases turn i n H5 w5 with ⟨stop, qq⟩ | ⟨go, Nx, hNx, step⟩
    · refine thnF (T.done (X.blk s3 H3 scope ce fp) rfl rfl rfl hc i [] s5 _ H5 (fun _ _ => False) I5 (own0 I5 n5) st5 stop) fun r s6 z => ?_
      obtain ⟨rfl, I6⟩ := z
      have I7 : Inv X pins σ H5 s6 := I3.call' (ch := fp) I6.os I6.base I6.hok I6.bare fun b hb => by
        obtain ⟨⟨_, z1, _, z3, z4, z5⟩, _⟩ := f3 b hb
        exact ⟨z3, z1, z4, z5⟩
      have nC : H5 ce.locals = none := I6.free
      obtain ⟨m, hn, _⟩ := I6.loc
      have hn : s6.heap.Ns ce.locals m := hn
      rw [cL] at nC hn
      have f := I3.fpOk (Nat.le_refl _) nC
      exact ⟨m, hn, fun h6 sb => ⟨.ref D, H5, I7.turned (t' := s6.toks) (fun b o hb e => (sb.2 b hb).trans e) f.1 f.2.1 f.2.2.2.1 f.2.2.2.2.1 f.2.2.2.2.2, rfl, qq⟩⟩
    · refine thnF (T.item (X.blk s3 H3 scope ce fp) rfl rfl rfl hc i [] s5 _ H5 (fun _ _ => False) I5 (own0 I5 n5) st5 go) fun r s6 z => ?_
      obtain ⟨u, rfl, h6⟩ := z
      refine thnF h6 fun _ s7 z => ?_
      obtain ⟨x, H7, I7, r7, y7, st7, n7⟩ := z
      have J7 := I7.pinned (own0 I7 n7) (T.obj _ _ st7)
      refine thnF (p0.run _ s7 _ H7 x u _ J7 r7 (step x H7 y7)) fun _ s8 z => ?_
      obtain ⟨σ8, H8, I8, hw8, q8⟩ := z
      have fin : ∀ {σ9 : L2.St} {s' : Shared} {H' : Hp}, Inv (X.blk s3 H3 scope ce fp) ([] ++ pinsAt fp s7.heap) σ9 H' s' → (wipe σ (own.map (·.2))).length = σ9.length → (∀ (j : Nat) v, (wipe σ (own.map (·.2)))[j]? = some (some v) → σ9[j]? = some (some v)) → Nx H' →
          ∃ m, m < n ∧ ∃ i H', Inv (X.blk s3 H3 scope ce fp) [] (wipe σ (own.map (·.2))) H' s' ∧ tn i s'.heap ∧ (∀ b ∈ fp, H' b = none) ∧ W i m H' := fun {σ9 s' H'} I' hl hk nx => by
        obtain ⟨m', hm, w'⟩ := hNx H' nx
        have kept : ∀ b ∈ fp, ∀ o, s7.heap.get? b = some o → s'.heap.get? b = some o ∧ H' b = none := fun b hb o e => by
          have z := I'.pin (b, o) (List.mem_append_right _ (List.mem_append_right _ (mem_pinsAt hb e)))
          exact ⟨z.1, z.2.1⟩
        refine ⟨m', hm, i + 1, H', (I'.unpinned (pins := [])).weak hl hk, T.keep _ _ _ st7 fun b hb o e => (kept b hb o e).1, fun b hb => ?_, w'⟩
        obtain ⟨o, e, _⟩ := T.obj _ _ st7 b hb
        exact (kept b hb o e).2
      have hk9 : ∀ (j : Nat) v, (wipe σ (own.map (·.2)))[j]? = some (some v) → (wipe σ8 vs1)[j]? = some (some v) := fun j v e => by
        rw [← hw8] at e
        obtain ⟨a1, a2⟩ := wipe_some e
        rw [wipe_out fun z => a2 (hv j z)]
        exact a1
      have hl9 : (wipe σ (own.map (·.2))).length = (wipe σ8 vs1).length := by rw [← hw8, wipe_length, wipe_length]
      refine thnF (p1.run _ s8 σ8 H8 _ I8 q8) fun xv s9 hx => thnF hx fun itv s10 z => ?_
      obtain ⟨it1, fp1, tn1, J1, H10, rfl, I10, T1, st10, f10, W1, ⟨m1, w1⟩, turn1⟩ := z
      have own1 : ∀ {H' : Hp}, (∀ b ∈ fp1, H' b = none) → ∀ b ∈ fp1, FpOk (X.blk s3 H3 scope ce fp) ([] ++ pinsAt fp s7.heap) H' b := fun hn b hb => ⟨hn b hb, (f10 b hb).2⟩
      have inner : codeAny (model X.prog X.w) X.A (.compLoop (sc2 elt t0 i0 t1 i1 scope pos) 1 (.ref it1) (.ref D) ce) (fun r s' => match r with
          | .ok _ => ∃ m, m < n ∧ ∃ i H', Inv (X.blk s3 H3 scope ce fp) [] (wipe σ (own.map (·.2))) H' s' ∧ tn i s'.heap ∧ (∀ b ∈ fp, H' b = none) ∧ W i m H'
          | .error _ => False) s10 := by
        refine sLoop1 (fun k s' => ∃ j H', Inv (X.blk s3 H3 scope ce fp) ([] ++ pinsAt fp s7.heap) (wipe σ8 vs1) H' s' ∧ tn1 j s'.heap ∧ (∀ b ∈ fp1, H' b = none) ∧ W1 j k H') ?_ m1 ⟨0, H10, I10.weak (wipe_length _ _) (fun j v e => (wipe_some e).1), st10, fun b hb => (f10 b hb).1, w1⟩
        rintro k s11 ⟨j, H11, I11, st11, n11, w11⟩
        rcases turn1 j k H11 w11 with ⟨stop1, nx1⟩ | ⟨go1, Nx1, hNx1, step1⟩
        · refine thnF (T1.done (X.blk s3 H3 scope ce fp) rfl rfl rfl hc j _ s11 (wipe σ8 vs1) H11 (fun _ _ => False) I11 (own1 n11) st11 stop1) fun r s12 z => ?_
          obtain ⟨rfl, I12⟩ := z
          exact fin I12 hl9 hk9 nx1
        · refine thnF (T1.item (X.blk s3 H3 scope ce fp) rfl rfl rfl hc j _ s11 (wipe σ8 vs1) H11 (fun _ _ => False) I11 (own1 n11) st11 go1) fun r s12 z => ?_
          obtain ⟨u1, rfl, h12⟩ := z
          refine thnF h12 fun _ s13 z => ?_
          obtain ⟨x1, H13, I13, r13, y13, st13, n13⟩ := z
          have J13 := I13.pinned (own1 n13) (T1.obj _ _ st13)
          refine thnF (p2.run _ s13 (wipe σ8 vs1) H13 x1 u1 _ J13 r13 (step1 x1 H13 y13)) fun _ s14 z => ?_
          obtain ⟨σ14, H14, I14, hw14, q14⟩ := z
          refine thnF (p3.run _ s14 σ14 H14 _ I14 q14) fun v s15 z => ?_
          obtain ⟨yv, H15, I15, r15, c, S, nn, rfl, hD15, few, nx⟩ := z
          refine thnF (mt_sadd (X := X.blk s3 H3 scope ce fp) _ s15 σ14 H15 (.ref D) [.int c] (.ref D) [v] (fun _ H' => H' = upd H15 D (SetO X.w D (fun j => S j || decide (j = c)) (if S c = true then nn else nn + 1))) I15 rfl (.cons r15 .nil) ⟨D, c, S, nn, rfl, rfl, hD15, few, rfl⟩) fun _ s16 z => ?_
          obtain ⟨_, _, I16, _, rfl⟩ := z
          obtain ⟨m', hm, w'⟩ := hNx1 _ nx
          have kept : ∀ b ∈ fp1, ∀ o, s13.heap.get? b = some o → s16.heap.get? b = some o ∧ upd H15 D (SetO X.w D (fun j => S j || decide (j = c)) (if S c = true then nn else nn + 1)) b = none := fun b hb o e => by
            have z := I16.pin (b, o) (List.mem_append_right _ (List.mem_append_right _ (mem_pinsAt hb e)))
            exact ⟨z.1, z.2.1⟩
          refine ⟨m', hm, j + 1, _, I16.unpinned.weak (by rw [← hw14, wipe_length]) (fun j v e => by rw [← hw14] at e; exact (wipe_some e).1), T1.keep _ _ _ st13 fun b hb o e => (kept b hb o e).1, fun b hb => ?_, w'⟩
          obtain ⟨o, e, _⟩ := T1.obj _ _ st13 b hb
          exact (kept b hb o e).2
      exact sStart1 (T1.self X.A 0 _ _ _ st10 inner) inner
  exact PpSet.codeAny_compStart_set loop (T.self X.A 0 _ _ _ st4 loop)
end
end KH

/-! KH7: rules whose readings name the world, for use within a comprehension's block. -/
namespace KH
open PySem PySem.Spec PyProof.Rows L2
section
variable {X : Cx}
theorem cr_sortedW (w : World) (hw : X.w = w) (hc : X.calm = true) : CallR X (.builtin "sorted") (rSortedSet w) := by
  subst hw
  exact cr_sortedSet hc
theorem cr_setW (K : PySem.W.Frag) (w : World) (hK : X.K = K) (hw : X.w = w) (hc : X.calm = true) : CallR X (.type "set") (KT.rSetOfI K w) := by
  subst hK hw
  exact KT.cr_setOfI hc
/-- tuple(xs) -/
def rTupleOf (K : PySem.W.Frag) : List V → Hp → VK → Prop := fun xs H Q => ∃ (p : Addr) (ys : List V), xs = [.ref p] ∧ ((SqL K H p ys ∧ ∀ l, H l = none → Q (.ref l) (upd H l (.tup ys))) ∨ (SqT K H p ys ∧ Q (.ref p) H))
theorem call_tupleW (K : PySem.W.Frag) (hK : X.K = K) : CallR X (.type "tuple") (rTupleOf K) := by
  subst hK
  exact call_tuple_of
theorem op_catW (K : PySem.W.Frag) (hK : X.K = K) : OpR X (binaryOp .Add) (rCatA K) := by
  subst hK
  exact op_catA
theorem pe_sc2W {elt t0 i0 t1 i1 : Expr} {scope : Scope} {pos : Pos} {wi wi1 : TI} {g g1 : TG} {te : TE} {vs vs1 : List Nat} (w : World) (hw : X.w = w) (h : PE X (sc2 elt t0 i0 t1 i1 scope pos) (tSc2 X.w wi g wi1 g1 te vs vs1)) : PE X (sc2 elt t0 i0 t1 i1 scope pos) (tSc2 w wi g wi1 g1 te vs vs1) := by
  subst hw
  exact h
end
end KH

/-! KH8: t[::-1] of a tuple; o op p of two own objects of one class. -/
namespace KH
open PySem PySem.Spec PyProof.Rows L2 KB KG KO KY KR
section
variable {prog : Program} {w : World} {A : Around} {E : Value → Shared → Prop} {s : Shared}
theorem sliceApplied_back {sl : Addr} {vs : Value} {n : Nat} {Q : Int × Int × Nat → Shared → Prop} (hs : s.heap.IsSliceOf sl .none .none vs) (pv : IsPart vs (some (-1))) (h : Q ((n : Int) - 1, -1, n) s) : wpAny (model prog w) A (Builtin.Slice.sliceApplied (.ref sl) (pure (n : Int))) Q E s := by
  obtain ⟨os, hos, hcs, hds⟩ := id hs
  unfold Builtin.Slice.sliceApplied Builtin.Slice.sliceFields
  refine wpAny_bind (wpAny_bind (wpAny_field hos hds (x := .none) rfl (wpAny_bind (wpAny_field hos hds (x := .none) rfl (wpAny_bind (wpAny_field hos hds (x := vs) rfl (wpAny_pure ?_)))))))
  refine wpAny_bind (HT.slicePart_ pv ?_)
  show wpAny _ _ (if ((-1 : Int) == 0) = true then _ else _) _ _ s
  rw [if_neg (by decide)]
  refine wpAny_bind (HT.slicePart_ .none (wpAny_bind (HT.slicePart_ .none (wpAny_bind (wpAny_pure ?_)))))
  refine wpAny_pure ?_
  have e : Builtin.Slice.slicePlaces ((n : Int) - 1) (-1) (-1) = n := by
    unfold Builtin.Slice.slicePlaces
    have h1 : ¬ (-1 : Int) > 0 := by omega
    simp only [h1, if_false]
    first
      | omega
      | (split <;> omega)
      | (simp; omega)
  show Q ((n : Int) - 1, -1, Builtin.Slice.slicePlaces ((n : Int) - 1) (-1) (-1)) s
  rw [e]
  exact h
theorem pick_back (xs : List Value) : ((List.range xs.length).filterMap fun (m : Nat) => xs.toArray[(((xs.length : Int) - 1) + (m : Int) * (-1)).toNat]?) = xs.reverse := by
  have e : ∀ m ∈ List.range xs.length, xs.toArray[(((xs.length : Int) - 1) + (m : Int) * (-1)).toNat]? = xs.reverse[m]? := fun m hm => by
    have hm := List.mem_range.mp hm
    have e1 : (((xs.length : Int) - 1) + (m : Int) * (-1)).toNat = xs.length - 1 - m := by omega
    rw [e1, List.getElem?_toArray, List.getElem?_reverse hm]
  have cg : ∀ (l : List Nat) (f g : Nat → Option Value), (∀ m ∈ l, f m = g m) → l.filterMap f = l.filterMap g := by
    intro l f g h
    induction l with
    | nil => rfl
    | cons m l ih => rw [List.filterMap_cons, List.filterMap_cons, h m List.mem_cons_self, ih fun k z => h k (List.mem_cons_of_mem _ z)]
  rw [cg _ _ _ e]
  have l : xs.length = xs.reverse.length := by simp
  rw [l]
  generalize xs.reverse = ys
  clear e l cg
  induction ys with
  | nil => rfl
  | cons y ys ih =>
    rw [List.length_cons, List.range_succ_eq_map, List.filterMap_cons]
    simp only [List.getElem?_cons_zero]
    rw [List.filterMap_map]
    congr 1
theorem getItem_tuple_back {t sl : Addr} {items : Array Value} {vs : Value} {Q : Value → Shared → Prop} (ht : IsTup s.heap t items) (hs : s.heap.IsSliceOf sl .none .none vs) (pv : IsPart vs (some (-1)))
    (h : Q (.ref s.heap.objs.size) { s with heap := s.heap.push { cls := .type "tuple", data := .seq items.toList.reverse.toArray } }) (hsz : items.size ≤ sizeLine) : wpAny (model prog w) A (getItem (.ref t) (.ref sl)) Q E s := by
  have htake : sizeOk (.seq items.toList.reverse.toArray) := by
    show items.toList.reverse.toArray.size ≤ sizeLine
    rw [List.size_toArray, List.length_reverse, Array.length_toList]
    exact hsz
  obtain ⟨os, hos, hcs, hds⟩ := id hs
  have hTs : s.TypeIs (.ref sl) "slice" := ⟨os, hos, hcs⟩
  unfold getItem
  try with_reducible refine wpAny_holding ?_
  first | refine wpAny_bind (wpAny_pure ?_) | skip
  refine wpAny_bind (wpAny_sequenceKey ht.typeIs (by decide) ?_)
  refine wpAny_bind (wpAny_callSpecial?_slot (name := Str.ofString "__getitem__") ht.typeIs PyProof.Rows.slot_tuple_getitem
    (wpAny_call_entry PyProof.Rows.slot_tuple_getitem ht.typeIs entry_tuple_getitem ?_ (args_tuple_getitem _ _)))
  show wpAny _ _ (Builtin.Tuple.tupleItemsOf (.ref t) >>= _) _ _ s
  refine wpAny_bind (tupleItemsOf_ ht ?_)
  refine wpAny_bind (wpAny_typeOf hTs ?_)
  rw [if_pos (by decide)]
  refine wpAny_bind (sliceApplied_back hs pv ?_)
  have hno : ¬ ((((items.size : Int) - 1) == 0 && (-1 : Int) == 1 && items.size == items.size) = true) := by
    intro q
    rw [Bool.and_eq_true, Bool.and_eq_true] at q
    exact absurd q.1.2 (by decide)
  show wpAny _ _ (if (((items.size : Int) - 1) == 0 && (-1 : Int) == 1 && items.size == items.size) = true then _ else _) _ _ s
  rw [if_neg hno]
  have ep := pick_back items.toList
  rw [Array.length_toList] at ep
  have e2 : items.toList.toArray = items := by simp
  rw [e2] at ep
  rw [ep]
  first
    | exact wpAny_bind (m := Builtin.Tuple.tupleExact _) (wpAny_newObj_type (wpAny_pure ⟨_, rfl, wpAny_pure h⟩) htake)
    | exact wpAny_bind (m := Builtin.Tuple.tupleExact _) (wpAny_newObj_type (wpAny_bind (wpAny_pure (wpAny_pure ⟨_, rfl, wpAny_pure h⟩))) htake)
    | exact wpAny_bind (wpAny_bind (m := Builtin.Tuple.tupleExact _) (wpAny_newObj_type (wpAny_pure (wpAny_pure ⟨_, rfl, wpAny_pure h⟩)) htake))
    | exact wpAny_bind (wpAny_bind (m := Builtin.Tuple.tupleExact _) (wpAny_newObj_type (wpAny_pure ⟨_, rfl, wpAny_pure h⟩) htake))
end
section
variable {X : Cx}
def tRevT (K : PySem.W.Frag) (te : TE) : TE := fun σ H Q => te σ H fun x H1 => ∃ a xs, x = .ref a ∧ SqT K H1 a xs ∧ ∀ p, H1 p = none → Q (.ref p) (upd H1 p (.tup xs.reverse))
theorem pe_revT {e : Expr} {te : TE} {k : Nat} {p1 p2 p3 pos : Pos} (he : PE X e te) : PE X (.Subscript e (.Slice none none (some (.UnaryOp .USub (.Constant (.int 1) k p1) p2)) p3) pos) (tRevT X.K te) := by
  refine ⟨fun pins s σ H Q I h => ?_⟩
  refine Subscript_ (thn (he.run pins s σ H _ I h) fun v s1 ⟨x, H1, I1, r1, q1⟩ => ?_)
  obtain ⟨a, xs, ex, hx, q⟩ := q1
  subst ex
  cases r1
  have hst : PO X (some (.UnaryOp .USub (.Constant (.int 1) k p1) p2)) (tPart (tUn (rU fun i => .int (-i)) (tC (.int 1)))) := po_some (pe_un un_neg pe_int)
  refine wpAny_Slice (thn (po_none.run pins s1 σ H1 (fun o H2 => o = none ∧ H2 = H1) I1 ⟨rfl, rfl⟩) fun vl s2 ⟨l, H2, I2, pl, el, e2⟩ => ?_)
  subst el e2
  refine thn (po_none.run pins s2 σ H2 (fun o H3 => o = none ∧ H3 = H2) I2 ⟨rfl, rfl⟩) fun vu s3 ⟨u, H3, I3, pu, eu, e3⟩ => ?_
  subst eu e3
  refine thn (hst.run pins s3 σ H3 (fun o H4 => o = some (-1) ∧ H4 = H3) I3 ⟨1, rfl, -1, rfl, rfl, rfl⟩) fun vs s4 ⟨o, H4, I4, ps, eo, e4⟩ => ?_
  subst eo e4
  cases pl
  cases pu
  have I5 : Inv X pins σ H4 { s4 with heap := s4.heap.push { cls := .type "slice", data := .fields #[.none, .none, vs] } } := I4.kept (t' := s4.toks) fun b ob q => Heap.get?_push_of_some _ q
  obtain ⟨its, r, ht, hz⟩ := I5.tuple hx
  have hlen := r.length
  show wpAny (model X.prog X.w) X.A (subscriptTail e (.Slice none none (some (.UnaryOp .USub (.Constant (.int 1) k p1) p2)) p3) (.ref a) (.ref s4.heap.objs.size)) (EP X pins σ Q) X.xe { s4 with heap := s4.heap.push { cls := .type "slice", data := .fields #[.none, .none, vs] } }
  refine tail_any (ops := [.ref a, .ref s4.heap.objs.size]) ht.typeIs (PyProof.Rows.slot_tuple_getitem.lookup) ?_ (by with_unfolding_all rfl)
  refine getItem_tuple_back ht (Heap.IsSliceOf.new _ .none .none vs) ps ?_ (by rw [List.size_toArray]; omega)
  refine ⟨.ref _, _, I5.laid (t' := s4.toks) (o := .tup xs.reverse) (fun b ob q => Heap.get?_push_of_some _ q) (Nat.le_refl _) ?_, rfl, q _ (I5.hok.fresh (Nat.le_refl _))⟩
  exact ⟨by rw [List.length_reverse]; exact hz, _, r.reverse, IsTup.new _ _⟩
end
section
variable {X : Cx}
theorem ix_tupW (K : PySem.W.Frag) (hK : X.K = K) : IxR X (rIxT K) := by
  subst hK
  exact ix_tup
theorem ix_listW (K : PySem.W.Frag) (hK : X.K = K) : IxR X (rIxL K) := by
  subst hK
  exact ix_list
theorem pe_fldW (K : PySem.W.Frag) (hK : X.K = K) {e : Expr} {te : TE} {pos : Pos} {n : Str} (he : PE X e te) (hb : attributeBase e n X.env (eval e X.env) = eval e X.env) : PE X (.Attribute e n pos) (tFld K te n) := by
  subst hK
  exact pe_fld he hb
end
/-! ### o op p, both of one class -/
section
variable {prog : Program} {w : World} {A : Around} {E : Value → Shared → Prop} {s : Shared} {K : PySem.W.Frag} {x y C L g : Addr} {hb : Heap} {m : Str → Option Value} {ox oy : Obj} {od od2 : Option Obj}
open PySem.W in
theorem bin_own {op : Operator} {Z : Value → Shared → Prop} (F : Fr hb L s.heap m) (X0 : K.In hb) (I : InstAt s.heap x ox C od) (J : InstAt s.heap y oy C od2) (c1 : selfFirst K C = true)
    (c2 : findIn K (.ref C) (PySem.dunder op.info.2) = some (some (.ref g))) (c3 : isFn K (.ref g) = true)
    (go : wpAny (model prog w) A (call (.ref g) [.ref x, .ref y]) (PySem.W.CmpBack Z) E s) : wpAny (model prog w) A (binaryOp op (.ref x) (.ref y)) Z E s := by
  have XK := X0.keeps F.keep
  obtain ⟨cd, rest, hcd, hmro⟩ := ksp_first c1
  rcases oi : op.info with ⟨sy, n1⟩
  rw [oi] at c2
  dsimp only at c2
  have once := ksp_try XK I c2 c3 go
  obtain ⟨sh, sg, sd, stk, sos⟩ := s
  have k1 : Looks (model prog w) sh (typeOf (.ref x)) (.ref C) := I.type
  have k2 : Looks (model prog w) sh (typeOf (.ref y)) (.ref C) := J.type
  have k3 : Looks (model prog w) sh (fillsNumberSlot (.ref C) n1) true := fills_K XK hcd hmro c2
  have nq : (Value.ref C == Value.ref C) = true := beq_self_eq_true _
  simp only [binaryOp, oi]
  refine wpAny_holding (wpAny_bind ?_)
  unfold binaryOp1
  refine wpAny_bind (k1.at (wpAny_bind (k2.at (wpAny_bind (k3.at ?_)))))
  simp only [nq, Bool.false_eq_true, if_false, if_true]
  ksp_lk
  refine wpAny_mono once (fun r s' y => ?_) fun _ _ e => e
  obtain ⟨v', rfl, hq⟩ := y
  ksp_lk
  exact hq
end
structure OwnB2 (P : Program) (w : World) (K : PySem.W.Frag) (mg : Str → Option Value) (base : Heap) (CX : CXT) (k : Nat) (C : Addr) (op : Operator) (ps : List Str) (sp : Sp) : Prop where
  ex : ∃ (g : Addr) (fd : FuncData), PySem.W.selfFirst K C = true ∧ PySem.W.findIn K (.ref C) (PySem.dunder op.info.2) = some (some (.ref g)) ∧ PySem.W.isFn K (.ref g) = true ∧ FnOk P w K mg base CX k g fd ps sp ∧ Binds K fd ps []
def rBin2 (C : Addr) (sp : Sp) (E : XK) : R2 := fun x y H Q => ∃ (a dx : Addr) (fs : List (Str × V)) (b dy : Addr) (gs : List (Str × V)), x = .ref a ∧ H a = some (.ins C dx fs) ∧ y = .ref b ∧ H b = some (.ins C dy gs) ∧ sp [x, y] H Q E
theorem op_bin2 {X : Cx} {CX : CXT} {E : XK} {C : Addr} {op : Operator} {ps : List Str} {sp : Sp} {n : Nat} (c : OwnB2 X.prog X.w X.K X.mg X.base CX n C op ps sp) (room : Room n X.A) (pass : Passes CX X E) : OpR X (binaryOp op) (rBin2 C sp E) := by
  obtain ⟨g, fd, c1, c2, c3, F, bind⟩ := c.ex
  intro pins st σ h x y v u Z inv rx ry pre
  obtain ⟨a, dx, fs, b, dy, gs, rfl, ha, rfl, hb, z⟩ := pre
  obtain rfl : v = Value.ref a := rx
  obtain rfl : u = Value.ref b := ry
  obtain ⟨oo, J⟩ := inst_of inv ha
  obtain ⟨oo2, J2⟩ := inst_of inv hb
  obtain ⟨m, hF⟩ := inv.fr
  refine bin_own hF inv.ok.mod.kin J J2 c1 c2 c3 ?_
  refine wpAny_mono (run_fn (us := [.ref a, .ref b]) (vs := [.ref a, .ref b]) F room bind .nil pass inv (.cons rfl (.cons rfl .nil)) z) (fun w s2 r => ?_) fun _ _ z => z
  obtain ⟨z', h2, inv2, rz, qz⟩ := r
  exact SlX.cmpback rz ⟨z', h2, inv2, rz, qz⟩
end KH

/-! KH9: a dict whose keys are nested tuples, all its values True: the display of one pair, in, d[k] = True. -/
namespace KH
open PySem PySem.Spec PyProof.Rows L2 KB KG KO KY
mutual
/-- the value is the nested key -/
inductive NK (H : Hp) : V → NestedKey → Prop
  | int (i : Int) : NK H (.int i) (.num i)
  | str (x : Str) : NK H (.str x) (.text x)
  | tup {a : Addr} {xs : List V} {ks : List NestedKey} (h : H a = some (.tup xs)) (r : NKs H xs ks) : NK H (.ref a) (.tup ks)
inductive NKs (H : Hp) : List V → List NestedKey → Prop
  | nil : NKs H [] []
  | cons {x : V} {k : NestedKey} {xs : List V} {ks : List NestedKey} (h : NK H x k) (r : NKs H xs ks) : NKs H (x :: xs) (k :: ks)
end
section
variable {X : Cx} {pins : List (Addr × Obj)} {σ : L2.St} {H : Hp} {s : Shared}
mutual
theorem nk_is (I : Inv X pins σ H s) : ∀ (k : NestedKey) (v : V) (u : Value), NK H v k → RelV v u → NestedIs s.heap k u
  | .none, _, _, h, _ => by cases h
  | .num i, _, _, h, r => by
    cases h
    obtain ⟨t, rfl⟩ := (show ∃ t, _ = Value.int i t from r)
    exact .int i t
  | .text x, _, _, h, r => by
    cases h
    obtain ⟨t, rfl⟩ := (show ∃ t, _ = Value.str x t from r)
    exact .text x t
  | .tup ks, _, _, h, r => by
    cases h with
    | @tup a xs _ h g =>
      obtain rfl := (show _ = Value.ref a from r)
      obtain ⟨its, rv, ⟨ob, ho, hc, n, hd⟩, _⟩ := I.tuple (SqT.of h)
      exact .tup ho hc hd (by rw [List.toList_toArray]; exact nks_is I ks xs its g rv)
theorem nks_is (I : Inv X pins σ H s) : ∀ (ks : List NestedKey) (xs : List V) (us : List Value), NKs H xs ks → Vals xs us → NestedAll s.heap ks us
  | [], _, _, h, r => by
    cases h
    cases r
    exact .nil
  | k :: ks, _, _, h, r => by
    cases h with
    | cons h1 h2 =>
      cases r with
      | cons r1 r2 => exact .cons (nk_is I k _ _ h1 r1) (nks_is I ks _ _ h2 r2)
end
mutual
theorem NK.upT {H' : Hp} (s : ∀ a xs, H a = some (.tup xs) → H' a = some (.tup xs)) : ∀ (k : NestedKey) (v : V), NK H v k → NK H' v k
  | .none, _, h => by cases h
  | .num i, _, h => by cases h; exact .int i
  | .text x, _, h => by cases h; exact .str x
  | .tup ks, _, h => by
    cases h with
    | tup h g => exact .tup (s _ _ h) (NKs.upT s ks _ g)
theorem NKs.upT {H' : Hp} (s : ∀ a xs, H a = some (.tup xs) → H' a = some (.tup xs)) : ∀ (ks : List NestedKey) (xs : List V), NKs H xs ks → NKs H' xs ks
  | [], _, h => by cases h; exact .nil
  | k :: ks, _, h => by
    cases h with
    | cons h1 h2 => exact .cons (NK.upT s k _ h1) (NKs.upT s ks _ h2)
end
theorem NK.up {H' : Hp} {v : V} {k : NestedKey} (h : NK H v k) (s : Same H H') : NK H' v k := h.upT (fun a xs e => s _ _ e) k v
theorem NK.sn {H' : Hp} {v : V} {k : NestedKey} (h : NK H v k) (s : KD.SameN H H') : NK H' v k := h.upT (fun a xs e => s.tup e) k v
end
/-! ### the dict -/
def fullN (xs : List (NestedKey × Addr)) : List (NestedKey × Addr × Value) := xs.map fun p => (p.1, p.2, .bool true)
def DNo (P : Program) (w : World) (a : Addr) (xs : List (NestedKey × Addr)) : HO := .ext fun h => (a == sysModules) = false ∧ xs.length ≤ sizeLine ∧
  ∃ o es ep, h.get? a = some o ∧ o.ExactDict ∧ o.data = .dict es ep ∧ es.toList = (fullN xs).map (entryOfKey (nestedKind P w)) ∧ (xs.map (·.1)).Nodup
/-- at a stands the dict of these keys -/
def DN (P : Program) (w : World) (H : Hp) (a : Addr) (xs : List (NestedKey × Addr)) : Prop := H a = some (DNo P w a xs) ∧ ∀ x ∈ xs, NK H (.ref x.2) x.1 ∧ x.1.depth ≤ 8
theorem DN.up {P : Program} {w : World} {H H' : Hp} {a : Addr} {xs : List (NestedKey × Addr)} (h : DN P w H a xs) (s : Same H H') : DN P w H' a xs := ⟨s _ _ h.1, fun x m => ⟨(h.2 x m).1.up s, (h.2 x m).2⟩⟩
theorem fullN_keys (xs : List (NestedKey × Addr)) : (fullN xs).map (·.1) = xs.map (·.1) := by
  unfold fullN
  rw [List.map_map]
  rfl
theorem fullN_len (xs : List (NestedKey × Addr)) : (fullN xs).length = xs.length := List.length_map _
theorem atKey_full (xs : List (NestedKey × Addr)) (k : NestedKey) : (atKey (fullN xs) k).isSome = decide (k ∈ xs.map (·.1)) := by
  unfold atKey
  rw [Option.isSome_map]
  by_cases h : k ∈ xs.map (·.1)
  · rw [decide_eq_true h]
    obtain ⟨x, m, rfl⟩ := List.mem_map.mp h
    rw [List.find?_isSome]
    exact ⟨(x.1, x.2, .bool true), List.mem_map.mpr ⟨x, m, rfl⟩, decide_eq_true rfl⟩
  · rw [decide_eq_false h]
    have e : (fullN xs).find? (fun x => decide (x.1 = k)) = none := by
      rw [List.find?_eq_none]
      intro y my
      obtain ⟨x, m, rfl⟩ := List.mem_map.mp my
      intro z
      exact h (List.mem_map.mpr ⟨x, m, of_decide_eq_true z⟩)
    rw [e]
    rfl
section
variable {P : Program} {w : World} {H : Hp} {h : Heap} {a : Addr} {xs : List (NestedKey × Addr)}
theorem dno_ok (lo : (a == sysModules) = false) (hl : xs.length ≤ sizeLine) (hd : ∃ o es ep, h.get? a = some o ∧ o.ExactDict ∧ o.data = .dict es ep ∧ es.toList = (fullN xs).map (entryOfKey (nestedKind P w)) ∧ (xs.map (·.1)).Nodup) : ObjOk P w H h a (DNo P w a xs) := by
  refine ⟨⟨lo, hl, hd⟩, ?_, fun h1 h2 p k => ?_⟩
  · obtain ⟨o, _, _, e, _⟩ := hd
    exact ⟨o, e⟩
  · obtain ⟨q1, q2, o, es, ep, e, q⟩ := p
    exact ⟨q1, q2, o, es, ep, k o e, q⟩
theorem dno_at (ok : HOk P w H h) (e : H a = some (DNo P w a xs)) : (a == sysModules) = false ∧ xs.length ≤ sizeLine ∧ ∃ o es ep, h.get? a = some o ∧ o.ExactDict ∧ o.data = .dict es ep ∧ es.toList = (fullN xs).map (entryOfKey (nestedKind P w)) ∧ (xs.map (·.1)).Nodup :=
  (show ObjOk P w H h a (DNo P w a xs) from ok a _ e).1
end
section
variable {X : Cx} {pins : List (Addr × Obj)} {σ : L2.St} {H : Hp} {s : Shared} {a : Addr} {xs : List (NestedKey × Addr)}
theorem dn_raw (I : Inv X pins σ H s) (d : DN X.prog X.w H a xs) : (a == sysModules) = false ∧ xs.length ≤ sizeLine ∧ s.heap.DictOfH (nestedKind X.prog X.w) a (fullN xs) := by
  obtain ⟨q1, q2, o, es, ep, h1, h2, h3, h4, h5⟩ := dno_at I.hok d.1
  refine ⟨q1, q2, o, es, ep, h1, h2, h3, h4, fun y m => ?_, by rw [fullN_keys]; exact h5⟩
  obtain ⟨x, mx, rfl⟩ := List.mem_map.mp m
  obtain ⟨n1, n2⟩ := d.2 x mx
  exact ⟨nk_is I _ _ _ n1 rfl, n2⟩
end
def tNNotIn (P : Program) (w : World) (ty td : TE) : TE := fun σ H Q => ty σ H fun y H1 => td σ H1 fun x H2 => ∃ (a b : Addr) (xs : List (NestedKey × Addr)) (k : NestedKey), x = .ref a ∧ y = .ref b ∧ DN P w H2 a xs ∧ NK H2 (.ref b) k ∧ k.depth ≤ 8 ∧ Q (.bl (!decide (k ∈ xs.map (·.1)))) H2
def sNPut (P : Program) (w : World) (td ty tv : TE) : TS := fun D σ H => tv σ H fun v H1 => td σ H1 fun x H2 => ty σ H2 fun y H3 => ∃ (a b : Addr) (xs : List (NestedKey × Addr)) (k : NestedKey), x = .ref a ∧ y = .ref b ∧ v = .bl true ∧ DN P w H3 a xs ∧ NK H3 (.ref b) k ∧ k.depth ≤ 8 ∧ k ∉ xs.map (·.1) ∧ xs.length < sizeLine ∧ D.nx σ (upd H3 a (DNo P w a (xs ++ [(k, b)])))
def tND1 (P : Program) (w : World) (tk tv : TE) : TE := fun σ H Q => ∀ p, H p = none → tk σ (upd H p (DNo P w p [])) fun y H1 => tv σ H1 fun v H2 => ∃ (b : Addr) (k : NestedKey), y = .ref b ∧ v = .bl true ∧ H2 p = some (DNo P w p []) ∧ NK H2 (.ref b) k ∧ k.depth ≤ 8 ∧ Q (.ref p) (upd H2 p (DNo P w p [(k, b)]))
/-- behind d[k] = True, k new -/
theorem DN.push {P : Program} {w : World} {H : Hp} {a b : Addr} {xs : List (NestedKey × Addr)} {k : NestedKey} (d : DN P w H a xs) (n : NK H (.ref b) k) (dk : k.depth ≤ 8) : DN P w (upd H a (DNo P w a (xs ++ [(k, b)]))) a (xs ++ [(k, b)]) := by
  have tu : ∀ c ys, H c = some (.tup ys) → upd H a (DNo P w a (xs ++ [(k, b)])) c = some (.tup ys) := fun c ys e => by
    rw [upd_ne (fun z => by rw [z, d.1] at e; cases e)]
    exact e
  refine ⟨upd_same, fun x m => ?_⟩
  rcases List.mem_append.mp m with m | m
  · exact ⟨(d.2 x m).1.upT tu _ _, (d.2 x m).2⟩
  · rw [List.mem_singleton.mp m]
    exact ⟨n.upT tu _ _, dk⟩
section
variable {prog : Program} {w : World} {K : Type} [DecidableEq K] {knd : HeapKind prog w K} {A : Around} {E : Value → Shared → Prop} {s : Shared}
theorem dict_disp {env : Env} {keys : List (Option Expr)} {values : List Expr} {pos : Pos} {pairs : List (Sem Value × Sem Value)} {Q : Value → Shared → Prop} (hu : knd.room A)
    (hshape : (evalEachOpt keys env).zip ((evalEach values env).map fun v => do let x ← v; standAt pos; pure x) = pairs.map fun p => (some p.1, p.2)) (h0 : pairs ≠ []) (hlen : pairs.length ≤ 15)
    (h : wpAny (model prog w) A (evalPairs pairs) (fun vs s₁ => ∃ ps, CarriesH knd s₁.heap vs ps ∧ s₁.heap.DictOfH knd s.heap.objs.size [] ∧
      ∀ h' tk, h'.DictOfH knd s.heap.objs.size (storedAllH [] ps) → Heap.SameBut s.heap.objs.size s₁.heap h' → Q (.ref s.heap.objs.size) { s₁ with heap := h', toks := tk }) E
      { s with heap := s.heap.push { cls := .type "dict", data := .dict #[] } }) :
    wpAny (model prog w) A (eval (.Dict keys values pos) env) Q E s := by
  rw [arm_eval_Dict, hshape, dictDisplay_pairs pairs h0 (by omega)]
  exact wpAny_bind (wpAny_standAt (wpAny_bind (wpAny_subDictH (knd := knd) (Q := fun d s' => wpAny (model prog w) A (pure (Value.ref d)) Q E s') hu hlen
    (wpAny_mono h (fun vs s₁ h₁ => by obtain ⟨ps, hc, hm, hq⟩ := h₁; exact ⟨ps, hc, hm, fun h' tk a b => wpAny_pure (hq h' tk a b)⟩) fun _ _ e => e))))
end
theorem hu9 {A : Around} {k : Nat} (hr : Room k A) : A.units + 9 < cLine := by have := hr.un; omega
section
variable {X : Cx}
theorem pc_nnotin {i o : Expr} {ty td : TE} (hu : X.A.units + 9 < cLine) (hi : PE X i ty) (ho : PE X o td) : PC X .NotIn i o (tNNotIn X.prog X.w ty td) := by
  refine ⟨fun pins s σ H Q I h => ?_⟩
  refine thn (hi.run pins s σ H _ I h) fun iv s1 ⟨y, H1, I1, ry, q1⟩ => thn (ho.run pins s1 σ H1 _ I1 q1) fun u s2 ⟨x, H2, I2, rx, a, b, xs, k, ex, ey, g, nk, dk, q2⟩ => ?_
  subst ex ey
  obtain rfl : u = Value.ref a := rx
  obtain rfl : iv = Value.ref b := ry
  obtain ⟨lo, _, dd⟩ := dn_raw I2 g
  refine wpAny_notIn_heap (knd := nestedKind X.prog X.w) (k := k) (show X.A.units + 1 + 8 < cLine by omega) ⟨nk_is I2 _ _ _ nk rfl, dk⟩ lo dd ?_
  rw [atKey_full]
  exact ⟨.bl _, H2, I2.tok _, rfl, q2⟩
theorem ps_nput {o i value : Expr} {td ty tv : TE} {pos pos' : Pos} (hu : X.A.units + 9 < cLine) (ho : PE X o td) (hi : PE X i ty) (hv : PE X value tv) (hs : swapsWith value (some (.Subscript o i pos')) pos.line X.env = pure false) :
    PS X (.Assign [.Subscript o i pos'] value pos) (sNPut X.prog X.w td ty tv) := by
  refine ⟨fun pins s σ H D I h => ?_⟩
  refine wpAny_Assign_Subscript (thn (hv.run pins s σ H _ I h) fun r s1 ⟨v, H1, I1, rv, q1⟩ => thn (ho.run pins s1 σ H1 _ I1 q1) fun u s2 ⟨x, H2, I2, rx, q2⟩ => thn (hi.run pins s2 σ H2 _ I2 q2) fun iv s3 ⟨y, H3, I3, ry, a, b, xs, k, ex, ey, ev, g, nk, dk, new, hl, q3⟩ => ?_) hs
  subst ex ey ev
  obtain rfl : u = Value.ref a := rx
  obtain rfl : iv = Value.ref b := ry
  obtain rfl : r = Value.bool true := rv
  obtain ⟨lo, _, dd⟩ := dn_raw I3 g
  refine wpAny_setItem_heap (knd := nestedKind X.prog X.w) (k := k) (show X.A.units + 1 + 8 < cLine by omega) ⟨nk_is I3 _ _ _ nk rfl, dk⟩ dd (fun h' dd' hsb => ?_) (by rw [fullN_len]; omega)
  have e0 : atKey (fullN xs) k = none := by
    have z := atKey_full xs k
    rw [decide_eq_false new] at z
    cases e : atKey (fullN xs) k with
    | none => rfl
    | some q => rw [e] at z; cases z
  rw [storedH_new e0] at dd'
  have ef : fullN xs ++ [(k, b, Value.bool true)] = fullN (xs ++ [(k, b)]) := by
    unfold fullN
    rw [List.map_append]
    rfl
  rw [ef] at dd'
  obtain ⟨q, es, ep, hq, h2, h3, h4, _, h5⟩ := dd'
  rw [fullN_keys] at h5
  refine ⟨σ, _, d_write I3 (by rw [g.1]; exact True.intro) hsb ⟨q, hq⟩ (dno_ok lo (by rw [List.length_append, List.length_singleton]; omega) ⟨q, es, ep, hq, h2, h3, h4, h5⟩), q3⟩
theorem pe_nd1 {ke ve : Expr} {tk tv : TE} {pos : Pos} (hu : X.A.units + 9 < cLine) (hk : PE X ke tk) (hv : PE X ve tv) : PE X (.Dict [some ke] [ve] pos) (tND1 X.prog X.w tk tv) := by
  refine ⟨fun pins s σ H Q I q => ?_⟩
  have hn := I.hok.fresh (Nat.le_refl s.heap.objs.size)
  have lo : (s.heap.objs.size == sysModules) = false := by
    have big := I.big
    refine Bool.eq_false_iff.mpr fun z => ?_
    have z := eq_of_beq z
    rw [z] at big
    exact Nat.lt_irrefl _ big
  have I1 := I.laid (a := s.heap.objs.size) (o := DNo X.prog X.w s.heap.objs.size []) (h' := s.heap.push { cls := .type "dict", data := .dict #[] }) (t' := s.toks) (fun _ _ q => Heap.get?_push_of_some _ q) (Nat.le_refl _)
    (dno_ok lo (Nat.zero_le _) ⟨_, #[], 0, Heap.get?_push_size _ rfl, ⟨rfl, rfl, rfl⟩, rfl, rfl, List.nodup_nil⟩)
  refine dict_disp (knd := nestedKind X.prog X.w) (pairs := pairTrees [some ke] [ve] X.env pos) (show X.A.units + 8 < cLine by omega) (zip_pairTrees [some ke] [ve] X.env pos rfl rfl) (fun z => by simp [pairTrees] at z) (by rw [pairTrees_length [some ke] [ve] X.env pos rfl rfl]; show 1 ≤ 15; decide) ?_
  refine pairTrees_cons_walk (thn (hk.run pins _ σ _ _ I1 (q _ hn)) fun iv s1 ⟨y, H1, I2, ry, q1⟩ => thn (hv.run pins s1 σ H1 _ I2 q1) fun r s2 ⟨v, H2, I3, rv, b, k, ey, ev, hp, nk, dk, q2⟩ => pairTrees_nil_walk ?_)
  subst ey ev
  obtain rfl : iv = Value.ref b := ry
  obtain rfl : r = Value.bool true := rv
  have d0 : DN X.prog X.w H2 s.heap.objs.size [] := ⟨hp, fun x m => by cases m⟩
  obtain ⟨_, _, dd⟩ := dn_raw I3 d0
  refine ⟨[(k, b, .bool true)], ⟨rfl, rfl, ⟨nk_is I3 _ _ _ nk rfl, dk⟩, trivial⟩, dd, fun h' tk' dk' hsb => ?_⟩
  have e1 : storedAllH [] [(k, b, Value.bool true)] = fullN [(k, b)] := rfl
  rw [e1] at dk'
  obtain ⟨o, es, ep, hq, h2, h3, h4, h5, h6⟩ := dk'
  refine ⟨.ref _, _, d_write I3 (by rw [hp]; exact True.intro) hsb ⟨o, hq⟩ (dno_ok lo (by rw [List.length_singleton]; decide) ⟨o, es, ep, hq, h2, h3, h4, h6⟩), rfl, q2⟩
end
/-! ### a list of anything against an empty list -/
section
variable {X : Cx}
/-- xs != [] -/
def rNeNil (K : PySem.W.Frag) : R2 := fun x y H Q => ∃ a b xs, x = .ref a ∧ y = .ref b ∧ SqL K H a xs ∧ SqL K H b [] ∧ Q (.bl (!xs.isEmpty)) H
theorem op_neNil (hu : X.A.units + 9 < cLine) : OpR X (compareOp .NotEq) (rNeNil X.K) := by
  intro pins s σ H x y v u Q I rx ry h
  obtain ⟨a, b, xs, rfl, rfl, ha, hb, q⟩ := h
  obtain rfl : v = Value.ref a := rx
  obtain rfl : u = Value.ref b := ry
  obtain ⟨us, r1, p1, _⟩ := I.list ha
  obtain ⟨ws, r2, p2, _⟩ := I.list hb
  cases r2
  cases r1 with
  | nil =>
    exact SeqAt.RcNeAt.lists (e := fun _ => true) p1.isList p2.isList rfl (by omega) (fun j h1 h2 => absurd h1 (Nat.not_lt_zero _)) X.prog X.w _ _ ⟨.bl _, H, I, rfl, q⟩
  | cons h1 h2 =>
    exact SeqAt.RcNeAt.lists_lengths p1.isList p2.isList (by simp) (by omega) X.prog X.w _ _ ⟨.bl _, H, I, rfl, q⟩
end
end KH

/-! KH10: list(f(k = v, ..)) of a generator def. -/
namespace KH
open PySem PySem.Spec PyProof.Rows L2 KB KG KO KY
structure CalleeGK (P : Program) (w : World) (K : PySem.W.Frag) (mg : Str → Option Value) (base : Heap) (k : Nat) (x : Str) (ps : List Str) (sp : SpG) (n : Nat) (ks : List Str) (gV : List V → List V → List V) : Prop where
  ex : ∃ (f : Addr) (fd : FuncData) (gg : List Value → List Value → List Value), GFn P w K mg base k f fd ps sp ∧ mg x = some (.ref f) ∧ PySem.W.keepIn K (.ref f) = true ∧ KBn K fd ps n ks gg gV
section
variable {X : Cx} {k : Nat}
theorem run_gk {f : Addr} {fd : FuncData} {ps : List Str} {sp : SpG} {pins : List (Addr × Obj)} {σ : L2.St} {H : Hp} {s : Shared} {us : List Value} {kws : List (Str × Value)} {vs : List V} {as : List Value} {cont : List V → Hp → Prop} {E : XK} {E1 : Value → Shared → Prop}
    (F : GFn X.prog X.w X.K X.mg X.base k f fd ps sp) (room : Room k X.A) (I : Inv X pins σ H s) (b : BindsTo s fd ⟨us, kws⟩ (ps.zip as)) (r : Vals vs as) (h : sp vs H cont E) :
    wpAny (model X.prog X.w) X.A (call (.ref f) us kws) (fun u s' => ∃ H1 sc ex, Inv X pins σ H1 sc ∧ ExOk X pins ex ∧ GMade X.prog X.w k X.stack H1 sc ex cont E u s') E1 s := by
  refine wpAny_call (codeAny_mono (F.run X.A X.stack s H ⟨us, kws⟩ as vs cont E room I.env0 b r h) fun res s1 q => ?_)
  cases res with
  | error e => exact q.elim
  | ok fl =>
    cases fl with
    | ret u => exact ⟨H, s, [], I, .nil, q⟩
    | next => exact q.elim
    | brk => exact q.elim
    | cont => exact q.elim
def tCallGK (n m : Nat) (sp : SpG) (gV : List V → List V → List V) (t tk : TA) : L2.TGen := fun σ H cont => t σ H fun vs H1 => tk σ H1 fun zs H2 => vs.length = n ∧ zs.length = m ∧ sp (gV vs zs) H2 cont E0
theorem pgen_callK0 {n : Nat} {x : Str} {ps ks : List Str} {sp : SpG} {gV : List V → List V → List V} {kws : List Keyword} {p pos : Pos} {tk : TA} (c : CalleeGK X.prog X.w X.K X.mg X.base k x ps sp n ks gV) (room : Room k X.A) (hg : Gl X x) (hkw : PK X kws tk)
    (hall : (backToKw pos (keywordEach kws X.env)).all (·.1.isSome) = true := by rfl) (hks : (backToKw pos (keywordEach kws X.env)).filterMap (·.1) = ks := by rfl) (hdb : (x == ("__debug__" : Str)) = false := by decide)
    (hpl : ((backTo pos (starEach [] X.env)).any (·.1) || (backToKw pos (keywordEach kws X.env)).any (·.1.isNone)) = false := by rfl) : PGen X k (.Call (.Name x p) [] kws pos) (tCallGK n ks.length sp gV tNil tk) E0 := by
  obtain ⟨f, fd, gg, F, hm, hk, hb⟩ := c.ex
  refine ⟨fun pins s σ H cont I h => wpAny_Call_Name_kw (ld_glob I hg hm ?_ hdb)⟩
  refine PySem.W.callWith_KW0 (first := []) (h₀ := X.base) I.ok.mod.kin hk hall (thn (hkw.run pos pins s σ H _ I h) fun ws s2 z => ?_) hpl
  obtain ⟨zs, H2, I2, rz, l1, l2, hsp⟩ := z
  refine ⟨I2.kIn, ?_⟩
  rw [hks]
  exact run_gk F room I2 (hb.to s2 [] ws I2.kIn l1 (rz.length.symm.trans l2)) (hb.rel .nil rz) hsp
theorem pe_listFK {x : Str} {ps ks : List Str} {sp : SpG} {n : Nat} {gV : List V → List V → List V} {kws : List Keyword} {p p' pos pos' : Pos} {tk : TA} (c : CalleeGK X.prog X.w X.K X.mg X.base k x ps sp n ks gV) (room : Room (k + 3) X.A) (hgx : Gl X x) (hkw : PK X kws tk) (hg : Gl X "list") (hm : X.mg "list" = none)
    (d1 : starEach [.Call (.Name x p') [] kws pos'] X.env = (false, eval (.Call (.Name x p') [] kws pos') X.env) :: starEach [] X.env := by rfl)
    (hall : (backToKw pos' (keywordEach kws X.env)).all (·.1.isSome) = true := by rfl) (hks : (backToKw pos' (keywordEach kws X.env)).filterMap (·.1) = ks := by rfl) (hdb : (x == ("__debug__" : Str)) = false := by decide)
    (hpl : ((backTo pos' (starEach [] X.env)).any (·.1) || (backToKw pos' (keywordEach kws X.env)).any (·.1.isNone)) = false := by rfl) :
    PE X (.Call (.Name "list" p) [.Call (.Name x p') [] kws pos'] [] pos) (tListG (tCallGK n ks.length sp gV tNil tk)) :=
  pe_listG (pgen_callK0 c (room.mono (by omega)) hgx hkw hall hks hdb hpl) passL KU.noStop0 room hg hm (by decide +kernel) (by decide) (by decide) d1
end
end KH

/-! KI: an own object that a call gives, called at once. -/
namespace KI
open PySem PySem.Spec PyProof.Rows L2 KB KG KO KC
section
variable {X : Cx}
theorem pe_callOE {CX : CXT} {k : Nat} {C : Addr} {ps : List Str} {sp : Sp} {E : XK} {f0 e : Expr} {a0 es : List Expr} {k0 : List Keyword} {p0 pos : Pos} {tf : TE} {t : TA} (c : OwnC X.prog X.w X.K X.mg X.base CX k C ps sp) (room : Room k X.A) (pass : Passes CX X E) (hf : PE X (.Call f0 a0 k0 p0) tf) (ha : PA X (e :: es) t)
    (d2 : starEach (e :: es) X.env = (false, eval e X.env) :: starEach es X.env := by rfl) (d3 : (backTo pos (starEach es X.env)).any (·.1) = false := by rfl)
    (d4 : eval (.Call (.Call f0 a0 k0 p0) (e :: es) [] pos) X.env = (eval (.Call f0 a0 k0 p0) X.env >>= fun f => callWith pos f [] (backTo pos (starEach (e :: es) X.env)) (backToKw pos (keywordEach [] X.env))) := by rfl) :
    PE X (.Call (.Call f0 a0 k0 p0) (e :: es) [] pos) (tCallO C sp E tf t) := by
  obtain ⟨g, fd, hs, hfn, hfi, F, bind⟩ := c.ex
  refine ⟨fun pins st σ h Z inv pre => ?_⟩
  rw [d4]
  refine wpAny_bind (thn (hf.run pins st σ h _ inv pre) fun u s1 r => ?_)
  obtain ⟨v, h1, inv1, rv, a, dx, fs, rfl, ea, z⟩ := r
  obtain rfl : u = Value.ref a := rv
  refine callWith_own (C := C) (dx := dx) (by rw [d2]; show ((false || (backTo pos (starEach es X.env)).any (·.1)) || false) = false; rw [d3]; rfl) ?_
  have main := thn (Q' := fun (ws : List Value) (s2 : Shared) => (∃ od, PySem.W.InstAt s2.heap a (PySem.W.instObj C dx) C od) ∧ wpAny (model X.prog X.w) X.A (call (.ref a) ws) (EP X pins σ Z) X.xe s2) (ha.run pos pins s1 σ h1 _ inv1 z) fun ws s2 r => ?_
  · rw [d2] at main ⊢
    exact Calls.evalArgs_plain main
  · obtain ⟨xs, h2, inv2, rel, ea2, z2⟩ := r
    obtain ⟨od, J⟩ := inst_of inv2 ea2
    refine ⟨⟨_, J⟩, ?_⟩
    have rel2 : Vals (V.ref a :: xs) (Value.ref a :: ws) := .cons rfl rel
    have size : ((Value.ref a :: ws) ++ []).length = ps.length := by rw [List.append_nil, ← rel2.length]; exact F.len _ _ _ _ z2
    have bd := bind s2 (Value.ref a :: ws) inv2.kIn size
    rw [List.append_nil] at bd
    refine wpAny_call (codeAny_mono (PySem.W.kco_code inv2.kIn J rfl hs hfn hfi (F.run X.A X.stack s2 h2 ⟨Value.ref a :: ws, []⟩ _ _ Z E room inv2.env0 bd rel2 z2)) fun res s3 y => ?_)
    match res, y with
    | .error e, y => exact pass pins σ h2 s2 e s3 inv2 y
    | .ok (.ret u), y => exact inv2.after y
    | .ok .next, y => exact y.elim
    | .ok .brk, y => exact y.elim
    | .ok .cont, y => exact y.elim
end
end KI

/-! KZ4: zip of 4 lists (printed by zipn.py). -/
namespace KZ
open PySem PySem.Spec PyProof.Rows L2
open Sem (wp)
abbrev IsT4 (h : Heap) (T : Addr) (a1 a2 a3 a4 : Value) : Prop := h.get? T = some { cls := .type "tuple", data := .seq #[a1, a2, a3, a4] }
theorem nz {a b : Nat} (h : a ≠ b) : a ≠ b := h
theorem tc_zip (a1 a2 a3 a4 : Value) : checkTypeCall "zip" ⟨[a1, a2, a3, a4], []⟩ = pure () := by kernel_rfl
theorem nc_zip (a1 a2 a3 a4 : Value) : checkBuiltinCall "zip.__new__" ⟨[.type "zip", a1, a2, a3, a4], []⟩ = pure () := by kernel_rfl
theorem oi_zip (o a1 a2 a3 a4 : Value) : argsOk "object.__init__" ⟨[o, a1, a2, a3, a4], []⟩ := by unfold argsOk; kernel_rfl
section
variable {prog : Program} {w : World} {A : Around} {E : Value → Shared → Prop} {s : Shared}
theorem seqN {T : Addr} {a1 a2 a3 a4 x : Value} {k : Nat} {Q : Unit → Shared → Prop} (hT : IsT4 s.heap T a1 a2 a3 a4)
    (h : ∀ h', h'.get? T = some { cls := .type "tuple", data := .seq ((#[a1, a2, a3, a4] : Array Value).setIfInBounds k x) } → Heap.SameBut T s.heap h' → Q () { s with heap := h' }) :
    wpAny (model prog w) A (updateSeq T (·.setIfInBounds k x)) Q E s := by
  refine wpAny_updateSeq hT rfl (h _ ?_ (Heap.SameBut.update ..))
  rw [Heap.get?_update_self _ hT rfl]
  simp [Obj.mapSeq]
theorem next_item {b l1 l2 l3 l4 k : Nat} {xs1 xs2 xs3 xs4 : Array Value} {x1 x2 x3 x4 a1 a2 a3 a4 : Value} {Q : Value → Shared → Prop} (hz : IsZip s.heap (b + 6) (b + 4) (b + 5) .none) (hTI : IsT4 s.heap (b + 4) (.ref b) (.ref (b + 1)) (.ref (b + 2)) (.ref (b + 3))) (hTO : IsT4 s.heap (b + 5) a1 a2 a3 a4) (h1 : s.heap.IsListIter b l1 (k)) (h2 : s.heap.IsListIter (b + 1) l2 (k)) (h3 : s.heap.IsListIter (b + 2) l3 (k)) (h4 : s.heap.IsListIter (b + 3) l4 (k)) (hl1 : s.heap.IsList l1 xs1) (hl2 : s.heap.IsList l2 xs2) (hl3 : s.heap.IsList l3 xs3) (hl4 : s.heap.IsList l4 xs4) (t1 : l1 < b) (t2 : l2 < b) (t3 : l3 < b) (t4 : l4 < b) (e1 : xs1[k]? = some x1) (e2 : xs2[k]? = some x2) (e3 : xs3[k]? = some x3) (e4 : xs4[k]? = some x4)
    (hQ : ∀ h', IsZip h' (b + 6) (b + 4) (b + 5) (rawInt s.heap.objs.size) → IsT4 h' (b + 5) x1 x2 x3 x4 → h'.IsListIter b l1 (k + 1) → h'.IsListIter (b + 1) l2 (k + 1) → h'.IsListIter (b + 2) l3 (k + 1) → h'.IsListIter (b + 3) l4 (k + 1) → IsT4 h' s.heap.objs.size x1 x2 x3 x4 → h'.objs.size = s.heap.objs.size + 1 →
      (∀ c o, c ≠ b + 6 → c ≠ b + 5 → c ≠ b → c ≠ (b + 1) → c ≠ (b + 2) → c ≠ (b + 3) → s.heap.get? c = some o → h'.get? c = some o) → Q (.ref s.heap.objs.size) { s with heap := h' }) :
    wpAny (model prog w) A (Builtin.«zip.__next__» ⟨[.ref (b + 6)], []⟩) (fun fin s' => ∃ v, fin = .done (.ret v) ∧ Q v s') E s := by
  have lz : b + 6 < s.heap.objs.size := Heap.lt_size hz
  show wpAny _ _ (field (.ref (b + 6)) 2 >>= _) _ _ _
  refine wpAny_bind (wpAny_field hz rfl (x := .bool false) rfl ?_)
  show wpAny _ _ (field (.ref (b + 6)) 3 >>= _) _ _ _
  refine wpAny_bind (wpAny_field hz rfl (x := .ref (b + 4)) rfl ?_)
  refine wpAny_bind (wpAny_seqItems hTI rfl ?_)
  show wpAny _ _ (Builtin.SmallTypes.ownedTupleIsFree (.ref (b + 6)) >>= _) _ _ _
  refine wpAny_bind ?_
  unfold Builtin.SmallTypes.ownedTupleIsFree
  refine wpAny_bind (wpAny_field hz rfl (x := .none) rfl (wpAny_pure ?_))
  simp only [if_true]
  refine wpAny_bind (wpAny_rule ?_)
  refine wpAny_bind (wpAny_field hz rfl (x := .ref (b + 5)) rfl ?_)
  refine wpAny_bind (wpAny_setField_rec hz (by simp) fun g0 hz0 s0 => ?_)
  replace hz0 : IsZip g0 (b + 6) (b + 4) (b + 5) .ellipsis := hz0
  refine wpAny_bind ?_
  simp only [List.zipIdx_cons, List.zipIdx_nil, List.forIn_cons, List.forIn_nil]
  have kp0 : ∀ c o, c ≠ b + 6 → s.heap.get? c = some o → g0.get? c = some o := fun c o n e => s0.extBut _ _ n e
  have hTO0 : IsT4 g0 (b + 5) a1 a2 a3 a4 := kp0 _ _ (by omega) hTO
  have h1_0 : g0.IsListIter b l1 k := h1.at fun o e => kp0 _ o (by omega) e
  have hl1_0 : g0.IsList l1 xs1 := hl1.at fun o e => kp0 _ o (by omega) e
  have h2_0 : g0.IsListIter (b + 1) l2 k := h2.at fun o e => kp0 _ o (by omega) e
  have hl2_0 : g0.IsList l2 xs2 := hl2.at fun o e => kp0 _ o (by omega) e
  have h3_0 : g0.IsListIter (b + 2) l3 k := h3.at fun o e => kp0 _ o (by omega) e
  have hl3_0 : g0.IsList l3 xs3 := hl3.at fun o e => kp0 _ o (by omega) e
  have h4_0 : g0.IsListIter (b + 3) l4 k := h4.at fun o e => kp0 _ o (by omega) e
  have hl4_0 : g0.IsList l4 xs4 := hl4.at fun o e => kp0 _ o (by omega) e
  refine wpAny_bind (wpAny_bind (wpAny_onRaise ?_))
  show wpAny _ _ (Builtin.SmallTypes.nextOf (.ref b) >>= _) _ _ _
  refine wpAny_bind (wpAny_nextOf_list_item h1_0 hl1_0 e1 fun f1 n1 u1 => wpAny_pure ?_)
  have w1 : IsT4 f1 (b + 5) a1 a2 a3 a4 := u1.extBut _ _ (nz (by omega)) hTO0
  refine wpAny_bind (wpAny_seqItems w1 rfl ?_)
  refine wpAny_bind (seqN w1 fun g1 hTO1 v1 => ?_)
  replace hTO1 : IsT4 g1 (b + 5) x1 a2 a3 a4 := hTO1
  have kp1 : ∀ c o, c ≠ b + 5 → c ≠ b → g0.get? c = some o → g1.get? c = some o := fun c o n1 n2 e => v1.extBut _ _ n1 (u1.extBut _ _ n2 e)
  have hz1 : IsZip g1 (b + 6) (b + 4) (b + 5) .ellipsis := kp1 _ _ (by omega) (by omega) hz0
  have h1_1 : g1.IsListIter b l1 (k + 1) := n1.at fun o e => v1.extBut _ _ (nz (by omega)) e
  have hl1_1 : g1.IsList l1 xs1 := hl1_0.at fun o e => kp1 _ o (by omega) (by omega) e
  have h2_1 : g1.IsListIter (b + 1) l2 k := h2_0.at fun o e => kp1 _ o (by omega) (by omega) e
  have hl2_1 : g1.IsList l2 xs2 := hl2_0.at fun o e => kp1 _ o (by omega) (by omega) e
  have h3_1 : g1.IsListIter (b + 2) l3 k := h3_0.at fun o e => kp1 _ o (by omega) (by omega) e
  have hl3_1 : g1.IsList l3 xs3 := hl3_0.at fun o e => kp1 _ o (by omega) (by omega) e
  have h4_1 : g1.IsListIter (b + 3) l4 k := h4_0.at fun o e => kp1 _ o (by omega) (by omega) e
  have hl4_1 : g1.IsList l4 xs4 := hl4_0.at fun o e => kp1 _ o (by omega) (by omega) e
  refine wpAny_bind (wpAny_letGo (wpAny_pure ?_))
  refine wpAny_bind (wpAny_bind (wpAny_onRaise ?_))
  show wpAny _ _ (Builtin.SmallTypes.nextOf (.ref (b + 1)) >>= _) _ _ _
  refine wpAny_bind (wpAny_nextOf_list_item h2_1 hl2_1 e2 fun f2 n2 u2 => wpAny_pure ?_)
  have w2 : IsT4 f2 (b + 5) x1 a2 a3 a4 := u2.extBut _ _ (nz (by omega)) hTO1
  refine wpAny_bind (wpAny_seqItems w2 rfl ?_)
  refine wpAny_bind (seqN w2 fun g2 hTO2 v2 => ?_)
  replace hTO2 : IsT4 g2 (b + 5) x1 x2 a3 a4 := hTO2
  have kp2 : ∀ c o, c ≠ b + 5 → c ≠ (b + 1) → g1.get? c = some o → g2.get? c = some o := fun c o n1 n2 e => v2.extBut _ _ n1 (u2.extBut _ _ n2 e)
  have hz2 : IsZip g2 (b + 6) (b + 4) (b + 5) .ellipsis := kp2 _ _ (by omega) (by omega) hz1
  have h1_2 : g2.IsListIter b l1 (k + 1) := h1_1.at fun o e => kp2 _ o (by omega) (by omega) e
  have hl1_2 : g2.IsList l1 xs1 := hl1_1.at fun o e => kp2 _ o (by omega) (by omega) e
  have h2_2 : g2.IsListIter (b + 1) l2 (k + 1) := n2.at fun o e => v2.extBut _ _ (nz (by omega)) e
  have hl2_2 : g2.IsList l2 xs2 := hl2_1.at fun o e => kp2 _ o (by omega) (by omega) e
  have h3_2 : g2.IsListIter (b + 2) l3 k := h3_1.at fun o e => kp2 _ o (by omega) (by omega) e
  have hl3_2 : g2.IsList l3 xs3 := hl3_1.at fun o e => kp2 _ o (by omega) (by omega) e
  have h4_2 : g2.IsListIter (b + 3) l4 k := h4_1.at fun o e => kp2 _ o (by omega) (by omega) e
  have hl4_2 : g2.IsList l4 xs4 := hl4_1.at fun o e => kp2 _ o (by omega) (by omega) e
  refine wpAny_bind (wpAny_letGo (wpAny_pure ?_))
  refine wpAny_bind (wpAny_bind (wpAny_onRaise ?_))
  show wpAny _ _ (Builtin.SmallTypes.nextOf (.ref (b + 2)) >>= _) _ _ _
  refine wpAny_bind (wpAny_nextOf_list_item h3_2 hl3_2 e3 fun f3 n3 u3 => wpAny_pure ?_)
  have w3 : IsT4 f3 (b + 5) x1 x2 a3 a4 := u3.extBut _ _ (nz (by omega)) hTO2
  refine wpAny_bind (wpAny_seqItems w3 rfl ?_)
  refine wpAny_bind (seqN w3 fun g3 hTO3 v3 => ?_)
  replace hTO3 : IsT4 g3 (b + 5) x1 x2 x3 a4 := hTO3
  have kp3 : ∀ c o, c ≠ b + 5 → c ≠ (b + 2) → g2.get? c = some o → g3.get? c = some o := fun c o n1 n2 e => v3.extBut _ _ n1 (u3.extBut _ _ n2 e)
  have hz3 : IsZip g3 (b + 6) (b + 4) (b + 5) .ellipsis := kp3 _ _ (by omega) (by omega) hz2
  have h1_3 : g3.IsListIter b l1 (k + 1) := h1_2.at fun o e => kp3 _ o (by omega) (by omega) e
  have hl1_3 : g3.IsList l1 xs1 := hl1_2.at fun o e => kp3 _ o (by omega) (by omega) e
  have h2_3 : g3.IsListIter (b + 1) l2 (k + 1) := h2_2.at fun o e => kp3 _ o (by omega) (by omega) e
  have hl2_3 : g3.IsList l2 xs2 := hl2_2.at fun o e => kp3 _ o (by omega) (by omega) e
  have h3_3 : g3.IsListIter (b + 2) l3 (k + 1) := n3.at fun o e => v3.extBut _ _ (nz (by omega)) e
  have hl3_3 : g3.IsList l3 xs3 := hl3_2.at fun o e => kp3 _ o (by omega) (by omega) e
  have h4_3 : g3.IsListIter (b + 3) l4 k := h4_2.at fun o e => kp3 _ o (by omega) (by omega) e
  have hl4_3 : g3.IsList l4 xs4 := hl4_2.at fun o e => kp3 _ o (by omega) (by omega) e
  refine wpAny_bind (wpAny_letGo (wpAny_pure ?_))
  refine wpAny_bind (wpAny_bind (wpAny_onRaise ?_))
  show wpAny _ _ (Builtin.SmallTypes.nextOf (.ref (b + 3)) >>= _) _ _ _
  refine wpAny_bind (wpAny_nextOf_list_item h4_3 hl4_3 e4 fun f4 n4 u4 => wpAny_pure ?_)
  have w4 : IsT4 f4 (b + 5) x1 x2 x3 a4 := u4.extBut _ _ (nz (by omega)) hTO3
  refine wpAny_bind (wpAny_seqItems w4 rfl ?_)
  refine wpAny_bind (seqN w4 fun g4 hTO4 v4 => ?_)
  replace hTO4 : IsT4 g4 (b + 5) x1 x2 x3 x4 := hTO4
  have kp4 : ∀ c o, c ≠ b + 5 → c ≠ (b + 3) → g3.get? c = some o → g4.get? c = some o := fun c o n1 n2 e => v4.extBut _ _ n1 (u4.extBut _ _ n2 e)
  have hz4 : IsZip g4 (b + 6) (b + 4) (b + 5) .ellipsis := kp4 _ _ (by omega) (by omega) hz3
  have h1_4 : g4.IsListIter b l1 (k + 1) := h1_3.at fun o e => kp4 _ o (by omega) (by omega) e
  have hl1_4 : g4.IsList l1 xs1 := hl1_3.at fun o e => kp4 _ o (by omega) (by omega) e
  have h2_4 : g4.IsListIter (b + 1) l2 (k + 1) := h2_3.at fun o e => kp4 _ o (by omega) (by omega) e
  have hl2_4 : g4.IsList l2 xs2 := hl2_3.at fun o e => kp4 _ o (by omega) (by omega) e
  have h3_4 : g4.IsListIter (b + 2) l3 (k + 1) := h3_3.at fun o e => kp4 _ o (by omega) (by omega) e
  have hl3_4 : g4.IsList l3 xs3 := hl3_3.at fun o e => kp4 _ o (by omega) (by omega) e
  have h4_4 : g4.IsListIter (b + 3) l4 (k + 1) := n4.at fun o e => v4.extBut _ _ (nz (by omega)) e
  have hl4_4 : g4.IsList l4 xs4 := hl4_3.at fun o e => kp4 _ o (by omega) (by omega) e
  refine wpAny_bind (wpAny_letGo (wpAny_pure (wpAny_pure ?_)))
  refine wpAny_bind (wpAny_seqItems hTO4 rfl ?_)
  refine wpAny_bind (wpAny_newTuple ?_)
  have hsz : g4.objs.size = s.heap.objs.size := by rw [v4.1, u4.1, v3.1, u3.1, v2.1, u2.1, v1.1, u1.1, s0.1]
  have kA : ∀ c o, c ≠ b + 6 → c ≠ b + 5 → c ≠ b → c ≠ (b + 1) → c ≠ (b + 2) → c ≠ (b + 3) → s.heap.get? c = some o → g4.get? c = some o := fun c o n0 n1 m1 m2 m3 m4 e => kp4 _ _ n1 m4 (kp3 _ _ n1 m3 (kp2 _ _ n1 m2 (kp1 _ _ n1 m1 (kp0 _ _ n0 e))))
  have lzN : b + 6 < g4.objs.size := Heap.lt_size hz4
  show wpAny _ _ (Builtin.SmallTypes.ownedTupleHandOut (.ref (b + 6)) (.ref g4.objs.size) >>= _) _ _ _
  refine wpAny_bind ?_
  unfold Builtin.SmallTypes.ownedTupleHandOut
  have hzp : IsZip (g4.push { cls := .type "tuple", data := .seq #[x1, x2, x3, x4] }) (b + 6) (b + 4) (b + 5) .ellipsis := Heap.get?_push_of_some _ hz4
  refine wpAny_bind (wpAny_setField_rec hzp (by simp) fun hy hzy sy => ?_)
  replace hzy : IsZip hy (b + 6) (b + 4) (b + 5) (rawInt g4.objs.size) := hzy
  refine wpAny_setField_rec hzy (by simp) fun hw hzw sw => ?_
  replace hzw : IsZip hw (b + 6) (b + 4) (b + 5) (rawInt g4.objs.size) := hzw
  have up : ∀ c o, c ≠ b + 6 → g4.get? c = some o → hw.get? c = some o := fun c o c1 e => sw.extBut _ _ c1 (sy.extBut _ _ c1 (Heap.get?_push_of_some _ e))
  have hTw : IsT4 hw g4.objs.size x1 x2 x3 x4 := sw.extBut _ _ (Nat.ne_of_gt lzN) (sy.extBut _ _ (Nat.ne_of_gt lzN) (Heap.get?_push_size _ rfl))
  have hs8 : hw.objs.size = g4.objs.size + 1 := by rw [sw.1, sy.1, Heap.size_push]
  rw [hsz] at hzw hTw hs8
  refine wpAny_pure ⟨_, rfl, ?_⟩
  show Q (.ref g4.objs.size) _
  rw [hsz]
  exact hQ hw hzw (up _ _ (by omega) hTO4) (h1_4.at fun o e => up _ o (by omega) e) (h2_4.at fun o e => up _ o (by omega) e) (h3_4.at fun o e => up _ o (by omega) e) (h4_4.at fun o e => up _ o (by omega) e) hTw hs8 fun c o n0 n1 m1 m2 m3 m4 e => up c o n0 (kA c o n0 n1 m1 m2 m3 m4 e)
theorem next_end {b l1 l2 l3 l4 k : Nat} {xs1 xs2 xs3 xs4 : Array Value} {a1 a2 a3 a4 : Value} {Q : PySem.Fin → Shared → Prop} (hh : A.handled = none) (hz : IsZip s.heap (b + 6) (b + 4) (b + 5) .none) (hTI : IsT4 s.heap (b + 4) (.ref b) (.ref (b + 1)) (.ref (b + 2)) (.ref (b + 3))) (hTO : IsT4 s.heap (b + 5) a1 a2 a3 a4) (h1 : s.heap.IsListIter b l1 (k)) (h2 : s.heap.IsListIter (b + 1) l2 (k)) (h3 : s.heap.IsListIter (b + 2) l3 (k)) (h4 : s.heap.IsListIter (b + 3) l4 (k)) (hl1 : s.heap.IsList l1 xs1) (hl2 : s.heap.IsList l2 xs2) (hl3 : s.heap.IsList l3 xs3) (hl4 : s.heap.IsList l4 xs4) (t1 : l1 < b) (t2 : l2 < b) (t3 : l3 < b) (t4 : l4 < b) (hend : xs1[k]? = none ∨ xs2[k]? = none ∨ xs3[k]? = none ∨ xs4[k]? = none)
    (hE : ∀ h' e, (∀ c o, c ≠ b + 6 → c ≠ b + 5 → c ≠ b → c ≠ (b + 1) → c ≠ (b + 2) → c ≠ (b + 3) → s.heap.get? c = some o → h'.get? c = some o) → (∃ o, h'.get? e = some o ∧ o.cls = .type "StopIteration") → E (.ref e) { s with heap := h' }) :
    wpAny (model prog w) A (Builtin.«zip.__next__» ⟨[.ref (b + 6)], []⟩) Q E s := by
  have lz : b + 6 < s.heap.objs.size := Heap.lt_size hz
  show wpAny _ _ (field (.ref (b + 6)) 2 >>= _) _ _ _
  refine wpAny_bind (wpAny_field hz rfl (x := .bool false) rfl ?_)
  show wpAny _ _ (field (.ref (b + 6)) 3 >>= _) _ _ _
  refine wpAny_bind (wpAny_field hz rfl (x := .ref (b + 4)) rfl ?_)
  refine wpAny_bind (wpAny_seqItems hTI rfl ?_)
  show wpAny _ _ (Builtin.SmallTypes.ownedTupleIsFree (.ref (b + 6)) >>= _) _ _ _
  refine wpAny_bind ?_
  unfold Builtin.SmallTypes.ownedTupleIsFree
  refine wpAny_bind (wpAny_field hz rfl (x := .none) rfl (wpAny_pure ?_))
  simp only [if_true]
  refine wpAny_bind (wpAny_rule ?_)
  refine wpAny_bind (wpAny_field hz rfl (x := .ref (b + 5)) rfl ?_)
  refine wpAny_bind (wpAny_setField_rec hz (by simp) fun g0 hz0 s0 => ?_)
  replace hz0 : IsZip g0 (b + 6) (b + 4) (b + 5) .ellipsis := hz0
  refine wpAny_bind ?_
  simp only [List.zipIdx_cons, List.zipIdx_nil, List.forIn_cons, List.forIn_nil]
  have kp0 : ∀ c o, c ≠ b + 6 → s.heap.get? c = some o → g0.get? c = some o := fun c o n e => s0.extBut _ _ n e
  have hTO0 : IsT4 g0 (b + 5) a1 a2 a3 a4 := kp0 _ _ (by omega) hTO
  have h1_0 : g0.IsListIter b l1 k := h1.at fun o e => kp0 _ o (by omega) e
  have hl1_0 : g0.IsList l1 xs1 := hl1.at fun o e => kp0 _ o (by omega) e
  have h2_0 : g0.IsListIter (b + 1) l2 k := h2.at fun o e => kp0 _ o (by omega) e
  have hl2_0 : g0.IsList l2 xs2 := hl2.at fun o e => kp0 _ o (by omega) e
  have h3_0 : g0.IsListIter (b + 2) l3 k := h3.at fun o e => kp0 _ o (by omega) e
  have hl3_0 : g0.IsList l3 xs3 := hl3.at fun o e => kp0 _ o (by omega) e
  have h4_0 : g0.IsListIter (b + 3) l4 k := h4.at fun o e => kp0 _ o (by omega) e
  have hl4_0 : g0.IsList l4 xs4 := hl4.at fun o e => kp0 _ o (by omega) e
  by_cases d1 : xs1[k]? = none
  · refine wpAny_bind (wpAny_bind (wpAny_onRaise ?_))
    show wpAny _ _ (Builtin.SmallTypes.nextOf (.ref b) >>= _) _ _ _
    refine wpAny_bind (wpAny_nextOf_list_end hh h1_0 hl1_0 d1 fun f e hsf he => ?_)
    obtain ⟨oe, hoe, hce⟩ := he
    have hzf : IsZip f (b + 6) (b + 4) (b + 5) .ellipsis := hsf _ _ (nz (by omega)) hz0
    have hez : e ≠ b + 6 := fun x => by subst x; rw [hzf] at hoe; cases hoe; simp at hce
    refine wpAny_setField_rec hzf (by simp) fun f3 _ sf3 => hE f3 e (fun c o n0 n1 m1 m2 m3 m4 x => sf3.extBut _ _ n0 (hsf _ _ m1 (kp0 _ _ n0 x))) ⟨oe, sf3.extBut _ _ hez hoe, hce⟩
  obtain ⟨x1, e1⟩ := Option.ne_none_iff_exists'.mp d1
  refine wpAny_bind (wpAny_bind (wpAny_onRaise ?_))
  show wpAny _ _ (Builtin.SmallTypes.nextOf (.ref b) >>= _) _ _ _
  refine wpAny_bind (wpAny_nextOf_list_item h1_0 hl1_0 e1 fun f1 n1 u1 => wpAny_pure ?_)
  have w1 : IsT4 f1 (b + 5) a1 a2 a3 a4 := u1.extBut _ _ (nz (by omega)) hTO0
  refine wpAny_bind (wpAny_seqItems w1 rfl ?_)
  refine wpAny_bind (seqN w1 fun g1 hTO1 v1 => ?_)
  replace hTO1 : IsT4 g1 (b + 5) x1 a2 a3 a4 := hTO1
  have kp1 : ∀ c o, c ≠ b + 5 → c ≠ b → g0.get? c = some o → g1.get? c = some o := fun c o n1 n2 e => v1.extBut _ _ n1 (u1.extBut _ _ n2 e)
  have hz1 : IsZip g1 (b + 6) (b + 4) (b + 5) .ellipsis := kp1 _ _ (by omega) (by omega) hz0
  have h1_1 : g1.IsListIter b l1 (k + 1) := n1.at fun o e => v1.extBut _ _ (nz (by omega)) e
  have hl1_1 : g1.IsList l1 xs1 := hl1_0.at fun o e => kp1 _ o (by omega) (by omega) e
  have h2_1 : g1.IsListIter (b + 1) l2 k := h2_0.at fun o e => kp1 _ o (by omega) (by omega) e
  have hl2_1 : g1.IsList l2 xs2 := hl2_0.at fun o e => kp1 _ o (by omega) (by omega) e
  have h3_1 : g1.IsListIter (b + 2) l3 k := h3_0.at fun o e => kp1 _ o (by omega) (by omega) e
  have hl3_1 : g1.IsList l3 xs3 := hl3_0.at fun o e => kp1 _ o (by omega) (by omega) e
  have h4_1 : g1.IsListIter (b + 3) l4 k := h4_0.at fun o e => kp1 _ o (by omega) (by omega) e
  have hl4_1 : g1.IsList l4 xs4 := hl4_0.at fun o e => kp1 _ o (by omega) (by omega) e
  refine wpAny_bind (wpAny_letGo (wpAny_pure ?_))
  by_cases d2 : xs2[k]? = none
  · refine wpAny_bind (wpAny_bind (wpAny_onRaise ?_))
    show wpAny _ _ (Builtin.SmallTypes.nextOf (.ref (b + 1)) >>= _) _ _ _
    refine wpAny_bind (wpAny_nextOf_list_end hh h2_1 hl2_1 d2 fun f e hsf he => ?_)
    obtain ⟨oe, hoe, hce⟩ := he
    have hzf : IsZip f (b + 6) (b + 4) (b + 5) .ellipsis := hsf _ _ (nz (by omega)) hz1
    have hez : e ≠ b + 6 := fun x => by subst x; rw [hzf] at hoe; cases hoe; simp at hce
    refine wpAny_setField_rec hzf (by simp) fun f3 _ sf3 => hE f3 e (fun c o n0 n1 m1 m2 m3 m4 x => sf3.extBut _ _ n0 (hsf _ _ m2 (kp1 _ _ n1 m1 (kp0 _ _ n0 x)))) ⟨oe, sf3.extBut _ _ hez hoe, hce⟩
  obtain ⟨x2, e2⟩ := Option.ne_none_iff_exists'.mp d2
  refine wpAny_bind (wpAny_bind (wpAny_onRaise ?_))
  show wpAny _ _ (Builtin.SmallTypes.nextOf (.ref (b + 1)) >>= _) _ _ _
  refine wpAny_bind (wpAny_nextOf_list_item h2_1 hl2_1 e2 fun f2 n2 u2 => wpAny_pure ?_)
  have w2 : IsT4 f2 (b + 5) x1 a2 a3 a4 := u2.extBut _ _ (nz (by omega)) hTO1
  refine wpAny_bind (wpAny_seqItems w2 rfl ?_)
  refine wpAny_bind (seqN w2 fun g2 hTO2 v2 => ?_)
  replace hTO2 : IsT4 g2 (b + 5) x1 x2 a3 a4 := hTO2
  have kp2 : ∀ c o, c ≠ b + 5 → c ≠ (b + 1) → g1.get? c = some o → g2.get? c = some o := fun c o n1 n2 e => v2.extBut _ _ n1 (u2.extBut _ _ n2 e)
  have hz2 : IsZip g2 (b + 6) (b + 4) (b + 5) .ellipsis := kp2 _ _ (by omega) (by omega) hz1
  have h1_2 : g2.IsListIter b l1 (k + 1) := h1_1.at fun o e => kp2 _ o (by omega) (by omega) e
  have hl1_2 : g2.IsList l1 xs1 := hl1_1.at fun o e => kp2 _ o (by omega) (by omega) e
  have h2_2 : g2.IsListIter (b + 1) l2 (k + 1) := n2.at fun o e => v2.extBut _ _ (nz (by omega)) e
  have hl2_2 : g2.IsList l2 xs2 := hl2_1.at fun o e => kp2 _ o (by omega) (by omega) e
  have h3_2 : g2.IsListIter (b + 2) l3 k := h3_1.at fun o e => kp2 _ o (by omega) (by omega) e
  have hl3_2 : g2.IsList l3 xs3 := hl3_1.at fun o e => kp2 _ o (by omega) (by omega) e
  have h4_2 : g2.IsListIter (b + 3) l4 k := h4_1.at fun o e => kp2 _ o (by omega) (by omega) e
  have hl4_2 : g2.IsList l4 xs4 := hl4_1.at fun o e => kp2 _ o (by omega) (by omega) e
  refine wpAny_bind (wpAny_letGo (wpAny_pure ?_))
  by_cases d3 : xs3[k]? = none
  · refine wpAny_bind (wpAny_bind (wpAny_onRaise ?_))
    show wpAny _ _ (Builtin.SmallTypes.nextOf (.ref (b + 2)) >>= _) _ _ _
    refine wpAny_bind (wpAny_nextOf_list_end hh h3_2 hl3_2 d3 fun f e hsf he => ?_)
    obtain ⟨oe, hoe, hce⟩ := he
    have hzf : IsZip f (b + 6) (b + 4) (b + 5) .ellipsis := hsf _ _ (nz (by omega)) hz2
    have hez : e ≠ b + 6 := fun x => by subst x; rw [hzf] at hoe; cases hoe; simp at hce
    refine wpAny_setField_rec hzf (by simp) fun f3 _ sf3 => hE f3 e (fun c o n0 n1 m1 m2 m3 m4 x => sf3.extBut _ _ n0 (hsf _ _ m3 (kp2 _ _ n1 m2 (kp1 _ _ n1 m1 (kp0 _ _ n0 x))))) ⟨oe, sf3.extBut _ _ hez hoe, hce⟩
  obtain ⟨x3, e3⟩ := Option.ne_none_iff_exists'.mp d3
  refine wpAny_bind (wpAny_bind (wpAny_onRaise ?_))
  show wpAny _ _ (Builtin.SmallTypes.nextOf (.ref (b + 2)) >>= _) _ _ _
  refine wpAny_bind (wpAny_nextOf_list_item h3_2 hl3_2 e3 fun f3 n3 u3 => wpAny_pure ?_)
  have w3 : IsT4 f3 (b + 5) x1 x2 a3 a4 := u3.extBut _ _ (nz (by omega)) hTO2
  refine wpAny_bind (wpAny_seqItems w3 rfl ?_)
  refine wpAny_bind (seqN w3 fun g3 hTO3 v3 => ?_)
  replace hTO3 : IsT4 g3 (b + 5) x1 x2 x3 a4 := hTO3
  have kp3 : ∀ c o, c ≠ b + 5 → c ≠ (b + 2) → g2.get? c = some o → g3.get? c = some o := fun c o n1 n2 e => v3.extBut _ _ n1 (u3.extBut _ _ n2 e)
  have hz3 : IsZip g3 (b + 6) (b + 4) (b + 5) .ellipsis := kp3 _ _ (by omega) (by omega) hz2
  have h1_3 : g3.IsListIter b l1 (k + 1) := h1_2.at fun o e => kp3 _ o (by omega) (by omega) e
  have hl1_3 : g3.IsList l1 xs1 := hl1_2.at fun o e => kp3 _ o (by omega) (by omega) e
  have h2_3 : g3.IsListIter (b + 1) l2 (k + 1) := h2_2.at fun o e => kp3 _ o (by omega) (by omega) e
  have hl2_3 : g3.IsList l2 xs2 := hl2_2.at fun o e => kp3 _ o (by omega) (by omega) e
  have h3_3 : g3.IsListIter (b + 2) l3 (k + 1) := n3.at fun o e => v3.extBut _ _ (nz (by omega)) e
  have hl3_3 : g3.IsList l3 xs3 := hl3_2.at fun o e => kp3 _ o (by omega) (by omega) e
  have h4_3 : g3.IsListIter (b + 3) l4 k := h4_2.at fun o e => kp3 _ o (by omega) (by omega) e
  have hl4_3 : g3.IsList l4 xs4 := hl4_2.at fun o e => kp3 _ o (by omega) (by omega) e
  refine wpAny_bind (wpAny_letGo (wpAny_pure ?_))
  by_cases d4 : xs4[k]? = none
  · refine wpAny_bind (wpAny_bind (wpAny_onRaise ?_))
    show wpAny _ _ (Builtin.SmallTypes.nextOf (.ref (b + 3)) >>= _) _ _ _
    refine wpAny_bind (wpAny_nextOf_list_end hh h4_3 hl4_3 d4 fun f e hsf he => ?_)
    obtain ⟨oe, hoe, hce⟩ := he
    have hzf : IsZip f (b + 6) (b + 4) (b + 5) .ellipsis := hsf _ _ (nz (by omega)) hz3
    have hez : e ≠ b + 6 := fun x => by subst x; rw [hzf] at hoe; cases hoe; simp at hce
    refine wpAny_setField_rec hzf (by simp) fun f3 _ sf3 => hE f3 e (fun c o n0 n1 m1 m2 m3 m4 x => sf3.extBut _ _ n0 (hsf _ _ m4 (kp3 _ _ n1 m3 (kp2 _ _ n1 m2 (kp1 _ _ n1 m1 (kp0 _ _ n0 x)))))) ⟨oe, sf3.extBut _ _ hez hoe, hce⟩
  exact absurd hend (by simp only [not_or]; exact ⟨d1, d2, d3, d4⟩)
theorem pyNext_item {b l1 l2 l3 l4 k : Nat} {xs1 xs2 xs3 xs4 : Array Value} {x1 x2 x3 x4 a1 a2 a3 a4 : Value} {Q : Option Value → Shared → Prop} (hz : IsZip s.heap (b + 6) (b + 4) (b + 5) .none) (hTI : IsT4 s.heap (b + 4) (.ref b) (.ref (b + 1)) (.ref (b + 2)) (.ref (b + 3))) (hTO : IsT4 s.heap (b + 5) a1 a2 a3 a4) (h1 : s.heap.IsListIter b l1 (k)) (h2 : s.heap.IsListIter (b + 1) l2 (k)) (h3 : s.heap.IsListIter (b + 2) l3 (k)) (h4 : s.heap.IsListIter (b + 3) l4 (k)) (hl1 : s.heap.IsList l1 xs1) (hl2 : s.heap.IsList l2 xs2) (hl3 : s.heap.IsList l3 xs3) (hl4 : s.heap.IsList l4 xs4) (t1 : l1 < b) (t2 : l2 < b) (t3 : l3 < b) (t4 : l4 < b) (e1 : xs1[k]? = some x1) (e2 : xs2[k]? = some x2) (e3 : xs3[k]? = some x3) (e4 : xs4[k]? = some x4)
    (hQ : ∀ h', IsZip h' (b + 6) (b + 4) (b + 5) (rawInt s.heap.objs.size) → IsT4 h' (b + 5) x1 x2 x3 x4 → h'.IsListIter b l1 (k + 1) → h'.IsListIter (b + 1) l2 (k + 1) → h'.IsListIter (b + 2) l3 (k + 1) → h'.IsListIter (b + 3) l4 (k + 1) → IsT4 h' s.heap.objs.size x1 x2 x3 x4 → h'.objs.size = s.heap.objs.size + 1 →
      (∀ c o, c ≠ b + 6 → c ≠ b + 5 → c ≠ b → c ≠ (b + 1) → c ≠ (b + 2) → c ≠ (b + 3) → s.heap.get? c = some o → h'.get? c = some o) → Q (some (.ref s.heap.objs.size)) { s with heap := h' }) :
    wpAny (model prog w) A (pyNext (.ref (b + 6))) Q E s := by
  have hT : s.TypeIs (.ref (b + 6)) "zip" := ⟨_, hz, rfl⟩
  unfold pyNext
  exact wpAny_bind (wpAny_attempt (wpAny_callSpecial?_slot (name := Str.ofString "__next__") hT F.slot_zip_next
    (wpAny_call_entry F.slot_zip_next hT F.entry_zip_next
      (next_item hz hTI hTO h1 h2 h3 h4 hl1 hl2 hl3 hl4 t1 t2 t3 t4 e1 e2 e3 e4 fun h' a1 a2 y1 y2 y3 y4 a6 a7 a8 => wpAny_pure (hQ h' a1 a2 y1 y2 y3 y4 a6 a7 a8)) (F.args_zip_next_1 _))))
theorem pyNext_end {b l1 l2 l3 l4 k : Nat} {xs1 xs2 xs3 xs4 : Array Value} {a1 a2 a3 a4 : Value} {Q : Option Value → Shared → Prop} (hh : A.handled = none) (hz : IsZip s.heap (b + 6) (b + 4) (b + 5) .none) (hTI : IsT4 s.heap (b + 4) (.ref b) (.ref (b + 1)) (.ref (b + 2)) (.ref (b + 3))) (hTO : IsT4 s.heap (b + 5) a1 a2 a3 a4) (h1 : s.heap.IsListIter b l1 (k)) (h2 : s.heap.IsListIter (b + 1) l2 (k)) (h3 : s.heap.IsListIter (b + 2) l3 (k)) (h4 : s.heap.IsListIter (b + 3) l4 (k)) (hl1 : s.heap.IsList l1 xs1) (hl2 : s.heap.IsList l2 xs2) (hl3 : s.heap.IsList l3 xs3) (hl4 : s.heap.IsList l4 xs4) (t1 : l1 < b) (t2 : l2 < b) (t3 : l3 < b) (t4 : l4 < b) (hend : xs1[k]? = none ∨ xs2[k]? = none ∨ xs3[k]? = none ∨ xs4[k]? = none)
    (hQ : ∀ h', (∀ c o, c ≠ b + 6 → c ≠ b + 5 → c ≠ b → c ≠ (b + 1) → c ≠ (b + 2) → c ≠ (b + 3) → s.heap.get? c = some o → h'.get? c = some o) → Q none { s with heap := h' }) : wpAny (model prog w) A (pyNext (.ref (b + 6))) Q E s := by
  have hT : s.TypeIs (.ref (b + 6)) "zip" := ⟨_, hz, rfl⟩
  unfold pyNext
  refine wpAny_bind (wpAny_attempt (wpAny_callSpecial?_slot (name := Str.ofString "__next__") hT F.slot_zip_next
    (wpAny_call_entry F.slot_zip_next hT F.entry_zip_next (next_end hh hz hTI hTO h1 h2 h3 h4 hl1 hl2 hl3 hl4 t1 t2 t3 t4 hend fun h' e hk he => ?_) (F.args_zip_next_1 _))))
  obtain ⟨o, ho, hc⟩ := he
  refine wpAny_bind (wpAny_isInstance (T := "StopIteration") (b := true) ⟨o, ho, hc⟩ isSubtype_stop ?_)
  exact wpAny_pure (hQ _ hk)
end
abbrev zH1 (h : Heap) (l1 : Addr) : Heap := h.push { cls := .type "list_iterator", data := .fields #[.ref l1, .int 0 0] }
abbrev zH2 (h : Heap) (l1 l2 : Addr) : Heap := (zH1 h l1).push { cls := .type "list_iterator", data := .fields #[.ref l2, .int 0 0] }
abbrev zH3 (h : Heap) (l1 l2 l3 : Addr) : Heap := (zH2 h l1 l2).push { cls := .type "list_iterator", data := .fields #[.ref l3, .int 0 0] }
abbrev zH4 (h : Heap) (l1 l2 l3 l4 : Addr) : Heap := (zH3 h l1 l2 l3).push { cls := .type "list_iterator", data := .fields #[.ref l4, .int 0 0] }
abbrev zT (h : Heap) (l1 l2 l3 l4 : Addr) : Heap := (zH4 h l1 l2 l3 l4).push { cls := .type "tuple", data := .seq #[.ref h.objs.size, .ref (zH1 h l1).objs.size, .ref (zH2 h l1 l2).objs.size, .ref (zH3 h l1 l2 l3).objs.size] }
abbrev zO (h : Heap) (l1 l2 l3 l4 : Addr) : Heap := (zT h l1 l2 l3 l4).push { cls := .type "tuple", data := .seq #[.none, .none, .none, .none] }
abbrev zZ (h : Heap) (l1 l2 l3 l4 : Addr) : Heap := (zO h l1 l2 l3 l4).push { cls := .type "zip", data := .fields #[.none, .bool false, .bool false, .ref (zH4 h l1 l2 l3 l4).objs.size, .ref (zT h l1 l2 l3 l4).objs.size] }
theorem meets_new (l1 l2 l3 l4 : Addr) (xs1 xs2 xs3 xs4 : Array Value) :
    Meets (Builtin.«zip.__new__» ⟨[.type "zip", .ref l1, .ref l2, .ref l3, .ref l4], []⟩) (fun _ R s => (s.heap.IsList l1 xs1 ∧ s.heap.IsList l2 xs2 ∧ s.heap.IsList l3 xs3 ∧ s.heap.IsList l4 xs4) ∧
      R (.ok (.ret (.ref (zO s.heap l1 l2 l3 l4).objs.size))) { s with heap := zZ s.heap l1 l2 l3 l4 }) :=
  .of_wp fun prog w A R s h => by
    obtain ⟨hp, g, d, tk, os⟩ := s; obtain ⟨⟨hl1, hl2, hl3, hl4⟩, h⟩ := h
    have hsub := sub_zip
    have L1 : Heap.IsList (Shared.heap ⟨hp, g, d, tk, os⟩) l1 xs1 := hl1
    have L2 : Heap.IsList (Shared.heap ⟨(zH1 hp l1), g, d, tk, os⟩) l2 xs2 := Heap.IsList.push (hl2) _
    have L3 : Heap.IsList (Shared.heap ⟨(zH2 hp l1 l2), g, d, tk, os⟩) l3 xs3 := Heap.IsList.push (Heap.IsList.push (hl3) _) _
    have L4 : Heap.IsList (Shared.heap ⟨(zH3 hp l1 l2 l3), g, d, tk, os⟩) l4 xs4 := Heap.IsList.push (Heap.IsList.push (Heap.IsList.push (hl4) _) _) _
    wp_walk using wpAny_pyIter_list L1, wpAny_pyIter_list L2, wpAny_pyIter_list L3, wpAny_pyIter_list L4
    exact ⟨_, rfl, h⟩
section
variable {prog : Program} {w : World} {A : Around} {E : Value → Shared → Prop} {s : Shared}
theorem call_new {l1 l2 l3 l4 : Addr} {xs1 xs2 xs3 xs4 : Array Value} {Q : Value → Shared → Prop} (hl1 : s.heap.IsList l1 xs1) (hl2 : s.heap.IsList l2 xs2) (hl3 : s.heap.IsList l3 xs3) (hl4 : s.heap.IsList l4 xs4)
    (h : ∀ h', IsZip h' (s.heap.objs.size + 6) (s.heap.objs.size + 4) (s.heap.objs.size + 5) .none → IsT4 h' (s.heap.objs.size + 4) (.ref s.heap.objs.size) (.ref (s.heap.objs.size + 1)) (.ref (s.heap.objs.size + 2)) (.ref (s.heap.objs.size + 3)) → IsT4 h' (s.heap.objs.size + 5) .none .none .none .none → h'.IsListIter s.heap.objs.size l1 0 → h'.IsListIter (s.heap.objs.size + 1) l2 0 → h'.IsListIter (s.heap.objs.size + 2) l3 0 → h'.IsListIter (s.heap.objs.size + 3) l4 0 → h'.objs.size = s.heap.objs.size + 7 →
      (∀ c o, s.heap.get? c = some o → h'.get? c = some o) → Q (.ref (s.heap.objs.size + 6)) { s with heap := h' }) :
    wpAny (model prog w) A (call (.type "zip") [.ref l1, .ref l2, .ref l3, .ref l4]) Q E s := by
  refine callType_new F.called_zip (by decide) (tc_zip _ _ _ _) (nc_zip _ _ _ _) (fun obj => oi_zip obj _ _ _ _) F.entry_zip_new (meets_new l1 l2 l3 l4 xs1 xs2 xs3 xs4) ⟨⟨hl1, hl2, hl3, hl4⟩, ?_⟩
  have z1 : (zH1 s.heap l1).objs.size = s.heap.objs.size + 1 := by exact Heap.size_push ..
  have z2 : (zH2 s.heap l1 l2).objs.size = s.heap.objs.size + 2 := by rw [Heap.size_push, z1]
  have z3 : (zH3 s.heap l1 l2 l3).objs.size = s.heap.objs.size + 3 := by rw [Heap.size_push, z2]
  have z4 : (zH4 s.heap l1 l2 l3 l4).objs.size = s.heap.objs.size + 4 := by rw [Heap.size_push, z3]
  have zt : (zT s.heap l1 l2 l3 l4).objs.size = s.heap.objs.size + 5 := by rw [Heap.size_push, z4]
  have zo : (zO s.heap l1 l2 l3 l4).objs.size = s.heap.objs.size + 6 := by rw [Heap.size_push, zt]
  have zz : (zZ s.heap l1 l2 l3 l4).objs.size = s.heap.objs.size + 7 := by rw [Heap.size_push, zo]
  have gz : (zZ s.heap l1 l2 l3 l4).get? (zO s.heap l1 l2 l3 l4).objs.size = some _ := Heap.get?_push_size _ rfl
  have go : (zZ s.heap l1 l2 l3 l4).get? (zT s.heap l1 l2 l3 l4).objs.size = some _ := Heap.get?_push_of_some _ (Heap.get?_push_size _ rfl)
  have gt : (zZ s.heap l1 l2 l3 l4).get? (zH4 s.heap l1 l2 l3 l4).objs.size = some _ := Heap.get?_push_of_some _ (Heap.get?_push_of_some _ (Heap.get?_push_size _ rfl))
  have g1 : (zZ s.heap l1 l2 l3 l4).get? s.heap.objs.size = some _ := Heap.get?_push_of_some _ (Heap.get?_push_of_some _ (Heap.get?_push_of_some _ (Heap.get?_push_of_some _ (Heap.get?_push_of_some _ (Heap.get?_push_of_some _ (Heap.get?_push_size _ rfl))))))
  have g2 : (zZ s.heap l1 l2 l3 l4).get? (zH1 s.heap l1).objs.size = some _ := Heap.get?_push_of_some _ (Heap.get?_push_of_some _ (Heap.get?_push_of_some _ (Heap.get?_push_of_some _ (Heap.get?_push_of_some _ (Heap.get?_push_size _ rfl)))))
  have g3 : (zZ s.heap l1 l2 l3 l4).get? (zH2 s.heap l1 l2).objs.size = some _ := Heap.get?_push_of_some _ (Heap.get?_push_of_some _ (Heap.get?_push_of_some _ (Heap.get?_push_of_some _ (Heap.get?_push_size _ rfl))))
  have g4 : (zZ s.heap l1 l2 l3 l4).get? (zH3 s.heap l1 l2 l3).objs.size = some _ := Heap.get?_push_of_some _ (Heap.get?_push_of_some _ (Heap.get?_push_of_some _ (Heap.get?_push_size _ rfl)))
  show _ ∧ _
  rw [z4, zt, zo] at gz
  rw [z1, z2, z3, z4] at gt
  rw [zt] at go
  rw [z1] at g2
  rw [z2] at g3
  rw [z3] at g4
  rw [zo]
  exact ⟨⟨_, gz, rfl⟩, h _ gz gt go ⟨_, g1, rfl, rfl⟩ ⟨_, g2, rfl, rfl⟩ ⟨_, g3, rfl, rfl⟩ ⟨_, g4, rfl, rfl⟩ zz fun c o x =>
    Heap.get?_push_of_some _ (Heap.get?_push_of_some _ (Heap.get?_push_of_some _ (Heap.get?_push_of_some _ (Heap.get?_push_of_some _ (Heap.get?_push_of_some _ (Heap.get?_push_of_some _ (x)))))))⟩
end
theorem lt_all {c b m : Nat} (h : b + 6 < m) (e : c = b + 6 ∨ c = b + 4 ∨ c = b + 5 ∨ c = b ∨ c = (b + 1) ∨ c = (b + 2) ∨ c = (b + 3)) : c < m := by omega
theorem ge_all {c b : Nat} (e : c = b + 6 ∨ c = b + 4 ∨ c = b + 5 ∨ c = b ∨ c = (b + 1) ∨ c = (b + 2) ∨ c = (b + 3)) : b ≤ c := by omega
/-- the lists as they stand at each turn, the items in new tuples -/
def Itz (K : PySem.W.Frag) (a1 a2 a3 a4 : Addr) : It :=
  ⟨fun i H => ∃ (ys1 ys2 ys3 ys4 : List V) (y1 y2 y3 y4 : V), SqL K H a1 ys1 ∧ SqL K H a2 ys2 ∧ SqL K H a3 ys3 ∧ SqL K H a4 ys4 ∧ ys1[i]? = some y1 ∧ ys2[i]? = some y2 ∧ ys3[i]? = some y3 ∧ ys4[i]? = some y4,
    fun i H v H' => ∃ T y1 y2 y3 y4, v = .ref T ∧ H T = none ∧ H' = upd H T (.tup [y1, y2, y3, y4]) ∧ (∀ xs, SqL K H a1 xs → xs[i]? = some y1) ∧ (∀ xs, SqL K H a2 xs → xs[i]? = some y2) ∧ (∀ xs, SqL K H a3 xs → xs[i]? = some y3) ∧ (∀ xs, SqL K H a4 xs → xs[i]? = some y4),
    fun i H => ∃ ys1 ys2 ys3 ys4 : List V, SqL K H a1 ys1 ∧ SqL K H a2 ys2 ∧ SqL K H a3 ys3 ∧ SqL K H a4 ys4 ∧ (ys1.length ≤ i ∨ ys2.length ≤ i ∨ ys3.length ≤ i ∨ ys4.length ≤ i)⟩
theorem turn {P : Program} {w : World} {K : PySem.W.Frag} {elts : List Expr} {kk : Nat} {tpos : Pos} {b a1 a2 a3 a4 : Addr} (t1 : a1 < b) (t2 : a2 < b) (t3 : a3 < b) (t4 : a4 < b) :
    Turn P w K (.Tuple elts kk tpos) (Itz K a1 a2 a3 a4) [b + 6, b + 4, b + 5, b, (b + 1), (b + 2), (b + 3)] (b + 6) (fun i h => IsZip h (b + 6) (b + 4) (b + 5) .none ∧ IsT4 h (b + 4) (.ref b) (.ref (b + 1)) (.ref (b + 2)) (.ref (b + 3)) ∧ (∃ x1 x2 x3 x4, IsT4 h (b + 5) x1 x2 x3 x4) ∧ h.IsListIter b a1 i ∧ h.IsListIter (b + 1) a2 i ∧ h.IsListIter (b + 2) a3 i ∧ h.IsListIter (b + 3) a4 i) where
  mem := by simp
  obj := fun i h st c hc => by
    obtain ⟨hz, hTI, ⟨x1, x2, x3, x4, hTO⟩, ⟨o1, e1, r1, d1⟩, ⟨o2, e2, r2, d2⟩, ⟨o3, e3, r3, d3⟩, ⟨o4, e4, r4, d4⟩⟩ := st
    have e' : c = b + 6 ∨ c = b + 4 ∨ c = b + 5 ∨ c = b ∨ c = (b + 1) ∨ c = (b + 2) ∨ c = (b + 3) := by simpa using hc
    rcases e' with q | q | q | q | q | q | q
    · rw [q]; exact ⟨_, hz, fun v q => nomatch q⟩
    · rw [q]; exact ⟨_, hTI, fun v q => nomatch q⟩
    · rw [q]; exact ⟨_, hTO, fun v q => nomatch q⟩
    · rw [q]; exact ⟨o1, e1, fun v q => by rw [d1] at q; cases q⟩
    · rw [q]; exact ⟨o2, e2, fun v q => by rw [d2] at q; cases q⟩
    · rw [q]; exact ⟨o3, e3, fun v q => by rw [d3] at q; cases q⟩
    · rw [q]; exact ⟨o4, e4, fun v q => by rw [d4] at q; cases q⟩
  keep := fun i h h' st k => by
    obtain ⟨hz, hTI, ⟨x1, x2, x3, x4, hTO⟩, h1, h2, h3, h4⟩ := st
    exact ⟨k _ (by simp) _ hz, k _ (by simp) _ hTI, ⟨x1, x2, x3, x4, k _ (by simp) _ hTO⟩, h1.at fun o q => k _ (by simp) o q, h2.at fun o q => k _ (by simp) o q, h3.at fun o q => k _ (by simp) o q, h4.at fun o q => k _ (by simp) o q⟩
  item := by
    intro X hP hw hK hc i pins s σ H E I hf st hg
    subst hP hw hK
    obtain ⟨hz, hTI, ⟨x1, x2, x3, x4, hTO⟩, h1, h2, h3, h4⟩ := st
    obtain ⟨ys1, ys2, ys3, ys4, y1, y2, y3, y4, hq1, hq2, hq3, hq4, hy1, hy2, hy3, hy4⟩ := hg
    obtain ⟨it1, rv1, p1, _⟩ := I.list hq1
    obtain ⟨u1, hu1, ru1⟩ := rv1.get hy1
    obtain ⟨it2, rv2, p2, _⟩ := I.list hq2
    obtain ⟨u2, hu2, ru2⟩ := rv2.get hy2
    obtain ⟨it3, rv3, p3, _⟩ := I.list hq3
    obtain ⟨u3, hu3, ru3⟩ := rv3.get hy3
    obtain ⟨it4, rv4, p4, _⟩ := I.list hq4
    obtain ⟨u4, hu4, ru4⟩ := rv4.get hy4
    have hzl : b + 6 < s.heap.objs.size := Heap.lt_size hz
    refine pyNext_item (x1 := u1) (x2 := u2) (x3 := u3) (x4 := u4) hz hTI hTO h1 h2 h3 h4 p1.isList p2.isList p3.isList p4.isList t1 t2 t3 t4 (by simpa using hu1) (by simpa using hu2) (by simpa using hu3) (by simpa using hu4) fun h' z' TO' h1' h2' h3' h4' hT hsz hk => ?_
    refine ⟨_, rfl, wpAny_letOwnedTupleGo_zip (s := { s with heap := h' }) z' fun h'' z'' sb => ?_⟩
    have hT2 : h''.get? s.heap.objs.size = some { cls := .type "tuple", data := .seq #[u1, u2, u3, u4] } := (sb.2 _ (Nat.ne_of_gt hzl)).trans hT
    have new : ObjOk X.prog X.w (upd H s.heap.objs.size (.tup [y1, y2, y3, y4])) h'' s.heap.objs.size (.tup [y1, y2, y3, y4]) :=
      ⟨by show 4 ≤ sizeLine; decide, [u1, u2, u3, u4], .cons ru1 (.cons ru2 (.cons ru3 (.cons ru4 (.nil)))), ⟨_, hT2, rfl, _, rfl⟩⟩
    have I1 : Inv X pins σ (upd H s.heap.objs.size (.tup [y1, y2, y3, y4])) { s with heap := h'' } :=
      I.turnedNew (t' := s.toks) (ch := [b + 6, b + 4, b + 5, b, (b + 1), (b + 2), (b + 3)]) (fun c o hb q => (sb.2 c (fun q' => hb (by simp [q']))).trans (hk c o (fun q' => hb (by simp [q'])) (fun q' => hb (by simp [q'])) (fun q' => hb (by simp [q'])) (fun q' => hb (by simp [q'])) (fun q' => hb (by simp [q'])) (fun q' => hb (by simp [q'])) q)) hf (Nat.le_refl _) new
    refine ⟨.ref s.heap.objs.size, _, I1, rfl, ⟨_, y1, y2, y3, y4, rfl, I.hok.fresh (Nat.le_refl _), rfl, fun l hl => by rw [I.list_inj hl hq1]; exact hy1, fun l hl => by rw [I.list_inj hl hq2]; exact hy2, fun l hl => by rw [I.list_inj hl hq3]; exact hy3, fun l hl => by rw [I.list_inj hl hq4]; exact hy4⟩, ⟨z'', ?_, ⟨u1, u2, u3, u4, ?_⟩, ?_, ?_, ?_, ?_⟩, fun c hcm => ?_⟩
    · exact (sb.2 _ (nz (by omega))).trans (hk _ _ (by omega) (by omega) (by omega) (by omega) (by omega) (by omega) hTI)
    · exact (sb.2 _ (nz (by omega))).trans TO'
    · exact h1'.at fun o q => (sb.2 _ (nz (by omega))).trans q
    · exact h2'.at fun o q => (sb.2 _ (nz (by omega))).trans q
    · exact h3'.at fun o q => (sb.2 _ (nz (by omega))).trans q
    · exact h4'.at fun o q => (sb.2 _ (nz (by omega))).trans q
    · have hlt : c < s.heap.objs.size := by
        have e' : c = b + 6 ∨ c = b + 4 ∨ c = b + 5 ∨ c = b ∨ c = (b + 1) ∨ c = (b + 2) ∨ c = (b + 3) := by simpa using hcm
        exact lt_all hzl e'
      rw [upd_ne (Nat.ne_of_lt hlt)]
      exact (hf c hcm).1
  done := by
    intro X hP hw hK hc i pins s σ H E I hf st hg
    subst hP hw hK
    obtain ⟨hz, hTI, ⟨x1, x2, x3, x4, hTO⟩, h1, h2, h3, h4⟩ := st
    obtain ⟨ys1, ys2, ys3, ys4, hq1, hq2, hq3, hq4, hend⟩ := hg
    obtain ⟨it1, rv1, p1, _⟩ := I.list hq1
    have n1 := rv1.length
    obtain ⟨it2, rv2, p2, _⟩ := I.list hq2
    have n2 := rv2.length
    obtain ⟨it3, rv3, p3, _⟩ := I.list hq3
    have n3 := rv3.length
    obtain ⟨it4, rv4, p4, _⟩ := I.list hq4
    have n4 := rv4.length
    have he : it1.toArray[i]? = none ∨ it2.toArray[i]? = none ∨ it3.toArray[i]? = none ∨ it4.toArray[i]? = none := by
      rcases hend with q | q | q | q
      · exact .inl (by simp; omega)
      · exact .inr (.inl (by simp; omega))
      · exact .inr (.inr (.inl (by simp; omega)))
      · exact .inr (.inr (.inr ((by simp; omega))))
    exact pyNext_end (I.ok.hd hc) hz hTI hTO h1 h2 h3 h4 p1.isList p2.isList p3.isList p4.isList t1 t2 t3 t4 he fun h' hk => ⟨rfl, I.turnedL (t' := s.toks) (ch := [b + 6, b + 4, b + 5, b, (b + 1), (b + 2), (b + 3)]) (fun c o hb q =>
      hk c o (fun q' => hb (by simp [q'])) (fun q' => hb (by simp [q'])) (fun q' => hb (by simp [q'])) (fun q' => hb (by simp [q'])) (fun q' => hb (by simp [q'])) (fun q' => hb (by simp [q'])) q) hf⟩
  self := fun A i s Q E st h => wpAny_pyIter_zip st.1 h
def iZip (K : PySem.W.Frag) (ta : TA) : TI := fun σ H R => ta σ H fun vs H1 => ∃ a1 a2 a3 a4 ys1 ys2 ys3 ys4, vs = [.ref a1, .ref a2, .ref a3, .ref a4] ∧ SqL K H1 a1 ys1 ∧ SqL K H1 a2 ys2 ∧ SqL K H1 a3 ys3 ∧ SqL K H1 a4 ys4 ∧ R (Itz K a1 a2 a3 a4) H1
theorem pi_zip {X : Cx} {e1 e2 e3 e4 : Expr} {ta : TA} {p pos tpos : Pos} {elts : List Expr} {kk : Nat} (hg : Gl X "zip") (hm : X.mg "zip" = none) (ha : PA X [e1, e2, e3, e4] ta)
    (hs : starEach [e1, e2, e3, e4] X.env = (false, eval e1 X.env) :: starEach [e2, e3, e4] X.env := by rfl) (hpl : (backTo pos (starEach [e2, e3, e4] X.env)).any (·.1) = false := by rfl) :
    PI X (.Tuple elts kk tpos) (.Call (.Name "zip" p) [e1, e2, e3, e4] [] pos) (iZip X.K ta) := by
  refine ⟨fun pins s σ H R I h => ?_⟩
  refine Call_ (ld_blt I hg hm PyProof.Rows.boot_zip (PyProof.Rows.callWith_type1 (thn (ha.run pos pins s σ H _ I h) fun us s1 ⟨vs, H1, I1, r1, q1⟩ => ?_) hs hpl))
  obtain ⟨a1, a2, a3, a4, ys1, ys2, ys3, ys4, ex, hq1, hq2, hq3, hq4, q⟩ := q1
  subst ex
  cases r1 with
  | cons v1 w1 =>
  cases v1
  cases w1 with
  | cons v2 w2 =>
  cases v2
  cases w2 with
  | cons v3 w3 =>
  cases v3
  cases w3 with
  | cons v4 w4 =>
  cases v4
  cases w4
  obtain ⟨it1, rv1, p1, _⟩ := I1.list hq1
  have l1 : a1 < s1.heap.objs.size := p1.lt
  obtain ⟨it2, rv2, p2, _⟩ := I1.list hq2
  have l2 : a2 < s1.heap.objs.size := p2.lt
  obtain ⟨it3, rv3, p3, _⟩ := I1.list hq3
  have l3 : a3 < s1.heap.objs.size := p3.lt
  obtain ⟨it4, rv4, p4, _⟩ := I1.list hq4
  have l4 : a4 < s1.heap.objs.size := p4.lt
  refine call_new p1.isList p2.isList p3.isList p4.isList fun h' hz hTI hTO h1 h2 h3 h4 hsz hk => wpAny_pyIter_zip hz ?_
  have I2 : Inv X pins σ H1 { s1 with heap := h' } := I1.kept (t' := s1.toks) hk
  refine ⟨s1.heap.objs.size + 6, [s1.heap.objs.size + 6, s1.heap.objs.size + 4, s1.heap.objs.size + 5, s1.heap.objs.size, s1.heap.objs.size + 1, s1.heap.objs.size + 2, s1.heap.objs.size + 3], _, _, H1, rfl, I2, turn l1 l2 l3 l4, ⟨hz, hTI, ⟨_, _, _, _, hTO⟩, h1, h2, h3, h4⟩, fun c hcm => ?_, q⟩
  have hle : s1.heap.objs.size ≤ c := by
    have e' : c = s1.heap.objs.size + 6 ∨ c = s1.heap.objs.size + 4 ∨ c = s1.heap.objs.size + 5 ∨ c = s1.heap.objs.size ∨ c = s1.heap.objs.size + 1 ∨ c = s1.heap.objs.size + 2 ∨ c = s1.heap.objs.size + 3 := by simpa using hcm
    exact ge_all e'
  exact I1.fpOk hle (I1.hok.fresh hle)
/-- a turn: the items of all lists in a new tuple -/
def Y (ys1 ys2 ys3 ys4 : List V) : Nat → Hp → V → Hp → Prop := fun i H v H' => ∃ T y1 y2 y3 y4, v = .ref T ∧ H T = none ∧ H' = upd H T (.tup [y1, y2, y3, y4]) ∧ ys1[i]? = some y1 ∧ ys2[i]? = some y2 ∧ ys3[i]? = some y3 ∧ ys4[i]? = some y4
theorem walk {K : PySem.W.Frag} {a1 a2 a3 a4 : Addr} {ys1 ys2 ys3 ys4 : List V} {n : Nat} (h1 : ys1.length = n) (h2 : ys2.length = n) (h3 : ys3.length = n) (h4 : ys4.length = n) : Walk (Itz K a1 a2 a3 a4) n (fun H => SqL K H a1 ys1 ∧ SqL K H a2 ys2 ∧ SqL K H a3 ys3 ∧ SqL K H a4 ys4) (Y ys1 ys2 ys3 ys4) := by
  refine ⟨fun i _ hi q => ?_, fun _ q => ⟨ys1, ys2, ys3, ys4, q.1, q.2.1, q.2.2.1, q.2.2.2, .inl (Nat.le_of_eq h1)⟩, fun i H v H' _ q y => ?_⟩
  · exact ⟨ys1, ys2, ys3, ys4, ys1[i]'(by omega), ys2[i]'(by omega), ys3[i]'(by omega), ys4[i]'(by omega), q.1, q.2.1, q.2.2.1, q.2.2.2, by simp [show i < ys1.length by omega], by simp [show i < ys2.length by omega], by simp [show i < ys3.length by omega], by simp [show i < ys4.length by omega]⟩
  · obtain ⟨T, y1, y2, y3, y4, r1, r2, r3, k1, k2, k3, k4⟩ := y
    exact ⟨T, y1, y2, y3, y4, r1, r2, r3, k1 ys1 q.1, k2 ys2 q.2.1, k3 ys3 q.2.2.1, k4 ys4 q.2.2.2⟩
theorem r_izip {K : PySem.W.Frag} {σ : L2.St} {H : Hp} {ta : TA} {R : It → Hp → Prop} (q : ta σ H fun vs H1 => ∃ a1 a2 a3 a4 ys1 ys2 ys3 ys4, vs = [.ref a1, .ref a2, .ref a3, .ref a4] ∧ SqL K H1 a1 ys1 ∧ SqL K H1 a2 ys2 ∧ SqL K H1 a3 ys3 ∧ SqL K H1 a4 ys4 ∧ R (Itz K a1 a2 a3 a4) H1) : iZip K ta σ H R := q
end KZ

/-! KF: comprehensions whose elements are new objects, no two the same; choices out of a list's word. -/
namespace KF
open PySem PySem.Spec PyProof.Rows L2 KB KG KO KD
theorem lc_fresh {J : It} {n : Nat} {G : Hp → Prop} {Y : Nat → Hp → V → Hp → Prop} (wk : Walk J n G Y) {g : TG} {tt : TT} {te : TE} {vs : List Nat} {σ : L2.St} {H1 : Hp} {Q : VK} (R : Nat → Addr → Hp → Prop) (hn : n ≤ 10000)
    (up : ∀ i a H H', R i a H → SameN H H' → R i a H') (hG : ∀ H', Same H1 H' → G H')
    (hs : ∀ i x H H' (N : V → Hp → Prop) (B : Hp → Prop), i < n → Same H1 H → Y i H x H' → (∀ a o H2, Same H H2 → H a = none → H2 a = some o → R i a H2 → N (.ref a) H2) → g x (wipe σ vs) H' fun σ2 H2 => wipe σ2 vs = wipe σ vs ∧ tt σ2 H2 fun b H3 => if b = true then te σ2 H3 N else B H3)
    (hd : ∀ D H' (as : List Addr), H1 D = none → Same H1 H' → H' D = some (.lst (as.map V.ref)) → as.length = n → as.Nodup → (∀ i a, as[i]? = some a → R i a H') → Q (.ref D) H') :
    LcW J g tt te vs σ H1 Q := by
  intro D hD
  refine lc_it wk (Qd := fun H => Q (.ref D) H) (fun i H => Same H1 H ∧ ∃ as : List Addr, H D = some (.lst (as.map V.ref)) ∧ as.length = i ∧ as.Nodup ∧ (∀ a ∈ as, H a ≠ none) ∧ ∀ j a, as[j]? = some a → R j a H) ⟨same_new hD, [], upd_same, rfl, List.nodup_nil, fun a m => by simp at m, fun j a e => by simp at e⟩ (fun i H _ p => hG H p.1) (fun i x H H' hi p y => ?_) (fun H p => ?_)
  · obtain ⟨sm, as, hy, hl, nd, st, hR⟩ := p
    refine hs i x H H' _ _ hi sm y (fun v o H2 s2 nv ov r => ?_)
    have kp : ∀ zs, SameN H2 (upd H2 D (.lst zs)) := fun zs a o e no => by
      rw [upd_ne (fun z => no _ (by rw [z, s2 _ _ hy] at e; exact (Option.some.inj e).symm))]
      exact e
    have stay : ∀ zs a, H2 a ≠ none → upd H2 D (.lst zs) a ≠ none := fun zs a h => by
      by_cases z : a = D
      · rw [z, upd_same]
        exact fun z => by cases z
      · rw [upd_ne z]
        exact h
    refine ⟨as.map V.ref, s2 _ _ hy, small1000' (by rw [List.length_map]; omega), same_mut (sm.trans s2) hD, as ++ [v], by rw [upd_same, List.map_append]; rfl, by simp [hl], ?_, fun a m => ?_, fun j w e => ?_⟩
    · rw [List.nodup_append]
      refine ⟨nd, by simp, fun a ma b mb => ?_⟩
      rw [List.mem_singleton.mp mb]
      exact fun z => st a ma (by rw [z]; exact nv)
    · rcases List.mem_append.mp m with m | m
      · refine stay _ _ ?_
        cases e : H a with
        | none => exact absurd e (st a m)
        | some o' => rw [s2 _ _ e]; exact fun z => by cases z
      · rw [List.mem_singleton.mp m]
        exact stay _ _ (by rw [ov]; exact fun z => by cases z)
    · by_cases hj : j < as.length
      · rw [List.getElem?_append_left hj] at e
        exact up _ _ _ _ (hR j w e) ((SameN.of s2).trans (kp _))
      · rw [List.getElem?_append_right (by omega)] at e
        have h0 : j - as.length = 0 := by
          cases z : j - as.length with
          | zero => rfl
          | succ m => rw [z] at e; simp at e
        rw [h0] at e
        have ew : v = w := Option.some.inj e
        subst ew
        have ej : j = i := by omega
        subst ej
        exact up _ _ _ _ r (kp _)
  · obtain ⟨sm, as, hy, hl, nd, _, hR⟩ := p
    exact hd D H as hD sm hy hl nd hR
/-- what is told of each item of a list: a choice for each place -/
theorem choose_at {α : Type} [Inhabited α] {ys : List V} {R : Nat → V → α → Prop} (h : ∀ i v, ys[i]? = some v → ∃ x, R i v x) : ∃ f : Nat → α, ∀ i v, ys[i]? = some v → R i v (f i) := by
  classical
  refine ⟨fun i => if z : ∃ v x, ys[i]? = some v ∧ R i v x then z.choose_spec.choose else default, fun i v e => ?_⟩
  obtain ⟨x, hx⟩ := h i v e
  have z : ∃ v x, ys[i]? = some v ∧ R i v x := ⟨v, x, e, hx⟩
  dsimp only
  rw [dif_pos z]
  have c := z.choose_spec.choose_spec
  have key : ∀ (u : V) (y : α), v = u → R i u y → R i v y := fun u y e h => by rw [e]; exact h
  exact key _ _ (Option.some.inj (e.symm.trans c.1)) c.2
/-- a family of promises is one promise -/
theorem fn_ex {P : Program} {w : World} {K : PySem.W.Frag} {mg : Str → Option Value} {base : Heap} {CX : CXT} {k : Nat} {f : Addr} {fd : FuncData} {ps : List Str} {α : Type} {p : α → Prop} {sp : α → Sp} (h : ∀ a, p a → FnOk P w K mg base CX k f fd ps (sp a)) :
    FnOk P w K mg base CX k f fd ps (fun vs H Q E => ∃ a, p a ∧ sp a vs H Q E) :=
  ⟨fun vs H Q E ⟨a, pa, z⟩ => (h a pa).len vs H Q E z, fun A outer s H args us vs Q E hr he hb hv ⟨a, pa, hs⟩ => (h a pa).run A outer s H args us vs Q E hr he hb hv hs⟩
end KF

/-! ### own steps of the reading -/
local macro_rules | `(tactic| walk_at "hp") => `(tactic| first | with_reducible assumption | with_reducible exact L2.upd_same | (refine KB.upd_new ?h1 ?h2; (case h1 => (with_reducible assumption)); (case h2 => walk_at "hp")) | (rw [L2.upd_ne (by first | assumption | exact Ne.symm (by assumption))]; walk_at "hp"))
local macro_rules | `(tactic| walk_at "sq") => `(tactic| first | with_reducible assumption | (refine L2.SqL.of ?h1; (case h1 => walk_at "hp")) | (refine L2.SqT.of ?h1; (case h1 => walk_at "hp")))
local macro_rules | `(tactic| walk_at "sq2") => `(tactic| first | (refine Or.inl ?_; walk_at "sq") | (refine Or.inr ?_; walk_at "sq") | (with_reducible exact Or.inr (by (first | with_reducible assumption | apply_assumption))))
local macro_rules | `(tactic| walk_at "sz") => `(tactic| exact KB.sz_lit (by simp))
local macro_rules | `(tactic| walk_at "cond") => `(tactic| first | (show _ ∨ _; first | exact Or.inl ⟨by omega, by omega⟩ | exact Or.inr ⟨by omega, by omega⟩) | (show _ ∧ _ ∧ _; exact ⟨by omega, by omega, by omega⟩) | (show _ ∧ _; exact ⟨by omega, by omega⟩) | (show _ < _; omega) | (show _ ≤ _; omega))
local macro_rules | `(tactic| walk_at "rd1") => `(tactic| first
  | with_reducible refine KB.r_seq ?_
  | with_reducible refine KB.r_next ?_
  | with_reducible refine KB.r_c ?_
  | ((with_reducible refine KB.r_var (v := ?v1) ?h1 ?q); (case h1 => exact rfl))
  | with_reducible refine KB.r_op ?_
  | with_reducible refine KB.r_un ?_
  | with_reducible refine KB.r_I0 ?_
  | ((with_reducible refine KB.r_I ?h1 ?q); (case h1 => walk_at "cond"))
  | with_reducible refine KB.r_int1 ?_
  | with_reducible refine KB.r_bl1 ?_
  | with_reducible refine KB.r_ex1 ?_
  | with_reducible refine KB.r_ex2 ?_
  | ((with_reducible refine KB.r_lenS (xs := ?v1) ?h1 ?q); (case h1 => walk_at "sq"))
  | ((with_reducible refine KB.r_eq ?h1 ?q); (case h1 => exact rfl))
  | ((with_reducible refine KB.r_ne ?h1 ?q); (case h1 => exact rfl))
  | with_reducible refine KB.r_U ?_
  | with_reducible refine KB.r_test ?_
  | with_reducible refine KB.r_B ?_
  | with_reducible refine KB.r_bl ?_
  | with_reducible refine KB.r_int ?_
  | with_reducible refine KB.r_and ?_
  | with_reducible refine KB.r_or ?_
  | with_reducible refine KB.r_not ?_
  | with_reducible refine KB.r_andV ?_
  | with_reducible refine KB.r_orV ?_
  | with_reducible refine KB.r_notV ?_
  | with_reducible refine KB.r_if ?_
  | with_reducible refine KB.r_nil ?_
  | with_reducible refine KB.r_cons ?_
  | with_reducible refine KB.r_tup ?_
  | with_reducible refine KB.r_lst ?_
  | with_reducible refine KB.r_call ?_
  | with_reducible refine KB.r_cb ?_
  | ((with_reducible refine KB.r_ixL (xs := ?v1) (v := ?v2) ?h1 ?h2 ?q); (case h1 => walk_at "sq"); (case h2 => exact rfl))
  | ((with_reducible refine KB.r_ixT (xs := ?v1) (v := ?v2) ?h1 ?h2 ?q); (case h1 => walk_at "sq"); (case h2 => exact rfl))
  | ((with_reducible refine KB.r_setL (xs := ?v1) (j := ?v2) ?h1 ?h2 ?q); (case h1 => walk_at "hp"); (case h2 => exact rfl))
  | with_reducible refine KB.r_meth ?_
  | with_reducible refine KB.r_fld ?_
  | with_reducible refine KB.r_sfld ?_
  | with_reducible refine KB.r_gname ?_
  | with_reducible refine KB.r_for ?_
  | with_reducible refine KO.r_methK0 ?_
  | with_reducible refine KO.r_makeK ?_
  | with_reducible refine KO.r_joined ?_
  | with_reducible refine KO.r_joined0 ?_
  | with_reducible refine KO.r_fmt ?_
  | with_reducible refine KB.r_isNone ?_
  | ((with_reducible refine KB.r_gtup (xs := ?v1) ?h1 ?h2 ?q); (case h1 => walk_at "sq"); (case h2 => exact rfl))
  | with_reducible refine KB.r_gcons ?_
  | with_reducible refine KB.r_gnil ?_
  | with_reducible refine KB.r_irng2 ?_
  | with_reducible refine KB.r_bm ?_
  | ((with_reducible refine KB.r_tyL (xs := ?v1) ?h1 ?q); (case h1 => walk_at "sq"))
  | ((with_reducible refine KB.r_fldK (C := ?v1) (dx := ?v2) (fs := ?v3) (v := ?v4) ?h1 ?h2 ?h3 ?h4 ?q); (case h1 => walk_at "hp"); (case h2 => assumption); (case h3 => assumption); (case h4 => exact rfl))
  | with_reducible refine KB.r_callD ?_
  | with_reducible refine KB.r_callN ?_
  | with_reducible refine KB.r_dget1 ?_
  | with_reducible refine KB.r_dget ?_
  | with_reducible refine KB.r_dput ?_
  | with_reducible refine KB.r_disp ?_
  | with_reducible refine KB.r_pairs ?_
  | with_reducible refine KB.r_pairs0 ?_
  | with_reducible refine KB.r_make ?_
  | with_reducible refine KB.r_m1 ?_
  | with_reducible refine KB.r_m0 ?_
  | with_reducible refine KB.r_isStr ?_
  | with_reducible refine KB.r_exStr ?_
  | with_reducible refine KB.r_lc ?_
  | with_reducible refine KB.r_irng1 ?_
  | with_reducible refine KB.r_itup ?_
  | with_reducible refine KB.r_ilist ?_
  | with_reducible refine KB.r_istr ?_
  | ((with_reducible refine KB.r_cval (v := ?v1) (mc := ?v2) (uu := ?v3) ?h1 ?h2 ?q); (case h1 => assumption); (case h2 => assumption))
  | ((with_reducible refine KB.r_notInS (zs := ?v1) ?h1 ?q); (case h1 => walk_at "sq2"))
  | ((with_reducible refine KB.r_inS (zs := ?v1) ?h1 ?q); (case h1 => walk_at "sq2"))
  | with_reducible refine KB.r_asg ?_
  | with_reducible refine KB.r_asgS ?_
  | with_reducible refine KB.r_asgG ?_
  | with_reducible refine KB.r_ifS ?_
  | with_reducible refine KB.r_ret ?_
  | with_reducible refine KB.r_drop ?_
  | with_reducible refine KB.r_par ?_
  | with_reducible refine KB.r_match ?_
  | with_reducible refine KB.r_mstr ?_
  | with_reducible refine KB.r_mnil ?_
  | with_reducible refine KB.r_sl ?_
  | with_reducible refine KB.r_nopart ?_
  | with_reducible refine KB.r_part ?_
  | ((with_reducible refine KB.r_slL (xs := ?v1) ?h1 ?q); (case h1 => walk_at "sq"))
  | with_reducible refine L2.iteF ?_
  | with_reducible refine KB.iteNt ?_
  | with_reducible refine KB.iteNf ?_
  | with_reducible refine L2.iteT ?_
  | dsimp only)
local macro_rules | `(tactic| walk_at "rd") => `(tactic| repeat walk_at "rd1")
local macro_rules | `(tactic| walk_at "sp1") => `(tactic| first | with_reducible refine KB.r_iteS2 (fun _ => ?_) (fun _ => ?_) | with_reducible refine KB.r_iteI2 (fun _ => ?_) (fun _ => ?_) | with_reducible refine KB.r_ite2 (fun _ => ?_) (fun _ => ?_) | with_reducible refine KB.r_iteN2 (fun _ => ?_) (fun _ => ?_) | with_reducible refine KB.r_iteB (fun _ => ?_) (fun _ => ?_) | with_reducible refine KB.r_iteBN (fun _ => ?_) (fun _ => ?_))
local macro_rules | `(tactic| walk_at "sp") => `(tactic| repeat' (first | walk_at "rd1" | walk_at "sp1"))
local macro_rules | `(tactic| walk_at "ifs") => `(tactic| repeat (first | rw [if_pos (by assumption)] | rw [if_neg (by assumption)]))

namespace K17
open PySem L2 KB
def top (i : Nat) : Stmt := PySem.Challenge.pw_keptbits_k17_whole_words_bit_by_bit.main.body.getD i (.Pass ⟨0, 0, 0, 0⟩)
abbrev s_is_integer : Stmt := top 10
theorem sc_is_integer : FnScope ["value"] ["value"] (defScope s_is_integer) := ⟨rfl, rfl, rfl, by decide +kernel, rfl, by decide +kernel, by decide +kernel⟩
abbrev s_need_width : Stmt := top 11
theorem sc_need_width : FnScope ["width"] ["width"] (defScope s_need_width) := ⟨rfl, rfl, rfl, by decide +kernel, rfl, by decide +kernel, by decide +kernel⟩
abbrev s_ones : Stmt := top 12
theorem sc_ones : FnScope ["width"] ["width"] (defScope s_ones) := ⟨rfl, rfl, rfl, by decide +kernel, rfl, by decide +kernel, by decide +kernel⟩
abbrev s_is_word : Stmt := top 13
theorem sc_is_word : FnScope ["width", "value"] ["width", "value"] (defScope s_is_word) := ⟨rfl, rfl, rfl, by decide +kernel, rfl, by decide +kernel, by decide +kernel⟩
abbrev s_need_word : Stmt := top 14
theorem sc_need_word : FnScope ["width", "value"] ["width", "value"] (defScope s_need_word) := ⟨rfl, rfl, rfl, by decide +kernel, rfl, by decide +kernel, by decide +kernel⟩
abbrev s_shifted : Stmt := top 15
theorem sc_shifted : FnScope ["value", "width", "shift"] ["value", "width", "shift"] (defScope s_shifted) := ⟨rfl, rfl, rfl, by decide +kernel, rfl, by decide +kernel, by decide +kernel⟩
abbrev s_need_step : Stmt := top 17
theorem sc_need_step : FnScope ["width", "step"] ["width", "step"] (defScope s_need_step) := ⟨rfl, rfl, rfl, by decide +kernel, rfl, by decide +kernel, by decide +kernel⟩
abbrev s_Blend___init__ : Stmt := inClass (top 18) 0
theorem sc_Blend___init__ : FnScope ["self", "width", "shift", "keep", "flip", "kept"] ["self", "width", "shift", "keep", "flip"] (defScope s_Blend___init__) := ⟨rfl, rfl, rfl, by decide +kernel, rfl, by decide +kernel, by decide +kernel⟩
abbrev s_Blend___call__ : Stmt := inClass (top 18) 3
theorem sc_Blend___call__ : FnScope ["self", "value"] ["self", "value"] (defScope s_Blend___call__) := ⟨rfl, rfl, rfl, by decide +kernel, rfl, by decide +kernel, by decide +kernel⟩
abbrev s_Blend___and__ : Stmt := inClass (top 18) 4
theorem sc_Blend___and__ : FnScope ["self", "other"] ["self", "other"] (defScope s_Blend___and__) := ⟨rfl, rfl, rfl, by decide +kernel, rfl, by decide +kernel, by decide +kernel⟩
abbrev s_Blend___rand__ : Stmt := inClass (top 18) 5
theorem sc_Blend___rand__ : FnScope ["self", "other"] ["self", "other"] (defScope s_Blend___rand__) := ⟨rfl, rfl, rfl, by decide +kernel, rfl, by decide +kernel, by decide +kernel⟩
abbrev s_Blend___or__ : Stmt := inClass (top 18) 6
theorem sc_Blend___or__ : FnScope ["self", "other"] ["self", "other"] (defScope s_Blend___or__) := ⟨rfl, rfl, rfl, by decide +kernel, rfl, by decide +kernel, by decide +kernel⟩
abbrev s_Blend___ror__ : Stmt := inClass (top 18) 7
theorem sc_Blend___ror__ : FnScope ["self", "other"] ["self", "other"] (defScope s_Blend___ror__) := ⟨rfl, rfl, rfl, by decide +kernel, rfl, by decide +kernel, by decide +kernel⟩
abbrev s_Blend___xor__ : Stmt := inClass (top 18) 8
theorem sc_Blend___xor__ : FnScope ["self", "other"] ["self", "other"] (defScope s_Blend___xor__) := ⟨rfl, rfl, rfl, by decide +kernel, rfl, by decide +kernel, by decide +kernel⟩
abbrev s_Blend___rxor__ : Stmt := inClass (top 18) 9
theorem sc_Blend___rxor__ : FnScope ["self", "other"] ["self", "other"] (defScope s_Blend___rxor__) := ⟨rfl, rfl, rfl, by decide +kernel, rfl, by decide +kernel, by decide +kernel⟩
abbrev s_Blend___invert__ : Stmt := inClass (top 18) 10
theorem sc_Blend___invert__ : FnScope ["self"] ["self"] (defScope s_Blend___invert__) := ⟨rfl, rfl, rfl, by decide +kernel, rfl, by decide +kernel, by decide +kernel⟩
abbrev s_Blend___lshift__ : Stmt := inClass (top 18) 11
theorem sc_Blend___lshift__ : FnScope ["self", "other"] ["self", "other"] (defScope s_Blend___lshift__) := ⟨rfl, rfl, rfl, by decide +kernel, rfl, by decide +kernel, by decide +kernel⟩
abbrev s_Blend___rshift__ : Stmt := inClass (top 18) 12
theorem sc_Blend___rshift__ : FnScope ["self", "other"] ["self", "other"] (defScope s_Blend___rshift__) := ⟨rfl, rfl, rfl, by decide +kernel, rfl, by decide +kernel, by decide +kernel⟩
abbrev s_Blend___eq__ : Stmt := inClass (top 18) 13
theorem sc_Blend___eq__ : FnScope ["self", "other"] ["self", "other"] (defScope s_Blend___eq__) := ⟨rfl, rfl, rfl, by decide +kernel, rfl, by decide +kernel, by decide +kernel⟩
abbrev s_Blend___repr__ : Stmt := inClass (top 18) 14
theorem sc_Blend___repr__ : FnScope ["self"] ["self"] (defScope s_Blend___repr__) := ⟨rfl, rfl, rfl, by decide +kernel, rfl, by decide +kernel, by decide +kernel⟩
abbrev s_Blend_sources : Stmt := inClass (top 18) 16
theorem sc_Blend_sources : GScope ["self", "place"] ["self"] (defScope s_Blend_sources) := ⟨rfl, rfl, rfl, by decide +kernel, rfl, by decide +kernel, by decide +kernel⟩
abbrev s_moved : Stmt := top 19
theorem sc_moved : FnScope ["blend", "step", "keep", "flip"] ["blend", "step"] (defScope s_moved) := ⟨rfl, rfl, rfl, by decide +kernel, rfl, by decide +kernel, by decide +kernel⟩
abbrev s_need_bit : Stmt := top 21
theorem sc_need_bit : FnScope ["value"] ["value"] (defScope s_need_bit) := ⟨rfl, rfl, rfl, by decide +kernel, rfl, by decide +kernel, by decide +kernel⟩
abbrev s_Bit___init__ : Stmt := inClass (top 22) 1
theorem sc_Bit___init__ : FnScope ["self", "value"] ["self", "value"] (defScope s_Bit___init__) := ⟨rfl, rfl, rfl, by decide +kernel, rfl, by decide +kernel, by decide +kernel⟩
abbrev s_Bit_now : Stmt := inClass (top 22) 2
theorem sc_Bit_now : FnScope ["self"] ["self"] (defScope s_Bit_now) := ⟨rfl, rfl, rfl, by decide +kernel, rfl, by decide +kernel, by decide +kernel⟩
abbrev s_Bit_state : Stmt := inClass (top 22) 3
theorem sc_Bit_state : FnScope ["self"] ["self"] (defScope s_Bit_state) := ⟨rfl, rfl, rfl, by decide +kernel, rfl, by decide +kernel, by decide +kernel⟩
abbrev s_Bit_read : Stmt := inClass (top 22) 4
theorem sc_Bit_read : FnScope ["self"] ["self"] (defScope s_Bit_read) := ⟨rfl, rfl, rfl, by decide +kernel, rfl, by decide +kernel, by decide +kernel⟩
abbrev s_Bit_write : Stmt := inClass (top 22) 5
theorem sc_Bit_write : FnScope ["self", "bit"] ["self", "bit"] (defScope s_Bit_write) := ⟨rfl, rfl, rfl, by decide +kernel, rfl, by decide +kernel, by decide +kernel⟩
abbrev s_Bit_deed : Stmt := inClass (top 22) 6
theorem sc_Bit_deed : FnScope ["self"] ["self"] (defScope s_Bit_deed) := ⟨rfl, rfl, rfl, by decide +kernel, rfl, by decide +kernel, by decide +kernel⟩
abbrev s_KindBit___init__ : Stmt := inClass (top 23) 0
theorem sc_KindBit___init__ : KN.SScope ["self", "kind", "value"] ["self", "kind", "value"] (defScope s_KindBit___init__) := ⟨rfl, rfl, rfl, by decide +kernel, rfl, by decide +kernel, by decide +kernel, by decide +kernel, rfl, rfl⟩
abbrev s_KindBit_read : Stmt := inClass (top 23) 1
theorem sc_KindBit_read : FnScope ["self", "found"] ["self"] (defScope s_KindBit_read) := ⟨rfl, rfl, rfl, by decide +kernel, rfl, by decide +kernel, by decide +kernel⟩
abbrev s_KindBit_write : Stmt := inClass (top 23) 2
theorem sc_KindBit_write : FnScope ["self", "bit"] ["self", "bit"] (defScope s_KindBit_write) := ⟨rfl, rfl, rfl, by decide +kernel, rfl, by decide +kernel, by decide +kernel⟩
abbrev s_KindBit_deed : Stmt := inClass (top 23) 3
theorem sc_KindBit_deed : FnScope ["self", "ends"] ["self"] (defScope s_KindBit_deed) := ⟨rfl, rfl, rfl, by decide +kernel, rfl, by decide +kernel, by decide +kernel⟩
abbrev s_need_letters : Stmt := top 27
theorem sc_need_letters : FnScope ["letters", "index", "letter"] ["letters"] (defScope s_need_letters) := ⟨rfl, rfl, rfl, by decide +kernel, rfl, by decide +kernel, by decide +kernel⟩
abbrev s_need_same_kind : Stmt := top 28
theorem sc_need_same_kind : FnScope ["first", "second"] ["first", "second"] (defScope s_need_same_kind) := ⟨rfl, rfl, rfl, by decide +kernel, rfl, by decide +kernel, by decide +kernel⟩
abbrev s_with_deeds : Stmt := top 29
theorem sc_with_deeds : FnScope ["kind", "states", "quiet", "found", "state", "waiting", "end"] ["kind", "states", "quiet"] (defScope s_with_deeds) := ⟨rfl, rfl, rfl, by decide +kernel, rfl, by decide +kernel, by decide +kernel⟩
abbrev s_after_letter : Stmt := top 30
theorem sc_after_letter : FnScope ["kind", "state", "letter"] ["kind", "state", "letter"] (defScope s_after_letter) := ⟨rfl, rfl, rfl, by decide +kernel, rfl, by decide +kernel, by decide +kernel⟩
abbrev s_longer : Stmt := top 31
theorem sc_longer : FnScope ["kind", "ends", "letter", "quiet", "found", "row", "states", "state"] ["kind", "ends", "letter", "quiet"] (defScope s_longer) := ⟨rfl, rfl, rfl, by decide +kernel, rfl, by decide +kernel, by decide +kernel⟩
abbrev s_Effect___init__ : Stmt := inClass (top 32) 0
theorem sc_Effect___init__ : FnScope ["self", "kind", "ends"] ["self", "kind", "ends"] (defScope s_Effect___init__) := ⟨rfl, rfl, rfl, by decide +kernel, rfl, by decide +kernel, by decide +kernel⟩
abbrev s_Effect_of : Stmt := inClass (top 32) 1
theorem sc_Effect_of : FnScope ["cls", "kind", "letters", "quiet", "ends", "state", "letter"] ["cls", "kind", "letters", "quiet"] (defScope s_Effect_of) := ⟨rfl, rfl, rfl, by decide +kernel, rfl, by decide +kernel, by decide +kernel⟩
abbrev s_Effect___call__ : Stmt := inClass (top 32) 2
theorem sc_Effect___call__ : FnScope ["self", "state"] ["self", "state"] (defScope s_Effect___call__) := ⟨rfl, rfl, rfl, by decide +kernel, rfl, by decide +kernel, by decide +kernel⟩
abbrev s_Effect___mul__ : Stmt := inClass (top 32) 3
theorem sc_Effect___mul__ : FnScope ["self", "other", "rows", "state", "end", "row"] ["self", "other"] (defScope s_Effect___mul__) := ⟨rfl, rfl, rfl, by decide +kernel, rfl, by decide +kernel, by decide +kernel⟩
abbrev s_Effect___or__ : Stmt := inClass (top 32) 4
theorem sc_Effect___or__ : FnScope ["self", "other", "rows", "row", "more"] ["self", "other"] (defScope s_Effect___or__) := ⟨rfl, rfl, rfl, by decide +kernel, rfl, by decide +kernel, by decide +kernel⟩
abbrev s_Effect___eq__ : Stmt := inClass (top 32) 5
theorem sc_Effect___eq__ : FnScope ["self", "other"] ["self", "other"] (defScope s_Effect___eq__) := ⟨rfl, rfl, rfl, by decide +kernel, rfl, by decide +kernel, by decide +kernel⟩
abbrev s_all_effects : Stmt := top 33
theorem sc_all_effects : GScope ["kind", "quiet", "first", "known", "waiting", "letters", "effect", "letter", "ends"] ["kind", "quiet"] (defScope s_all_effects) := ⟨rfl, rfl, rfl, by decide +kernel, rfl, by decide +kernel, by decide +kernel⟩
abbrev s_shortest : Stmt := top 34
theorem sc_shortest : FnScope ["kind", "letters", "quiet", "ends", "found", "effect"] ["kind", "letters", "quiet"] (defScope s_shortest) := ⟨rfl, rfl, rfl, by decide +kernel, rfl, by decide +kernel, by decide +kernel⟩
abbrev s_Kind___init__ : Stmt := inClass (top 37) 3
theorem sc_Kind___init__ : FnScope ["self", "reading", "writing", "device", "word", "words"] ["self", "reading", "writing", "device"] (defScope s_Kind___init__) := ⟨rfl, rfl, rfl, by decide +kernel, rfl, by decide +kernel, by decide +kernel⟩
abbrev s_Kind___eq__ : Stmt := inClass (top 37) 4
theorem sc_Kind___eq__ : FnScope ["self", "other"] ["self", "other"] (defScope s_Kind___eq__) := ⟨rfl, rfl, rfl, by decide +kernel, rfl, by decide +kernel, by decide +kernel⟩
abbrev s_Kind___str__ : Stmt := inClass (top 37) 5
theorem sc_Kind___str__ : FnScope ["self"] ["self"] (defScope s_Kind___str__) := ⟨rfl, rfl, rfl, by decide +kernel, rfl, by decide +kernel, by decide +kernel⟩
abbrev s_Kind_after_read : Stmt := inClass (top 37) 6
theorem sc_Kind_after_read : FnScope ["self", "state"] ["self", "state"] (defScope s_Kind_after_read) := ⟨rfl, rfl, rfl, by decide +kernel, rfl, by decide +kernel, by decide +kernel⟩
abbrev s_Kind_after_write : Stmt := inClass (top 37) 7
theorem sc_Kind_after_write : FnScope ["self", "state", "bit"] ["self", "state", "bit"] (defScope s_Kind_after_write) := ⟨rfl, rfl, rfl, by decide +kernel, rfl, by decide +kernel, by decide +kernel⟩
abbrev s_Kind_unguarded : Stmt := inClass (top 37) 8
theorem sc_Kind_unguarded : FnScope ["self", "state", "bit", "second", "value"] ["self", "state", "bit"] (defScope s_Kind_unguarded) := ⟨rfl, rfl, rfl, by decide +kernel, rfl, by decide +kernel, by decide +kernel⟩
abbrev s_Kind_deeds : Stmt := inClass (top 37) 9
theorem sc_Kind_deeds : FnScope ["self", "state", "value"] ["self", "state"] (defScope s_Kind_deeds) := ⟨rfl, rfl, rfl, by decide +kernel, rfl, by decide +kernel, by decide +kernel⟩
abbrev s__law_pen : Stmt := top 39
theorem sc__law_pen : FnScope ["_law_script"] ["_law_script"] (defScope s__law_pen) := ⟨rfl, rfl, rfl, by decide +kernel, rfl, by decide +kernel, by decide +kernel⟩
abbrev s__law_draw : Stmt := top 40
theorem sc__law_draw : FnScope ["_law_pen_here", "_law_many", "_law_digit", "_law_at", "_law_cell", "_law_great", "_law_mixed"] ["_law_pen_here", "_law_many"] (defScope s__law_draw) := ⟨rfl, rfl, rfl, by decide +kernel, rfl, by decide +kernel, by decide +kernel⟩
abbrev s__law_word : Stmt := top 41
theorem sc__law_word : FnScope ["_law_pen_here", "_law_width", "_law_top", "_law_any_word", "_law_turn", "_law_other"] ["_law_pen_here", "_law_width"] (defScope s__law_word) := ⟨rfl, rfl, rfl, by decide +kernel, rfl, by decide +kernel, by decide +kernel⟩
abbrev s__law_write : Stmt := top 42
theorem sc__law_write : FnScope ["_law_writing", "_law_state", "_law_bit", "_law_value", "_law_second", "_law_ends"] ["_law_writing", "_law_state", "_law_bit"] (defScope s__law_write) := ⟨rfl, rfl, rfl, by decide +kernel, rfl, by decide +kernel, by decide +kernel⟩
abbrev s__law_read : Stmt := top 43
theorem sc__law_read : FnScope ["_law_reading", "_law_state"] ["_law_reading", "_law_state"] (defScope s__law_read) := ⟨rfl, rfl, rfl, by decide +kernel, rfl, by decide +kernel, by decide +kernel⟩
abbrev s__law_deeds : Stmt := top 44
theorem sc__law_deeds : FnScope ["_law_device", "_law_state"] ["_law_device", "_law_state"] (defScope s__law_deeds) := ⟨rfl, rfl, rfl, by decide +kernel, rfl, by decide +kernel, by decide +kernel⟩
abbrev s__law_words : Stmt := top 45
theorem sc__law_words : FnScope ["_law_pen_here", "_law_writings", "_law_reading"] ["_law_pen_here"] (defScope s__law_words) := ⟨rfl, rfl, rfl, by decide +kernel, rfl, by decide +kernel, by decide +kernel⟩
abbrev s__law_blended : Stmt := top 46
theorem sc__law_blended : FnScope ["_law_blend", "_law_word_here", "_law_found", "_law_place", "_law_source"] ["_law_blend", "_law_word_here"] (defScope s__law_blended) := ⟨rfl, rfl, rfl, by decide +kernel, rfl, by decide +kernel, by decide +kernel⟩
abbrev s__law_read_all : Stmt := top 47
theorem sc__law_read_all : FnScope ["_law_bits", "_law_at", "_law_bit"] ["_law_bits"] (defScope s__law_read_all) := ⟨rfl, rfl, rfl, by decide +kernel, rfl, by decide +kernel, by decide +kernel⟩
abbrev s__law_act : Stmt := top 48
theorem sc__law_act : FnScope ["_law_pen_here", "_law_bits", "_law_texts", "_law_last", "_law_due", "_law_at", "_law_bit", "_law_blend", "_law_word_here"] ["_law_pen_here", "_law_bits", "_law_texts", "_law_last"] (defScope s__law_act) := ⟨rfl, rfl, rfl, by decide +kernel, rfl, by decide +kernel, by decide +kernel⟩
abbrev s_law : Stmt := top 49
theorem sc_law : FnScope ["_law_script", "_law_pen_here", "_law_some", "_law_turn", "_law_kinds", "_law_words_here", "_law_states", "_law_kind", "_law_bits", "_law_state", "_law_texts", "_law_last", "_law_again", "_law_at", "_law_ends", "_law_bit", "_law_letters", "_law_effect"] ["_law_script"] (defScope s_law) := ⟨rfl, rfl, rfl, by decide +kernel, rfl, by decide +kernel, by decide +kernel⟩

structure Txt (mg : Str → Option Value) : Prop where
  z_int : mg "int" = none
  z_all : mg "all" = none
  z_ValueError : mg "ValueError" = none
  z_abs : mg "abs" = none
  z_len : mg "len" = none
  z_list : mg "list" = none
  z_tuple : mg "tuple" = none
  z_max : mg "max" = none
  z_range : mg "range" = none
  z_isinstance : mg "isinstance" = none
  z_repr : mg "repr" = none
  z_str : mg "str" = none
  z_sorted : mg "sorted" = none
  z_set : mg "set" = none
  z_zip : mg "zip" = none
  z_enumerate : mg "enumerate" = none
  z_bool : mg "bool" = none
  z_dict : mg "dict" = none
  z_sum : mg "sum" = none
open KV


section
variable {P : Program} {w : World} {K : PySem.W.Frag} {mg : Str → Option Value} {base : Heap}
theorem ok_pen {f : Addr} {fd : FuncData} {k : Nat} (F : Fun K "_law_pen" "_law_pen" s__law_pen f fd) (T : Txt mg) : FnOk P w K mg base CX0 (k + 1) f fd ["_law_script"] (spPen K) := by
  refine F.ok sc__law_pen (fun vs H Q E h => ?_) (fun cdv A outer s H vs Q E hr h => ?_)
  · obtain ⟨a, ns, rfl, _⟩ := h
    rfl
  · obtain ⟨a, ns, rfl, hS, hl, q⟩ := h
    refine ⟨_, (pss_one (ps_ret (pe_lst (pa_cons (pe_callTy call_list_of (by rfl) T.z_list (by decide +kernel) (pa_cons (pe_slice sl_list (pv 0) po_none (po_some pe_int)) pa_nil)) (pa_cons pe_int (pa_cons pe_int pa_nil)))))), at_start (σ := [some (.ref a)]) rfl ?_⟩
    dsimp only [cx_K]
    walk_at "rd"
    intro c nc
    have ec : cutV (ns.map V.int) none (some 63) = (ns.take 63).map V.int := by
      rw [show (63 : Int) = ((63 : Nat) : Int) from rfl, cutV_take, List.map_take]
    rw [ec]
    walk_at "rd"
    intro l nl
    walk_at "rd"
    refine ⟨by walk_at "sz", fun p np => ?_⟩
    have npl : p ≠ l := fun z => by rw [z, upd_same] at np; cases np
    have s0 := ((same_new (o := .lst ((ns.take 63).map V.int)) nc).trans (same_new (o := .lst ((ns.take 63).map V.int)) nl)).trans (same_new (o := .lst [.ref l, .int 0, .int 0]) np)
    refine q _ p l s0 (((same_new nc).trans (same_new nl)).free np) ((same_new nc).free nl) ⟨ns.take 63, 0, 0, upd_same, upd_new np upd_same, npl, ?_, by omega⟩
    rw [List.length_take]
    omega
theorem ok_draw {f : Addr} {fd : FuncData} {k : Nat} (F : Fun K "_law_draw" "_law_draw" s__law_draw f fd) (T : Txt mg) : FnOk P w K mg base CX0 (k + 1) f fd ["_law_pen_here", "_law_many"] spDraw := by
  refine F.ok sc__law_draw (fun vs H Q E h => ?_) (fun cdv A outer s H vs Q E hr h => ?_)
  · obtain ⟨p, c, many, k, rfl, _⟩ := h
    rfl
  · obtain ⟨p, c, many, k, rfl, hm0, hm1, ⟨ns, at_, left, hp, hc, npc, hn, hat⟩, q⟩ := h
    refine ⟨_, (pss_cons (ps_if (pt_cmpR op_gt (pe_ix ix_list (pv 0) pe_int (fun _ _ => rfl)) pe_int (nomark _)) (pss_cons (ps_set (i := 2) sc__law_draw.nd rfl (by first | exact Or.inl rfl | exact Or.inr rfl) (pe_op op_mod (pe_callTy call_int1 (by rfl) T.z_int (by decide +kernel) (pa_cons (pe_ix ix_list (pv 0) pe_int (fun _ _ => rfl)) pa_nil)) (pv 1)))
 (pss_cons (ps_asg (pe_op op_fdiv (pe_callTy call_int1 (by rfl) T.z_int (by decide +kernel) (pa_cons (pe_ix ix_list (pv 0) pe_int (fun _ _ => rfl)) pa_nil)) (pv 1)) (pg_sub (pv 0) pe_int set_list))
 (pss_one (ps_ret (pv 2)))))
 pss_nil)
 (pss_cons (ps_set (i := 3) sc__law_draw.nd rfl (by first | exact Or.inl rfl | exact Or.inr rfl) (pe_ix ix_list (pv 0) pe_int (fun _ _ => rfl)))
 (pss_cons (ps_asg (pe_op op_add (pv 3) pe_int) (pg_sub (pv 0) pe_int set_list))
 (pss_cons (ps_set (i := 4) sc__law_draw.nd rfl (by first | exact Or.inl rfl | exact Or.inr rfl) (pe_op op_add (pe_op op_mul pe_int (pv 3)) pe_int))
 (Evl.pss_cut (ps_if (pt_cmpR (op_neD hr.units) (pe_ix ix_list (pv 0) pe_int (fun _ _ => rfl)) (pe_lst pa_nil) (nomark _)) (pss_one (ps_set (i := 4) sc__law_draw.nd rfl (by first | exact Or.inl rfl | exact Or.inr rfl) (pe_ix ix_list (pe_ix ix_list (pv 0) pe_int (fun _ _ => rfl)) (pe_op op_mod (pe_callTy call_int1 (by rfl) T.z_int (by decide +kernel) (pa_cons (pv 3) pa_nil)) (pe_callB call_len_seq (by rfl) T.z_len (by decide +kernel) (pa_cons (pe_ix ix_list (pv 0) pe_int (fun _ _ => rfl)) pa_nil))) (fun _ _ => rfl))))
 pss_nil)
 (pss_cons (ps_if (PW.pt (pw_and (pt_cmpR op_lt (pv 3) (pe_callB call_len_seq (by rfl) T.z_len (by decide +kernel) (pa_cons (pe_ix ix_list (pv 0) pe_int (fun _ _ => rfl)) pa_nil)) (nomark _)) (pw_and1 (pt_cmpR op_ge (pe_callB call_abs (by rfl) T.z_abs (by decide +kernel) (pa_cons (pv 4) pa_nil)) (pe_op op_pow pe_int pe_int) (nomark _))))) (pss_cons (ps_set (i := 5) sc__law_draw.nd rfl (by first | exact Or.inl rfl | exact Or.inr rfl) (pe_op op_add (pe_op op_mul pe_int (pe_callB call_abs (by rfl) T.z_abs (by decide +kernel) (pa_cons (pv 4) pa_nil))) (pe_callTy call_int1 (by rfl) T.z_int (by decide +kernel) (pa_cons (pe_cmpR op_lt (pv 4) pe_int (nomark _)) pa_nil))))
 (pss_cons (ps_asg (pe_op op_fdiv (pv 5) (pv 1)) (pg_sub (pv 0) pe_int set_list))
 (pss_one (ps_ret (pe_op op_mod (pe_callTy call_int1 (by rfl) T.z_int (by decide +kernel) (pa_cons (pv 5) pa_nil)) (pv 1))))))
 pss_nil)
 (pss_cons (ps_set (i := 6) sc__law_draw.nd rfl (by first | exact Or.inl rfl | exact Or.inr rfl) (pe_op op_mod (pe_op op_pow (pe_callTy call_int1 (by rfl) T.z_int (by decide +kernel) (pa_cons (pe_op op_add (pe_op op_add (pe_op op_mod (pe_callTy call_int1 (by rfl) T.z_int (by decide +kernel) (pa_cons (pv 4) pa_nil)) pe_int) (pe_op op_mul pe_int (pv 3))) pe_int) pa_nil)) pe_int) pe_int))
 (pss_cons (ps_set (i := 6) sc__law_draw.nd rfl (by first | exact Or.inl rfl | exact Or.inr rfl) (pe_op op_mod (pe_op op_pow (pe_callTy call_int1 (by rfl) T.z_int (by decide +kernel) (pa_cons (pe_op op_add (pe_op op_add (pe_op op_mul (pv 6) (pe_op op_add (pv 3) pe_int)) (pe_op op_mul (pe_op op_mul pe_int (pv 3)) (pv 3))) pe_int) pa_nil)) pe_int) pe_int))
 (pss_one (ps_ret (pe_op op_mod (pe_callTy call_int1 (by rfl) T.z_int (by decide +kernel) (pa_cons (pe_op op_fdiv (pv 6) pe_int) pa_nil)) (pv 1)))))))))))), at_start (σ := [some (.ref p), some (.int many), none, none, none, none, none]) rfl ?_⟩
    dsimp only [cx_K]
    walk_at "rd"
    have upp : ∀ o, upd H p o c = some (.lst (ns.map V.int)) := fun o => by rw [upd_ne npc.symm]; exact hc
    refine r_ite2 (fun h1 => ?_) (fun h1 => ?_)
    · walk_at "rd"
      exact q (left % many) _ (Int.emod_nonneg _ (by omega)) (Int.emod_lt_of_pos _ hm0) ⟨ns, at_, left / many, upd_same, upp _, npc, hn, by omega⟩ fun b o e hb => by rw [upd_ne hb]; exact e
    · walk_at "rd"
      refine ⟨fun σ' H' => ∃ cell : Int, σ' = [some (.ref p), some (.int many), none, some (.int at_), some (.int cell), none, none] ∧ H' p = some (.lst [.ref c, .int (at_ + 1), .int left]) ∧ H' c = some (.lst (ns.map V.int)) ∧ Keep p H H', ?_, ?_⟩
      · walk_at "rd"
        refine ⟨by decide, fun e he => ?_⟩
        have npe : p ≠ e := fun z => by rw [z, upd_same] at he; cases he
        refine r_neInts (ns := ns) (ms := []) (by walk_at "sq") (SqL.of upd_same) ?_
        walk_at "rd"
        have k1 : Keep p H (upd (upd H p (.lst [.ref c, .int (at_ + 1), .int left])) e (.lst [])) := fun b o x hb => upd_new he (by rw [upd_ne hb]; exact x)
        refine r_iteN2 (fun h2 => ?_) (fun h2 => ?_)
        · walk_at "rd"
          have hl : 0 < ns.length := List.length_pos_iff.mpr h2
          rw [List.length_map]
          have hj : (at_ : Int) % (ns.length : Int) = ((at_ % ns.length : Nat) : Int) := by omega
          have hj2 : at_ % ns.length < ns.length := Nat.mod_lt _ hl
          refine r_I (by show (0 : Int) < _; omega) ?_
          refine r_ixL (xs := ns.map V.int) (v := .int (ns[at_ % ns.length])) (by walk_at "sq") (by rw [hj]; exact atI_nat (by simp [hj2])) ?_
          exact ⟨_, rfl, upd_new he upd_same, upd_new he (upp _), k1⟩
        · exact ⟨_, rfl, upd_new he upd_same, upd_new he (upp _), k1⟩
      · rintro σ' H' ⟨cell, rfl, hp1, hc1, k1⟩
        have h6 : ∀ (r : Int) (l2 : Int), 0 ≤ r → r < many → Q (.int r) (upd H' p (.lst [.ref c, .int ((at_ + 1 : Nat) : Int), .int l2])) := fun r l2 h7 h8 =>
          q r _ h7 h8 ⟨ns, at_ + 1, l2, upd_same, by rw [upd_ne npc.symm]; exact hc1, npc, hn, by omega⟩ fun b o x hb => by rw [upd_ne hb]; exact k1 b o x hb
        have h9 : ∀ r : Int, 0 ≤ r → r < many → Q (.int r) H' := fun r h7 h8 => q r _ h7 h8 ⟨ns, at_ + 1, left, hp1, hc1, npc, hn, by omega⟩ k1
        walk_at "rd"
        refine r_ite2 (fun h2 => ?_) (fun h2 => ?_)
        · walk_at "rd"
          refine r_ite2 (fun h3 => ?_) (fun h3 => ?_)
          · walk_at "rd"
            exact h6 _ _ (Int.emod_nonneg _ (by omega)) (Int.emod_lt_of_pos _ hm0)
          · walk_at "rd"
            have m1 : 0 ≤ (cell % 2147483579 + 57131 * (at_ : Int) + 211) ^ Int.toNat 5 % 2147483629 := Int.emod_nonneg _ (by decide)
            have m2 : (cell % 2147483579 + 57131 * (at_ : Int) + 211) ^ Int.toNat 5 % 2147483629 < 2147483629 := Int.emod_lt_of_pos _ (by decide)
            generalize (cell % 2147483579 + 57131 * (at_ : Int) + 211) ^ Int.toNat 5 % 2147483629 = m at m1 m2 ⊢
            have b1 := mul_bd (A := 2147483629) (B := 300000) m1 (by omega) (show 0 ≤ (at_ : Int) + 64007 by omega) (by omega)
            have b2 := mul_bd (A := 100000 * 91009) (B := 100000) (show 0 ≤ 91009 * (at_ : Int) by omega) (by omega) (show 0 ≤ (at_ : Int) by omega) (by omega)
            refine r_I (show CPow _ _ from ⟨by decide, by decide, by omega⟩) ?_
            walk_at "rd"
            exact h9 _ (Int.emod_nonneg _ (by omega)) (Int.emod_lt_of_pos _ hm0)

        · walk_at "rd"
          have m1 : 0 ≤ (cell % 2147483579 + 57131 * (at_ : Int) + 211) ^ Int.toNat 5 % 2147483629 := Int.emod_nonneg _ (by decide)
          have m2 : (cell % 2147483579 + 57131 * (at_ : Int) + 211) ^ Int.toNat 5 % 2147483629 < 2147483629 := Int.emod_lt_of_pos _ (by decide)
          generalize (cell % 2147483579 + 57131 * (at_ : Int) + 211) ^ Int.toNat 5 % 2147483629 = m at m1 m2 ⊢
          have b1 := mul_bd (A := 2147483629) (B := 300000) m1 (by omega) (show 0 ≤ (at_ : Int) + 64007 by omega) (by omega)
          have b2 := mul_bd (A := 100000 * 91009) (B := 100000) (show 0 ≤ 91009 * (at_ : Int) by omega) (by omega) (show 0 ≤ (at_ : Int) by omega) (by omega)
          refine r_I (show CPow _ _ from ⟨by decide, by decide, by omega⟩) ?_
          walk_at "rd"
          exact h9 _ (Int.emod_nonneg _ (by omega)) (Int.emod_lt_of_pos _ hm0)

end

end K17


namespace K17
open PySem L2 KB KO KV
/-! ### a Kind -/
def statesOf (w : Str) : List Int := if w = "once" then [0, 1, 2, 3] else [0, 1]
def flds (r w d : Str) (st : Addr) : List (Str × V) := [("reading", .str r), ("writing", .str w), ("device", .str d), ("states", .ref st)]
theorem fl_r {r w d : Str} {st : Addr} : (flds r w d st).lookup ("reading" : Str) = some (.str r) := rfl
theorem fl_w {r w d : Str} {st : Addr} : (flds r w d st).lookup ("writing" : Str) = some (.str w) := rfl
theorem fl_d {r w d : Str} {st : Addr} : (flds r w d st).lookup ("device" : Str) = some (.str d) := rfl
theorem fl_s {r w d : Str} {st : Addr} : (flds r w d st).lookup ("states" : Str) = some (.ref st) := rfl
theorem fl_no {r w d : Str} {st : Addr} : (flds r w d st).lookup ("after_read" : Str) = none ∧ (flds r w d st).lookup ("after_write" : Str) = none ∧ (flds r w d st).lookup ("unguarded" : Str) = none := ⟨rfl, rfl, rfl⟩
theorem fl_put {r w d : Str} {st : Addr} : putF "states" (.ref st) (putF "device" (.str d) (putF "writing" (.str w) (putF "reading" (.str r) []))) = flds r w d st := rfl
def KindAt (C : Addr) (H : Hp) (p : Addr) (r w d : Str) : Prop := ∃ dx st, H p = some (.ins C dx (flds r w d st)) ∧ H st = some (.tup ((statesOf w).map V.int))
theorem KindAt.up {C : Addr} {H H' : Hp} {p : Addr} {r w d : Str} (h : KindAt C H p r w d) (s : Same H H') : KindAt C H' p r w d := by
  obtain ⟨dx, st, h1, h2⟩ := h
  exact ⟨dx, st, s _ _ h1, s _ _ h2⟩
def RD : List Str := ["keep", "take"]
def WR : List Str := ["store", "clear1", "clear0", "set1", "flip1", "once", "none"]
def DV : List Str := ["still", "raise", "end", "drift"]
/-- what the text's class Kind is -/
structure TxtK (K : PySem.W.Frag) (mg : Str → Option Value) (C : Addr) : Prop extends Txt mg where
  cl : Cls K C
  n_reading : NoAttr K C "reading"
  n_writing : NoAttr K C "writing"
  n_device : NoAttr K C "device"
  n_states : NoAttr K C "states"
  mg_Kind : mg "Kind" = some (.ref C)
  con : ∃ (mc : Value) (a1 a2 a3 : Addr) (u1 u2 u3 : Value), ClX.CRead K C mc ∧ ClX.CVal K C mc "READINGS" (.ref a1) u1 ∧ ClX.CVal K C mc "WRITINGS" (.ref a2) u2 ∧ ClX.CVal K C mc "DEVICES" (.ref a3) u3 ∧
    (∀ H, SqT K H a1 (RD.map V.str)) ∧ (∀ H, SqT K H a2 (WR.map V.str)) ∧ (∀ H, SqT K H a3 (DV.map V.str))
def spKind (C : Addr) : Sp := fun vs H Q _ => ∃ (p dx : Addr) (r w d : Str), vs = [.ref p, .str r, .str w, .str d] ∧ r ∈ RD ∧ w ∈ WR ∧ d ∈ DV ∧ H p = some (.ins C dx []) ∧
  ∀ H', KindAt C H' p r w d → Keep p H H' → Q .non H'

/-! ### kinds: the mathematics -/
def afterRead (r : Str) (s : Int) : Int := if r = "take" then s - s % 2 else s
def unguarded (w : Str) (s b : Int) : Int :=
  if w = "store" then s / 2 * 2 + b else if w = "clear1" then s / 2 * 2 + s % 2 * (1 - b) else if w = "clear0" then s / 2 * 2 + s % 2 * b
  else if w = "set1" then s / 2 * 2 + (if b > s % 2 then b else s % 2) else if w = "flip1" then s / 2 * 2 + (s % 2 + b) % 2 else if w = "once" then 2 + b else s
def afterWrite (w : Str) (s b : Int) : Int := if w = "once" ∧ 1 < s then s else unguarded w s b
def spRead (C : Addr) : Sp := fun vs H Q _ => ∃ (p : Addr) (r w d : Str) (s : Int), vs = [.ref p, .int s] ∧ KindAt C H p r w d ∧ Q (.int (afterRead r s)) H
def spUng (C : Addr) : Sp := fun vs H Q _ => ∃ (p : Addr) (r w d : Str) (s b : Int), vs = [.ref p, .int s, .int b] ∧ KindAt C H p r w d ∧ Q (.int (unguarded w s b)) H
def spWrite (C : Addr) : Sp := fun vs H Q _ => ∃ (p : Addr) (r w d : Str) (s b : Int), vs = [.ref p, .int s, .int b] ∧ KindAt C H p r w d ∧ Q (.int (afterWrite w s b)) H

def movable (d : Str) : List Int := if d = "still" then [] else if d = "raise" then [0] else if d = "end" then [1] else [0, 1]
def deedsOf (d : Str) (s : Int) : List Int := if s % 2 ∈ movable d then [s + 1 - 2 * (s % 2)] else []
structure TxtM (K : PySem.W.Frag) (wd : World) (mg : Str → Option Value) (C dM : Addr) : Prop extends TxtK K mg C where
  ty : ∀ {H : Hp} {a dx : Addr} {fs : List (Str × V)}, H a = some (.ins C dx fs) → TyX K H (.ref a) (.ref C)
  isi : PySem.W.kitOne K (.ref C) (.ref C) = some true
  mg_MOVABLE : mg "MOVABLE" = some (.ref dM)
  mov : ∃ es n, KDict K wd dM es n
  item : ∀ d ∈ DV, ∃ a, PySem.W.nsIn K dM d = some (some (.ref a)) ∧ ∀ H, SqT K H a ((movable d).map V.int)
def spDeedsK (C : Addr) : Sp := fun vs H Q _ => ∃ (p : Addr) (r w d : Str) (s : Int), vs = [.ref p, .int s] ∧ KindAt C H p r w d ∧ d ∈ DV ∧ ∀ H' a, Same H H' → H' a = some (.tup ((deedsOf d s).map V.int)) → Q (.ref a) H'
def spEq (C : Addr) : Sp := fun vs H Q _ => ∃ (p p' : Addr) (r w d r' w' d' : Str), vs = [.ref p, .ref p'] ∧ KindAt C H p r w d ∧ KindAt C H p' r' w' d' ∧ Q (.bl (decide (r = r' ∧ w = w' ∧ d = d'))) H


section
variable {P : Program} {w : World} {K : PySem.W.Frag} {mg : Str → Option Value} {base : Heap}
theorem ok_kind {f C : Addr} {fd : FuncData} {k : Nat} (F : Fun K "__init__" "Kind.__init__" s_Kind___init__ f fd) (T : TxtK K mg C) : FnOk P w K mg base CX0 (k + 1) f fd ["self", "reading", "writing", "device"] (spKind C) := by
  refine F.ok sc_Kind___init__ (fun vs H Q E h => ?_) (fun cdv A outer s H vs Q E hr h => ?_)
  · obtain ⟨p, dx, r, w, d, rfl, _⟩ := h
    rfl
  · obtain ⟨p, dx, r, w, d, rfl, hr1, hw1, hd1, hp, q⟩ := h
    obtain ⟨mc, a1, a2, a3, u1, u2, u3, cr, v1, v2, v3, t1, t2, t3⟩ := T.con
    refine ⟨_, (pss_cons (ps_for PassesOwn.never rfl (pi_tup (pe_tup (pa_cons (pe_tup (pa_cons (pv 1) (pa_cons (ClX.pe_cval (pe_glob (v := .ref _) (by rfl) T.mg_Kind rfl)) pa_nil))) (pa_cons (pe_tup (pa_cons (pv 2) (pa_cons (ClX.pe_cval (pe_glob (v := .ref _) (by rfl) T.mg_Kind rfl)) pa_nil))) (pa_cons (pe_tup (pa_cons (pv 3) (pa_cons (ClX.pe_cval (pe_glob (v := .ref _) (by rfl) T.mg_Kind rfl)) pa_nil))) pa_nil))))) (pg_tup rfl (pgs_cons (pg_name (i := 4) sc_Kind___init__.nd rfl (by first | exact Or.inl rfl | exact Or.inr rfl)) (pgs_cons (pg_name (i := 5) sc_Kind___init__.nd rfl (by first | exact Or.inl rfl | exact Or.inr rfl)) pgs_nil)))
 (pss_one (ps_if (pt_cmpR op_notIn_seq (pv 4) (pv 5) (by rfl)) (pss_one ps_never)
 pss_nil)))
 (pss_cons (ps_fld (pv 0) (pv 1) rfl)
 (pss_cons (ps_fld (pv 0) (pv 2) rfl)
 (pss_cons (ps_fld (pv 0) (pv 3) rfl)
 (pss_one (ps_fld (pv 0) (pe_ifExp (pt_cmpR op_eq (pv 2) pe_str (nomark _)) (pe_tup (pa_cons pe_int (pa_cons pe_int (pa_cons pe_int (pa_cons pe_int pa_nil))))) (pe_tup (pa_cons pe_int (pa_cons pe_int pa_nil)))) rfl)))))), at_start (σ := [some (.ref p), some (.str r), some (.str w), some (.str d), none, none]) rfl ?_⟩
    dsimp only [cx_K]
    walk_at "rd"
    refine ⟨by walk_at "sz", fun c1 n1 => ?_⟩
    walk_at "rd"
    refine ⟨by walk_at "sz", fun c2 n2 => ?_⟩
    walk_at "rd"
    refine ⟨by walk_at "sz", fun c3 n3 => ?_⟩
    walk_at "rd"
    refine ⟨by walk_at "sz", fun c4 n4 => ?_⟩
    have s4 := (((same_new (o := .tup [.str r, .ref a1]) n1).trans (same_new (o := .tup [.str w, .ref a2]) n2)).trans (same_new (o := .tup [.str d, .ref a3]) n3)).trans (same_new (o := .tup [.ref c1, .ref c2, .ref c3]) n4)
    have g1 : (upd (upd (upd (upd H c1 (.tup [.str r, .ref a1])) c2 (.tup [.str w, .ref a2])) c3 (.tup [.str d, .ref a3])) c4 (.tup [.ref c1, .ref c2, .ref c3])) c1 = some (.tup [.str r, .ref a1]) := by walk_at "hp"
    have g2 : (upd (upd (upd (upd H c1 (.tup [.str r, .ref a1])) c2 (.tup [.str w, .ref a2])) c3 (.tup [.str d, .ref a3])) c4 (.tup [.ref c1, .ref c2, .ref c3])) c2 = some (.tup [.str w, .ref a2]) := by walk_at "hp"
    have g3 : (upd (upd (upd (upd H c1 (.tup [.str r, .ref a1])) c2 (.tup [.str w, .ref a2])) c3 (.tup [.str d, .ref a3])) c4 (.tup [.ref c1, .ref c2, .ref c3])) c3 = some (.tup [.str d, .ref a3]) := by walk_at "hp"
    have g4 : (upd (upd (upd (upd H c1 (.tup [.str r, .ref a1])) c2 (.tup [.str w, .ref a2])) c3 (.tup [.str d, .ref a3])) c4 (.tup [.ref c1, .ref c2, .ref c3])) c4 = some (.tup [.ref c1, .ref c2, .ref c3]) := by walk_at "hp"
    generalize (upd (upd (upd (upd H c1 (.tup [.str r, .ref a1])) c2 (.tup [.str w, .ref a2])) c3 (.tup [.str d, .ref a3])) c4 (.tup [.ref c1, .ref c2, .ref c3])) = H4 at s4 g1 g2 g3 g4 ⊢
    refine ⟨c4, rfl, ⟨_, SqT.of g4⟩, forW (walk_tup (xs := [.ref c1, .ref c2, .ref c3])) (fun i σ H' => ∃ y4 y5, σ = [some (.ref p), some (.str r), some (.str w), some (.str d), y4, y5] ∧ H' = H4) ⟨none, none, rfl, rfl⟩ (fun i σ H' _ ⟨_, _, _, e⟩ => e ▸ SqT.of g4) ?_ ?_⟩
    · rintro i x σ' H' _ hi0 ⟨y4, y5, rfl, rfl⟩ ⟨rfl, hi⟩
      have cs : (x = .ref c1 ∨ x = .ref c2 ∨ x = .ref c3) := by
        have := List.mem_of_getElem? hi
        simpa using this
      rcases cs with rfl | rfl | rfl
      · refine ⟨_, _, rfl, SqT.of g1, rfl, _, _, rfl, _, _, rfl, rfl, ?_⟩
        walk_at "rd"
        refine r_notInS (zs := RD) (.inr (t1 _)) ?_
        walk_at "rd"
        refine r_iteNF hr1 ?_
        walk_at "rd"
        exact ⟨_, _, rfl, rfl⟩
      · refine ⟨_, _, rfl, SqT.of g2, rfl, _, _, rfl, _, _, rfl, rfl, ?_⟩
        walk_at "rd"
        refine r_notInS (zs := WR) (.inr (t2 _)) ?_
        walk_at "rd"
        refine r_iteNF hw1 ?_
        walk_at "rd"
        exact ⟨_, _, rfl, rfl⟩
      · refine ⟨_, _, rfl, SqT.of g3, rfl, _, _, rfl, _, _, rfl, rfl, ?_⟩
        walk_at "rd"
        refine r_notInS (zs := DV) (.inr (t3 _)) ?_
        walk_at "rd"
        refine r_iteNF hd1 ?_
        walk_at "rd"
        exact ⟨_, _, rfl, rfl⟩
    · rintro σ' H' ⟨y4, y5, rfl, rfl⟩
      have hp4 := s4 _ _ hp
      walk_at "rd"
      refine ⟨p, C, dx, _, rfl, hp4, T.cl, T.n_reading, (by decide), ?_⟩
      walk_at "rd"
      refine ⟨p, C, dx, _, rfl, upd_same, T.cl, T.n_writing, putF_lt0 (by decide), ?_⟩
      walk_at "rd"
      refine ⟨p, C, dx, _, rfl, upd_same, T.cl, T.n_device, putF_lt0 (putF_lt (by decide)), ?_⟩
      walk_at "rd"
      have fin : ∀ st, (upd (upd (upd H' p (.ins C dx (putF "reading" (.str r) []))) p (.ins C dx (putF "writing" (.str w) (putF "reading" (.str r) [])))) p (.ins C dx (putF "device" (.str d) (putF "writing" (.str w) (putF "reading" (.str r) []))))) st = none →
          Q .non (upd (upd (upd (upd (upd H' p (.ins C dx (putF "reading" (.str r) []))) p (.ins C dx (putF "writing" (.str w) (putF "reading" (.str r) [])))) p (.ins C dx (putF "device" (.str d) (putF "writing" (.str w) (putF "reading" (.str r) []))))) st (.tup ((statesOf w).map V.int))) p (.ins C dx (flds r w d st))) := by
        intro st hst
        have np : p ≠ st := fun z => by rw [← z, upd_same] at hst; cases hst
        refine q _ ⟨dx, st, upd_same, by rw [upd_ne np.symm, upd_same]⟩ fun b o e hb => ?_
        rw [upd_ne hb, upd_new hst]
        rw [upd_ne hb, upd_ne hb, upd_ne hb]
        exact s4 _ _ e
      refine r_ite2 (fun h => ?_) (fun h => ?_)
      · have h' : w = "once" := V.str.inj h
        walk_at "rd"
        refine ⟨by walk_at "sz", fun st hst => ?_⟩
        have np : p ≠ st := fun z => by rw [← z, upd_same] at hst; cases hst
        walk_at "rd"
        refine ⟨p, C, dx, _, rfl, by rw [upd_ne np]; exact upd_same, T.cl, T.n_states, putF_lt0 (putF_lt (putF_lt (by decide))), ?_⟩
        have := fin st hst
        rw [statesOf, if_pos h'] at this
        exact this
      · have h' : ¬ w = "once" := fun z => h (by rw [z])
        walk_at "rd"
        refine ⟨by walk_at "sz", fun st hst => ?_⟩
        have np : p ≠ st := fun z => by rw [← z, upd_same] at hst; cases hst
        walk_at "rd"
        refine ⟨p, C, dx, _, rfl, by rw [upd_ne np]; exact upd_same, T.cl, T.n_states, putF_lt0 (putF_lt (putF_lt (by decide))), ?_⟩
        have := fin st hst
        rw [statesOf, if_neg h'] at this
        exact this

theorem ok_after_read {f C : Addr} {fd : FuncData} {k : Nat} (F : Fun K "after_read" "Kind.after_read" s_Kind_after_read f fd) (T : TxtK K mg C) : FnOk P w K mg base CX0 (k + 1) f fd ["self", "state"] (spRead C) := by
  refine F.ok sc_Kind_after_read (fun vs H Q E h => ?_) (fun cdv A outer s H vs Q E hr h => ?_)
  · obtain ⟨p, r, w, d, s, rfl, _⟩ := h
    rfl
  · obtain ⟨p, r, w, d, s, rfl, ⟨dx, st, h1, h2⟩, q⟩ := h
    refine ⟨_, (pss_one (ps_ret (pe_ifExp (pt_cmpR op_eq (pe_fld (pv 0) rfl) pe_str (nomark _)) (pe_op op_sub (pv 1) (pe_op op_mod (pv 1) pe_int)) (pv 1)))), at_start (σ := [some (.ref p), some (.int s)]) rfl ?_⟩
    dsimp only [cx_K]
    walk_at "rd"
    refine ⟨p, C, dx, _, _, rfl, h1, T.cl, T.n_reading, fl_r, ?_⟩
    walk_at "rd"
    unfold afterRead at q
    refine r_ite2 (fun h => ?_) (fun h => ?_)
    · have h' : r = "take" := V.str.inj h
      rw [if_pos h'] at q
      walk_at "rd"
      exact q
    · have h' : ¬ r = "take" := fun z => h (by rw [z])
      rw [if_neg h'] at q
      walk_at "rd"
      exact q
theorem ok_unguarded {f C : Addr} {fd : FuncData} {k : Nat} (F : Fun K "unguarded" "Kind.unguarded" s_Kind_unguarded f fd) (T : TxtK K mg C) : FnOk P w K mg base CX0 (k + 1) f fd ["self", "state", "bit"] (spUng C) := by
  refine F.ok sc_Kind_unguarded (fun vs H Q E h => ?_) (fun cdv A outer s H vs Q E hr h => ?_)
  · obtain ⟨p, r, w, d, s, b, rfl, _⟩ := h
    rfl
  · obtain ⟨p, r, w, d, s, b, rfl, ⟨dx, st, h1, h2⟩, q⟩ := h
    refine ⟨_, (pss_cons (ps_par (i := 3) (j := 4) (by rfl) sc_Kind_unguarded.nd rfl rfl (by decide) rfl rfl (pa_cons (pe_op op_mul (pe_op op_fdiv (pv 1) pe_int) pe_int) (pa_cons (pe_op op_mod (pv 1) pe_int) pa_nil)) (by rfl))
 (pss_cons (ps_match (pe_fld (pv 0) rfl) (pm_str (pss_one (ps_ret (pe_op op_add (pv 3) (pv 2))))
 (pm_str (pss_one (ps_ret (pe_op op_add (pv 3) (pe_op op_mul (pv 4) (pe_op op_sub pe_int (pv 2))))))
 (pm_str (pss_one (ps_ret (pe_op op_add (pv 3) (pe_op op_mul (pv 4) (pv 2)))))
 (pm_str (pss_one (ps_ret (pe_op op_add (pv 3) (pe_callB (call_max2 rfl) (by rfl) T.z_max (by decide +kernel) (pa_cons (pv 4) (pa_cons (pv 2) pa_nil))))))
 (pm_str (pss_one (ps_ret (pe_op op_add (pv 3) (pe_op op_mod (pe_op op_add (pv 4) (pv 2)) pe_int))))
 (pm_str (pss_one (ps_ret (pe_op op_add pe_int (pv 2))))
 pm_nil)))))))
 (pss_one (ps_ret (pv 1))))), at_start (σ := [some (.ref p), some (.int s), some (.int b), none, none]) rfl ?_⟩
    dsimp only [cx_K]
    walk_at "rd"
    refine ⟨_, _, rfl, ?_⟩
    walk_at "rd"
    refine ⟨p, C, dx, _, _, rfl, h1, T.cl, T.n_writing, fl_w, ?_⟩
    unfold unguarded at q
    walk_at "rd"
    refine r_ite2 (fun h => ?_) (fun h => ?_)
    · rw [if_pos h] at q
      walk_at "rd"
      exact q
    rw [if_neg h] at q
    walk_at "rd"
    refine r_ite2 (fun h => ?_) (fun h => ?_)
    · rw [if_pos h] at q
      walk_at "rd"
      exact q
    rw [if_neg h] at q
    walk_at "rd"
    refine r_ite2 (fun h => ?_) (fun h => ?_)
    · rw [if_pos h] at q
      walk_at "rd"
      exact q
    rw [if_neg h] at q
    walk_at "rd"
    refine r_ite2 (fun h => ?_) (fun h => ?_)
    · rw [if_pos h] at q
      walk_at "rd"
      exact q
    rw [if_neg h] at q
    walk_at "rd"
    refine r_ite2 (fun h => ?_) (fun h => ?_)
    · rw [if_pos h] at q
      walk_at "rd"
      exact q
    rw [if_neg h] at q
    walk_at "rd"
    refine r_ite2 (fun h => ?_) (fun h => ?_)
    · rw [if_pos h] at q
      walk_at "rd"
      exact q
    rw [if_neg h] at q
    walk_at "rd"
    exact q
theorem ok_after_write {f C : Addr} {fd : FuncData} {k j : Nat} (F : Fun K "after_write" "Kind.after_write" s_Kind_after_write f fd) (T : TxtK K mg C) (c_Kind_unguarded : CalleeM P w K mg base CX0 1 C "unguarded" ["self", "state", "bit"] (spUng C)) : FnOk P w K mg base CX0 2 f fd ["self", "state", "bit"] (spWrite C) := by
  refine F.ok sc_Kind_after_write (fun vs H Q E h => ?_) (fun cdv A outer s H vs Q E hr h => ?_)
  · obtain ⟨p, r, w, d, s, b, rfl, _⟩ := h
    rfl
  · obtain ⟨p, r, w, d, s, b, rfl, KA, q⟩ := h
    obtain ⟨dx, st, h1, h2⟩ := id KA
    refine ⟨_, (pss_cons (ps_if (PW.pt (pw_and (pt_cmpR op_eq (pe_fld (pv 0) rfl) pe_str (nomark _)) (pw_and1 (pt_cmpR op_gt (pv 1) pe_int (nomark _))))) (pss_one (ps_ret (pv 1)))
 pss_nil)
 (pss_one (ps_ret (pe_methC c_Kind_unguarded (pv 0) (hr.mono (by decide)) pass0 (pa_cons (pv 1) (pa_cons (pv 2) pa_nil)))))), at_start (σ := [some (.ref p), some (.int s), some (.int b)]) rfl ?_⟩
    dsimp only [cx_K]
    walk_at "rd"
    refine ⟨p, C, dx, _, _, rfl, h1, T.cl, T.n_writing, fl_w, ?_⟩
    unfold afterWrite at q
    walk_at "rd"
    have call : ¬ (w = "once" ∧ 1 < s) → spUng C [.ref p, .int s, .int b] H Q E0 := fun h => ⟨p, r, w, d, s, b, rfl, KA, by rw [if_neg h] at q; exact q⟩
    refine r_ite2 (fun h => ?_) (fun h => ?_)
    · have h' : w = "once" := V.str.inj h
      walk_at "rd"
      refine r_ite2 (fun h2 => ?_) (fun h2 => ?_)
      · rw [if_pos ⟨h', h2⟩] at q
        walk_at "rd"
        exact q
      · walk_at "rd"
        refine ⟨p, dx, _, rfl, h1, fl_no.2.2, ?_⟩
        walk_at "rd"
        exact call fun z => h2 z.2
    · walk_at "rd"
      refine ⟨p, dx, _, rfl, h1, fl_no.2.2, ?_⟩
      walk_at "rd"
      exact call fun z => h (by rw [z.1])

theorem ok_deedsK {f C dM : Addr} {fd : FuncData} {k : Nat} (F : Fun K "deeds" "Kind.deeds" s_Kind_deeds f fd) (T : TxtM K w mg C dM) : FnOk P w K mg base CX0 (k + 1) f fd ["self", "state"] (spDeedsK C) := by
  refine F.ok sc_Kind_deeds (fun vs H Q E h => ?_) (fun cdv A outer s H vs Q E hr h => ?_)
  · obtain ⟨p, r, w, d, s, rfl, _⟩ := h
    rfl
  · obtain ⟨p, r, w, d, s, rfl, ⟨dx, st, h1, h2⟩, hd, q⟩ := h
    obtain ⟨es, n, kd_MOVABLE⟩ := T.mov
    obtain ⟨a, ia, sa⟩ := T.item d hd
    refine ⟨_, (pss_cons (ps_set (i := 2) sc_Kind_deeds.nd rfl (by first | exact Or.inl rfl | exact Or.inr rfl) (pe_op op_mod (pv 1) pe_int))
 (pss_cons (ps_if (pt_cmpR op_notIn_seq (pv 2) (pe_ix (KO.ix_kd kd_MOVABLE) (pe_glob (v := .ref _) (by rfl) T.mg_MOVABLE rfl) (pe_fld (pv 0) rfl) (fun _ _ => rfl)) (by rfl)) (pss_one (ps_ret (pe_tup pa_nil)))
 pss_nil)
 (pss_one (ps_ret (pe_tup (pa_cons (pe_op op_sub (pe_op op_add (pv 1) pe_int) (pe_op op_mul pe_int (pv 2))) pa_nil)))))), at_start (σ := [some (.ref p), some (.int s), none]) rfl ?_⟩
    dsimp only [cx_K]
    walk_at "rd"
    refine ⟨p, C, dx, _, _, rfl, h1, T.cl, T.n_device, fl_d, ?_⟩
    refine ⟨d, _, .ref a, rfl, rfl, ia, rfl, ?_⟩
    refine r_notInI (zs := movable d) (.inr (sa _)) ?_
    walk_at "rd"
    walk_at "sp"
    · rename_i hn
      rw [show deedsOf d s = [] from if_neg hn] at q
      refine ⟨by walk_at "sz", fun c1 n1 => ?_⟩
      exact q _ c1 (same_new n1) upd_same
    · rename_i hn
      rw [show deedsOf d s = [_] from if_pos hn] at q
      refine ⟨by walk_at "sz", fun c1 n1 => ?_⟩
      exact q _ c1 (same_new n1) upd_same
theorem ok_eqK {f C dM : Addr} {fd : FuncData} {k : Nat} (F : Fun K "__eq__" "Kind.__eq__" s_Kind___eq__ f fd) (T : TxtM K w mg C dM) : FnOk P w K mg base CX0 (k + 1) f fd ["self", "other"] (spEq C) := by
  refine F.ok sc_Kind___eq__ (fun vs H Q E h => ?_) (fun cdv A outer s H vs Q E hr h => ?_)
  · obtain ⟨p, p', r, w, d, r', w', d', rfl, _⟩ := h
    rfl
  · obtain ⟨p, p', r, w, d, r', w', d', rfl, ⟨dx, st, h1, h2⟩, ⟨dx', st', h1', h2'⟩, q⟩ := h
    refine ⟨_, (pss_one (ps_ret (pe_and (pe_callB call_isi (by rfl) T.z_isinstance (by decide +kernel) (pa_cons (pv 1) (pa_cons (pe_glob (v := .ref _) (by rfl) T.mg_Kind rfl) pa_nil))) (pe_and (pe_cmpR op_eq (pe_fld (pv 0) rfl) (pe_fld (pv 1) rfl) (nomark _)) (pe_and (pe_cmpR op_eq (pe_fld (pv 0) rfl) (pe_fld (pv 1) rfl) (nomark _)) (pe_one (pe_cmpR op_eq (pe_fld (pv 0) rfl) (pe_fld (pv 1) rfl) (nomark _)))))))), at_start (σ := [some (.ref p), some (.ref p')]) rfl ?_⟩
    dsimp only [cx_K]
    have cl := T.cl; have nr := T.n_reading; have nw := T.n_writing; have nd := T.n_device
    walk_at "rd"
    refine ⟨_, _, _, _, true, rfl, .own C, T.ty h1', T.isi, ?_⟩
    walk_at "rd"
    walk_at "sp"
    · rename_i a b
      subst a b
      have e : decide (V.str d = V.str d') = decide (r = r ∧ w = w ∧ d = d') := by simp
      rw [e]
      exact q
    · rename_i a b
      rw [decide_eq_false (fun z => b z.2.1)] at q
      exact q
    · rename_i a
      rw [decide_eq_false (fun z => a z.1)] at q
      exact q

end
end K17


namespace K17
open PySem L2 KB KO KV
def endsOf (w : Str) (v : Int) : Int × Int :=
  if w = "store" then (0, 1) else if w = "clear1" then (v, 0) else if w = "clear0" then (0, v) else if w = "set1" then (v, 1) else if w = "none" then (v, v) else (v, 1 - v)
def lw (w : Str) (s b : Int) : Int := if w = "once" then (if s > 1 then s else 2 + b) else (s - s % 2) + (if b = 0 then (endsOf w (s % 2)).1 else (endsOf w (s % 2)).2)
def spLW : Sp := fun vs H Q _ => ∃ (w : Str) (s b : Int), vs = [.str w, .int s, .int b] ∧ w ∈ WR ∧ (b = 0 ∨ b = 1) ∧ ∀ H', Same H H' → Q (.int (lw w s b)) H'
def spLR : Sp := fun vs H Q _ => ∃ (r : Str) (s : Int), vs = [.str r, .int s] ∧ Q (.int (afterRead r s)) H
def spLD : Sp := fun vs H Q _ => ∃ (d : Str) (s : Int), vs = [.str d, .int s] ∧ d ∈ DV ∧ ∀ H' a, Same H H' → H' a = some (.tup ((deedsOf d s).map V.int)) → Q (.ref a) H'
def spWords : Sp := fun vs H Q _ => ∃ (pen c : Addr) (k : Nat), vs = [.ref pen] ∧ PenC H pen c (k + 3) ∧ ∀ (r w d : Str) H' a, r ∈ RD → w ∈ WR → d ∈ DV → PenC H' pen c k → Keep pen H H' → H' a = some (.tup [.str r, .str w, .str d]) → Q (.ref a) H'
theorem tab6l (a b c d e : V) : (mergeK [] [((Sum.inr "store" : Key), a), (Sum.inr "clear1", b), (Sum.inr "clear0", c), (Sum.inr "set1", d), (Sum.inr "none", e)]).length = 5 := rfl
theorem tab6 (a b c d e f : V) : valV (putK (mergeK [] [((Sum.inr "store" : Key), a), (Sum.inr "clear1", b), (Sum.inr "clear0", c), (Sum.inr "set1", d), (Sum.inr "none", e)]) (Sum.inr "flip1") f) (Sum.inr "store") = some a ∧
    valV (putK (mergeK [] [((Sum.inr "store" : Key), a), (Sum.inr "clear1", b), (Sum.inr "clear0", c), (Sum.inr "set1", d), (Sum.inr "none", e)]) (Sum.inr "flip1") f) (Sum.inr "clear1") = some b ∧
    valV (putK (mergeK [] [((Sum.inr "store" : Key), a), (Sum.inr "clear1", b), (Sum.inr "clear0", c), (Sum.inr "set1", d), (Sum.inr "none", e)]) (Sum.inr "flip1") f) (Sum.inr "clear0") = some c ∧
    valV (putK (mergeK [] [((Sum.inr "store" : Key), a), (Sum.inr "clear1", b), (Sum.inr "clear0", c), (Sum.inr "set1", d), (Sum.inr "none", e)]) (Sum.inr "flip1") f) (Sum.inr "set1") = some d ∧
    valV (putK (mergeK [] [((Sum.inr "store" : Key), a), (Sum.inr "clear1", b), (Sum.inr "clear0", c), (Sum.inr "set1", d), (Sum.inr "none", e)]) (Sum.inr "flip1") f) (Sum.inr "none") = some e ∧
    valV (putK (mergeK [] [((Sum.inr "store" : Key), a), (Sum.inr "clear1", b), (Sum.inr "clear0", c), (Sum.inr "set1", d), (Sum.inr "none", e)]) (Sum.inr "flip1") f) (Sum.inr "flip1") = some f := ⟨rfl, rfl, rfl, rfl, rfl, rfl⟩
theorem deeds_is {d : Str} {s : Int} (hd : d ∈ DV) : deedsOf d s = if d = "drift" ∨ (d = "raise" ∧ s % 2 = 0) ∨ (d = "end" ∧ s % 2 = 1) then [s + 1 - 2 * (s % 2)] else [] := by
  have hs : s % 2 = 0 ∨ s % 2 = 1 := by omega
  have h : ∀ d ∈ DV, ∀ v : Int, v = 0 ∨ v = 1 → (v ∈ movable d ↔ (d = "drift" ∨ (d = "raise" ∧ v = 0) ∨ (d = "end" ∧ v = 1))) := by
    intro d hd v hv
    rcases hv with rfl | rfl
    · revert d; decide +kernel
    · revert d; decide +kernel
  unfold deedsOf
  simp only [h d hd _ hs]


section
variable {P : Program} {w : World} {K : PySem.W.Frag} {mg : Str → Option Value} {base : Heap}
theorem ok_ld {f : Addr} {fd : FuncData} {k : Nat} (F : Fun K "_law_deeds" "_law_deeds" s__law_deeds f fd) (T : Txt mg) : FnOk P w K mg base CX0 (k + 1) f fd ["_law_device", "_law_state"] spLD := by
  refine F.ok sc__law_deeds (fun vs H Q E h => ?_) (fun cdv A outer s H vs Q E hr h => ?_)
  · obtain ⟨d, s, rfl, _⟩ := h
    rfl
  · obtain ⟨d, s, rfl, hd, q⟩ := h
    refine ⟨_, (pss_cons (ps_if (PW.pt (pw_or (pt_cmpR op_eq (pv 0) pe_str (nomark _)) (pw_or (PW.pt (pw_and (pt_cmpR op_eq (pv 0) pe_str (nomark _)) (pw_and1 (pt_cmpR op_eq (pe_op op_mod (pv 1) pe_int) pe_int (nomark _))))) (pw_or1 (PW.pt (pw_and (pt_cmpR op_eq (pv 0) pe_str (nomark _)) (pw_and1 (pt_cmpR op_eq (pe_op op_mod (pv 1) pe_int) pe_int (nomark _))))))))) (pss_one (ps_ret (pe_tup (pa_cons (pe_op op_sub (pe_op op_add (pv 1) pe_int) (pe_op op_mul pe_int (pe_op op_mod (pv 1) pe_int))) pa_nil))))
 pss_nil)
 (pss_one (ps_ret (pe_tup pa_nil)))), at_start (σ := [some (.str d), some (.int s)]) rfl ?_⟩
    try dsimp only [cx_K]
    have e := deeds_is (s := s) hd
    walk_at "sp"
    all_goals (refine ⟨by walk_at "sz", fun c1 n1 => ?_⟩; refine q _ c1 (same_new n1) ?_; rw [upd_same, e])
    all_goals first | rw [if_pos (by grind)]; rfl | rw [if_neg (by grind)]; rfl
theorem ok_words {f : Addr} {fd : FuncData} (F : Fun K "_law_words" "_law_words" s__law_words f fd) (T : Txt mg) (c__law_draw : Callee P w K mg base CX0 1 "_law_draw" ["_law_pen_here", "_law_many"] spDraw) : FnOk P w K mg base CX0 2 f fd ["_law_pen_here"] spWords := by
  refine F.ok sc__law_words (fun vs H Q E h => ?_) (fun cdv A outer s H vs Q E hr h => ?_)
  · obtain ⟨pen, c, k, rfl, _⟩ := h
    rfl
  · obtain ⟨pen, c, k, rfl, pn, q⟩ := h
    refine ⟨_, (pss_cons (ps_set (i := 1) sc__law_words.nd rfl (by first | exact Or.inl rfl | exact Or.inr rfl) (pe_tup (pa_cons pe_str (pa_cons pe_str (pa_cons pe_str (pa_cons pe_str (pa_cons pe_str (pa_cons pe_str (pa_cons pe_str pa_nil)))))))))
 (pss_cons (ps_set (i := 2) sc__law_words.nd rfl (by first | exact Or.inl rfl | exact Or.inr rfl) (pe_ix ix_tup (pe_tup (pa_cons pe_str (pa_cons pe_str pa_nil))) (pe_callC c__law_draw (hr.mono (by decide)) (by rfl) pass0 (pa_cons (pv 0) (pa_cons pe_int pa_nil))) (fun _ _ => rfl)))
 (pss_one (ps_ret (pe_tup (pa_cons (pv 2) (pa_cons (pe_ix ix_tup (pv 1) (pe_callC c__law_draw (hr.mono (by decide)) (by rfl) pass0 (pa_cons (pv 0) (pa_cons pe_int pa_nil))) (fun _ _ => rfl)) (pa_cons (pe_ix ix_tup (pe_tup (pa_cons pe_str (pa_cons pe_str (pa_cons pe_str (pa_cons pe_str pa_nil))))) (pe_callC c__law_draw (hr.mono (by decide)) (by rfl) pass0 (pa_cons (pv 0) (pa_cons pe_int pa_nil))) (fun _ _ => rfl)) pa_nil)))))))), at_start (σ := [some (.ref pen), none, none]) rfl ?_⟩
    try dsimp only [cx_K]
    walk_at "rd"
    refine ⟨by walk_at "sz", fun c1 n1 => ?_⟩
    walk_at "rd"
    refine ⟨by walk_at "sz", fun c2 n2 => ?_⟩
    walk_at "rd"
    refine ⟨pen, c, 2, k + 2, rfl, by decide, by decide, (pn.up ((same_new n1).trans (same_new n2))).mono (by omega), fun r1 H3 a1 b1 pn1 kp1 => ?_⟩
    have m1 : c1 ≠ pen := pn.ne n1
    have m2 : c2 ≠ pen := (pn.up (same_new n1)).ne n2
    have e2 : H3 c2 = some (.tup (RD.map V.str)) := kp1 _ _ upd_same m2
    have e1 : H3 c1 = some (.tup (WR.map V.str)) := kp1 _ _ (upd_new n2 upd_same) m1
    have k3 : Keep pen H H3 := (Keep.same ((same_new n1).trans (same_new n2))).tr kp1
    clear kp1
    obtain ⟨r, hr1, at1⟩ := atI_map (xs := RD) (g := V.str) a1 b1
    refine r_ixT (xs := RD.map V.str) (SqT.of e2) at1 ?_
    walk_at "rd"
    refine ⟨pen, c, 7, k + 1, rfl, by decide, by decide, pn1.mono (by omega), fun r2 H4 a2 b2 pn2 kp2 => ?_⟩
    obtain ⟨w, hw1, at2⟩ := atI_map (xs := WR) (g := V.str) a2 b2
    refine r_ixT (xs := WR.map V.str) (SqT.of (kp2 _ _ e1 m1)) at2 ?_
    walk_at "rd"
    refine ⟨by walk_at "sz", fun c3 n3 => ?_⟩
    walk_at "rd"
    refine ⟨pen, c, 4, k, rfl, by decide, by decide, (pn2.up (same_new n3)).mono (by omega), fun r3 H5 a3 b3 pn3 kp3 => ?_⟩
    have e3 : H5 c3 = some (.tup (DV.map V.str)) := kp3 _ _ upd_same (pn2.ne n3)
    obtain ⟨d, hd1, at3⟩ := atI_map (xs := DV) (g := V.str) a3 b3
    refine r_ixT (xs := DV.map V.str) (SqT.of e3) at3 ?_
    walk_at "rd"
    refine ⟨by walk_at "sz", fun c4 n4 => ?_⟩
    have k5 := ((k3.tr kp2).tr (Keep.same (same_new (o := .tup (DV.map V.str)) n3))).tr kp3
    exact q r w d _ c4 hr1 hw1 hd1 (pn3.up (same_new n4)) (k5.tr (Keep.same (same_new n4))) upd_same
end
end K17


namespace K17
open PySem L2 KB KO KV
/-! ### sets of states, as ascending lists -/
def S4 : List Int := [0, 1, 2, 3]
def norm (xs : List Int) : List Int := S4.filter fun k => decide (k ∈ xs)
theorem mem_norm {xs : List Int} {k : Int} : k ∈ norm xs ↔ k ∈ S4 ∧ k ∈ xs := by
  unfold norm
  rw [List.mem_filter, decide_eq_true_eq]
theorem norm_sub {xs : List Int} (h : ∀ k ∈ xs, k ∈ S4) {k : Int} : k ∈ norm xs ↔ k ∈ xs := ⟨fun z => (mem_norm.mp z).2, fun z => mem_norm.mpr ⟨h k z, z⟩⟩
theorem norm_lt (xs : List Int) : (norm xs).Pairwise (· < ·) := List.Pairwise.filter _ (by decide)
theorem norm_s4 {xs : List Int} : ∀ k ∈ norm xs, k ∈ S4 := fun k m => (mem_norm.mp m).1
theorem norm_len (xs : List Int) : (norm xs).length ≤ 4 := List.length_filter_le _ _
theorem norm_congr {a b : List Int} (h : ∀ k, k ∈ S4 → (k ∈ a ↔ k ∈ b)) : norm a = norm b := KT.sorted_unique (norm_lt a) (norm_lt b) fun k => by
  rw [mem_norm, mem_norm]
  constructor
  · rintro ⟨x, y⟩; exact ⟨x, (h k x).mp y⟩
  · rintro ⟨x, y⟩; exact ⟨x, (h k x).mpr y⟩
theorem norm_is {a xs : List Int} (hs : ∀ k ∈ xs, k ∈ S4) (ha : a.Pairwise (· < ·)) (h : ∀ k, k ∈ a ↔ k ∈ xs) : a = norm xs := KT.sorted_unique ha (norm_lt xs) fun k => by
  rw [norm_sub hs]
  exact h k
theorem norm_le {a xs : List Int} (hs : ∀ k ∈ xs, k ∈ S4) (ha : a.Pairwise (· ≤ ·)) (hn : a.Nodup) (h : ∀ k, k ∈ a ↔ k ∈ xs) : a = norm xs := by
  refine norm_is hs ?_ h
  refine (ha.and hn).imp fun z => ?_
  have h1 := z.1
  have h2 := z.2
  omega
theorem norm_one {s : Int} (h : s ∈ S4) : norm [s] = [s] := by
  revert s
  decide
def deedsAll (d : Str) (xs : List Int) : List Int := xs.flatMap (deedsOf d)
def clo (d : Str) (xs : List Int) : List Int := norm (xs ++ deedsAll d xs)
/-- with_deeds -/
def wdl (d : Str) (q : Bool) (xs : List Int) : List Int := if q = true then norm xs else clo d xs
theorem deeds_s4 {d : Str} {s : Int} (hd : d ∈ DV) (h : s ∈ S4) : ∀ e ∈ deedsOf d s, e ∈ S4 := by
  have z : ∀ d ∈ DV, ∀ s ∈ S4, ∀ e ∈ deedsOf d s, e ∈ S4 := by decide +kernel
  exact z d hd s h
theorem deeds_two {d : Str} {s : Int} (hd : d ∈ DV) (h : s ∈ S4) : ∀ e ∈ deedsOf d s, ∀ f ∈ deedsOf d e, f = s := by
  have z : ∀ d ∈ DV, ∀ s ∈ S4, ∀ e ∈ deedsOf d s, ∀ f ∈ deedsOf d e, f = s := by decide +kernel
  exact z d hd s h
theorem deeds_len (d : Str) (s : Int) : (deedsOf d s).length ≤ 1 := by
  unfold deedsOf
  split <;> simp
theorem all_s4 {d : Str} {xs : List Int} (hd : d ∈ DV) (h : ∀ k ∈ xs, k ∈ S4) : ∀ k ∈ xs ++ deedsAll d xs, k ∈ S4 := fun k m => by
  rcases List.mem_append.mp m with m | m
  · exact h k m
  · obtain ⟨j, hj, e⟩ := List.mem_flatMap.mp m
    exact deeds_s4 hd (h j hj) k e
theorem mem_clo {d : Str} {xs : List Int} (hd : d ∈ DV) (h : ∀ k ∈ xs, k ∈ S4) {k : Int} : k ∈ clo d xs ↔ k ∈ xs ∨ ∃ j ∈ xs, k ∈ deedsOf d j := by
  unfold clo
  rw [norm_sub (all_s4 hd h), List.mem_append]
  unfold deedsAll
  rw [List.mem_flatMap]
theorem clo_deeds {d : Str} {xs : List Int} (hd : d ∈ DV) (h : ∀ k ∈ xs, k ∈ S4) {k e : Int} (hk : k ∈ clo d xs) (he : e ∈ deedsOf d k) : e ∈ clo d xs := by
  rw [mem_clo hd h] at hk ⊢
  rcases hk with hk | ⟨j, hj, hk⟩
  · exact .inr ⟨k, hk, he⟩
  · rw [deeds_two hd (h j hj) k hk e he]
    exact .inl hj
theorem wdl_s4 {d : Str} {q : Bool} {xs : List Int} : ∀ k ∈ wdl d q xs, k ∈ S4 := by
  unfold wdl clo
  split <;> exact norm_s4
theorem wdl_len {d : Str} {q : Bool} (xs : List Int) : (wdl d q xs).length ≤ 4 := by
  unfold wdl clo
  split <;> exact norm_len _
theorem wdl_norm {d : Str} {q : Bool} {xs : List Int} (hd : d ∈ DV) (h : ∀ k ∈ xs, k ∈ S4) : wdl d q (norm xs) = wdl d q xs := by
  unfold wdl
  split
  · exact norm_congr fun k hk => by rw [norm_sub h]
  · refine norm_congr fun k hk => ?_
    unfold deedsAll
    rw [List.mem_append, List.mem_append, List.mem_flatMap, List.mem_flatMap, norm_sub h]
    constructor
    · rintro (z | ⟨j, hj, e⟩)
      · exact .inl z
      · exact .inr ⟨j, (norm_sub h).mp hj, e⟩
    · rintro (z | ⟨j, hj, e⟩)
      · exact .inl z
      · exact .inr ⟨j, (norm_sub h).mpr hj, e⟩
/-! ### letters -/
def isLet (c : Nat) : Prop := c = 48 ∨ c = 49 ∨ c = 114
instance (c : Nat) : Decidable (isLet c) := by unfold isLet; infer_instance
def bitOf (c : Nat) : Int := if c = 49 then 1 else 0
def afterL (r w : Str) (c : Nat) (s : Int) : Int := if c = 114 then afterRead r s else afterWrite w s (bitOf c)
theorem afterL_s4 {r w : Str} {c : Nat} {s : Int} (hr : r ∈ RD) (hw : w ∈ WR) (hc : isLet c) (h : s ∈ S4) : afterL r w c s ∈ S4 := by
  have z : ∀ r ∈ RD, ∀ w ∈ WR, ∀ s ∈ S4, ∀ c ∈ [48, 49, 114], afterL r w c s ∈ S4 := by decide +kernel
  exact z r hr w hw s h c (by rcases hc with rfl | rfl | rfl <;> decide)
def stepRow (r w d : Str) (q : Bool) (row : List Int) (c : Nat) : List Int := wdl d q (row.map (afterL r w c))
def rowOf (r w d : Str) (q : Bool) (cs : List Nat) (s : Int) : List Int := cs.foldl (stepRow r w d q) (wdl d q [s])
def rowsOf (r w d : Str) (q : Bool) (cs : List Nat) : List (List Int) := (statesOf w).map (rowOf r w d q cs)
theorem rowOf_snoc (r w d : Str) (q : Bool) (cs : List Nat) (c : Nat) (s : Int) : rowOf r w d q (cs ++ [c]) s = stepRow r w d q (rowOf r w d q cs s) c := by
  unfold rowOf
  rw [List.foldl_append]
  rfl
theorem row_s4 {r w d : Str} {q : Bool} : ∀ (cs : List Nat) (row : List Int), (∀ k ∈ row, k ∈ S4) → ∀ k ∈ cs.foldl (stepRow r w d q) row, k ∈ S4
  | [], _, h => h
  | c :: cs, row, h => row_s4 cs _ wdl_s4
theorem row_len {r w d : Str} {q : Bool} : ∀ (cs : List Nat) (row : List Int), row.length ≤ 4 → (cs.foldl (stepRow r w d q) row).length ≤ 4
  | [], _, h => h
  | c :: cs, row, h => row_len cs _ (wdl_len _)
theorem rowOf_s4 {r w d : Str} {q : Bool} {cs : List Nat} {s : Int} : ∀ k ∈ rowOf r w d q cs s, k ∈ S4 := row_s4 cs _ wdl_s4
theorem rowOf_len {r w d : Str} {q : Bool} {cs : List Nat} {s : Int} : (rowOf r w d q cs s).length ≤ 4 := row_len cs _ (wdl_len _)
theorem states_s4 {w : Str} : ∀ s ∈ statesOf w, s ∈ S4 := by
  unfold statesOf
  split
  · exact fun s h => h
  · decide
theorem states_len (w : Str) : (statesOf w).length ≤ 4 := by
  unfold statesOf
  split <;> decide
/-! ### rows in the heap -/
def RowsAt (H : Hp) (a : Addr) (rows : List (List Int)) : Prop := ∃ ps : List Addr, H a = some (.tup (ps.map V.ref)) ∧ ps.length = rows.length ∧ ∀ (i : Nat) (p : Addr) (row : List Int), ps[i]? = some p → rows[i]? = some row → H p = some (.tup (row.map V.int))
theorem RowsAt.up {H H' : Hp} {a : Addr} {rows : List (List Int)} (h : RowsAt H a rows) (s : Same H H') : RowsAt H' a rows := by
  obtain ⟨ps, e, l, r⟩ := h
  exact ⟨ps, s _ _ e, l, fun i p row h1 h2 => s _ _ (r i p row h1 h2)⟩
def dRow (row : List Int) : PyData := .tuple (row.map PyData.int)
def dRows (rows : List (List Int)) : PyData := .tuple (rows.map dRow)
theorem dp_refs {K : PySem.W.Frag} {H : Hp} : ∀ (ps : List Addr) (rows : List (List Int)), ps.length = rows.length → (∀ (i : Nat) (p : Addr) (row : List Int), ps[i]? = some p → rows[i]? = some row → H p = some (.tup (row.map V.int))) → DpAll K H (ps.map V.ref) (rows.map dRow)
  | [], [], _, _ => .nil
  | p :: ps, row :: rows, l, h => .cons (.tup (SqT.of (h 0 p row rfl rfl)) (dp_ints row)) (dp_refs ps rows (by simpa using l) fun i p' row' h1 h2 => h (i + 1) p' row' h1 h2)
theorem RowsAt.dp {K : PySem.W.Frag} {H : Hp} {a : Addr} {rows : List (List Int)} (h : RowsAt H a rows) : Dp K H (.ref a) (dRows rows) := by
  obtain ⟨ps, e, l, r⟩ := h
  exact .tup (SqT.of e) (dp_refs ps rows l r)

end K17


namespace K17
open PySem L2 KB KO KV
/-! ### the dict of states that are found -/
def tkD (ks : List Int) : List (Key × V) := ks.map fun k => ((Sum.inl k : Key), V.bl true)
def ins (ks : List Int) (k : Int) : List Int := if k ∈ ks then ks else ks ++ [k]
theorem tkD_len (ks : List Int) : (tkD ks).length = ks.length := List.length_map _
theorem tkD_any (ks : List Int) (k : Int) : ((tkD ks).any fun kv => decide (kv.1 = (Sum.inl k : Key))) = decide (k ∈ ks) := by
  induction ks with
  | nil => rfl
  | cons a ks ih =>
    have e : tkD (a :: ks) = (Sum.inl a, V.bl true) :: tkD ks := rfl
    rw [e, List.any_cons, ih]
    by_cases h : a = k
    · subst h; simp
    · have h2 : ¬ k = a := fun z => h z.symm
      have h3 : ¬ (Sum.inl a : Key) = Sum.inl k := fun z => h (Sum.inl.inj z)
      simp [h2, h3]
theorem putD (ks : List Int) (k : Int) : putK (tkD ks) (Sum.inl k) (V.bl true) = tkD (ins ks k) := by
  unfold putK ins
  rw [tkD_any]
  by_cases h : k ∈ ks
  · rw [if_pos (decide_eq_true h), if_pos h]
    refine (List.map_congr_left (g := id) fun kv m => ?_).trans (List.map_id _)
    obtain ⟨j, _, rfl⟩ := List.mem_map.mp m
    by_cases e : (Sum.inl j : Key) = Sum.inl k
    · rw [if_pos e]; rfl
    · rw [if_neg e]; rfl
  · rw [if_neg (by simp [h]), if_neg h]
    unfold tkD
    rw [List.map_append]
    rfl
theorem valD (ks : List Int) (k : Int) : valV (tkD ks) (Sum.inl k) = if k ∈ ks then some (.bl true) else none := by
  induction ks with
  | nil => rfl
  | cons a ks ih =>
    have e : valV (tkD (a :: ks)) (Sum.inl k) = if (Sum.inl a : Key) = Sum.inl k then some (.bl true) else valV (tkD ks) (Sum.inl k) := by
      unfold valV
      rw [show tkD (a :: ks) = (Sum.inl a, V.bl true) :: tkD ks from rfl, List.find?_cons]
      by_cases h : (Sum.inl a : Key) = Sum.inl k
      · simp [h]
      · simp [h]
    rw [e, ih]
    by_cases h : a = k
    · subst h; simp
    · have h2 : ¬ k = a := fun z => h z.symm
      have h3 : ¬ (Sum.inl a : Key) = Sum.inl k := fun z => h (Sum.inl.inj z)
      simp [h2, h3]
theorem ins_mem {ks : List Int} {k j : Int} : j ∈ ins ks k ↔ j ∈ ks ∨ j = k := by
  unfold ins
  split
  · rename_i h
    constructor
    · exact .inl
    · rintro (z | rfl)
      · exact z
      · exact h
  · rw [List.mem_append, List.mem_singleton]
theorem ins_nd {ks : List Int} {k : Int} (h : ks.Nodup) : (ins ks k).Nodup := by
  unfold ins
  split
  · exact h
  · rename_i z
    refine List.nodup_append.mpr ⟨h, by simp, fun a ha b hb => ?_⟩
    rw [List.mem_singleton.mp hb]
    exact fun e => z (e ▸ ha)
theorem ins_len (ks : List Int) (k : Int) : (ins ks k).length ≤ ks.length + 1 := by
  unfold ins
  split
  · omega
  · simp
def dedup (xs : List Int) : List Int := xs.foldl ins []
theorem dedup_snoc (xs : List Int) (k : Int) : dedup (xs ++ [k]) = ins (dedup xs) k := by
  unfold dedup
  rw [List.foldl_append]
  rfl
theorem dedup_ok (xs : List Int) : (dedup xs).Nodup ∧ (∀ k, k ∈ dedup xs ↔ k ∈ xs) ∧ (dedup xs).length ≤ xs.length := by
  have main : ∀ (xs acc : List Int), acc.Nodup → (xs.foldl ins acc).Nodup ∧ (∀ k, k ∈ xs.foldl ins acc ↔ k ∈ acc ∨ k ∈ xs) ∧ (xs.foldl ins acc).length ≤ acc.length + xs.length := by
    intro xs
    induction xs with
    | nil => intro acc h; exact ⟨h, fun k => by simp, Nat.le_refl _⟩
    | cons a xs ih =>
      intro acc h
      obtain ⟨i1, i2, i3⟩ := ih (ins acc a) (ins_nd h)
      refine ⟨i1, fun k => ?_, ?_⟩
      · rw [show (a :: xs).foldl ins acc = xs.foldl ins (ins acc a) from rfl, i2, ins_mem, List.mem_cons]
        constructor
        · rintro ((z | z) | z)
          · exact .inl z
          · exact .inr (.inl z)
          · exact .inr (.inr z)
        · rintro (z | z | z)
          · exact .inl (.inl z)
          · exact .inl (.inr z)
          · exact .inr z
      · have := ins_len acc a
        rw [show (a :: xs).foldl ins acc = xs.foldl ins (ins acc a) from rfl, List.length_cons]
        omega
  obtain ⟨h1, h2, h3⟩ := main xs [] List.nodup_nil
  exact ⟨h1, fun k => by rw [dedup, h2]; simp, by show (xs.foldl ins []).length ≤ _; simpa using h3⟩
theorem take_snoc {xs : List Int} {i : Nat} {k : Int} (h : xs[i]? = some k) : xs.take (i + 1) = xs.take i ++ [k] := by
  rw [List.take_add_one, h]
  rfl
theorem r_dcD {K : PySem.W.Frag} {H : Hp} {Q : VK} {l : Addr} {xs : List Int} {x0 x2 x3 x4 x5 x6 : Option V} (hl : H l = some (.lst (xs.map V.int))) (few : xs.length ≤ 1000) (q : ∀ D H', H D = none → Same H H' → H' D = some (.dK (tkD (dedup xs))) → Q (.ref D) H') :
    tDc (iList K (tVar 1)) (gName 4) tYes (tVar 4) (tC (.bl true)) (List.map (fun x => x.snd) [(("state" : Str), 4)]) [x0, some (.ref l), x2, x3, x4, x5, x6] H Q := by
  refine ⟨_, rfl, l, rfl, ⟨_, SqL.of hl⟩, fun D nD => ?_⟩
  refine ⟨fun i m H' => m = xs.length - i ∧ i ≤ xs.length ∧ Same H H' ∧ H' D = some (.dK (tkD (dedup (xs.take i)))), ⟨_, rfl, Nat.zero_le _, same_new nD, upd_same⟩, ?_⟩
  rintro i m H' ⟨rfl, hi, sm, eD⟩
  by_cases lt : i < xs.length
  · refine .inr ⟨⟨_, .int xs[i], SqL.of (sm _ _ hl), by simp [lt]⟩, fun H2 => Same H H2 ∧ H2 D = some (.dK (tkD (dedup (xs.take (i + 1))))), fun H2 p => ⟨_, by omega, rfl, lt, p⟩, fun x H2 y => ?_⟩
    obtain ⟨rfl, hx⟩ := y
    have hx' := hx _ (SqL.of (sm _ _ hl))
    rw [List.getElem?_map, List.getElem?_eq_getElem lt] at hx'
    obtain rfl : V.int xs[i] = x := Option.some.inj hx'
    refine ⟨rfl, KD.r_yes (iteT ⟨_, rfl, tkD (dedup (xs.take i)), Sum.inl xs[i], rfl, eD, ?_, same_mut sm nD, ?_⟩)⟩
    · have h1 := (dedup_ok (xs.take i)).2.2
      rw [List.length_take] at h1
      rw [tkD_len]
      exact small1000' (by omega)
    · rw [upd_same, putD, take_snoc (List.getElem?_eq_getElem lt), dedup_snoc]
  · obtain rfl : i = xs.length := by omega
    rw [List.take_length] at eD
    exact .inl ⟨⟨_, SqL.of (sm _ _ hl), by simp⟩, q D H' nD sm eD⟩
/-! ### what the program's defs say -/
def spWD (C : Addr) : Sp := fun vs H Q _ => ∃ (k l : Addr) (r w d : Str) (q : Bool) (xs : List Int), vs = [.ref k, .ref l, .bl q] ∧ KindAt C H k r w d ∧ d ∈ DV ∧ H l = some (.lst (xs.map V.int)) ∧ (∀ k ∈ xs, k ∈ S4) ∧ xs.length ≤ 100 ∧
  ∀ H' a, Same H H' → H' a = some (.tup ((wdl d q xs).map V.int)) → Q (.ref a) H'
def spAL (C : Addr) : Sp := fun vs H Q _ => ∃ (k : Addr) (r w d : Str) (s : Int) (c : Nat), vs = [.ref k, .int s, .str (sign c)] ∧ KindAt C H k r w d ∧ isLet c ∧ Q (.int (afterL r w c s)) H
def spLonger (C : Addr) : Sp := fun vs H Q _ => ∃ (k e : Addr) (r w d : Str) (c : Nat) (q : Bool) (rows : List (List Int)), vs = [.ref k, .ref e, .str (sign c), .bl q] ∧ KindAt C H k r w d ∧ r ∈ RD ∧ w ∈ WR ∧ d ∈ DV ∧ isLet c ∧ RowsAt H e rows ∧ rows.length ≤ 4 ∧ (∀ row ∈ rows, row.length ≤ 4 ∧ ∀ k ∈ row, k ∈ S4) ∧
  ∀ H' a, Same H H' → RowsAt H' a (rows.map fun row => stepRow r w d q row c) → Q (.ref a) H'
/-- the loop's word: what is found, what waits -/
structure Search (d : Str) (xs ks ws : List Int) : Prop where
  nd : ks.Nodup
  s4 : ∀ k ∈ ks, k ∈ S4
  has : ∀ k ∈ xs, k ∈ ks
  sub : ∀ k ∈ ws, k ∈ ks
  todo : ∀ k ∈ ks, k ∈ ws ∨ ∀ e ∈ deedsOf d k, e ∈ ks
  only : ∀ k ∈ ks, k ∈ clo d xs
theorem nodup_len : ∀ (a b : List Int), a.Nodup → (∀ x ∈ a, x ∈ b) → a.length ≤ b.length
  | [], b, _, _ => Nat.zero_le _
  | x :: a, b, nd, h => by
    have nx := List.nodup_cons.mp nd
    have mx := h x (List.mem_cons_self ..)
    have ih := nodup_len a (b.erase x) nx.2 fun y m => (List.mem_erase_of_ne (fun (e : y = x) => nx.1 (by rw [← e]; exact m))).mpr (h y (List.mem_cons_of_mem _ m))
    rw [List.length_erase_of_mem mx] at ih
    have := List.length_pos_of_mem mx
    rw [List.length_cons]
    omega
theorem Search.len {d : Str} {xs ks ws : List Int} (h : Search d xs ks ws) : ks.length ≤ 4 := nodup_len ks S4 h.nd h.s4
theorem ins_new {ks : List Int} {e : Int} (h : ¬ e ∈ ks) : (ins ks e).length = ks.length + 1 := by
  unfold ins
  rw [if_neg h]
  simp
theorem Search.start {d : Str} {xs : List Int} (hd : d ∈ DV) (hs : ∀ k ∈ xs, k ∈ S4) : Search d xs (dedup xs) xs := by
  obtain ⟨h1, h2, h3⟩ := dedup_ok xs
  exact ⟨h1, fun k m => hs k ((h2 k).mp m), fun k m => (h2 k).mpr m, fun k m => (h2 k).mpr m, fun k m => .inl ((h2 k).mp m), fun k m => (mem_clo hd hs).mpr (.inl ((h2 k).mp m))⟩
theorem Search.done {d : Str} {xs ks : List Int} (hd : d ∈ DV) (hs : ∀ k ∈ xs, k ∈ S4) (h : Search d xs ks []) (k : Int) : k ∈ ks ↔ k ∈ clo d xs := by
  refine ⟨h.only k, fun m => ?_⟩
  rcases (mem_clo hd hs).mp m with m | ⟨j, hj, e⟩
  · exact h.has k m
  · rcases h.todo j (h.has j hj) with z | z
    · exact absurd z List.not_mem_nil
    · exact z k e
/-- the end found is new, or known -/
theorem Search.step {d : Str} {xs ks ws : List Int} {k : Int} (hd : d ∈ DV) (hs : ∀ k ∈ xs, k ∈ S4) (h : Search d xs ks (ws ++ [k])) (e : Int) (he : deedsOf d k = [e]) : Search d xs (ins ks e) (if e ∈ ks then ws else ws ++ [e]) := by
  have hk := h.sub k (by simp)
  have me : e ∈ deedsOf d k := by rw [he]; exact List.mem_singleton_self _
  refine ⟨ins_nd h.nd, fun j m => ?_, fun j m => ins_mem.mpr (.inl (h.has j m)), fun j m => ?_, fun j m => ?_, fun j m => ?_⟩
  · rcases ins_mem.mp m with m | rfl
    · exact h.s4 j m
    · exact deeds_s4 hd (h.s4 k hk) j me
  · by_cases z : e ∈ ks
    · rw [if_pos z] at m
      exact ins_mem.mpr (.inl (h.sub j (List.mem_append_left _ m)))
    · rw [if_neg z] at m
      rcases List.mem_append.mp m with m | m
      · exact ins_mem.mpr (.inl (h.sub j (List.mem_append_left _ m)))
      · exact ins_mem.mpr (.inr (List.mem_singleton.mp m))
  · rcases ins_mem.mp m with m | rfl
    · rcases h.todo j m with z | z
      · rcases List.mem_append.mp z with z | z
        · refine .inl ?_
          split
          · exact z
          · exact List.mem_append_left _ z
        · rw [List.mem_singleton.mp z, he]
          exact .inr fun y hy => by rw [List.mem_singleton.mp hy]; exact ins_mem.mpr (.inr rfl)
      · exact .inr fun y hy => ins_mem.mpr (.inl (z y hy))
    · by_cases z : j ∈ ks
      · rw [if_pos z]
        rcases h.todo j z with y | y
        · rcases List.mem_append.mp y with y | y
          · exact .inl y
          · have ej := List.mem_singleton.mp y
            rw [ej] at he
            rw [ej, he]
            exact .inr fun y hy => by rw [List.mem_singleton.mp hy]; exact ins_mem.mpr (.inl hk)
        · exact .inr fun y' hy => ins_mem.mpr (.inl (y y' hy))
      · rw [if_neg z]
        exact .inl (List.mem_append_right _ (List.mem_singleton_self _))
  · rcases ins_mem.mp m with m | rfl
    · exact h.only j m
    · exact clo_deeds hd hs (h.only k hk) me
theorem Search.skip {d : Str} {xs ks ws : List Int} {k : Int} (h : Search d xs ks (ws ++ [k])) (he : deedsOf d k = []) : Search d xs ks ws := by
  refine ⟨h.nd, h.s4, h.has, fun j m => h.sub j (List.mem_append_left _ m), fun j m => ?_, h.only⟩
  rcases h.todo j m with z | z
  · rcases List.mem_append.mp z with z | z
    · exact .inl z
    · rw [List.mem_singleton.mp z, he]
      exact .inr fun y hy => absurd hy List.not_mem_nil
  · exact .inr z
theorem keys_tk (ks : List Int) : (tkD ks).map (fun kv => kV kv.1) = ks.map V.int := by
  unfold tkD
  rw [List.map_map]
  rfl
theorem deeds_cases (d : Str) (k : Int) : deedsOf d k = [] ∨ ∃ e, deedsOf d k = [e] := by
  have h := deeds_len d k
  match hh : deedsOf d k, h with
  | [], _ => exact .inl rfl
  | [e], _ => exact .inr ⟨e, rfl⟩


section
variable {P : Program} {w : World} {K : PySem.W.Frag} {mg : Str → Option Value} {base : Heap}
theorem ok_wd {f C : Addr} {fd : FuncData} (F : Fun K "with_deeds" "with_deeds" s_with_deeds f fd) (T : Txt mg) (c_Kind_deeds : CalleeM P w K mg base CX0 1 C "deeds" ["self", "state"] (spDeedsK C)) : FnOk P w K mg base CX0 3 f fd ["kind", "states", "quiet"] (spWD C) := by
  refine F.ok sc_with_deeds (fun vs H Q E h => ?_) (fun cdv A outer s H vs Q E hr h => ?_)
  · obtain ⟨k, l, r, w, d, q, xs, rfl, _⟩ := h
    rfl
  · obtain ⟨k, l, r, wr, d, qu, xs, rfl, kd, hd, hl, hs, few, q⟩ := h
    refine ⟨_, (pss_cons (KU.ps_setDc (i := 3) (own := [("state", 4)]) (g := gName 4) (tt := tYes) (by rfl) sc_with_deeds.nd rfl rfl (KU.sw_dict rfl rfl rfl (by decide +kernel)) (pi_list (pv 1)) (blkOk_by (own := [("state", 4)]) (N := ["kind", "states", "quiet", "found", "state", "waiting", "end"]) (sc := defScope s_with_deeds) (by decide +kernel)) (fun _ _ _ _ _ => (pg_name (i := 4) sc_with_deeds.nd rfl (by first | exact Or.inl rfl | exact Or.inr rfl))) (fun _ _ _ _ _ => pts_nil) (fun _ _ _ _ _ => (pv 4)) (fun _ _ _ _ _ => pe_bl))
 (Evl.pss_cut (ps_set (i := 5) sc_with_deeds.nd rfl (by first | exact Or.inl rfl | exact Or.inr rfl) (pe_ifExp (pt_val (pv 2)) (pe_lst pa_nil) (pe_callTy call_list_of (by rfl) T.z_list (by decide +kernel) (pa_cons (pv 1) pa_nil))))
 (pss_cons (ps_while PassesOwn.never (pt_cmpR (op_neD hr.units) (pv 5) (pe_lst pa_nil) (nomark _))
 (pss_one (ps_for PassesOwn.never rfl (pi_tup (pe_methC c_Kind_deeds (pv 0) (hr.mono (by decide)) pass0 (pa_cons (pe_bm0 PySem.F.plainAttrs_list PySem.F.slot_list_pop PySem.F.type_list_pop mt_pop (pv 5)) pa_nil))) (pg_name (i := 6) sc_with_deeds.nd rfl (by first | exact Or.inl rfl | exact Or.inr rfl))
 (pss_one (ps_if (pt_cmp (pc_dnotin (hu_of hr) (pv 6) (pv 3))) (pss_cons (ps_dput (hu_of hr) (pv 3) (pv 6) pe_bl rfl)
 (pss_one (ps_expr (pe_bm PySem.F.plainAttrs_list PySem.F.slot_list_append PySem.F.type_list_append mt_append (pv 5) (pa_cons (pv 6) pa_nil)))))
 pss_nil)))))
 (pss_one (ps_ret (pe_callTy call_tuple_of (by rfl) T.z_tuple (by decide +kernel) (pa_cons (pe_callB cr_sortedI (by rfl) T.z_sorted (by decide +kernel) (pa_cons (pe_callTy (call_listD rfl) (by rfl) T.z_list (by decide +kernel) (pa_cons (pv 3) pa_nil)) pa_nil)) pa_nil))))))), at_start (σ := [some (.ref k), some (.ref l), some (.bl qu), none, none, none, none]) rfl ?_⟩
    try dsimp only [cx_K]
    walk_at "rd"
    refine r_dcD hl (by omega) fun D H1 nD s1 eD => ?_
    obtain ⟨dx, st, hk, hst⟩ := id kd
    refine ⟨fun σ' H' => ∃ W, σ' = [some (.ref k), some (.ref l), some (.bl qu), some (.ref D), none, some (.ref W), none] ∧ Same H H' ∧ H W = none ∧ W ≠ D ∧ H' D = some (.dK (tkD (dedup xs))) ∧ H' W = some (.lst ((if qu = true then [] else xs).map V.int)), ?_, ?_⟩
    · walk_at "rd"
      refine r_iteB (fun e => ?_) (fun e => ?_)
      · subst e
        walk_at "rd"
        refine ⟨by walk_at "sz", fun W nW => ?_⟩
        exact ⟨W, rfl, s1.trans (same_new nW), s1.free nW, (ne_of_none eD nW).symm, upd_new nW eD, upd_same⟩
      · subst e
        walk_at "rd"
        refine ⟨l, _, rfl, .inl (SqL.of (s1 _ _ hl)), fun W nW => ?_⟩
        exact ⟨W, rfl, s1.trans (same_new nW), s1.free nW, (ne_of_none eD nW).symm, upd_new nW eD, upd_same⟩
    rintro σ' H2 ⟨W, rfl, s2, nW, nWD, eD2, eW2⟩
    have fin : ∀ ks H3, Same H H3 → H3 D = some (.dK (tkD ks)) → ks.Nodup → (∀ k ∈ ks, k ∈ S4) → (∀ j, j ∈ ks ↔ j ∈ wdl d qu xs) → ∀ y6, tRet
          (tCB
            (fun xs H Q =>
              ∃ p ys,
                xs = [V.ref p] ∧
                  ((SqL K H p ys ∧ ∀ (l : Addr), H l = none → Q (V.ref l) (upd H l (HO.tup ys))) ∨
                    SqT K H p ys ∧ Q (V.ref p) H))
            (tCons
              (tCB (rSortedI K)
                (tCons
                  (tCB
                    (fun xs H Q =>
                      ∃ a kvs,
                        xs = [V.ref a] ∧
                          Rd H a (HO.dK kvs) ∧
                            ∀ (p : Addr),
                              H p = none → Q (V.ref p) (upd H p (HO.lst (List.map (fun kv => kV kv.fst) kvs))))
                    (tCons (tVar 3) tNil))
                  tNil))
              tNil)) { nx := fun x H' => Q V.non H', rt := Q } [some (.ref k), some (.ref l), some (.bl qu), some (.ref D), none, some (.ref W), y6] H3 := by
      intro ks H3 s3 e3 nd h4 hm y6
      walk_at "rd"
      refine ⟨D, _, rfl, .inl e3, fun p np => ?_⟩
      rw [keys_tk]
      walk_at "rd"
      refine ⟨p, ks, rfl, SqL.of upd_same, fun ns p2 pm pw np2 => ?_⟩
      have en : ns = wdl d qu xs := by
        have z : ns = norm (wdl d qu xs) := norm_le wdl_s4 pw (pm.nodup_iff.mpr nd) fun j => by rw [pm.mem_iff]; exact hm j
        rw [z]
        refine (norm_is wdl_s4 ?_ fun _ => Iff.rfl).symm
        unfold wdl clo
        split <;> exact norm_lt _
      rw [en]
      walk_at "rd"
      refine ⟨p2, _, rfl, .inl ⟨SqL.of upd_same, fun p3 np3 => ?_⟩⟩
      exact q _ p3 (((s3.trans (same_new np)).trans (same_new np2)).trans (same_new np3)) upd_same
    walk_at "rd"
    refine ⟨fun m σ' H' => ∃ ks ws y6, σ' = [some (.ref k), some (.ref l), some (.bl qu), some (.ref D), none, some (.ref W), y6] ∧ Same H H' ∧ H' D = some (.dK (tkD ks)) ∧ H' W = some (.lst (ws.map V.int)) ∧ m = 2 * (4 - ks.length) + ws.length ∧ m ≤ 200 ∧ ((qu = true ∧ ws = [] ∧ ks = dedup xs) ∨ (qu = false ∧ Search d xs ks ws)), ⟨_, dedup xs, (if qu = true then [] else xs), none, rfl, s2, eD2, eW2, rfl, ?_, ?_⟩, ?_⟩
    · split
      · simp only [List.length_nil]; omega
      · omega
    · cases qu with
      | true => exact .inl ⟨rfl, rfl, rfl⟩
      | false => exact .inr ⟨rfl, Search.start hd hs⟩
    rintro m σ' H3 ⟨ks, ws, y6, rfl, s3, eD3, eW3, rfl, hm, inv⟩
    walk_at "rd"
    refine ⟨by walk_at "sz", fun c0 n0 => ?_⟩
    refine r_neInts (ns := ws) (ms := []) (SqL.of (upd_new n0 eW3)) (SqL.of upd_same) ?_
    walk_at "rd"
    have s4 := s3.trans (same_new (o := .lst []) n0)
    have eD4 := upd_new (o := .lst []) n0 eD3
    have eW4 := upd_new (o := .lst []) n0 eW3
    generalize upd H3 c0 (.lst []) = H4 at s4 eD4 eW4 ⊢
    clear n0 s3 eD3 eW3
    refine r_iteN2 (fun hne => ?_) (fun hne => ?_)
    rotate_left
    · subst hne
      rcases inv with ⟨rfl, _, rfl⟩ | ⟨rfl, se⟩
      · obtain ⟨d1, d2, d3⟩ := dedup_ok xs
        exact fin _ _ s4 eD4 d1 (fun j m => hs j ((d2 j).mp m)) (fun j => by rw [d2]; exact (norm_sub hs).symm) _
      · exact fin _ _ s4 eD4 se.nd se.s4 (fun j => se.done hd hs j) _
    obtain ⟨rfl, se⟩ : qu = false ∧ Search d xs ks ws := by
      rcases inv with ⟨_, rfl, _⟩ | z
      · exact absurd rfl hne
      · exact z
    clear inv fin
    obtain ⟨ws0, kk, rfl⟩ : ∃ ws0 kk, ws = ws0 ++ [kk] := ⟨ws.dropLast, ws.getLast hne, (List.dropLast_concat_getLast hne).symm⟩
    have hl0 : (ws0 ++ [kk]).length = ws0.length + 1 := by simp
    refine ⟨fun σ' H' => ∃ m', m' < 2 * (4 - ks.length) + (ws0 ++ [kk]).length ∧ ∃ ks ws y6, σ' = [some (.ref k), some (.ref l), some (.bl false), some (.ref D), none, some (.ref W), y6] ∧ Same H H' ∧ H' D = some (.dK (tkD ks)) ∧ H' W = some (.lst (ws.map V.int)) ∧ m' = 2 * (4 - ks.length) + ws.length ∧ m' ≤ 200 ∧ ((false = true ∧ ws = [] ∧ ks = dedup xs) ∨ (false = false ∧ Search d xs ks ws)), fun σ' H' z => z, ?_⟩
    walk_at "rd"
    refine ⟨k, dx, _, rfl, s4 _ _ hk, rfl, ?_⟩
    walk_at "rd"
    refine ⟨_, rfl, .inl ⟨rfl, _, SqL.of eW4⟩, W, _, .int kk, rfl, rfl, eW4, by simp, ?_⟩
    have ed : ((ws0 ++ [kk]).map V.int).dropLast = ws0.map V.int := by rw [List.map_append]; exact List.dropLast_concat
    rw [ed]
    have s5 := same_mut (o := .lst (ws0.map V.int)) s4 nW
    have eD5 : upd H4 W (.lst (ws0.map V.int)) D = some (.dK (tkD ks)) := by rw [upd_ne nWD.symm]; exact eD4
    have eW5 : upd H4 W (.lst (ws0.map V.int)) W = some (.lst (ws0.map V.int)) := upd_same
    generalize upd H4 W (.lst (ws0.map V.int)) = H5 at s5 eD5 eW5 ⊢
    clear s4 eD4 eW4
    walk_at "rd"
    refine ⟨k, r, wr, d, kk, rfl, kd.up s5, hd, fun H6 a s6 ea => ?_⟩
    have s6' := s5.trans s6
    have eD6 := s6 _ _ eD5
    have eW6 := s6 _ _ eW5
    refine ⟨a, rfl, ⟨_, SqT.of ea⟩, ?_⟩
    rcases deeds_cases d kk with e0 | ⟨e, e1⟩
    · rw [e0] at ea
      refine forW (walk_tup (xs := [])) (fun i σ' H' => σ' = [some (.ref k), some (.ref l), some (.bl false), some (.ref D), none, some (.ref W), y6] ∧ H' = H6) ⟨rfl, rfl⟩ (fun i σ' H' _ z => by rw [z.2]; exact SqT.of ea) (fun i x σ' H' H'' hi _ _ => absurd hi (by simp)) ?_
      rintro σ' H' ⟨rfl, rfl⟩
      exact ⟨_, by rw [hl0]; omega, ks, ws0, _, rfl, s6', eD6, eW6, rfl, by omega, .inr ⟨rfl, se.skip e0⟩⟩
    · rw [e1] at ea
      have nD' : H D = none := nD
      have naD : a ≠ D := fun z => by rw [z, eD6] at ea; cases ea
      have naW : a ≠ W := fun z => by rw [z, eW6] at ea; cases ea
      have kl := se.len
      refine forW (walk_tup (xs := [.int e])) (fun i σ' H' => ∃ y6, σ' = [some (.ref k), some (.ref l), some (.bl false), some (.ref D), none, some (.ref W), y6] ∧ Same H H' ∧ H' a = some (.tup [.int e]) ∧ H' D = some (.dK (tkD (if i = 0 then ks else ins ks e))) ∧ H' W = some (.lst ((if i = 0 then ws0 else if e ∈ ks then ws0 else ws0 ++ [e]).map V.int))) ⟨_, rfl, s6', ea, eD6, eW6⟩ (fun i σ' H' _ ⟨_, _, _, z, _⟩ => SqT.of z) ?_ ?_
      · rintro i x σ' H7 H7' hi ⟨y, rfl, s7, ea7, eD7, eW7⟩ ⟨rfl, hx⟩
        obtain rfl : i = 0 := by simpa using hi
        obtain rfl : V.int e = x := by simpa using hx
        rw [if_pos rfl] at eD7 eW7
        walk_at "rd"
        refine ⟨_, rfl, _, rfl, D, _, rfl, DGet.k (k := .inl e) eD7, _, rfl, ?_⟩
        rw [valD]
        by_cases z : e ∈ ks
        · rw [if_pos z]
          refine iteF ?_
          walk_at "rd"
          refine ⟨_, rfl, s7, ea7, ?_, ?_⟩
          · rw [if_neg (by decide)]
            unfold ins
            rw [if_pos z]
            exact eD7
          · rw [if_neg (by decide), if_pos z]
            exact eW7
        · rw [if_neg z]
          refine iteT ?_
          walk_at "rd"
          refine ⟨D, _, rfl, DPut.k (k := .inl e) eD7 (by rw [tkD_len]; exact small1000' (by omega)), ?_⟩
          rw [putD]
          have eW8 : upd H7' D (.dK (tkD (ins ks e))) W = some (.lst (ws0.map V.int)) := by rw [upd_ne nWD]; exact eW7
          walk_at "rd"
          refine r_append eW8 (small1000' (by rw [List.length_map]; omega)) ?_
          refine ⟨_, rfl, same_mut (same_mut s7 nD') nW, ?_, ?_, ?_⟩
          · rw [upd_ne naW, upd_ne naD]; exact ea7
          · rw [upd_ne nWD.symm, upd_same, if_neg (by decide)]
          · rw [upd_same, if_neg (by decide), if_neg z, List.map_append]; rfl
      · rintro σ' H7 ⟨y, rfl, s7, ea7, eD7, eW7⟩
        rw [show ([V.int e] : List V).length = 1 from rfl, if_neg (by decide)] at eD7 eW7
        refine ⟨_, ?_, ins ks e, (if e ∈ ks then ws0 else ws0 ++ [e]), _, rfl, s7, eD7, eW7, rfl, ?_, .inr ⟨rfl, se.step hd hs e e1⟩⟩
        all_goals
          by_cases z : e ∈ ks
          · rw [if_pos z]
            unfold ins
            rw [if_pos z]
            omega
          · have l2 := (se.step hd hs e e1).len
            have l3 := ins_new z
            rw [if_neg z, l3, List.length_append, List.length_singleton]
            omega
end
end K17


namespace K17
open PySem L2 KB KO KV
theorem sign_r : ("r" : Str) = sign 114 := by decide +kernel
theorem sign_inj {a b : Nat} (h : sign a = sign b) : a = b := by
  have : #[a] = #[b] := congrArg Str.cps h
  simpa using this
theorem int_sign {c : Nat} (h : isLet c) (n : ¬ c = 114) : PySem.intText? (sign c) = some (bitOf c) := by
  rcases h with rfl | rfl | rfl
  · decide +kernel
  · decide +kernel
  · exact absurd rfl n
/-- rows that are made one by one, in a list -/
def MadeRows (H : Hp) (F : Addr) (rows : List (List Int)) (n : Nat) : Prop := ∃ qs : List Addr, H F = some (.lst (qs.map V.ref)) ∧ qs.length = n ∧ ∀ (j : Nat) (p : Addr) (row : List Int), qs[j]? = some p → rows[j]? = some row → H p = some (.tup (row.map V.int))
theorem MadeRows.up {H H' : Hp} {F : Addr} {rows : List (List Int)} {n : Nat} (h : MadeRows H F rows n) (s : Same H H') : MadeRows H' F rows n := by
  obtain ⟨qs, e, l, r⟩ := h
  exact ⟨qs, s _ _ e, l, fun j p row h1 h2 => s _ _ (r j p row h1 h2)⟩
theorem MadeRows.push {H : Hp} {F a : Addr} {rows : List (List Int)} {row : List Int} {n : Nat} {xs : List V} (h : MadeRows H F rows n) (hF : H F = some (.lst xs)) (hr : rows[n]? = some row) (ha : H a = some (.tup (row.map V.int))) : MadeRows (upd H F (.lst (xs ++ [.ref a]))) F rows (n + 1) := by
  obtain ⟨qs, e, l, r⟩ := h
  obtain rfl : xs = qs.map V.ref := by rw [hF] at e; cases e; rfl
  have ne : ∀ {p : Addr} {ys : List V}, H p = some (.tup ys) → p ≠ F := fun {p ys} z y => by rw [y, hF] at z; cases z
  refine ⟨qs ++ [a], by rw [upd_same, List.map_append]; rfl, by simp [l], fun j p row' h1 h2 => ?_⟩
  by_cases lt : j < qs.length
  · rw [List.getElem?_append_left lt] at h1
    have z := r j p row' h1 h2
    rw [upd_ne (ne z)]
    exact z
  · rw [List.getElem?_append_right (by omega)] at h1
    have h0 : j - qs.length = 0 := by
      cases q : j - qs.length with
      | zero => rfl
      | succ m => rw [q] at h1; simp at h1
    rw [h0] at h1
    obtain rfl : a = p := by simpa using h1
    obtain rfl : j = n := by omega
    rw [hr] at h2
    cases h2
    rw [upd_ne (ne ha)]
    exact ha
theorem MadeRows.rows {H : Hp} {F a : Addr} {rows : List (List Int)} {xs : List V} (h : MadeRows H F rows rows.length) (hF : H F = some (.lst xs)) (ha : H a = none) : RowsAt (upd H a (.tup xs)) a rows := by
  obtain ⟨qs, e, l, r⟩ := h
  obtain rfl : xs = qs.map V.ref := by rw [hF] at e; cases e; rfl
  exact ⟨qs, upd_same, l, fun j p row h1 h2 => upd_new ha (r j p row h1 h2)⟩
theorem getD_mem {xs : List Int} {i : Nat} (h : i < xs.length) : xs.getD i 0 ∈ xs := by
  rw [List.getD_eq_getElem?_getD, List.getElem?_eq_getElem h]
  exact List.getElem_mem h


section
variable {P : Program} {w : World} {K : PySem.W.Frag} {mg : Str → Option Value} {base : Heap}
theorem ok_al {f C : Addr} {fd : FuncData} (F : Fun K "after_letter" "after_letter" s_after_letter f fd) (T : Txt mg) (c_Kind_after_read : CalleeM P w K mg base CX0 1 C "after_read" ["self", "state"] (spRead C)) (c_Kind_after_write : CalleeM P w K mg base CX0 2 C "after_write" ["self", "state", "bit"] (spWrite C)) :
    FnOk P w K mg base CX0 3 f fd ["kind", "state", "letter"] (spAL C) := by
  refine F.ok sc_after_letter (fun vs H Q E h => ?_) (fun cdv A outer s H vs Q E hr h => ?_)
  · obtain ⟨k, r, w, d, s, c, rfl, _⟩ := h
    rfl
  · obtain ⟨k, r, wr, d, s, c, rfl, kd, lc, q⟩ := h
    obtain ⟨dx, st, hk, hst⟩ := id kd
    refine ⟨_, (pss_cons (ps_if (pt_cmpR op_eq (pv 2) pe_str (nomark _)) (pss_one (ps_ret (pe_methC c_Kind_after_read (pv 0) (hr.mono (by decide)) pass0 (pa_cons (pv 1) pa_nil))))
 pss_nil)
 (pss_one (ps_ret (pe_methC c_Kind_after_write (pv 0) (hr.mono (by decide)) pass0 (pa_cons (pv 1) (pa_cons (pe_callTy call_int_str (by rfl) T.z_int (by decide +kernel) (pa_cons (pv 2) pa_nil)) pa_nil)))))), at_start (σ := [some (.ref k), some (.int s), some (.str (sign c))]) rfl ?_⟩
    try dsimp only [cx_K]
    unfold afterL at q
    walk_at "rd"
    refine r_iteS2 (fun h => ?_) (fun h => ?_)
    · rw [if_pos (sign_inj (h.trans sign_r))] at q
      walk_at "rd"
      refine ⟨k, dx, _, rfl, hk, rfl, ?_⟩
      walk_at "rd"
      exact ⟨k, r, wr, d, s, rfl, kd, q⟩
    · have nc : ¬ c = 114 := fun z => h (by rw [z, sign_r])
      rw [if_neg nc] at q
      walk_at "rd"
      refine ⟨k, dx, _, rfl, hk, rfl, ?_⟩
      walk_at "rd"
      refine ⟨_, _, rfl, int_sign lc nc, (by show 1 ≤ 640; decide), ?_⟩
      walk_at "rd"
      exact ⟨k, r, wr, d, s, bitOf c, rfl, kd, q⟩
theorem ok_longer {f C : Addr} {fd : FuncData} (F : Fun K "longer" "longer" s_longer f fd) (T : Txt mg) (c_after_letter : KB.Callee P w K mg base CX0 3 "after_letter" ["kind", "state", "letter"] (spAL C)) (c_with_deeds : KB.Callee P w K mg base CX0 3 "with_deeds" ["kind", "states", "quiet"] (spWD C)) :
    FnOk P w K mg base CX0 4 f fd ["kind", "ends", "letter", "quiet"] (spLonger C) := by
  refine F.ok sc_longer (fun vs H Q E h => ?_) (fun cdv A outer s H vs Q E hr h => ?_)
  · obtain ⟨k, e, r, w, d, c, q, rows, rfl, _⟩ := h
    rfl
  · obtain ⟨k, e, r, wr, d, c, qu, rows, rfl, kd, hr1, hw1, hd1, lc, ra, few, rok, q⟩ := h
    obtain ⟨ps, he, lp, hp⟩ := id ra
    refine ⟨_, (pss_cons (ps_set (i := 4) sc_longer.nd rfl (by first | exact Or.inl rfl | exact Or.inr rfl) (pe_lst pa_nil))
 (pss_cons (ps_for PassesOwn.never rfl (pi_tup (pv 1)) (pg_name (i := 5) sc_longer.nd rfl (by first | exact Or.inl rfl | exact Or.inr rfl))
 (pss_cons (ps_setLc (i := 6) (own := [("state", 7)]) (g := gName 7) (tt := tYes) (by rfl) sc_longer.nd rfl rfl (sw_true rfl rfl rfl (by decide +kernel)) (pi_tup (pv 5)) (blkOk_by (own := [("state", 7)]) (N := ["kind", "ends", "letter", "quiet", "found", "row", "states", "state"]) (sc := defScope s_longer) (by decide +kernel)) (fun _ _ _ _ _ => (pg_name (i := 7) sc_longer.nd rfl (by first | exact Or.inl rfl | exact Or.inr rfl))) (fun _ _ _ _ _ => pts_nil) (fun _ _ _ _ _ => (pe_callC c_after_letter (hr.mono (by decide)) (by rfl) pass0 (pa_cons (pv 0) (pa_cons (pv 7) (pa_cons (pv 2) pa_nil))))))
 (pss_one (ps_expr (pe_bm PySem.F.plainAttrs_list PySem.F.slot_list_append PySem.F.type_list_append mt_append (pv 4) (pa_cons (pe_callC c_with_deeds (hr.mono (by decide)) (by rfl) pass0 (pa_cons (pv 0) (pa_cons (pv 6) (pa_cons (pv 3) pa_nil)))) pa_nil))))))
 (pss_one (ps_ret (pe_callTy call_tuple_of (by rfl) T.z_tuple (by decide +kernel) (pa_cons (pv 4) pa_nil)))))), at_start (σ := [some (.ref k), some (.ref e), some (.str (sign c)), some (.bl qu), none, none, none, none]) rfl ?_⟩
    try dsimp only [cx_K]
    walk_at "rd"
    refine ⟨by walk_at "sz", fun L nL => ?_⟩
    walk_at "rd"
    have s1 := same_new (o := .lst []) nL
    refine ⟨e, rfl, ⟨_, SqT.of (s1 _ _ he)⟩, ?_⟩
    refine forW (walk_tup (xs := ps.map V.ref)) (fun i σ' H' => ∃ y5 y6, σ' = [some (.ref k), some (.ref e), some (.str (sign c)), some (.bl qu), some (.ref L), y5, y6, none] ∧ Same H H' ∧ MadeRows H' L (rows.map fun row => stepRow r wr d qu row c) i) ⟨_, _, rfl, s1, [], upd_same, rfl, fun j p row h1 _ => by simp at h1⟩ (fun i σ' H' _ ⟨_, _, _, z, _⟩ => SqT.of (z _ _ he)) ?_ ?_
    · rintro i x σ' H2 H2' hi ⟨y5, y6, rfl, s2, mr⟩ ⟨rfl, hx⟩
      rw [List.getElem?_map] at hx
      obtain ⟨p, hpi, rfl⟩ := Option.map_eq_some_iff.mp hx
      have hi2 : i < rows.length := by rw [← lp]; simpa using hi
      have hrow := List.getElem?_eq_getElem hi2
      have mrow : rows[i] ∈ rows := List.getElem_mem hi2
      have erow := hp i p _ hpi hrow
      generalize rows[i] = row at hrow mrow erow
      obtain ⟨rl, r4⟩ := rok row mrow
      walk_at "rd"
      refine ⟨p, rfl, ⟨_, SqT.of (s2 _ _ erow)⟩, ?_⟩
      refine lc_all (walk_tup (xs := row.map V.int)) (j := 7) (fun i => .int (row.getD i 0)) (fun _ => true) (fun i => .int (afterL r wr c (row.getD i 0))) (by rw [List.length_map]; omega) (fun i H x H' hi y => YAt_get hi y) (fun H' s => SqT.of (s _ _ (s2 _ _ erow))) (fun x => rfl) (fun i H' hi s QT q => q _ (Same.refl _)) (fun i H' hi _ s3 Q' q' => ?_) (fun D H3 nD s3 eD => ?_)
      · walk_at "rd"
        exact ⟨k, r, wr, d, row.getD i 0, c, rfl, (kd.up s2).up s3, lc, q' _ (Same.refl _)⟩
      rw [show (row.map V.int).length = row.length from List.length_map _, given_int row 0 (fun s => afterL r wr c s)] at eD
      obtain ⟨qs3, eL3, lq3, _⟩ := id (mr.up s3)
      walk_at "rd"
      refine ⟨k, D, r, wr, d, qu, row.map (afterL r wr c), rfl, (kd.up s2).up s3, hd1, eD, fun j m => ?_, by rw [List.length_map]; omega, fun H4 a s4 ea => ?_⟩
      · obtain ⟨z, hz, rfl⟩ := List.mem_map.mp m
        exact afterL_s4 hr1 hw1 lc (r4 z hz)
      have mr4 := (mr.up s3).up s4
      obtain ⟨qs, eL, lq, _⟩ := id mr4
      walk_at "rd"
      refine r_append eL (small1000' (by rw [List.length_map]; omega)) ?_
      refine ⟨_, _, rfl, same_mut ((s2.trans s3).trans s4) nL, ?_⟩
      exact mr4.push eL (by rw [List.getElem?_map, hrow]; rfl) ea
    · rintro σ' H2 ⟨y5, y6, rfl, s2, mr⟩
      rw [List.length_map, lp] at mr
      obtain ⟨qs, eL, lq, _⟩ := id mr
      walk_at "rd"
      refine ⟨L, _, rfl, .inl ⟨SqL.of eL, fun a na => ?_⟩⟩
      refine q _ a (s2.trans (same_new na)) ?_
      refine MadeRows.rows (by rw [List.length_map]; exact mr) eL na

end
end K17


namespace K17
open PySem L2 KB KO KV
/-- what the text's class Effect is -/
structure TxtF (K : PySem.W.Frag) (wd : World) (mg : Str → Option Value) (C dM CE : Addr) : Prop extends TxtM K wd mg C dM where
  cle : Cls K CE
  n_kind : NoAttr K CE "kind"
  n_ends : NoAttr K CE "ends"
  mg_Effect : mg "Effect" = some (.ref CE)
  g_LETTERS : ∃ tk, mg "LETTERS" = some (.str "01r" tk)
  g_MOST : ∃ tk, mg "MOST_LETTERS" = some (.int 40 tk)
  tyE : ∀ {H : Hp} {a dx : Addr} {fs : List (Str × V)}, H a = some (.ins CE dx fs) → TyX K H (.ref a) (.ref CE)
  isiE : PySem.W.kitOne K (.ref CE) (.ref CE) = some true
def Lets (z : Str) : Prop := z.cps.size ≤ 40 ∧ ∀ c ∈ z.cps.toList, isLet c
def flE (k e : Addr) : List (Str × V) := [("kind", .ref k), ("ends", .ref e)]
def EffAt (C CE : Addr) (H : Hp) (p : Addr) (r w d : Str) (rows : List (List Int)) : Prop := ∃ dx k e, H p = some (.ins CE dx (flE k e)) ∧ KindAt C H k r w d ∧ RowsAt H e rows
theorem EffAt.up {C CE : Addr} {H H' : Hp} {p : Addr} {r w d : Str} {rows : List (List Int)} (h : EffAt C CE H p r w d rows) (s : Same H H') : EffAt C CE H' p r w d rows := by
  obtain ⟨dx, k, e, h1, h2, h3⟩ := h
  exact ⟨dx, k, e, s _ _ h1, h2.up s, h3.up s⟩
def spNL : Sp := fun vs H Q _ => ∃ z, vs = [.str z] ∧ Lets z ∧ ∀ H', Same H H' → Q .non H'
def spEInit (CE : Addr) : Sp := fun vs H Q _ => ∃ (p dx k e : Addr), vs = [.ref p, .ref k, .ref e] ∧ H p = some (.ins CE dx []) ∧ ∀ H', H' p = some (.ins CE dx (flE k e)) → Keep p H H' → Q .non H'
def spOf (C CE : Addr) : Sp := fun vs H Q _ => ∃ (k : Addr) (r w d : Str) (z : Str) (q : Bool), vs = [.ref CE, .ref k, .str z, .bl q] ∧ KindAt C H k r w d ∧ r ∈ RD ∧ w ∈ WR ∧ d ∈ DV ∧ Lets z ∧ ∀ H' p, Same H H' → EffAt C CE H' p r w d (rowsOf r w d q z.cps.toList) → Q (.ref p) H'
def spECall (C CE : Addr) : Sp := fun vs H Q _ => ∃ (p : Addr) (r w d : Str) (rows : List (List Int)) (n : Nat) (row : List Int), vs = [.ref p, .int n] ∧ EffAt C CE H p r w d rows ∧ rows[n]? = some row ∧ ∀ a, H a = some (.tup (row.map V.int)) → Q (.ref a) H
def spEEq (C CE : Addr) : Sp := fun vs H Q _ => ∃ (p p' : Addr) (r w d r' w' d' : Str) (rows rows' : List (List Int)), vs = [.ref p, .ref p'] ∧ EffAt C CE H p r w d rows ∧ EffAt C CE H p' r' w' d' rows' ∧ Q (.bl (decide ((r = r' ∧ w = w' ∧ d = d') ∧ rows = rows'))) H
theorem cutS_all {z : Str} {n : Nat} (h : z.cps.size ≤ n) : cutS z none (some (n : Int)) = z := by
  unfold cutS
  rw [HT.sIx_none, HT.sIx_nat, List.drop_zero, Nat.sub_zero, Nat.min_eq_right (show z.length ≤ n from h)]
  have e : z.cps.toList.take z.length = z.cps.toList := List.take_of_length_le (by show z.cps.toList.length ≤ z.cps.size; simp)
  rw [e]
theorem sign_in {c : Nat} (h : isLet c) : decide (c ∈ (Str.ofString "01r").cps.toList) = true := by
  rcases h with rfl | rfl | rfl <;> decide +kernel


section
variable {P : Program} {w : World} {K : PySem.W.Frag} {mg : Str → Option Value} {base : Heap}
theorem ok_nl {f C dM CE : Addr} {fd : FuncData} (F : Fun K "need_letters" "need_letters" s_need_letters f fd) (T : TxtF K w mg C dM CE) : FnOk P w K mg base CX0 1 f fd ["letters"] spNL := by
  refine F.ok sc_need_letters (fun vs H Q E h => ?_) (fun cdv A outer s H vs Q E hr h => ?_)
  · obtain ⟨z, rfl, _⟩ := h
    rfl
  · obtain ⟨z, rfl, ⟨lz, hz⟩, q⟩ := h
    obtain ⟨tk1, gLT⟩ := T.g_LETTERS
    obtain ⟨tk2, gML⟩ := T.g_MOST
    refine ⟨_, (pss_cons (ps_if (pt_not (pt_val (pe_callB call_isi (by rfl) T.z_isinstance (by decide +kernel) (pa_cons (pv 0) (pa_cons (pe_bltn (v := .ty "str") (by rfl) T.z_str (by decide +kernel) rfl) pa_nil))))) (pss_one ps_never)
 pss_nil)
 (pss_cons (ps_for PassesOwn.never rfl (KT.pi_enumS (by rfl) T.z_enumerate (pa_cons (pe_slice sl_str (pv 0) po_none (po_some (pe_glob (v := .int _) (by rfl) gML ⟨_, rfl⟩))) pa_nil)) (pg_tup rfl (pgs_cons (pg_name (i := 1) sc_need_letters.nd rfl (by first | exact Or.inl rfl | exact Or.inr rfl)) (pgs_cons (pg_name (i := 2) sc_need_letters.nd rfl (by first | exact Or.inl rfl | exact Or.inr rfl)) pgs_nil)))
 (pss_one (ps_if (pt_cmpR op_notIn_sign (pv 2) (pe_glob (v := .str _) (by rfl) gLT ⟨_, rfl⟩) (by rfl)) (pss_one ps_never)
 pss_nil)))
 (pss_one (ps_if (pt_cmpR op_gt (pe_callB call_len_str (by rfl) T.z_len (by decide +kernel) (pa_cons (pv 0) pa_nil)) (pe_glob (v := .int _) (by rfl) gML ⟨_, rfl⟩) (nomark _)) (pss_one ps_never)
 pss_nil)))), at_start (σ := [some (.str z), none, none]) rfl ?_⟩
    try dsimp only [cx_K]
    walk_at "rd"
    refine r_isiS ?_
    walk_at "rd"
    refine KU.r_enumS ?_
    walk_at "rd"
    refine KS.r_sls (Nat.le_trans (show z.length ≤ 40 from lz) (by decide)) ?_
    rw [show (40 : Int) = ((40 : Nat) : Int) from rfl, cutS_all lz]
    walk_at "rd"
    refine ⟨z, rfl, ?_⟩
    refine forW KT.walk_enumS (fun i σ' H' => ∃ y1 y2, σ' = [some (.str z), y1, y2] ∧ Same H H') ⟨_, _, rfl, Same.refl _⟩ (fun _ _ _ _ _ => trivial) ?_ ?_
    · rintro i x σ' H1 H2 hi ⟨y1, y2, rfl, s1⟩ ⟨t, c, rfl, nt, rfl, hc⟩
      have lc : isLet c := hz c (List.mem_of_getElem? (by rw [Array.getElem?_toList]; exact hc))
      refine r_gtup (SqT.of upd_same) rfl ?_
      walk_at "rd"
      refine ⟨c, _, rfl, rfl, ?_⟩
      rw [sign_in lc]
      walk_at "rd"
      exact ⟨_, _, rfl, s1.trans (same_new nt)⟩
    · rintro σ' H1 ⟨y1, y2, rfl, s1⟩
      walk_at "rd"
      refine ⟨z, rfl, Nat.le_trans (show z.length ≤ 40 from lz) (by decide), ?_⟩
      walk_at "rd"
      refine r_iteF (by have : z.length ≤ 40 := lz; omega) ?_
      walk_at "rd"
      exact q _ s1
theorem ok_einit {f C dM CE : Addr} {fd : FuncData} {k : Nat} (F : Fun K "__init__" "Effect.__init__" s_Effect___init__ f fd) (T : TxtF K w mg C dM CE) : FnOk P w K mg base CX0 (k + 1) f fd ["self", "kind", "ends"] (spEInit CE) := by
  refine F.ok sc_Effect___init__ (fun vs H Q E h => ?_) (fun cdv A outer s H vs Q E hr h => ?_)
  · obtain ⟨p, dx, k, e, rfl, _⟩ := h
    rfl
  · obtain ⟨p, dx, k, e, rfl, hp, q⟩ := h
    refine ⟨_, (pss_cons (ps_fld (pv 0) (pv 1) rfl)
 (pss_one (ps_fld (pv 0) (pv 2) rfl))), at_start (σ := [some (.ref p), some (.ref k), some (.ref e)]) rfl ?_⟩
    try dsimp only [cx_K]
    walk_at "rd"
    refine ⟨p, CE, dx, _, rfl, hp, T.cle, T.n_kind, by decide, ?_⟩
    walk_at "rd"
    refine ⟨p, CE, dx, _, rfl, upd_same, T.cle, T.n_ends, putF_lt0 (by decide), ?_⟩
    refine q _ upd_same fun b o x hb => ?_
    rw [upd_ne hb, upd_ne hb]
    exact x
theorem ok_ecall {f C dM CE : Addr} {fd : FuncData} {k : Nat} (F : Fun K "__call__" "Effect.__call__" s_Effect___call__ f fd) (T : TxtF K w mg C dM CE) : FnOk P w K mg base CX0 (k + 1) f fd ["self", "state"] (spECall C CE) := by
  refine F.ok sc_Effect___call__ (fun vs H Q E h => ?_) (fun cdv A outer s H vs Q E hr h => ?_)
  · obtain ⟨p, r, w, d, rows, n, row, rfl, _⟩ := h
    rfl
  · obtain ⟨p, r, wr, d, rows, n, row, rfl, ⟨dx, k, e, hp, kd, ps, he, lp, hrs⟩, hn, q⟩ := h
    refine ⟨_, (pss_one (ps_ret (pe_ix ix_tup (pe_fld (pv 0) rfl) (pv 1) (fun _ _ => rfl)))), at_start (σ := [some (.ref p), some (.int n)]) rfl ?_⟩
    try dsimp only [cx_K]
    have cl := T.cle; have n1 := T.n_ends
    walk_at "rd"
    have hl : n < ps.length := by rw [lp]; exact (List.getElem?_eq_some_iff.mp hn).1
    refine r_ixT (v := .ref ps[n]) (SqT.of he) (atI_nat (by rw [List.getElem?_map, List.getElem?_eq_getElem hl]; rfl)) ?_
    exact q _ (hrs n _ _ (List.getElem?_eq_getElem hl) hn)
end
end K17


namespace K17
open PySem L2 KB KO KV
theorem rows_of_made {H : Hp} {D a : Addr} {ys : List V} {rows : List (List Int)} (eD : H D = some (.lst ys)) (na : H a = none) (ly : ys.length = rows.length) (hy : ∀ (i : Nat) (v : V), ys[i]? = some v → ∃ (p : Addr) (row : List Int), v = .ref p ∧ rows[i]? = some row ∧ H p = some (.tup (row.map V.int))) : RowsAt (upd H a (.tup ys)) a rows := by
  have hp : ∀ (ys : List V) (rows : List (List Int)), ys.length = rows.length → (∀ (i : Nat) (v : V), ys[i]? = some v → ∃ (p : Addr) (row : List Int), v = .ref p ∧ rows[i]? = some row ∧ H p = some (.tup (row.map V.int))) → ∃ ps : List Addr, ys = ps.map V.ref ∧ ps.length = rows.length ∧ ∀ (i : Nat) (p : Addr) (row : List Int), ps[i]? = some p → rows[i]? = some row → H p = some (.tup (row.map V.int)) := by
    intro ys
    induction ys with
    | nil =>
      intro rows l h
      cases rows with
      | nil => exact ⟨[], rfl, rfl, fun i p row h1 _ => by simp at h1⟩
      | cons r rows => simp at l
    | cons y ys ih =>
      intro rows l h
      cases rows with
      | nil => simp at l
      | cons r rows =>
        obtain ⟨p, row, rfl, e1, e2⟩ := h 0 y rfl
        obtain ⟨ps, rfl, lp, hq⟩ := ih rows (by simpa using l) fun i v e => h (i + 1) v e
        refine ⟨p :: ps, rfl, by simp [lp], fun i p' row' h1 h2 => ?_⟩
        cases i with
        | zero =>
          cases h1
          rw [show (r :: rows)[0]? = some r from rfl] at e1 h2
          cases e1
          cases h2
          exact e2
        | succ i => exact hq i p' row' h1 h2
  obtain ⟨ps, rfl, lp, hq⟩ := hp ys rows ly hy
  exact ⟨ps, upd_same, lp, fun i p row h1 h2 => upd_new na (hq i p row h1 h2)⟩
theorem rows_next (r w d : Str) (q : Bool) (cs : List Nat) (c : Nat) : ((statesOf w).map (rowOf r w d q cs)).map (fun row => stepRow r w d q row c) = (statesOf w).map (rowOf r w d q (cs ++ [c])) := by
  rw [List.map_map]
  exact List.map_congr_left fun s _ => (rowOf_snoc r w d q cs c s).symm
theorem lay_rows (rows : List (List Int)) : PyData.canLayAll0 (rows.map dRow) = true := by
  induction rows with
  | nil => rfl
  | cons row rows ih =>
    show (PyData.canLay0 (dRow row) && PyData.canLayAll0 (rows.map dRow)) = true
    rw [ih, Bool.and_true]
    show PyData.canLayAll0 (row.map PyData.int) = true
    exact lay_ints row
theorem depth_rows (rows : List (List Int)) : PyData.depthAll (rows.map dRow) ≤ 1 := by
  induction rows with
  | nil => exact Nat.zero_le _
  | cons row rows ih =>
    show max (PyData.depth (dRow row)) (PyData.depthAll (rows.map dRow)) ≤ 1
    have e : PyData.depth (dRow row) = 1 := by
      show PyData.depthAll (row.map PyData.int) + 1 = 1
      rw [depth_ints]
    rw [e]
    omega
theorem shaped_rows (rows : List (List Int)) : SeqAt.shaped (dRows rows) = true := by
  show (PyData.canLayAll0 (rows.map dRow) && decide (PyData.depthAll (rows.map dRow) + 1 ≤ 64)) = true
  rw [lay_rows, Bool.true_and]
  have := depth_rows rows
  exact decide_eq_true (by omega)
theorem eqv_rows : ∀ a b : List (List Int), PyData.eqvAll (a.map dRow) (b.map dRow) = decide (a = b)
  | [], [] => rfl
  | [], _ :: _ => rfl
  | _ :: _, [] => rfl
  | x :: a, y :: b => by
    show (PyData.eqv (dRow x) (dRow y) && PyData.eqvAll (a.map dRow) (b.map dRow)) = decide (x :: a = y :: b)
    rw [eqv_rows a b]
    have e : PyData.eqv (dRow x) (dRow y) = decide (x = y) := eqv_ints x y
    rw [e]
    by_cases h1 : x = y <;> by_cases h2 : a = b <;> simp [h1, h2]
theorem r_eqRows {K : PySem.W.Frag} {H : Hp} {Q : VK} {a b : Addr} {x y : List (List Int)} (h : RowsAt H a x) (h' : RowsAt H b y) (q : Q (.bl (decide (x = y))) H) : rEqD K (.ref a) (.ref b) H Q :=
  ⟨_, _, h.dp, h'.dp, shaped_rows x, shaped_rows y, (show Q (.bl (PyData.eqvAll (x.map dRow) (y.map dRow))) H by rw [eqv_rows]; exact q)⟩
/-- the pairs of the rows -/
def pairsOf (rows : List (List Int)) : List (Int × Int) := rows.zipIdx.flatMap fun p => p.1.map fun e => ((p.2 : Int), e)
def PairsAt (H : Hp) (ys : List V) (ps : List (Int × Int)) : Prop := ys.length = ps.length ∧ ∀ (i : Nat) (v : V) (p : Int × Int), ys[i]? = some v → ps[i]? = some p → ∃ a, v = .ref a ∧ H a = some (.tup [.int p.1, .int p.2])
theorem PairsAt.up {H H' : Hp} {ys : List V} {ps : List (Int × Int)} (h : PairsAt H ys ps) (s : Same H H') : PairsAt H' ys ps := ⟨h.1, fun i v p h1 h2 => by
  obtain ⟨a, e1, e2⟩ := h.2 i v p h1 h2
  exact ⟨a, e1, s _ _ e2⟩⟩
theorem PairsAt.nil {H : Hp} : PairsAt H [] [] := ⟨rfl, fun i v p h1 _ => by simp at h1⟩
theorem PairsAt.snoc {H : Hp} {ys : List V} {ps : List (Int × Int)} {a : Addr} {p : Int × Int} (h : PairsAt H ys ps) (e : H a = some (.tup [.int p.1, .int p.2])) : PairsAt H (ys ++ [.ref a]) (ps ++ [p]) := by
  refine ⟨by simp [h.1], fun i v p' h1 h2 => ?_⟩
  by_cases lt : i < ys.length
  · rw [List.getElem?_append_left lt] at h1
    rw [List.getElem?_append_left (by rw [← h.1]; exact lt)] at h2
    exact h.2 i v p' h1 h2
  · rw [List.getElem?_append_right (by omega)] at h1
    rw [List.getElem?_append_right (by rw [← h.1]; omega), ← h.1] at h2
    have h0 : i - ys.length = 0 := by
      cases z : i - ys.length with
      | zero => rfl
      | succ m => rw [z] at h1; simp at h1
    rw [h0] at h1 h2
    obtain rfl : V.ref a = v := by simpa using h1
    obtain rfl : p = p' := by simpa using h2
    exact ⟨a, rfl, e⟩
theorem pairs_take (rows : List (List Int)) (i : Nat) (row : List Int) (h : rows[i]? = some row) : pairsOf (rows.take (i + 1)) = pairsOf (rows.take i) ++ row.map fun e => ((i : Int), e) := by
  have hl : i < rows.length := (List.getElem?_eq_some_iff.mp h).1
  unfold pairsOf
  rw [List.take_add_one, h, Option.toList_some, List.zipIdx_append, List.flatMap_append, List.length_take, Nat.min_eq_left (Nat.le_of_lt hl)]
  simp

def spPairs (C CE : Addr) : SpG := fun vs H Q _ => ∃ (p : Addr) (r w d : Str) (rows : List (List Int)), vs = [.ref p] ∧ EffAt C CE H p r w d rows ∧ rows.length ≤ 4 ∧ (∀ row ∈ rows, row.length ≤ 4) ∧ ∀ ys H', Same H H' → PairsAt H' ys (pairsOf rows) → Q ys H'

section
variable {P : Program} {w : World} {K : PySem.W.Frag} {mg : Str → Option Value} {base : Heap}
theorem ok_of {f C dM CE : Addr} {fd : FuncData} (F : FunD K "of" "Effect.of" (defArgs s_Effect_of) (defBody s_Effect_of) (defScope s_Effect_of) [] [("quiet", .bl false)] f fd) (T : TxtF K w mg C dM CE) (c_need_letters : KB.Callee P w K mg base CX0 1 "need_letters" ["letters"] spNL)
    (c_with_deeds : KB.Callee P w K mg base CX0 3 "with_deeds" ["kind", "states", "quiet"] (spWD C)) (c_longer : KB.Callee P w K mg base CX0 4 "longer" ["kind", "ends", "letter", "quiet"] (spLonger C)) (c_Effect___init__ : CalleeI P w K mg base CX0 1 CE "Effect" ["self", "kind", "ends"] (spEInit CE)) :
    FnOk P w K mg base CX0 6 f fd ["cls", "kind", "letters", "quiet"] (spOf C CE) := by
  refine F.ok sc_Effect_of (fun vs H Q E h => ?_) (fun cdv A outer s H vs Q E hr h => ?_)
  · obtain ⟨k, r, w, d, z, q, rfl, _⟩ := h
    rfl
  · obtain ⟨k, r, wr, d, z, qu, rfl, kd, hr1, hw1, hd1, ⟨lz, hz⟩, q⟩ := h
    obtain ⟨t', drv, rdg⟩ : ∃ t', PSs (cxOf CX0 P w K mg base ["cls", "kind", "letters", "quiet", "ends", "state", "letter"] "Effect.of" (defScope s_Effect_of) f cdv A outer s H E).nox (defBody s_Effect_of) t' ∧ t' { nx := fun _ H' => Q .non H', rt := Q } (start ["cls", "kind", "letters", "quiet", "ends", "state", "letter"] [.ref CE, .ref k, .str z, .bl qu]) H := by
      refine ⟨_, (pss_cons (ps_expr (pe_callC c_need_letters (hr.mono (by decide)) (by rfl) pass0 (pa_cons (pv 2) pa_nil)))
 (pss_cons (ps_set (i := 4) sc_Effect_of.nd rfl (by first | exact Or.inl rfl | exact Or.inr rfl) (pe_callTy call_tuple_of (by rfl) T.z_tuple (by decide +kernel) (pa_cons (pe_lc (own := [("state", 5)]) (g := gName 5) (tt := tYes) (by rfl) sc_Effect_of.nd (pi_tup (pe_fld (pv 1) rfl)) (blkOk_by (own := [("state", 5)]) (N := ["cls", "kind", "letters", "quiet", "ends", "state", "letter"]) (sc := defScope s_Effect_of) (by decide +kernel)) (fun _ _ _ _ _ => (pg_name (i := 5) sc_Effect_of.nd rfl (by first | exact Or.inl rfl | exact Or.inr rfl))) (fun _ _ _ _ _ => pts_nil) (fun _ _ _ _ _ => (pe_callC c_with_deeds (hr.mono (by decide)) (by rfl) pass0 (pa_cons (pv 1) (pa_cons (pe_lst (pa_cons (pv 5) pa_nil)) (pa_cons (pv 3) pa_nil)))))) pa_nil)))
 (pss_cons (ps_for PassesOwn.never rfl (pi_str (pv 2)) (pg_name (i := 6) sc_Effect_of.nd rfl (by first | exact Or.inl rfl | exact Or.inr rfl))
 (pss_one (ps_set (i := 4) sc_Effect_of.nd rfl (by first | exact Or.inl rfl | exact Or.inr rfl) (pe_callC c_longer (hr.mono (by decide)) (by rfl) pass0 (pa_cons (pv 1) (pa_cons (pv 4) (pa_cons (pv 6) (pa_cons (pv 3) pa_nil))))))))
 (pss_one (ps_ret (KP.pe_makeL c_Effect___init__ (hr.mono (by decide)) pass0 (pv 0) (pa_cons (pv 1) (pa_cons (pv 4) pa_nil)))))))), at_start (σ := [some (.ref CE), some (.ref k), some (.str z), some (.bl qu), none, none, none]) rfl ?_⟩
      try dsimp only [cx_K]
      have cl := T.cl; have ns := T.n_states
      walk_at "rd"
      refine ⟨z, rfl, ⟨lz, hz⟩, fun H1 s1 => ?_⟩
      obtain ⟨dx, st, hk, hst⟩ := id (kd.up s1)
      have sl := states_len wr
      walk_at "rd"
      refine ⟨st, rfl, ⟨_, SqT.of hst⟩, ?_⟩
      refine KD.lc_made (walk_tup (xs := (statesOf wr).map V.int)) (fun i v H' => ∃ (p : Addr) (row : List Int), v = .ref p ∧ ((statesOf wr).map fun s => wdl d qu [s])[i]? = some row ∧ H' p = some (.tup (row.map V.int))) (by rw [List.length_map]; omega) (fun i v H H' ⟨p, row, e1, e2, e3⟩ sn => ⟨p, row, e1, e2, sn.tup e3⟩) (fun H' s => SqT.of (s _ _ hst)) (fun i x H2 H2' N B hi s2 y qN => ?_) (fun D H2 ys nD s2 eD ly hy => ?_)
      · obtain ⟨rfl, hx⟩ := y
        rw [List.getElem?_map] at hx
        obtain ⟨sv, hsv, rfl⟩ := Option.map_eq_some_iff.mp hx
        walk_at "rd"
        refine ⟨rfl, KD.r_yes (iteT ?_)⟩
        walk_at "rd"
        refine ⟨by walk_at "sz", fun l nl => ?_⟩
        walk_at "rd"
        refine ⟨k, l, r, wr, d, qu, [sv], rfl, ((kd.up s1).up s2).up (same_new nl), hd1, upd_same, fun j m => ?_, by simp, fun H3 a s3 ea => ?_⟩
        · rw [List.mem_singleton.mp m]
          exact states_s4 sv (List.mem_of_getElem? hsv)
        · exact qN _ _ ((same_new nl).trans s3) ⟨a, _, rfl, by rw [List.getElem?_map, hsv]; rfl, ea⟩
      refine ⟨D, ys, rfl, .inl ⟨SqL.of eD, fun a na => ?_⟩⟩
      have ra := rows_of_made (rows := (statesOf wr).map fun s => wdl d qu [s]) eD na (by rw [ly]; simp) hy
      have s3 := (s1.trans s2).trans (same_new (o := .tup ys) na)
      generalize upd H2 a (.tup ys) = H3 at ra s3 ⊢
      clear hy eD ly nD na s2
      walk_at "rd"
      refine forW walk_str (fun i σ' H' => ∃ e y6, σ' = [some (.ref CE), some (.ref k), some (.str z), some (.bl qu), some (.ref e), none, y6] ∧ Same H H' ∧ RowsAt H' e ((statesOf wr).map (rowOf r wr d qu (z.cps.toList.take i)))) ⟨a, _, rfl, s3, ra⟩ (fun _ _ _ _ _ => trivial) ?_ ?_
      · rintro i x σ' H4 H4' hi ⟨e, y6, rfl, s4, r4⟩ ⟨rfl, c, hc, rfl⟩
        have hc' : z.cps.toList[i]? = some c := by rw [Array.getElem?_toList]; exact hc
        have lc : isLet c := hz c (List.mem_of_getElem? hc')
        walk_at "rd"
        refine ⟨k, e, r, wr, d, c, qu, _, rfl, kd.up s4, hr1, hw1, hd1, lc, r4, by rw [List.length_map]; exact states_len wr, fun row m => ?_, fun H5 a5 s5 r5 => ?_⟩
        · obtain ⟨sv, _, rfl⟩ := List.mem_map.mp m
          exact ⟨rowOf_len, rowOf_s4⟩
        · walk_at "rd"
          rw [rows_next] at r5
          refine ⟨a5, _, rfl, s4.trans s5, ?_⟩
          rw [List.take_add_one, hc']
          exact r5
      · rintro σ' H4 ⟨e, y6, rfl, s4, r4⟩
        rw [show z.cps.toList.take z.cps.size = z.cps.toList from List.take_of_length_le (by simp)] at r4
        walk_at "rd"
        refine KP.r_makeL ?_
        walk_at "rd"
        refine ⟨rfl, ?_⟩
        walk_at "rd"
        refine fun x dx nx ndx nxd => ⟨x, dx, k, e, rfl, upd_same, fun H5 e5 kp5 => ⟨rfl, ?_⟩⟩
        have s5 : Same H4 H5 := fun b o eb => kp5 b o (by rw [upd_ne (ne_of_none eb nx), upd_ne (ne_of_none eb ndx)]; exact eb) (ne_of_none eb nx)
        exact q _ x (s4.trans s5) ⟨dx, k, e, e5, (kd.up s4).up s5, r4.up s5⟩
    exact ⟨t', drv.nox, rdg⟩
theorem ok_eeq {f C dM CE : Addr} {fd : FuncData} (F : Fun K "__eq__" "Effect.__eq__" s_Effect___eq__ f fd) (T : TxtF K w mg C dM CE) (eq_Kind : OwnM P w K mg base 1 C "__eq__" ["self", "other"] (spEq C)) (nfK : PySem.W.notFirst K C (.ref C) = true) : FnOk P w K mg base CX0 3 f fd ["self", "other"] (spEEq C CE) := by
  refine F.ok sc_Effect___eq__ (fun vs H Q E h => ?_) (fun cdv A outer s H vs Q E hr h => ?_)
  · obtain ⟨p, p', r, w, d, r', w', d', rows, rows', rfl, _⟩ := h
    rfl
  · obtain ⟨p, p', r, wr, d, r', w', d', rows, rows', rfl, ⟨dx, k, e, hp, kd, ra⟩, ⟨dx', k', e', hp', kd', ra'⟩, q⟩ := h
    refine ⟨_, (pss_one (ps_ret (pe_and (pe_callB call_isi (by rfl) T.z_isinstance (by decide +kernel) (pa_cons (pv 1) (pa_cons (pe_glob (v := .ref _) (by rfl) T.mg_Effect rfl) pa_nil))) (pe_and (pe_cmpR (KO.op_eqO eq_Kind (hr.mono (by decide))) (pe_fld (pv 0) rfl) (pe_fld (pv 1) rfl) (nomark _)) (pe_one (pe_cmpR (op_eqD hr.units) (pe_fld (pv 0) rfl) (pe_fld (pv 1) rfl) (nomark _))))))), at_start (σ := [some (.ref p), some (.ref p')]) rfl ?_⟩
    try dsimp only [cx_K]
    have cl := T.cle; have n1 := T.n_kind; have n2 := T.n_ends
    walk_at "rd"
    refine ⟨_, _, _, _, true, rfl, .own CE, T.tyE hp', T.isiE, ?_⟩
    walk_at "rd"
    obtain ⟨dk, st, hk, hst⟩ := id kd
    obtain ⟨dk', st', hk', hst'⟩ := id kd'
    refine ⟨k, dk, _, k', C, dk', _, rfl, rfl, hk, hk', nfK, k, k', r, wr, d, r', w', d', rfl, kd, kd', _, rfl, ?_⟩
    refine r_ite2 (fun h => ?_) (fun h => ?_)
    · walk_at "rd"
      refine r_eqRows ra ra' ?_
      have e : decide (rows = rows') = decide ((r = r' ∧ wr = w' ∧ d = d') ∧ rows = rows') := by
        by_cases z : rows = rows'
        · rw [decide_eq_true z, decide_eq_true ⟨h, z⟩]
        · rw [decide_eq_false z, decide_eq_false (fun y => z y.2)]
      rw [e]
      exact q
    · rw [decide_eq_false (fun y => h y.1)] at q
      exact q
end
end K17

namespace K17
open PySem L2 KB KO KV
/-! ### all effects of a kind -/
abbrev Rw := List (List Int)
abbrev Fnd := List (List Nat × Rw)
def nxt (r w d : Str) (q : Bool) (A : Rw) (c : Nat) : Rw := A.map fun row => stepRow r w d q row c
def grow1 (r w d : Str) (q : Bool) (x : List Nat × Rw) (acc : Fnd) (c : Nat) : Fnd := if nxt r w d q x.2 c ∈ acc.map (·.2) then acc else acc ++ [(x.1 ++ [c], nxt r w d q x.2 c)]
def L3 : List Nat := [48, 49, 114]
def grow (r w d : Str) (q : Bool) (x : List Nat × Rw) (acc : Fnd) : Fnd := L3.foldl (grow1 r w d q x) acc
def stg (r w d : Str) (q : Bool) : Nat → Fnd
  | 0 => [([], rowsOf r w d q [])]
  | j + 1 => match (stg r w d q j)[j]? with
    | none => stg r w d q j
    | some x => grow r w d q x (stg r w d q j)
@[irreducible] def allE (r w d : Str) (q : Bool) : Fnd := stg r w d q 8
theorem allE_eq (r w d : Str) (q : Bool) : allE r w d q = stg r w d q 8 := by unfold allE; rfl
theorem allE_small : ∀ r ∈ RD, ∀ w ∈ WR, ∀ d ∈ DV, ∀ q : Bool, (allE r w d q).length ≤ 6 ∧ ∀ x ∈ allE r w d q, x.1.length ≤ 2 := by decide +kernel
theorem allE_one : ∀ r ∈ RD, ∀ w ∈ WR, ∀ d ∈ DV, ∀ q : Bool, ∀ c ∈ L3, ∀ x ∈ allE r w d q, x.2 = rowsOf r w d q [c] → x.1.length ≤ 1 := by decide +kernel
section
variable {r w d : Str} {q : Bool}
theorem grow1_pre (x : List Nat × Rw) (acc : Fnd) (c : Nat) : acc <+: grow1 r w d q x acc c := by
  unfold grow1
  split
  · exact List.prefix_refl _
  · exact List.prefix_append _ _
theorem growL_pre (x : List Nat × Rw) : ∀ (cs : List Nat) (acc : Fnd), acc <+: cs.foldl (grow1 r w d q x) acc
  | [], acc => List.prefix_refl _
  | c :: cs, acc => (grow1_pre x acc c).trans (growL_pre x cs _)
theorem grow_pre (x : List Nat × Rw) (acc : Fnd) : acc <+: grow r w d q x acc := growL_pre x L3 acc
theorem stg_some {j : Nat} {x : List Nat × Rw} (h : (stg r w d q j)[j]? = some x) : stg r w d q (j + 1) = grow r w d q x (stg r w d q j) := by
  show (match (stg r w d q j)[j]? with | none => stg r w d q j | some x => grow r w d q x (stg r w d q j)) = _
  rw [h]
theorem stg_none {j : Nat} (h : (stg r w d q j)[j]? = none) : stg r w d q (j + 1) = stg r w d q j := by
  show (match (stg r w d q j)[j]? with | none => stg r w d q j | some x => grow r w d q x (stg r w d q j)) = _
  rw [h]
theorem stg_pre1 (j : Nat) : stg r w d q j <+: stg r w d q (j + 1) := by
  cases h : (stg r w d q j)[j]? with
  | none => rw [stg_none h]; exact List.prefix_refl _
  | some x => rw [stg_some h]; exact grow_pre x _
theorem stg_pre {i : Nat} : ∀ {j : Nat}, i ≤ j → stg r w d q i <+: stg r w d q j
  | 0, h => by
    obtain rfl : i = 0 := by omega
    exact List.prefix_refl _
  | j + 1, h => by
    rcases Nat.lt_or_ge j i with z | z
    · obtain rfl : i = j + 1 := by omega
      exact List.prefix_refl _
    · exact (stg_pre z).trans (stg_pre1 j)
theorem stg_stop {j : Nat} (h : (stg r w d q j).length ≤ j) : ∀ n, stg r w d q (j + n) = stg r w d q j
  | 0 => rfl
  | n + 1 => by
    have e := stg_stop h n
    show stg r w d q (j + n + 1) = _
    rw [stg_none (by rw [e]; exact List.getElem?_eq_none_iff.mpr (by omega)), e]
theorem pre_at {α : Type} {a b : List α} (h : a <+: b) {j : Nat} {x : α} (e : a[j]? = some x) : b[j]? = some x := by
  obtain ⟨t, rfl⟩ := h
  have lt : j < a.length := (List.getElem?_eq_some_iff.mp e).1
  rw [List.getElem?_append_left lt]
  exact e
theorem stg_all (hr : r ∈ RD) (hw : w ∈ WR) (hd : d ∈ DV) {j : Nat} (h : (stg r w d q j).length ≤ j) : stg r w d q j = allE r w d q := by
  have z := (allE_small r hr w hw d hd q).1
  rw [allE_eq] at z ⊢
  rcases Nat.le_total j 8 with l | l
  · have e := stg_stop h (8 - j)
    rw [show j + (8 - j) = 8 by omega] at e
    exact e.symm
  · have e := stg_stop (r := r) (w := w) (d := d) (q := q) (j := 8) (Nat.le_trans z (by omega)) (j - 8)
    rw [show 8 + (j - 8) = j by omega] at e
    exact e
theorem stg_at (hr : r ∈ RD) (hw : w ∈ WR) (hd : d ∈ DV) {j : Nat} {x : List Nat × Rw} (h : (stg r w d q j)[j]? = some x) : (allE r w d q)[j]? = some x ∧ j < 6 := by
  have z := (allE_small r hr w hw d hd q).1
  rw [allE_eq] at z ⊢
  have lt : j < (stg r w d q j).length := (List.getElem?_eq_some_iff.mp h).1
  have e : (stg r w d q 8)[j]? = some x := by
    rcases Nat.le_total j 8 with l | l
    · exact pre_at (stg_pre l) h
    · have e := stg_stop (r := r) (w := w) (d := d) (q := q) (j := 8) (Nat.le_trans z (by omega)) (j - 8)
      rw [show 8 + (j - 8) = j by omega] at e
      rw [e] at h
      exact h
  have := (List.getElem?_eq_some_iff.mp e).1
  exact ⟨e, by omega⟩
theorem at_stg (hr : r ∈ RD) (hw : w ∈ WR) (hd : d ∈ DV) {j : Nat} {x : List Nat × Rw} (h : (allE r w d q)[j]? = some x) : (stg r w d q j)[j]? = some x := by
  cases e : (stg r w d q j)[j]? with
  | none =>
    rw [← stg_all hr hw hd (List.getElem?_eq_none_iff.mp e), e] at h
    cases h
  | some y =>
    rw [(stg_at hr hw hd e).1] at h
    exact h
/-- what is found: no rows twice, each with its letters -/
structure FOk (r w d : Str) (q : Bool) (acc : Fnd) : Prop where
  nd : (acc.map (·.2)).Nodup
  at_ : ∀ x ∈ acc, x.2 = rowsOf r w d q x.1 ∧ ∀ c ∈ x.1, isLet c
theorem l3_let {c : Nat} : c ∈ L3 ↔ isLet c := by
  unfold isLet L3
  simp
theorem nxt_rows (cs : List Nat) (c : Nat) : nxt r w d q (rowsOf r w d q cs) c = rowsOf r w d q (cs ++ [c]) := rows_next r w d q cs c
theorem FOk.step1 {acc : Fnd} {x : List Nat × Rw} {c : Nat} (f : FOk r w d q acc) (hx : x.2 = rowsOf r w d q x.1 ∧ ∀ c ∈ x.1, isLet c) (hc : isLet c) : FOk r w d q (grow1 r w d q x acc c) := by
  unfold grow1
  split
  · exact f
  · next h =>
    refine ⟨?_, fun y m => ?_⟩
    · rw [List.map_append]
      refine List.nodup_append.mpr ⟨f.nd, List.nodup_cons.mpr ⟨List.not_mem_nil, List.nodup_nil⟩, fun a ha b hb => ?_⟩
      rw [List.map_cons, List.map_nil, List.mem_singleton] at hb
      rw [hb]
      intro z
      have z : a = nxt r w d q x.2 c := z
      exact h (z ▸ ha)
    · rcases List.mem_append.mp m with m | m
      · exact f.at_ y m
      · rw [List.mem_singleton.mp m]
        refine ⟨by rw [hx.1]; exact nxt_rows _ _, fun c' m' => ?_⟩
        rcases List.mem_append.mp m' with m' | m'
        · exact hx.2 c' m'
        · rw [List.mem_singleton.mp m']; exact hc
theorem FOk.growL {x : List Nat × Rw} (hx : x.2 = rowsOf r w d q x.1 ∧ ∀ c ∈ x.1, isLet c) : ∀ (cs : List Nat) {acc : Fnd}, FOk r w d q acc → (∀ c ∈ cs, isLet c) → FOk r w d q (cs.foldl (grow1 r w d q x) acc)
  | [], acc, f, _ => f
  | c :: cs, acc, f, h => FOk.growL hx cs (f.step1 hx (h c List.mem_cons_self)) fun c' m => h c' (List.mem_cons_of_mem _ m)
theorem stg_ok : ∀ j, FOk r w d q (stg r w d q j)
  | 0 => ⟨List.nodup_cons.mpr ⟨List.not_mem_nil, List.nodup_nil⟩, fun x m => by rw [List.mem_singleton.mp m]; exact ⟨rfl, fun c m => by cases m⟩⟩
  | j + 1 => by
    cases h : (stg r w d q j)[j]? with
    | none => rw [stg_none h]; exact stg_ok j
    | some x =>
      rw [stg_some h]
      exact FOk.growL ((stg_ok j).at_ x (List.mem_of_getElem? h)) L3 (stg_ok j) fun c m => l3_let.mp m
theorem allE_ok : FOk r w d q (allE r w d q) := by rw [allE_eq]; exact stg_ok 8
theorem grow1_has (x : List Nat × Rw) (acc : Fnd) (c : Nat) : nxt r w d q x.2 c ∈ (grow1 r w d q x acc c).map (·.2) := by
  unfold grow1
  split
  · next h => exact h
  · rw [List.map_append]
    exact List.mem_append_right _ (List.mem_singleton.mpr rfl)
theorem growL_has (x : List Nat × Rw) : ∀ (cs : List Nat) (acc : Fnd) (c : Nat), c ∈ cs → nxt r w d q x.2 c ∈ (cs.foldl (grow1 r w d q x) acc).map (·.2)
  | c' :: cs, acc, c, m => by
    rcases List.mem_cons.mp m with rfl | m
    · obtain ⟨t, e⟩ := growL_pre (r := r) (w := w) (d := d) (q := q) x cs (grow1 r w d q x acc c)
      show _ ∈ (cs.foldl (grow1 r w d q x) (grow1 r w d q x acc c)).map (·.2)
      rw [← e, List.map_append]
      exact List.mem_append_left _ (grow1_has x acc c)
    · exact growL_has x cs _ c m
/-- one letter more: one of them again -/
theorem allE_next (hr : r ∈ RD) (hw : w ∈ WR) (hd : d ∈ DV) {x : List Nat × Rw} (m : x ∈ allE r w d q) {c : Nat} (hc : isLet c) : nxt r w d q x.2 c ∈ (allE r w d q).map (·.2) := by
  obtain ⟨j, hj⟩ := List.mem_iff_getElem?.mp m
  have e := at_stg hr hw hd hj
  have l := (stg_at hr hw hd e).2
  have l8 : j + 1 ≤ 8 := by omega
  have pp : stg r w d q (j + 1) <+: allE r w d q := by rw [allE_eq]; exact stg_pre (r := r) (w := w) (d := d) (q := q) l8
  have g := growL_has (r := r) (w := w) (d := d) (q := q) x L3 (stg r w d q j) c (l3_let.mpr hc)
  have g2 : nxt r w d q x.2 c ∈ (stg r w d q (j + 1)).map (·.2) := by
    rw [stg_some e]
    exact g
  obtain ⟨y, my, ey⟩ := List.mem_map.mp g2
  exact List.mem_map.mpr ⟨y, pp.subset my, ey⟩
theorem stg_zero : (stg r w d q 0)[0]? = some ([], rowsOf r w d q []) := rfl
theorem allE_first : (allE r w d q)[0]? = some ([], rowsOf r w d q []) := by rw [allE_eq]; exact pre_at (stg_pre (i := 0) (j := 8) (Nat.zero_le 8)) stg_zero
theorem allE_fst : (([], rowsOf r w d q []) : List Nat × Rw) ∈ allE r w d q := List.mem_of_getElem? (i := 0) (allE_first (r := r) (w := w) (d := d) (q := q))
/-- the rows of any letters are among them -/
theorem allE_hasR (hr : r ∈ RD) (hw : w ∈ WR) (hd : d ∈ DV) : ∀ (cs : List Nat), (∀ c ∈ cs, isLet c) → ∃ x ∈ allE r w d q, x.2 = rowsOf r w d q cs.reverse
  | [], _ => ⟨([], rowsOf r w d q []), allE_fst, rfl⟩
  | c :: cs, h => by
    obtain ⟨x, m, e⟩ := allE_hasR hr hw hd cs fun c' m => h c' (List.mem_cons_of_mem _ m)
    have z := allE_next hr hw hd m (h c List.mem_cons_self)
    rw [e, nxt_rows] at z
    obtain ⟨y, my, ey⟩ := List.mem_map.mp z
    refine ⟨y, my, ?_⟩
    rw [List.reverse_cons]
    exact ey
theorem allE_has (hr : r ∈ RD) (hw : w ∈ WR) (hd : d ∈ DV) {cs : List Nat} (h : ∀ c ∈ cs, isLet c) : ∃ x ∈ allE r w d q, x.2 = rowsOf r w d q cs := by
  obtain ⟨x, m, e⟩ := allE_hasR (q := q) hr hw hd cs.reverse fun c m => h c (List.mem_reverse.mp m)
  rw [List.reverse_reverse] at e
  exact ⟨x, m, e⟩
/-- the first letters of rows -/
def shE (r w d : Str) (q : Bool) (A : Rw) : List Nat := (((allE r w d q).find? fun x => decide (x.2 = A)).map (·.1)).getD []
theorem allE_inj {i j : Nat} {x y : List Nat × Rw} (hi : (allE r w d q)[i]? = some x) (hj : (allE r w d q)[j]? = some y) (e : x.2 = y.2) : i = j := by
  have nd := (allE_ok (r := r) (w := w) (d := d) (q := q)).nd
  obtain ⟨li, ei⟩ := List.getElem?_eq_some_iff.mp hi
  obtain ⟨lj, ej⟩ := List.getElem?_eq_some_iff.mp hj
  have a : ((allE r w d q).map (·.2))[i]'(by rw [List.length_map]; exact li) = ((allE r w d q).map (·.2))[j]'(by rw [List.length_map]; exact lj) := by
    rw [List.getElem_map, List.getElem_map, ei, ej, e]
  exact (List.getElem_inj nd).mp a
theorem shE_at {A : Rw} {j : Nat} {x : List Nat × Rw} (hj : (allE r w d q)[j]? = some x) (e : x.2 = A) : shE r w d q A = x.1 := by
  unfold shE
  cases h : (allE r w d q).find? fun x => decide (x.2 = A) with
  | none =>
    have z := List.find?_eq_none.mp h x (List.mem_of_getElem? hj)
    rw [e] at z
    simp at z
  | some y =>
    have ey0 := List.find?_some h
    have ey : y.2 = A := of_decide_eq_true ey0
    obtain ⟨i, hi⟩ := List.mem_iff_getElem?.mp (List.mem_of_find?_eq_some h)
    have ij := allE_inj hi hj (ey.trans e.symm)
    subst ij
    rw [hi] at hj
    cases hj
    rfl
/-- what the first letters of letters are -/
theorem shE_spec (hr : r ∈ RD) (hw : w ∈ WR) (hd : d ∈ DV) {cs : List Nat} (h : ∀ c ∈ cs, isLet c) : ∃ (j : Nat) (x : List Nat × Rw), (allE r w d q)[j]? = some x ∧ x.2 = rowsOf r w d q cs ∧ shE r w d q (rowsOf r w d q cs) = x.1 := by
  obtain ⟨x, m, e⟩ := allE_has (q := q) hr hw hd h
  obtain ⟨j, hj⟩ := List.mem_iff_getElem?.mp m
  exact ⟨j, x, hj, e, shE_at hj e⟩
theorem shE_rows (hr : r ∈ RD) (hw : w ∈ WR) (hd : d ∈ DV) {cs : List Nat} (h : ∀ c ∈ cs, isLet c) : rowsOf r w d q (shE r w d q (rowsOf r w d q cs)) = rowsOf r w d q cs := by
  obtain ⟨j, x, hj, e, es⟩ := shE_spec (q := q) hr hw hd h
  rw [es, ← e]
  exact (allE_ok.at_ x (List.mem_of_getElem? hj)).1.symm
theorem shE_let (hr : r ∈ RD) (hw : w ∈ WR) (hd : d ∈ DV) {cs : List Nat} (h : ∀ c ∈ cs, isLet c) : ∀ c ∈ shE r w d q (rowsOf r w d q cs), isLet c := by
  obtain ⟨j, x, hj, e, es⟩ := shE_spec (q := q) hr hw hd h
  rw [es]
  exact (allE_ok.at_ x (List.mem_of_getElem? hj)).2
theorem shE_two (hr : r ∈ RD) (hw : w ∈ WR) (hd : d ∈ DV) {cs : List Nat} (h : ∀ c ∈ cs, isLet c) : (shE r w d q (rowsOf r w d q cs)).length ≤ 2 := by
  obtain ⟨j, x, hj, e, es⟩ := shE_spec (q := q) hr hw hd h
  rw [es]
  exact (allE_small r hr w hw d hd q).2 x (List.mem_of_getElem? hj)
theorem shE_len (hr : r ∈ RD) (hw : w ∈ WR) (hd : d ∈ DV) {cs : List Nat} (h : ∀ c ∈ cs, isLet c) : (shE r w d q (rowsOf r w d q cs)).length ≤ cs.length := by
  match cs, h with
  | [], h =>
    have e0 : shE r w d q (rowsOf r w d q []) = [] := shE_at (x := ([], rowsOf r w d q [])) allE_first rfl
    rw [e0]
    exact Nat.le_refl _
  | [c], h =>
    obtain ⟨j, x, hj, e, es⟩ := shE_spec (q := q) hr hw hd h
    rw [es]
    exact allE_one r hr w hw d hd q c (l3_let.mpr (h c List.mem_cons_self)) x (List.mem_of_getElem? hj) e
  | c :: c' :: cs, h =>
    refine Nat.le_trans (shE_two hr hw hd h) ?_
    simp
end

end K17


namespace K17
open PySem L2 KB KO KV KW
/-! ### all_effects -/
def rk (A : Rw) : NestedKey := .tup (A.map fun row => .tup (row.map .num))
theorem num_inj : ∀ (a b : List Int), a.map NestedKey.num = b.map NestedKey.num → a = b
  | [], [], _ => rfl
  | [], _ :: _, h => by cases h
  | _ :: _, [], h => by cases h
  | x :: a, y :: b, h => by
    rw [List.map_cons, List.map_cons] at h
    injection h with h1 h2
    injection h1 with h1
    rw [h1, num_inj a b h2]
theorem rows_inj : ∀ (a b : Rw), a.map (fun row => NestedKey.tup (row.map .num)) = b.map (fun row => NestedKey.tup (row.map .num)) → a = b
  | [], [], _ => rfl
  | [], _ :: _, h => by cases h
  | _ :: _, [], h => by cases h
  | x :: a, y :: b, h => by
    rw [List.map_cons, List.map_cons] at h
    injection h with h1 h2
    injection h1 with h1
    rw [num_inj x y h1, rows_inj a b h2]
theorem rk_inj {A B : Rw} (h : rk A = rk B) : A = B := by
  unfold rk at h
  injection h with h
  exact rows_inj A B h
theorem dep_num : ∀ a : List Int, NestedKey.depthAll (a.map NestedKey.num) ≤ 1
  | [] => by show NestedKey.depthAll [] ≤ 1; simp [NestedKey.depthAll]
  | x :: a => by
    have := dep_num a
    show NestedKey.depthAll (.num x :: a.map NestedKey.num) ≤ 1
    simp only [NestedKey.depthAll, NestedKey.depth]
    omega
theorem dep_rows : ∀ a : Rw, NestedKey.depthAll (a.map fun row => NestedKey.tup (row.map .num)) ≤ 2
  | [] => by show NestedKey.depthAll [] ≤ 2; simp [NestedKey.depthAll]
  | x :: a => by
    have := dep_rows a
    have := dep_num x
    show NestedKey.depthAll (.tup (x.map .num) :: a.map fun row => NestedKey.tup (row.map .num)) ≤ 2
    simp only [NestedKey.depthAll, NestedKey.depth]
    omega
theorem rk_depth (A : Rw) : (rk A).depth ≤ 8 := by
  have := dep_rows A
  show NestedKey.depth (.tup _) ≤ 8
  simp only [NestedKey.depth]
  omega
theorem nks_num (H : Hp) : ∀ row : List Int, KH.NKs H (row.map V.int) (row.map NestedKey.num)
  | [] => .nil
  | x :: row => .cons (.int x) (nks_num H row)
theorem nks_rows {H : Hp} : ∀ (ps : List Addr) (rows : Rw), ps.length = rows.length → (∀ (i : Nat) (p : Addr) (row : List Int), ps[i]? = some p → rows[i]? = some row → H p = some (.tup (row.map V.int))) → KH.NKs H (ps.map V.ref) (rows.map fun row => NestedKey.tup (row.map .num))
  | [], [], _, _ => .nil
  | p :: ps, row :: rows, l, h => .cons (.tup (h 0 p row rfl rfl) (nks_num H row)) (nks_rows ps rows (by simpa using l) fun i p' row' h1 h2 => h (i + 1) p' row' h1 h2)
theorem nk_rows {H : Hp} {e : Addr} {A : Rw} (h : RowsAt H e A) : KH.NK H (.ref e) (rk A) := by
  obtain ⟨ps, he, l, r⟩ := h
  exact .tup he (nks_rows ps A l r)
def txt (cs : List Nat) : Str := ⟨cs.toArray⟩
theorem txt_snoc (cs : List Nat) (c : Nat) : txt cs ++ sign c = txt (cs ++ [c]) := by
  show (⟨cs.toArray ++ #[c]⟩ : Str) = ⟨(cs ++ [c]).toArray⟩
  simp
theorem txt_list (cs : List Nat) : (txt cs).cps.toList = cs := rfl
theorem txt_len (cs : List Nat) : (txt cs).length = cs.length := rfl
/-- what stands from H on, and tuples and instances, stay -/
def KS (H H0 H1 : Hp) : Prop := ∀ b o, H0 b = some o → (H b ≠ none ∨ (∃ xs, o = .tup xs) ∨ ∃ C dx fs, o = .ins C dx fs) → H1 b = some o
theorem KS.refl (H H0 : Hp) : KS H H0 H0 := fun _ _ e _ => e
theorem KS.on {H H0 H1 H2 : Hp} (h : KS H H0 H1) (s : Same H1 H2) : KS H H0 H2 := fun b o e z => s _ _ (h b o e z)
theorem KS.of {H H0 H1 : Hp} (s : Same H0 H1) : KS H H0 H1 := fun b o e _ => s _ _ e
theorem KS.same {H H0 H1 : Hp} (h : KS H H0 H1) (s : Same H H0) : Same H H1 := fun b o e => h b o (s _ _ e) (.inl (by rw [e]; intro z; cases z))
theorem KS.tup {H H0 H1 : Hp} (h : KS H H0 H1) {a : Addr} {xs : List V} (e : H0 a = some (.tup xs)) : H1 a = some (.tup xs) := h _ _ e (.inr (.inl ⟨xs, rfl⟩))
theorem KS.ins {H H0 H1 : Hp} (h : KS H H0 H1) {a C dx : Addr} {fs : List (Str × V)} (e : H0 a = some (.ins C dx fs)) : H1 a = some (.ins C dx fs) := h _ _ e (.inr (.inr ⟨C, dx, fs, rfl⟩))
/-- one of its own is set anew -/
theorem KS.mut {H H0 H1 : Hp} (h : KS H H0 H1) {D : Addr} {o o' : HO} (n : H D = none) (e : H1 D = some o) (nt : ∀ xs, o ≠ .tup xs) (ni : ∀ C dx fs, o ≠ .ins C dx fs) : KS H H0 (upd H1 D o') := fun b u eb z => by
  have w := h b u eb z
  by_cases hb : b = D
  · subst hb
    rw [w] at e
    cases e
    rcases z with z | ⟨xs, z⟩ | ⟨C, dx, fs, z⟩
    · exact absurd n z
    · exact absurd z (nt xs)
    · exact absurd z (ni C dx fs)
  · rw [upd_ne hb]
    exact w
theorem kind_mut {C : Addr} {H : Hp} {k : Addr} {r w d : Str} (h : KindAt C H k r w d) {D : Addr} {o o' : HO} (e : H D = some o) (nt : ∀ xs, o ≠ .tup xs) (ni : ∀ C dx fs, o ≠ .ins C dx fs) : KindAt C (upd H D o') k r w d := by
  obtain ⟨dx, st, h1, h2⟩ := h
  refine ⟨dx, st, ?_, ?_⟩
  · rw [upd_ne (fun z => by rw [z, e] at h1; cases h1; exact ni _ _ _ rfl)]; exact h1
  · rw [upd_ne (fun z => by rw [z, e] at h2; cases h2; exact nt _ rfl)]; exact h2
theorem tup_mut {H : Hp} {t : Addr} {xs : List V} (h : H t = some (.tup xs)) {D : Addr} {o o' : HO} (e : H D = some o) (nt : ∀ xs, o ≠ .tup xs) : upd H D o' t = some (.tup xs) := by
  rw [upd_ne (fun z => by rw [z, e] at h; cases h; exact nt _ rfl)]; exact h
theorem rows_mut {H : Hp} {a : Addr} {A : Rw} (h : RowsAt H a A) {D : Addr} {o o' : HO} (e : H D = some o) (nt : ∀ xs, o ≠ .tup xs) : RowsAt (upd H D o') a A := by
  obtain ⟨ps, h1, l, h2⟩ := h
  exact ⟨ps, tup_mut h1 e nt, l, fun i p row e1 e2 => tup_mut (h2 i p row e1 e2) e nt⟩
theorem eff_mut {C CE : Addr} {H : Hp} {p : Addr} {r w d : Str} {A : Rw} (h : EffAt C CE H p r w d A) {D : Addr} {o o' : HO} (e : H D = some o) (nt : ∀ xs, o ≠ .tup xs) (ni : ∀ C dx fs, o ≠ .ins C dx fs) : EffAt C CE (upd H D o') p r w d A := by
  obtain ⟨dx, k, a, h1, h2, h3⟩ := h
  refine ⟨dx, k, a, ?_, kind_mut h2 e nt ni, rows_mut h3 e nt⟩
  rw [upd_ne (fun z => by rw [z, e] at h1; cases h1; exact ni _ _ _ rfl)]; exact h1
/-- what waits: tuples of letters and effects -/
def WaitAt (C CE : Addr) (H : Hp) (r w d : Str) (ts : List Addr) (xs : Fnd) : Prop := ts.length = xs.length ∧ ∀ (i : Nat) (t : Addr) (x : List Nat × Rw), ts[i]? = some t → xs[i]? = some x → ∃ e, H t = some (.tup [.str (txt x.1), .ref e]) ∧ EffAt C CE H e r w d x.2
/-- between the turns: what is found, the first j of it are out -/
structure Lp (C CE : Addr) (P : Program) (wd : World) (Hc H0 H : Hp) (k D L : Addr) (r w d : Str) (acc : Fnd) (j : Nat) : Prop where
  kd : KindAt C H k r w d
  dn : ∃ xs, KH.DN P wd H D xs ∧ xs.map (·.1) = acc.map fun x => rk x.2
  wt : ∃ ts : List Addr, H L = some (.lst (ts.map V.ref)) ∧ WaitAt C CE H r w d ts (acc.drop j)
  fD : Hc D = none
  fL : Hc L = none
  ks : KS Hc H0 H
section
variable {C CE : Addr} {P : Program} {wd : World} {Hc H0 H H' : Hp} {k D L : Addr} {r w d : Str} {acc : Fnd} {j : Nat}
theorem WaitAt.up {ts : List Addr} {xs : Fnd} (h : WaitAt C CE H r w d ts xs) (s : Same H H') : WaitAt C CE H' r w d ts xs := ⟨h.1, fun i t x e1 e2 => by
  obtain ⟨e, h1, h2⟩ := h.2 i t x e1 e2
  exact ⟨e, s _ _ h1, h2.up s⟩⟩
theorem WaitAt.mut {ts : List Addr} {xs : Fnd} (h : WaitAt C CE H r w d ts xs) {Z : Addr} {o o' : HO} (ez : H Z = some o) (nt : ∀ xs, o ≠ .tup xs) (ni : ∀ C dx fs, o ≠ .ins C dx fs) : WaitAt C CE (upd H Z o') r w d ts xs := ⟨h.1, fun i t x e1 e2 => by
  obtain ⟨e, h1, h2⟩ := h.2 i t x e1 e2
  exact ⟨e, tup_mut h1 ez nt, eff_mut h2 ez nt ni⟩⟩
theorem WaitAt.push {ts : List Addr} {xs : Fnd} (h : WaitAt C CE H r w d ts xs) {t e : Addr} {x : List Nat × Rw} (ht : H t = some (.tup [.str (txt x.1), .ref e])) (he : EffAt C CE H e r w d x.2) : WaitAt C CE H r w d (ts ++ [t]) (xs ++ [x]) := by
  refine ⟨by rw [List.length_append, List.length_append, h.1]; rfl, fun i t' x' e1 e2 => ?_⟩
  rcases Nat.lt_or_ge i ts.length with l | l
  · rw [List.getElem?_append_left l] at e1
    rw [List.getElem?_append_left (by rw [← h.1]; exact l)] at e2
    exact h.2 i t' x' e1 e2
  · rw [List.getElem?_append_right l] at e1
    rw [List.getElem?_append_right (by rw [← h.1]; exact l), ← h.1] at e2
    generalize i - ts.length = m at e1 e2
    cases m with
    | zero =>
      cases e1
      cases e2
      exact ⟨e, ht, he⟩
    | succ m => cases e1
theorem Lp.up (l : Lp C CE P wd Hc H0 H k D L r w d acc j) (s : Same H H') : Lp C CE P wd Hc H0 H' k D L r w d acc j := by
  obtain ⟨xs, h1, h2⟩ := l.dn
  obtain ⟨ts, h3, h4⟩ := l.wt
  exact ⟨l.kd.up s, ⟨xs, h1.up s, h2⟩, ⟨ts, s _ _ h3, h4.up s⟩, l.fD, l.fL, l.ks.on s⟩
/-- woken anew -/
theorem Lp.at (l : Lp C CE P wd Hc H0 H k D L r w d acc j) (s : Same H H') : Lp C CE P wd Hc H' H' k D L r w d acc j := by
  have z := l.up s
  exact ⟨z.kd, z.dn, z.wt, z.fD, z.fL, KS.refl _ _⟩
end
theorem lst_nt {xs : List V} : ∀ ys, HO.lst xs ≠ .tup ys := fun _ z => by cases z
theorem lst_ni {xs : List V} : ∀ C dx fs, HO.lst xs ≠ .ins C dx fs := fun _ _ _ z => by cases z
theorem dno_nt {P : Program} {wd : World} {a : Addr} {xs : List (NestedKey × Addr)} : ∀ ys, KH.DNo P wd a xs ≠ .tup ys := fun _ z => by cases z
theorem dno_ni {P : Program} {wd : World} {a : Addr} {xs : List (NestedKey × Addr)} : ∀ C dx fs, KH.DNo P wd a xs ≠ .ins C dx fs := fun _ _ _ z => by cases z
def spAllH (C CE : Addr) : KH.SpH := fun vs H rs yl en => ∃ (k : Addr) (r w d : Str) (q : Bool), vs = [.ref k, .bl q] ∧ KindAt C H k r w d ∧ r ∈ RD ∧ w ∈ WR ∧ d ∈ DV ∧ (∀ j Hy H', rs j Hy H' → Same Hy H') ∧
  (∀ (j : Nat) (x : List Nat × Rw) (H0 H1 : Hp) (t e : Addr), (allE r w d q)[j]? = some x → KS H H0 H1 → H1 t = some (.tup [.str (txt x.1), .ref e]) → EffAt C CE H1 e r w d x.2 → yl j H0 (.ref t) H1) ∧ ∀ H0 H1, KS H H0 H1 → en (allE r w d q).length H0 H1

end K17


namespace K17
open PySem L2 KB KO KY KV KW
def gRev1 (us ws : List V) : List V := us ++ ws

section
variable {P : Program} {w : World} {K : PySem.W.Frag} {mg : Str → Option Value} {base : Heap}
theorem ok_all {f C dM CE : Addr} {oc dV kV dc pm cdv ct : Value} {od an : Option Addr} {sl : Array (Option Value)} (look : K.lookup f = some ⟨oc, od, .func (PySem.W.fnOf "all_effects" "all_effects" (defArgs s_all_effects) (defBody s_all_effects) (defScope s_all_effects) dV kV dc pm an cdv ct), sl⟩) (code : PySem.W.codeIn K cdv "all_effects" = true) (T : TxtF K w mg C dM CE)
    (ck_Effect_of_2_quiet : KU.CalleeCK P w K mg base CX0 6 CE "of" ["cls", "kind", "letters", "quiet"] (spOf C CE) 3 ["quiet"] gRev1)
    (c_longer : KB.Callee P w K mg base CX0 4 "longer" ["kind", "ends", "letter", "quiet"] (spLonger C)) (c_Effect___init__ : CalleeI P w K mg base CX0 1 CE "Effect" ["self", "kind", "ends"] (spEInit CE)) :
    KH.HFn P w K mg base 8 20 f (PySem.W.fnOf "all_effects" "all_effects" (defArgs s_all_effects) (defBody s_all_effects) (defScope s_all_effects) dV kV dc pm an cdv ct) ["kind", "quiet"] (spAllH C CE) := by
  refine KH.hfn_of look code sc_all_effects (by decide +kernel) (fun vs H rs yl en h => ?_) (fun A outer L0 a go ops vs H rs yl en hr h => ?_)
  · obtain ⟨k, r, w, d, q, rfl, _⟩ := h
    rfl
  · obtain ⟨k, r, wr, d, qu, rfl, kd, hr1, hw1, hd1, hrs, hyl, hen⟩ := h
    obtain ⟨tk1, gLT⟩ := T.g_LETTERS
    refine ⟨_, (KH.gts_cons (KH.gt_ps (by intro _ _ _; exact KH.goPS (ps_set (i := 2) sc_all_effects.nd rfl (by first | exact Or.inl rfl | exact Or.inr rfl) (KU.pe_cmethK ck_Effect_of_2_quiet (pe_glob (v := .ref _) (by rfl) T.mg_Effect rfl) (hr.mono (by decide)) pass0 (pa_cons (pv 0) (pa_cons pe_str pa_nil)) (pk_cons (pv 1) pk_nil))) (by (try dsimp only [KH.GN.cx]) <;> exact rfl)))
 (KH.gts_cons (KH.gt_ps (by intro _ _ _; exact KH.goPS (ps_set (i := 3) sc_all_effects.nd rfl (by first | exact Or.inl rfl | exact Or.inr rfl) (KH.pe_nd1 (KH.hu9 hr) (pe_fld (pv 2) rfl) pe_bl)) (by (try dsimp only [KH.GN.cx]) <;> exact rfl)))
 (KH.gts_cons (KH.gt_ps (by intro _ _ _; exact KH.goPS (ps_set (i := 4) sc_all_effects.nd rfl (by first | exact Or.inl rfl | exact Or.inr rfl) (pe_lst (pa_cons (pe_tup (pa_cons pe_str (pa_cons (pv 2) pa_nil))) pa_nil))) (by (try dsimp only [KH.GN.cx]) <;> exact rfl)))
 (KH.gts_cons (KH.gt_while (by intro _ _ _; exact KH.goPT (pt_cmpR (KH.op_neNil (KH.hu9 hr)) (pv 4) (pe_lst pa_nil) (nomark _)) (by (try dsimp only [KH.GN.cx]) <;> exact rfl))
 (KH.gts_cons (KH.gt_ps (by intro _ _ _; exact KH.goPS (ps_asg (pe_bm PySem.F.plainAttrs_list PySem.F.slot_list_pop PySem.F.type_list_pop mt_popAt (pv 4) (pa_cons pe_int pa_nil)) (pg_tup rfl (pgs_cons (pg_name (i := 5) sc_all_effects.nd rfl (by first | exact Or.inl rfl | exact Or.inr rfl)) (pgs_cons (pg_name (i := 6) sc_all_effects.nd rfl (by first | exact Or.inl rfl | exact Or.inr rfl)) pgs_nil)))) (by (try dsimp only [KH.GN.cx]) <;> exact rfl)))
 (KH.gts_cons (KH.gt_yield (by intro _ _ _; exact KH.goPE (pe_tup (pa_cons (pv 5) (pa_cons (pv 6) pa_nil))) (by (try dsimp only [KH.GN.cx]) <;> exact rfl)))
 (KH.gts_cons (KH.gt_ps (by intro _ _ _; exact KH.goPS (ps_for PassesOwn.never rfl (pi_str (pe_glob (v := .str _) (by rfl) gLT ⟨_, rfl⟩)) (pg_name (i := 7) sc_all_effects.nd rfl (by first | exact Or.inl rfl | exact Or.inr rfl))  (pss_cons (ps_set (i := 8) sc_all_effects.nd rfl (by first | exact Or.inl rfl | exact Or.inr rfl) (pe_callC c_longer (hr.mono (by decide)) (by rfl) pass0 (pa_cons (pv 0) (pa_cons (pe_fld (pv 6) rfl) (pa_cons (pv 7) (pa_cons (pv 1) pa_nil))))))  (pss_one (ps_if (pt_cmp (KH.pc_nnotin (KH.hu9 hr) (pv 8) (pv 3))) (pss_cons (KH.ps_nput (KH.hu9 hr) (pv 3) (pv 8) pe_bl rfl)  (pss_one (ps_expr (pe_bm PySem.F.plainAttrs_list PySem.F.slot_list_append PySem.F.type_list_append mt_append (pv 4) (pa_cons (pe_tup (pa_cons (pe_op op_add_str (pv 5) (pv 7)) (pa_cons (pe_makeC c_Effect___init__ (hr.mono (by decide)) (by rfl) pass0 (pa_cons (pv 0) (pa_cons (pv 8) pa_nil))) pa_nil))) pa_nil)))))  pss_nil)))) (by (try dsimp only [KH.GN.cx]) <;> exact rfl)))
 KH.gts_nil))))
 KH.gts_nil)))), fun H0 r0 => ?_⟩
    have cl := T.cle; have n1 := T.n_kind; have n2 := T.n_ends
    have s0 := hrs _ _ _ r0
    rw [show L2.start ["kind", "quiet", "first", "known", "waiting", "letters", "effect", "letter", "ends"] [V.ref k, V.bl qu] = [some (.ref k), some (.bl qu), none, none, none, none, none, none, none] from rfl]
    refine KH.r_hthen (KH.r_hps ?_)
    walk_at "rd"
    refine KU.r_cmethK ?_
    walk_at "rd"
    refine ⟨rfl, ?_⟩
    walk_at "rd"
    refine ⟨⟨rfl, rfl⟩, k, r, wr, d, "", qu, rfl, kd.up s0, hr1, hw1, hd1, ⟨Nat.zero_le _, fun c m => by cases m⟩, fun H1 e1 s1 ef => ?_⟩
    obtain ⟨dx1, k1, a1, h1, kd1, ra1⟩ := id ef
    dsimp only [KH.GD.at]
    refine KH.r_hthen (KH.r_hps ?_)
    walk_at "rd"
    refine fun D nD => ?_
    have sD := same_new (o := KH.DNo P w D []) nD
    have h1D := sD _ _ h1
    walk_at "rd"
    refine ⟨a1, rk (rowsOf r wr d qu []), rfl, rfl, upd_same, nk_rows (ra1.up sD), rk_depth _, ?_⟩
    rw [upd_upd]
    have sD1 := same_new (o := KH.DNo P w D [(rk (rowsOf r wr d qu []), a1)]) nD
    have dn1 : KH.DN P w (upd H1 D (KH.DNo P w D [(rk (rowsOf r wr d qu []), a1)])) D [(rk (rowsOf r wr d qu []), a1)] := ⟨upd_same, fun x m => by rw [List.mem_singleton.mp m]; exact ⟨nk_rows (ra1.up sD1), rk_depth _⟩⟩
    have efD := ef.up sD1
    have fD : H D = none := by
      cases e : H D with
      | none => rfl
      | some o => rw [s1 _ _ (s0 _ _ e)] at nD; cases nD
    have s2 := (s0.trans s1).trans sD1
    have s2' := s1.trans sD1
    generalize upd H1 D (KH.DNo P w D [(rk (rowsOf r wr d qu []), a1)]) = H2 at dn1 efD s2 s2' ⊢
    walk_at "rd"
    dsimp only [KH.GD.at]
    refine KH.r_hthen (KH.r_hps ?_)
    walk_at "rd"
    refine ⟨by walk_at "sz", fun t0 nt => ?_⟩
    walk_at "rd"
    refine ⟨by walk_at "sz", fun L nL => ?_⟩
    walk_at "rd"
    dsimp only [KH.GD.at]
    refine KH.r_hthen ?_
    have lp0 : Lp C CE P w H H0 (upd (upd H2 t0 (HO.tup [V.str "", V.ref e1])) L (HO.lst [V.ref t0])) k D L r wr d (stg r wr d qu 0) 0 := by
      have sa := same_new (o := HO.tup [V.str "", V.ref e1]) nt
      have sb := same_new (o := HO.lst [V.ref t0]) nL
      have sc := sa.trans sb
      refine ⟨(kd.up s2).up sc, ⟨_, dn1.up sc, rfl⟩, ⟨[t0], upd_same, rfl, fun i t x e1' e2' => ?_⟩, fD, ?_, KS.of (s2'.trans sc)⟩
      · match i, e1', e2' with
        | 0, e1', e2' =>
          cases e1'
          cases e2'
          exact ⟨e1, sb _ _ upd_same, efD.up sc⟩
      · cases e : H L with
        | none => rfl
        | some o => rw [sa _ _ (s2 _ _ e)] at nL; cases nL
    refine ⟨fun m j H0' σ' H' => m = 20 - j ∧ j ≤ (stg r wr d qu j).length ∧ ∃ D L f0 y5 y6 y7 y8, σ' = [some (.ref k), some (.bl qu), f0, some (.ref D), some (.ref L), y5, y6, y7, y8] ∧ Lp C CE P w H H0' H' k D L r wr d (stg r wr d qu j) j, ⟨20, rfl, Nat.zero_le _, _, _, _, _, _, _, _, rfl, lp0⟩, ?_⟩
    clear lp0 nL nt s2 s2' fD efD dn1 H2 sD1 h1D sD nD ra1 kd1 h1 ef s1 s0 r0 H1 H0
    rintro m j Hj σ' H1 ⟨rfl, jl, D, L, f0, y5, y6, y7, y8, rfl, lp⟩
    obtain ⟨ts, hL, wa⟩ := lp.wt
    walk_at "rd"
    refine ⟨by walk_at "sz", fun l2 n2 => ?_⟩
    have sn := same_new (o := HO.lst []) n2
    refine ⟨L, l2, ts.map V.ref, rfl, rfl, SqL.of (sn _ _ hL), SqL.of upd_same, ?_⟩
    have lp2 := lp.up sn
    have wa2 := wa.up sn
    have hL2 := sn _ _ hL
    generalize upd H1 l2 (HO.lst []) = H2 at lp2 wa2 hL2 ⊢
    cases ts with
    | nil =>
      refine ⟨false, rfl, iteF ?_⟩
      have e0 := wa.1
      have ll : (stg r wr d qu j).length ≤ j := by
        rw [List.length_drop] at e0
        simp at e0
        omega
      have ee := stg_all hr1 hw1 hd1 ll
      have ej : (allE r wr d qu).length = j := by rw [← ee]; omega
      refine KH.r_h0 ?_
      have z := hen Hj H2 lp2.ks
      rw [ej] at z
      exact z
    | cons t ts =>
      refine ⟨true, rfl, iteT ?_⟩
      have lj : j < (stg r wr d qu j).length := by
        have e0 := wa.1
        rw [List.length_drop, List.length_cons] at e0
        omega
      obtain ⟨x, hx⟩ : ∃ x, (stg r wr d qu j)[j]? = some x := ⟨_, List.getElem?_eq_getElem lj⟩
      obtain ⟨ha, j6⟩ := stg_at hr1 hw1 hd1 hx
      have ed : (stg r wr d qu j).drop j = x :: (stg r wr d qu j).drop (j + 1) := by
        rw [List.drop_eq_getElem_cons lj, (List.getElem?_eq_some_iff.mp hx).2]
      rw [ed] at wa2
      obtain ⟨e, ht, he⟩ := wa2.2 0 t x rfl rfl
      have wa3 : WaitAt C CE H2 r wr d ts ((stg r wr d qu j).drop (j + 1)) := ⟨by have := wa2.1; simpa using this, fun i t' x' q1 q2 => wa2.2 (i + 1) t' x' q1 q2⟩
      refine ⟨fun j' H0' σ' H' => j' = j + 1 ∧ j' ≤ (stg r wr d qu j').length ∧ ∃ D L f0 y5 y6 y7 y8, σ' = [some (.ref k), some (.bl qu), f0, some (.ref D), some (.ref L), y5, y6, y7, y8] ∧ Lp C CE P w H H0' H' k D L r wr d (stg r wr d qu j') j', fun j' H0' σ' H' z => by
        obtain ⟨rfl, z⟩ := z
        exact ⟨20 - (j + 1), by omega, rfl, z⟩, ?_⟩
      refine KH.r_hthen (KH.r_hps ?_)
      walk_at "rd"
      refine ⟨L, _, 0, 0, .ref t, rfl, rfl, hL2, by decide, by decide, (by unfold PySem.seqIndex?; rw [List.length_map, List.length_cons]; simp), rfl, ?_⟩
      have lq := lst_nt (xs := (t :: ts).map V.ref)
      have li := lst_ni (xs := (t :: ts).map V.ref)
      have ht3 := tup_mut (o' := HO.lst (((t :: ts).map V.ref).eraseIdx 0)) ht hL2 lq
      have he3 := eff_mut (o' := HO.lst (((t :: ts).map V.ref).eraseIdx 0)) he hL2 lq li
      have ne : D ≠ L := fun z => by
        obtain ⟨xs, dz, _⟩ := lp2.dn
        have q := dz.1
        rw [z, hL2] at q
        exact absurd q (by intro y; cases y)
      have lp3 : Lp C CE P w H Hj (upd H2 L (.lst (((t :: ts).map V.ref).eraseIdx 0))) k D L r wr d (stg r wr d qu j) (j + 1) := by
        obtain ⟨xs, dz, ez⟩ := lp2.dn
        refine ⟨kind_mut lp2.kd hL2 lq li, ⟨xs, ⟨by rw [upd_ne ne]; exact dz.1, fun x m => ⟨(dz.2 x m).1.upT (fun a ys ea => tup_mut ea hL2 lq) _ _, (dz.2 x m).2⟩⟩, ez⟩, ⟨ts, upd_same, wa3.mut hL2 lq li⟩, lp2.fD, lp2.fL, lp2.ks.mut lp2.fL hL2 lq li⟩
      generalize upd H2 L (.lst (((t :: ts).map V.ref).eraseIdx 0)) = H3 at ht3 he3 lp3 ⊢
      refine KB.r_gtup (SqT.of ht3) rfl ?_
      walk_at "rd"
      dsimp only [KH.GD.at]
      refine KH.r_hthen (KH.r_hyield (by omega) ?_)
      walk_at "rd"
      refine ⟨by walk_at "sz", fun ty nty => ⟨?_, fun H5 r5 => ?_⟩⟩
      · have sy := same_new (o := HO.tup [V.str (txt x.1), V.ref e]) nty
        exact hyl j x Hj _ ty e ha (lp3.ks.on sy) upd_same (he3.up sy)
      have s5 := (same_new (o := HO.tup [V.str (txt x.1), V.ref e]) nty).trans (hrs _ _ _ r5)
      have lp5 := lp3.at s5
      have he5 := he3.up s5
      clear lp3 he3 s5 ht3 nty
      refine KH.r_hthen (KH.r_hps ?_)
      walk_at "rd"
      have xl : x.2 = rowsOf r wr d qu x.1 ∧ ∀ c ∈ x.1, isLet c := (stg_ok (r := r) (w := wr) (d := d) (q := qu) j).at_ x (List.mem_of_getElem? hx)
      have xs2 : x.1.length ≤ 2 := (allE_small r hr1 wr hw1 d hd1 qu).2 x (List.mem_of_getElem? ha)
      refine forW walk_str (fun i σ' H' => ∃ y7 y8, σ' = [some (.ref k), some (.bl qu), f0, some (.ref D), some (.ref L), some (.str (txt x.1)), some (.ref e), y7, y8] ∧ Lp C CE P w H H5 H' k D L r wr d ((L3.take i).foldl (grow1 r wr d qu x) (stg r wr d qu j)) (j + 1) ∧ EffAt C CE H' e r wr d x.2) ⟨_, _, rfl, lp5, he5⟩ (fun _ _ _ _ _ => trivial) ?_ ?_
      · rintro i y σ' H6 H6' hi ⟨y7, y8, rfl, lp6, he6⟩ ⟨rfl, c, hc, rfl⟩
        have hc' : L3[i]? = some c := by
          have q : ("01r" : Str).cps.toList[i]? = some c := by
            rw [Array.getElem?_toList]
            exact hc
          exact q
        have lc : isLet c := l3_let.mp (List.mem_of_getElem? hc')
        obtain ⟨dx6, k6, a6, e6, kd6, ra6⟩ := id he6
        have et : (L3.take (i + 1)).foldl (grow1 r wr d qu x) (stg r wr d qu j) = grow1 r wr d qu x ((L3.take i).foldl (grow1 r wr d qu x) (stg r wr d qu j)) c := by
          rw [List.take_add_one, hc', List.foldl_append]
          rfl
        rw [et]
        have al : ((L3.take i).foldl (grow1 r wr d qu x) (stg r wr d qu j)).length ≤ 6 := by
          have p1 := growL_pre (r := r) (w := wr) (d := d) (q := qu) x (L3.drop i) ((L3.take i).foldl (grow1 r wr d qu x) (stg r wr d qu j))
          rw [← List.foldl_append, List.take_append_drop] at p1
          have p2 : L3.foldl (grow1 r wr d qu x) (stg r wr d qu j) <+: allE r wr d qu := by
            rw [allE_eq, show L3.foldl (grow1 r wr d qu x) (stg r wr d qu j) = stg r wr d qu (j + 1) from (stg_some hx).symm]
            exact stg_pre (by omega)
          exact Nat.le_trans (p1.trans p2).length_le (allE_small r hr1 wr hw1 d hd1 qu).1
        have la : j + 1 ≤ ((L3.take i).foldl (grow1 r wr d qu x) (stg r wr d qu j)).length := Nat.le_trans lj (growL_pre (r := r) (w := wr) (d := d) (q := qu) x (L3.take i) (stg r wr d qu j)).length_le
        generalize hacc : (L3.take i).foldl (grow1 r wr d qu x) (stg r wr d qu j) = acc at lp6 al la ⊢
        walk_at "rd"
        refine ⟨k, a6, r, wr, d, c, qu, x.2, rfl, lp6.kd, hr1, hw1, hd1, lc, ra6, ?_, fun row m => ?_, fun H7 a7 s7 ra7 => ?_⟩
        · rw [xl.1]
          show ((statesOf wr).map _).length ≤ 4
          rw [List.length_map]; exact states_len wr
        · rw [xl.1] at m
          obtain ⟨sv, _, rfl⟩ := List.mem_map.mp m
          exact ⟨rowOf_len, rowOf_s4⟩
        have lp7 := lp6.up s7
        have he7 := he6.up s7
        obtain ⟨xs, dn7, ex⟩ := lp7.dn
        obtain ⟨ts7, eL7, wa7⟩ := lp7.wt
        have nk7 := nk_rows ra7
        have es : (x.2.map fun row => stepRow r wr d qu row c) = nxt r wr d qu x.2 c := rfl
        rw [es] at nk7 ra7
        clear es
        have mk : (rk (nxt r wr d qu x.2 c) ∈ xs.map (·.1)) ↔ nxt r wr d qu x.2 c ∈ acc.map (·.2) := by
          rw [ex]
          constructor
          · intro z
            obtain ⟨y, my, ey⟩ := List.mem_map.mp z
            exact List.mem_map.mpr ⟨y, my, rk_inj ey⟩
          · intro z
            obtain ⟨y, my, ey⟩ := List.mem_map.mp z
            exact List.mem_map.mpr ⟨y, my, by rw [ey]⟩
        walk_at "rd"
        unfold KH.tNNotIn
        walk_at "rd"
        refine ⟨D, a7, xs, _, rfl, rfl, dn7, nk7, rk_depth _, ?_⟩
        by_cases mm : nxt r wr d qu x.2 c ∈ acc.map (·.2)
        · rw [decide_eq_true (mk.mpr mm)]
          walk_at "rd"
          refine ⟨_, _, rfl, ?_, he7⟩
          unfold grow1
          rw [if_pos mm]
          exact lp7
        · rw [decide_eq_false (fun z => mm (mk.mp z))]
          walk_at "rd"
          have lxs : xs.length < sizeLine := by
            have e1 : (xs.map (·.1)).length = acc.length := by rw [ex, List.length_map]
            rw [List.length_map] at e1
            exact Nat.lt_of_le_of_lt (by omega) (show 6 < sizeLine by decide)
          unfold KH.sNPut
          walk_at "rd"
          refine ⟨D, a7, xs, _, rfl, rfl, rfl, dn7, nk7, rk_depth _, fun z => mm (mk.mp z), lxs, ?_⟩
          have kd8 := kind_mut (o' := KH.DNo P w D (xs ++ [(rk (nxt r wr d qu x.2 c), a7)])) lp7.kd dn7.1 dno_nt dno_ni
          have he8 := eff_mut (o' := KH.DNo P w D (xs ++ [(rk (nxt r wr d qu x.2 c), a7)])) he7 dn7.1 dno_nt dno_ni
          have wa8 := wa7.mut (o' := KH.DNo P w D (xs ++ [(rk (nxt r wr d qu x.2 c), a7)])) dn7.1 dno_nt dno_ni
          have ra8 := rows_mut (o' := KH.DNo P w D (xs ++ [(rk (nxt r wr d qu x.2 c), a7)])) ra7 dn7.1 dno_nt
          have ks8 := lp7.ks.mut (o' := KH.DNo P w D (xs ++ [(rk (nxt r wr d qu x.2 c), a7)])) lp7.fD dn7.1 dno_nt dno_ni
          have dn8 := dn7.push nk7 (rk_depth _)
          have eL8 : upd H7 D (KH.DNo P w D (xs ++ [(rk (nxt r wr d qu x.2 c), a7)])) L = some (.lst (ts7.map V.ref)) := by
            rw [upd_ne (fun z => by rw [z, dn7.1] at eL7; cases eL7)]
            exact eL7
          have fD := lp7.fD
          have fL := lp7.fL
          have lw := wa7.1
          clear lxs lp7 he7 dn7 nk7 wa7 eL7 ra7 kd6 ra6 e6 he6 lp6
          generalize upd H7 D (KH.DNo P w D (xs ++ [(rk (nxt r wr d qu x.2 c), a7)])) = H8 at kd8 he8 wa8 ra8 ks8 dn8 eL8 ⊢
          walk_at "rd"
          refine ⟨_, _, rfl, rfl, ?_, ?_⟩
          · have e1 : (txt x.1).length ≤ 2 := xs2
            exact Nat.le_trans (Nat.add_le_add e1 (show (sign c).length ≤ 1 from Nat.le_refl _)) (by decide)
          rw [show (txt x.1 ++ (⟨#[c]⟩ : Str)) = txt (x.1 ++ [c]) from txt_snoc x.1 c]
          walk_at "rd"
          refine fun z dz nz ndz nzd => ⟨z, dz, k, a7, rfl, upd_same, fun H9 e9 kp9 => ⟨rfl, ?_⟩⟩
          have s9 : Same H8 H9 := fun b o eb => kp9 b o (by rw [upd_ne (ne_of_none eb nz), upd_ne (ne_of_none eb ndz)]; exact eb) (ne_of_none eb nz)
          have ef9 : EffAt C CE H9 z r wr d (nxt r wr d qu x.2 c) := ⟨dz, k, a7, e9, kd8.up s9, ra8.up s9⟩
          walk_at "rd"
          refine ⟨by walk_at "sz", fun tz ntz => ?_⟩
          have s10 := s9.trans (same_new (o := HO.tup [V.str (txt (x.1 ++ [c])), V.ref z]) ntz)
          have ef10 := ef9.up (same_new (o := HO.tup [V.str (txt (x.1 ++ [c])), V.ref z]) ntz)
          have tz10 : upd H9 tz (HO.tup [V.str (txt (x.1 ++ [c])), V.ref z]) tz = some (.tup [V.str (txt (x.1 ++ [c])), V.ref z]) := upd_same
          have kd10 := kd8.up s10
          have he10 := he8.up s10
          have wa10 := wa8.up s10
          have dn10 := dn8.up s10
          have eL10 := s10 _ _ eL8
          have ks10 := ks8.on s10
          clear kd8 he8 wa8 ra8 ks8 dn8 eL8 ef9 s10
          generalize upd H9 tz (HO.tup [V.str (txt (x.1 ++ [c])), V.ref z]) = H10 at ef10 tz10 kd10 he10 wa10 dn10 eL10 ks10 ⊢
          walk_at "rd"
          refine r_append eL10 ?_ ?_
          · rw [List.length_map]
            have : (acc.drop (j + 1)).length ≤ acc.length := by rw [List.length_drop]; omega
            exact Nat.lt_of_le_of_lt (by omega) (show 6 < sizeLine by decide)
          have wp := wa10.push (x := (x.1 ++ [c], nxt r wr d qu x.2 c)) tz10 ef10
          refine ⟨_, _, rfl, ?_, eff_mut he10 eL10 lst_nt lst_ni⟩
          unfold grow1
          rw [if_neg mm]
          refine ⟨kind_mut kd10 eL10 lst_nt lst_ni, ⟨_, ⟨?_, fun y m => ⟨(dn10.2 y m).1.upT (fun a ys ea => tup_mut ea eL10 lst_nt) _ _, (dn10.2 y m).2⟩⟩, ?_⟩, ⟨ts7 ++ [tz], ?_, ?_⟩, fD, fL, ks10.mut fL eL10 lst_nt lst_ni⟩
          · rw [upd_ne (fun z => by have q := dn10.1; rw [z, eL10] at q; exact absurd q (by intro y; cases y))]
            exact dn10.1
          · rw [List.map_append, List.map_append, ex]
            rfl
          · rw [List.map_append]
            exact upd_same
          · rw [List.drop_append_of_le_length ?_]
            · exact wp.mut eL10 lst_nt lst_ni
            · exact la
      · rintro σ' H6 ⟨y7, y8, rfl, lp6, he6⟩
        have e0 : (L3.take (("01r" : Str).cps.size)).foldl (grow1 r wr d qu x) (stg r wr d qu j) = stg r wr d qu (j + 1) := (stg_some hx).symm
        rw [e0] at lp6
        have le : j + 1 ≤ (stg r wr d qu (j + 1)).length := by
          obtain ⟨tl, etl⟩ := stg_pre1 (r := r) (w := wr) (d := d) (q := qu) j
          rw [← etl, List.length_append]
          omega
        dsimp only [KH.GD.at]
        refine KH.r_h0 ⟨rfl, le, _, _, _, _, _, _, _, rfl, lp6⟩
end
end K17


namespace K17
open PySem L2 KB KO KY KV KW
/-! ### what a loop over all_effects is given -/
def AllY (C CE : Addr) (r w d : Str) (q : Bool) (H : Hp) : Nat → Hp → V → Hp → Prop := fun j H0 v H1 => ∃ (x : List Nat × Rw) (t e : Addr), v = .ref t ∧ (allE r w d q)[j]? = some x ∧ KS H H0 H1 ∧ H1 t = some (.tup [.str (txt x.1), .ref e]) ∧ EffAt C CE H1 e r w d x.2
def AllN (r w d : Str) (q : Bool) (H : Hp) : Nat → Hp → Hp → Prop := fun j H0 H1 => j = (allE r w d q).length ∧ KS H H0 H1
theorem all_sp {C CE k : Addr} {r w d : Str} {q : Bool} {H : Hp} (kd : KindAt C H k r w d) (hr : r ∈ RD) (hw : w ∈ WR) (hd : d ∈ DV) : spAllH C CE [.ref k, .bl q] H (fun _ Hy H' => Same Hy H') (AllY C CE r w d q H) (AllN r w d q H) :=
  ⟨k, r, w, d, q, rfl, kd, hr, hw, hd, fun _ _ _ z => z, fun j x H0 H1 t e h1 h2 h3 h4 => ⟨x, t, e, rfl, h1, h2, h3, h4⟩, fun H0 H1 z => ⟨rfl, z⟩⟩
def spShort (C : Addr) : Sp := fun vs H Q _ => ∃ (k : Addr) (r w d : Str) (z : Str) (q : Bool), vs = [.ref k, .str z, .bl q] ∧ KindAt C H k r w d ∧ r ∈ RD ∧ w ∈ WR ∧ d ∈ DV ∧ Lets z ∧ ∀ H', Same H H' → Q (.str (txt (shE r w d q (rowsOf r w d q z.cps.toList)))) H'


section
variable {P : Program} {w : World} {K : PySem.W.Frag} {mg : Str → Option Value} {base : Heap}
theorem ok_shortest {f C dM CE : Addr} {fd : FuncData} (F : FunD K "shortest" "shortest" (defArgs s_shortest) (defBody s_shortest) (defScope s_shortest) [] [("quiet", .bl false)] f fd) (T : TxtF K w mg C dM CE)
    (ck_Effect_of_2_quiet : KU.CalleeCK P w K mg base CX0 6 CE "of" ["cls", "kind", "letters", "quiet"] (spOf C CE) 3 ["quiet"] gRev1)
    (h_all_effects_1_quiet : KH.CalleeH P w K mg base 8 20 "all_effects" ["kind", "quiet"] (spAllH C CE) 1 ["quiet"] gRev1) :
    FnOk P w K mg base CX0 10 f fd ["kind", "letters", "quiet"] (spShort C) := by
  refine F.ok sc_shortest (fun vs H Q E h => ?_) (fun cdv A outer s H vs Q E hr h => ?_)
  · obtain ⟨k, r, w, d, z, q, rfl, _⟩ := h
    rfl
  · obtain ⟨k, r, wr, d, z, qu, rfl, kd, hr1, hw1, hd1, ⟨lz, hz⟩, q⟩ := h
    obtain ⟨t', drv, rdg⟩ : ∃ t', PSs (cxOf CX0 P w K mg base ["kind", "letters", "quiet", "ends", "found", "effect"] "shortest" (defScope s_shortest) f cdv A outer s H E).nox (defBody s_shortest) t' ∧ t' { nx := fun _ H' => Q .non H', rt := Q } (start ["kind", "letters", "quiet", "ends", "found", "effect"] [.ref k, .str z, .bl qu]) H := by
      refine ⟨_, (pss_cons (ps_set (i := 3) sc_shortest.nd rfl (by first | exact Or.inl rfl | exact Or.inr rfl) (pe_fld (KU.pe_cmethK ck_Effect_of_2_quiet (pe_glob (v := .ref _) (by rfl) T.mg_Effect rfl) (hr.mono (by decide)) pass0 (pa_cons (pv 0) (pa_cons (pv 1) pa_nil)) (pk_cons (pv 2) pk_nil)) rfl))
 (pss_cons (KH.ps_forH PassesOwn.never KH.xs_nox (by decide) (hr.mono (by decide)) (KH.ph_callKw h_all_effects_1_quiet (hr.mono (by decide)) (by rfl) (pa_cons (pv 0) pa_nil) (pk_cons (pv 2) pk_nil)) (pg_tup rfl (pgs_cons (pg_name (i := 4) sc_shortest.nd rfl (by first | exact Or.inl rfl | exact Or.inr rfl)) (pgs_cons (pg_name (i := 5) sc_shortest.nd rfl (by first | exact Or.inl rfl | exact Or.inr rfl)) pgs_nil)))
 (pss_one (ps_if (pt_cmpR (op_eqD hr.units) (pe_fld (pv 5) rfl) (pv 3) (nomark _)) (pss_one (ps_ret (pv 4)))
 pss_nil)))
 (pss_one (ps_ret (pv 1))))), at_start (σ := [some (.ref k), some (.str z), some (.bl qu), none, none, none]) rfl ?_⟩
      try dsimp only [cx_K]
      have cl := T.cle; have n1 := T.n_kind; have n2 := T.n_ends
      walk_at "rd"
      refine KU.r_cmethK ?_
      walk_at "rd"
      refine ⟨rfl, ?_⟩
      walk_at "rd"
      refine ⟨⟨rfl, rfl⟩, k, r, wr, d, z, qu, rfl, kd, hr1, hw1, hd1, ⟨lz, hz⟩, fun H1 e1 s1 ef => ?_⟩
      obtain ⟨dx1, k1, a1, h1, kd1, ra1⟩ := id ef
      walk_at "rd"
      refine ⟨fun j Hy σ' H' => (∃ y4 y5, σ' = [some (.ref k), some (.str z), some (.bl qu), some (.ref a1), y4, y5]) ∧ Same H1 H' ∧ Same Hy H' ∧ ∀ i < j, ∀ x, (allE r wr d qu)[i]? = some x → x.2 ≠ rowsOf r wr d qu z.cps.toList, ?_⟩
      unfold KH.tHCall
      walk_at "rd"
      refine ⟨rfl, rfl, _, _, _, all_sp (kd.up s1) hr1 hw1 hd1, ⟨⟨_, _, rfl⟩, Same.refl _, Same.refl _, fun i h => absurd h (Nat.not_lt_zero i)⟩, fun _ _ _ _ z => z.2.2.1, ?_, ?_⟩
      · rintro j Hy σ' H2 x H3 ⟨⟨y4, y5, rfl⟩, s2, s3, nf⟩ ⟨xx, t, e, rfl, hx, ks, ht, he⟩
        have s4 := ks.same s2
        obtain ⟨dx5, k5, a5, h5, kd5, ra5⟩ := id he
        refine KB.r_gtup (SqT.of ht) rfl ?_
        walk_at "rd"
        refine r_eqRows ra5 (ra1.up s4) ?_
        by_cases h : xx.2 = rowsOf r wr d qu z.cps.toList
        · rw [decide_eq_true h]
          walk_at "rd"
          have z := q H3 (s1.trans s4)
          rw [shE_at hx h] at z
          exact z
        · rw [decide_eq_false h]
          walk_at "rd"
          refine ⟨⟨_, _, rfl⟩, s4, Same.refl _, fun i hi x hx' => ?_⟩
          rcases Nat.lt_or_ge i j with l | l
          · exact nf i l x hx'
          · obtain rfl : i = j := by omega
            rw [hx] at hx'
            cases hx'
            exact h
      · rintro j Hy σ' H2 H3 ⟨⟨y4, y5, rfl⟩, s2, s3, nf⟩ ⟨ej, ks⟩
        obtain ⟨i, x, hx, ex, _⟩ := shE_spec (q := qu) hr1 hw1 hd1 hz
        exact absurd ex (nf i (by rw [ej]; exact (List.getElem?_eq_some_iff.mp hx).1) x hx)
    exact ⟨t', drv.nox, rdg⟩
end
end K17


namespace K17
open PySem L2 KB KO KY KV KW
/-! ### words and blends -/
def W3 (w : Nat) : Prop := w = 8 ∨ w = 16 ∨ w = 32
theorem W3.le {w : Nat} (h : W3 w) : 8 ≤ w ∧ w ≤ 32 := by
  rcases h with rfl | rfl | rfl <;> decide
theorem W3.pow {w : Nat} (h : W3 w) : 2 ^ w ≤ 4294967296 := by
  rcases h with rfl | rfl | rfl <;> decide
def isIntD : Dt → Bool
  | .sc (.int _) => true
  | _ => false
def isBoolD : Dt → Bool
  | .sc (.bl _) => true
  | _ => false
def isW : Dt → Bool
  | .sc (.int i) => decide (i = 8 ∨ i = 16 ∨ i = 32)
  | _ => false
def isWord (w : Nat) : Dt → Bool
  | .sc (.int i) => decide (0 ≤ i ∧ i < (2 ^ w : Nat))
  | _ => false
def isShift (w : Nat) : Dt → Bool
  | .sc (.int i) => decide (0 - (w : Int) ≤ i ∧ i ≤ w)
  | _ => false
theorem isIntD_of {t : Dt} (h : isIntD t = true) : ∃ i, t = .sc (.int i) := by
  cases t with
  | sc s => cases s with
    | int i => exact ⟨i, rfl⟩
    | non => cases h
    | bl => cases h
    | str => cases h
  | tup => cases h
  | lst => cases h
  | dct => cases h
theorem isW_of {t : Dt} (h : isW t = true) : ∃ w : Nat, W3 w ∧ t = .sc (.int w) := by
  cases t with
  | sc s => cases s with
    | int i =>
      have h' : i = 8 ∨ i = 16 ∨ i = 32 := of_decide_eq_true h
      rcases h' with rfl | rfl | rfl
      · exact ⟨8, .inl rfl, rfl⟩
      · exact ⟨16, .inr (.inl rfl), rfl⟩
      · exact ⟨32, .inr (.inr rfl), rfl⟩
    | non => cases h
    | bl => cases h
    | str => cases h
  | tup => cases h
  | lst => cases h
  | dct => cases h
theorem isWord_of {w : Nat} {t : Dt} (h : isWord w t = true) : ∃ n : Nat, n < 2 ^ w ∧ t = .sc (.int n) := by
  cases t with
  | sc s => cases s with
    | int i =>
      have h' : 0 ≤ i ∧ i < (2 ^ w : Nat) := of_decide_eq_true h
      exact ⟨i.toNat, by omega, by rw [show ((i.toNat : Nat) : Int) = i by omega]⟩
    | non => cases h
    | bl => cases h
    | str => cases h
  | tup => cases h
  | lst => cases h
  | dct => cases h
theorem isShift_of {w : Nat} {t : Dt} (h : isShift w t = true) : ∃ s : Int, 0 - (w : Int) ≤ s ∧ s ≤ w ∧ t = .sc (.int s) := by
  cases t with
  | sc s => cases s with
    | int i =>
      have h' : 0 - (w : Int) ≤ i ∧ i ≤ w := of_decide_eq_true h
      exact ⟨i, h'.1, h'.2, rfl⟩
    | non => cases h
    | bl => cases h
    | str => cases h
  | tup => cases h
  | lst => cases h
  | dct => cases h
theorem isWord_nat {w n : Nat} (h : n < 2 ^ w) : isWord w (.sc (.int n)) = true := decide_eq_true ⟨by omega, by omega⟩
theorem isW_nat {w : Nat} (h : W3 w) : isW (.sc (.int w)) = true := by
  rcases h with rfl | rfl | rfl <;> rfl
theorem noInt_noW {t : Dt} (h : isIntD t = false) : isW t = false ∧ (∀ w, isWord w t = false) ∧ ∀ w, isShift w t = false := by
  cases t with
  | sc s => cases s with
    | int i => cases h
    | non => exact ⟨rfl, fun _ => rfl, fun _ => rfl⟩
    | bl => exact ⟨rfl, fun _ => rfl, fun _ => rfl⟩
    | str => exact ⟨rfl, fun _ => rfl, fun _ => rfl⟩
  | tup => exact ⟨rfl, fun _ => rfl, fun _ => rfl⟩
  | lst => exact ⟨rfl, fun _ => rfl, fun _ => rfl⟩
  | dct => exact ⟨rfl, fun _ => rfl, fun _ => rfl⟩
theorem r_isIntD {K : PySem.W.Frag} {H : Hp} {Q : VK} {v : V} {t : Dt} (h : OdAt H v t) (q : Q (.bl (isIntD t || isBoolD t)) H) : rIsi K [v, .ty "int"] H Q := by
  refine ⟨v, .ty "int", _, .type "int", isIntD t || isBoolD t, rfl, .ty _, h.tyX, ?_, q⟩
  have h1 : kitB "NoneType" "int" = some false ∧ kitB "bool" "int" = some true ∧ kitB "int" "int" = some true ∧ kitB "str" "int" = some false ∧ kitB "tuple" "int" = some false ∧ kitB "list" "int" = some false ∧ kitB "dict" "int" = some false := by decide +kernel
  cases t with
  | sc s =>
    cases s with
    | non => exact kit_ty h1.1
    | bl b => exact kit_ty h1.2.1
    | int i => exact kit_ty h1.2.2.1
    | str x => exact kit_ty h1.2.2.2.1
  | tup l => exact kit_ty h1.2.2.2.2.1
  | lst l => exact kit_ty h1.2.2.2.2.2.1
  | dct l => exact kit_ty h1.2.2.2.2.2.2
theorem r_isBoolD {K : PySem.W.Frag} {H : Hp} {Q : VK} {v : V} {t : Dt} (h : OdAt H v t) (q : Q (.bl (isBoolD t)) H) : rIsi K [v, .ty "bool"] H Q := by
  refine ⟨v, .ty "bool", _, .type "bool", isBoolD t, rfl, .ty _, h.tyX, ?_, q⟩
  have h1 : kitB "NoneType" "bool" = some false ∧ kitB "bool" "bool" = some true ∧ kitB "int" "bool" = some false ∧ kitB "str" "bool" = some false ∧ kitB "tuple" "bool" = some false ∧ kitB "list" "bool" = some false ∧ kitB "dict" "bool" = some false := by decide +kernel
  cases t with
  | sc s =>
    cases s with
    | non => exact kit_ty h1.1
    | bl b => exact kit_ty h1.2.1
    | int i => exact kit_ty h1.2.2.1
    | str x => exact kit_ty h1.2.2.2.1
  | tup l => exact kit_ty h1.2.2.2.2.1
  | lst l => exact kit_ty h1.2.2.2.2.2.1
  | dct l => exact kit_ty h1.2.2.2.2.2.2
/-- what the text's classes are -/
structure TxtB (K : PySem.W.Frag) (mg : Str → Option Value) (C aW : Addr) : Prop extends Txt mg where
  cl : Cls K C
  n_width : NoAttr K C "width"
  n_shift : NoAttr K C "shift"
  n_keep : NoAttr K C "keep"
  n_flip : NoAttr K C "flip"
  mg_Blend : mg "Blend" = some (.ref C)
  mg_WIDTHS : mg "WIDTHS" = some (.ref aW)
  widths : ∀ H, SqT K H aW (([8, 16, 32] : List Int).map V.int)
def flB (w s k f : Int) : List (Str × V) := [("width", .int w), ("shift", .int s), ("keep", .int k), ("flip", .int f)]
theorem fb_w {w s k f : Int} : (flB w s k f).lookup ("width" : Str) = some (.int w) := rfl
theorem fb_s {w s k f : Int} : (flB w s k f).lookup ("shift" : Str) = some (.int s) := rfl
theorem fb_k {w s k f : Int} : (flB w s k f).lookup ("keep" : Str) = some (.int k) := rfl
theorem fb_f {w s k f : Int} : (flB w s k f).lookup ("flip" : Str) = some (.int f) := rfl
/-- the blend of the width w: its numbers -/
structure Nm (w : Nat) (s : Int) (k f : Nat) : Prop where
  w3 : W3 w
  lo : 0 - (w : Int) ≤ s
  hi : s ≤ w
  kl : k < 2 ^ w
  fl : f < 2 ^ w
def BlendAt (C : Addr) (H : Hp) (p : Addr) (w : Nat) (s : Int) (k f : Nat) : Prop := Nm w s k f ∧ ∃ dx, H p = some (.ins C dx (flB w s k f))
theorem BlendAt.up {C : Addr} {H H' : Hp} {p : Addr} {w : Nat} {s : Int} {k f : Nat} (h : BlendAt C H p w s k f) (e : Same H H') : BlendAt C H' p w s k f := by
  obtain ⟨n, dx, g⟩ := h
  exact ⟨n, dx, e _ _ g⟩
def spInt : Sp := fun vs H Q _ => ∃ (v : V) (t : Dt), vs = [v] ∧ OdAt H v t ∧ Q (.bl (isIntD t)) H
def spNW (CE : Addr) : Sp := fun vs H Q E => ∃ (v : V) (t : Dt), vs = [v] ∧ OdAt H v t ∧ (isW t = true → Q .non H) ∧ (isW t = false → ∀ d H', Same H H' → H' d = some (.xd [("value", v)]) → E (.ref CE) (some d) H')
def spOnes : Sp := fun vs H Q _ => ∃ w : Nat, vs = [.int w] ∧ w ≤ 32 ∧ Q (.int (KBL.onesN w : Nat)) H
def spIsWord : Sp := fun vs H Q _ => ∃ (w : Nat) (v : V) (t : Dt), vs = [.int w, v] ∧ W3 w ∧ OdAt H v t ∧ Q (.bl (isWord w t)) H
def spNeed (CE : Addr) : Sp := fun vs H Q E => ∃ (w : Nat) (v : V) (t : Dt), vs = [.int w, v] ∧ W3 w ∧ OdAt H v t ∧ (isWord w t = true → Q .non H) ∧ (isWord w t = false → ∀ d H', Same H H' → H' d = some (.xd [("value", v)]) → E (.ref CE) (some d) H')
def spSh : Sp := fun vs H Q _ => ∃ (w v : Nat) (s : Int), vs = [.int v, .int w, .int s] ∧ W3 w ∧ v < 2 ^ w ∧ 0 - (w : Int) ≤ s ∧ s ≤ w ∧ Q (.int (KBL.shN w v s : Nat)) H
/-- the mask that is meant -/
def maskOf (w : Nat) : Dt → Nat
  | .sc (.int i) => i.toNat
  | _ => KBL.onesN w
def isNoneD : Dt → Bool
  | .sc .non => true
  | _ => false
/-- Blend(v1, v2, v3, v4); cW, cS, cR: InvalidWidth, InvalidShift, InvalidWord -/
def spBlend (C cW cS cR : Addr) : Sp := fun vs H Q E => ∃ (p dx : Addr) (v1 v2 v3 v4 : V) (t1 t2 t3 t4 : Dt), vs = [.ref p, v1, v2, v3, v4] ∧ H p = some (.ins C dx []) ∧ OdAt H v1 t1 ∧ OdAt H v2 t2 ∧ OdAt H v3 t3 ∧ OdAt H v4 t4 ∧
  (isW t1 = false → ∀ d H', Same H H' → H' d = some (.xd [("value", v1)]) → E (.ref cW) (some d) H') ∧
  (∀ w : Nat, t1 = .sc (.int w) → W3 w → isShift w t2 = false → ∀ d H', Same H H' → H' d = some (.xd [("value", v2)]) → E (.ref cS) (some d) H') ∧
  (∀ w : Nat, t1 = .sc (.int w) → W3 w → isShift w t2 = true → isNoneD t3 = false → isWord w t3 = false → ∀ d H', Same H H' → H' d = some (.xd [("value", v3)]) → E (.ref cR) (some d) H') ∧
  (∀ w : Nat, t1 = .sc (.int w) → W3 w → isShift w t2 = true → (isNoneD t3 = true ∨ isWord w t3 = true) → isWord w t4 = false → ∀ d H', Same H H' → H' d = some (.xd [("value", v4)]) → E (.ref cR) (some d) H') ∧
  (∀ (w : Nat) (s : Int) (f : Nat), t1 = .sc (.int w) → t2 = .sc (.int s) → t4 = .sc (.int f) → (isNoneD t3 = true ∨ isWord w t3 = true) → Nm w s (KBL.keepN w s (maskOf w t3)) f → ∀ H', BlendAt C H' p w (KBL.shiftN w s (maskOf w t3)) (KBL.keepN w s (maskOf w t3)) f → Keep p H H' → Q .non H')
def spBEq (K : PySem.W.Frag) (C : Addr) : Sp := fun vs H Q _ => (∃ (p p' : Addr) (w w' : Nat) (s s' : Int) (k k' f f' : Nat), vs = [.ref p, .ref p'] ∧ BlendAt C H p w s k f ∧ BlendAt C H p' w' s' k' f' ∧ Q (.bl (decide (w = w' ∧ s = s' ∧ k = k' ∧ f = f'))) H) ∨
  ∃ (p : Addr) (y : V) (w : Nat) (s : Int) (k f : Nat) (T : String), vs = [.ref p, y] ∧ BlendAt C H p w s k f ∧ TyX K H y (.type T) ∧ PySem.W.kitOne K (.type T) (.ref C) = some false ∧ Q (.bl false) H
def spBRepr (C : Addr) : Sp := fun vs H Q _ => ∃ (p : Addr) (w : Nat) (s : Int) (k f : Nat), vs = [.ref p] ∧ BlendAt C H p w s k f ∧ Q (.str (KBL.bText w s k f)) H
def spBCall (C cR : Addr) : Sp := fun vs H Q E => ∃ (p : Addr) (w : Nat) (s : Int) (k f : Nat) (v : V) (t : Dt), vs = [.ref p, v] ∧ BlendAt C H p w s k f ∧ OdAt H v t ∧
  (∀ n : Nat, n < 2 ^ w → t = .sc (.int n) → Q (.int ((f ^^^ (k &&& KBL.shN w n s) : Nat) : Int)) H) ∧ (isWord w t = false → ∀ d H', Same H H' → H' d = some (.xd [("value", v)]) → E (.ref cR) (some d) H')
theorem non_of {H : Hp} {v : V} {t : Dt} (h : OdAt H v t) : (isNoneD t = true → v = .non) ∧ (isNoneD t = false → v ≠ .non) := by
  cases t with
  | sc s =>
    obtain rfl : v = s.v := h
    cases s with
    | non => exact ⟨fun _ => rfl, fun z => by cases z⟩
    | bl => exact ⟨(fun z => by cases z), fun _ z => by cases z⟩
    | int => exact ⟨(fun z => by cases z), fun _ z => by cases z⟩
    | str => exact ⟨(fun z => by cases z), fun _ z => by cases z⟩
  | tup l => obtain ⟨a, rfl, _⟩ := h; exact ⟨(fun z => by cases z), fun _ z => by cases z⟩
  | lst l => obtain ⟨a, rfl, _⟩ := h; exact ⟨(fun z => by cases z), fun _ z => by cases z⟩
  | dct l => obtain ⟨a, rfl, _⟩ := h; exact ⟨(fun z => by cases z), fun _ z => by cases z⟩
theorem keep_ones (w : Nat) (s : Int) : KBL.shN w (KBL.onesN w) s = KBL.keepN w s (KBL.onesN w) := by
  unfold KBL.keepN
  conv => rhs; rw [show KBL.onesN w = 2 ^ w - 1 from rfl]
  rw [Nat.and_two_pow_sub_one_eq_mod]
  exact (Nat.mod_eq_of_lt (KBL.sh_lt (KBL.ones_lt w))).symm
theorem isShift_int (w : Nat) (i : Int) : isShift w (.sc (.int i)) = decide (0 - (w : Int) ≤ i ∧ i ≤ w) := rfl
theorem numBits {w : Nat} {s : Int} {k f : Nat} (h : Nm w s k f) : (w : Int).natAbs.log2 < 1920 ∧ s.natAbs.log2 < 1920 ∧ (k : Int).natAbs.log2 < 1920 ∧ (f : Int).natAbs.log2 < 1920 := by
  have small : ∀ n : Nat, n < 4294967297 → n.log2 < 1920 := fun n hn => by
    by_cases z : n = 0
    · rw [z]; decide
    · exact (Nat.log2_lt z).mpr (Nat.lt_of_lt_of_le hn (by
        have : (4294967297 : Nat) ≤ 2 ^ 33 := by decide
        exact Nat.le_trans this (Nat.pow_le_pow_right (by decide) (by decide))))
  have wp := h.w3.pow
  have wl := h.w3.le
  have := h.lo
  have := h.hi
  have := h.kl
  have := h.fl
  exact ⟨small _ (by omega), small _ (by omega), small _ (by omega), small _ (by omega)⟩
/-! ### {8: a, 16: b, 32: c}[w] -/
def pickW (w : Nat) (a b c : Int) : Int := if w = 8 then a else if w = 16 then b else c
theorem wdict_val {w : Nat} (w3 : W3 w) (a b c : Int) : valV (mergeK [] [((Sum.inl 8 : Key), V.int a), (Sum.inl 16, .int b), (Sum.inl 32, .int c)]) (Sum.inl (w : Int)) = some (.int (pickW w a b c)) := by
  rcases w3 with rfl | rfl | rfl <;> rfl
theorem r_wdict {σ : L2.St} {H : Hp} {Q : VK} {a b c : Int} {tk : TE} {w : Nat} (w3 : W3 w) (hk : ∀ (H' : Hp) (Q' : VK), Q' (.int w) H' → tk σ H' Q') (q : ∀ H', Same H H' → Q (.int (pickW w a b c)) H') :
    ∀ p, H p = none → tPairs [(tC (.int 8), tC (.int a)), (tC (.int 16), tC (.int b)), (tC (.int 32), tC (.int c))] σ (upd H p (.dK [])) fun ps H2 => H2 p = some (.dK []) ∧ ∃ kvs : List (Key × V), ps = kvs.map (fun kv => (kV kv.1, kv.2)) ∧ kvs.length ≤ 15 ∧
      tk σ (upd H2 p (.dK (mergeK [] kvs))) fun y H2 => ∃ a v, V.ref p = .ref a ∧ DGet H2 a y (some v) ∧ Q v H2 := by
  intro p np
  refine ⟨upd_same, [(.inl 8, .int a), (.inl 16, .int b), (.inl 32, .int c)], rfl, by simp, hk _ _ ⟨p, _, rfl, ?_, q _ ?_⟩⟩
  · exact wdict_val w3 a b c ▸ DGet.k (k := .inl (w : Int)) upd_same
  · exact same_mut (same_new np) np
theorem mono_var1 {i : Nat} {v : V} {σ : L2.St} (h : σ[i]? = some (some v)) (H : Hp) (Q : VK) (q : Q v H) : tVar i σ H Q := ⟨v, h, q⟩
theorem top_is {w : Nat} (w3 : W3 w) : pickW w 255 65535 4294967295 = ((KBL.onesN w : Nat) : Int) := by
  rcases w3 with rfl | rfl | rfl <;> rfl


section
variable {P : Program} {w : World} {K : PySem.W.Frag} {mg : Str → Option Value} {base : Heap}
theorem ok_int {f : Addr} {fd : FuncData} {k : Nat} (F : Fun K "is_integer" "is_integer" s_is_integer f fd) (T : Txt mg) : FnOk P w K mg base CX0 (k + 1) f fd ["value"] spInt := by
  refine F.ok sc_is_integer (fun vs H Q E h => ?_) (fun cdv A outer s H vs Q E hr h => ?_)
  · obtain ⟨v, t, rfl, _⟩ := h
    rfl
  · obtain ⟨v, t, rfl, od, q⟩ := h
    refine ⟨_, (pss_one (ps_ret (pe_and (pe_callB call_isi (by rfl) T.z_isinstance (by decide +kernel) (pa_cons (pv 0) (pa_cons (pe_bltn (v := .ty "int") (by rfl) T.z_int (by decide +kernel) rfl) pa_nil))) (pe_one (pe_not (pe_callB call_isi (by rfl) T.z_isinstance (by decide +kernel) (pa_cons (pv 0) (pa_cons (pe_bltn (v := .ty "bool") (by rfl) T.z_bool (by decide +kernel) rfl) pa_nil)))))))), at_start (σ := [some v]) rfl ?_⟩
    try dsimp only [cx_K]
    walk_at "rd"
    refine r_isIntD od ?_
    walk_at "rd"
    refine r_iteB (fun h => ?_) (fun h => ?_)
    · walk_at "rd"
      refine r_isBoolD od ?_
      walk_at "rd"
      have e : (!isBoolD t) = isIntD t := by
        cases t with
        | sc s => cases s <;> first | rfl | cases h
        | tup => cases h
        | lst => cases h
        | dct => cases h
      rw [e]
      exact q
    · have e : isIntD t = false := by
        cases hh : isIntD t with
        | false => rfl
        | true => rw [hh] at h; cases h
      rw [e] at q
      walk_at "rd"
      exact q
theorem ok_nw {f C aW CE : Addr} {fd : FuncData} (F : Fun K "need_width" "need_width" s_need_width f fd) (T : TxtB K mg C aW) (e_InvalidWidth : KX.ErrMk P w K mg base CE "InvalidWidth" "value") (c_is_integer : KB.Callee P w K mg base CX0 1 "is_integer" ["value"] spInt) : FnOk P w K mg base (L2.CX P w) 3 f fd ["width"] (spNW CE) := by
  refine F.okX sc_need_width (fun vs H Q E h => ?_) (fun cdv A outer s H vs Q E hr h => ?_)
  · obtain ⟨v, t, rfl, _⟩ := h
    rfl
  · obtain ⟨v, t, rfl, od, q, x⟩ := h
    refine ⟨_, (pss_one (ps_if (PW.pt (pw_or (pt_not (pt_val (pe_callC c_is_integer (hr.mono (by decide)) (by rfl) pass0 (pa_cons (pv 0) pa_nil)))) (pw_or1 (pt_cmpR op_notIn_seq (pv 0) (pe_glob (v := .ref _) (by rfl) T.mg_WIDTHS rfl) (by rfl))))) (pss_one (ps_raise rfl KL.def_takes (KX.pmkC e_InvalidWidth (hr.mono (by decide)) (by rfl) (pa_cons (pv 0) pa_nil))))
 pss_nil)), at_start (σ := [some v]) rfl ?_⟩
    try dsimp only [KC.cx_KX]
    walk_at "rd"
    refine ⟨v, t, rfl, od, ?_⟩
    walk_at "rd"
    refine r_iteBN (fun z => ?_) (fun z => ?_)
    · walk_at "rd"
      refine KX.r_raiseO ?_ KX.mono_var
      walk_at "rd"
      exact fun d H' sm hd => x (noInt_noW z).1 d H' sm hd
    · obtain ⟨i, rfl⟩ := isIntD_of z
      obtain rfl : v = .int i := od
      walk_at "rd"
      refine r_notInI (zs := [8, 16, 32]) (.inr (T.widths _)) ?_
      walk_at "rd"
      refine r_iteN2 (fun h => ?_) (fun h => ?_)
      · walk_at "rd"
        refine KX.r_raiseO ?_ KX.mono_var
        walk_at "rd"
        exact fun d H' sm hd => x (decide_eq_false (fun y => h (by simpa using y))) d H' sm hd
      · walk_at "rd"
        exact q (decide_eq_true (by simpa using h))
theorem ok_ones {f : Addr} {fd : FuncData} {k : Nat} (F : Fun K "ones" "ones" s_ones f fd) : FnOk P w K mg base CX0 (k + 1) f fd ["width"] spOnes := by
  refine F.ok sc_ones (fun vs H Q E h => ?_) (fun cdv A outer s H vs Q E hr h => ?_)
  · obtain ⟨v, rfl, _⟩ := h
    rfl
  · obtain ⟨w, rfl, hw, q⟩ := h
    refine ⟨_, (pss_one (ps_ret (pe_op op_sub (pe_op op_shl pe_int (pv 0)) pe_int))), at_start (σ := [some (.int w)]) rfl ?_⟩
    try dsimp only [cx_K]
    walk_at "rd"
    have e : ((1 : Int) * 2 ^ ((w : Int)).toNat - 1) = ((KBL.onesN w : Nat) : Int) := by
      have := Nat.two_pow_pos w
      unfold KBL.onesN
      rw [Int.toNat_natCast, Int.one_mul, Int.natCast_sub (by omega), Int.natCast_pow]
      rfl
    rw [e]
    exact q
theorem ok_sh {f : Addr} {fd : FuncData} (F : Fun K "shifted" "shifted" s_shifted f fd) (c_ones : KB.Callee P w K mg base CX0 1 "ones" ["width"] spOnes) : FnOk P w K mg base CX0 2 f fd ["value", "width", "shift"] spSh := by
  refine F.ok sc_shifted (fun vs H Q E h => ?_) (fun cdv A outer s H vs Q E hr h => ?_)
  · obtain ⟨w, v, s, rfl, _⟩ := h
    rfl
  · obtain ⟨w, v, s, rfl, w3, hv, lo, hi, q⟩ := h
    have wl := w3.le
    have wp := w3.pow
    unfold KBL.shN at q
    refine ⟨_, (pss_cons (ps_if (pt_cmpR op_lt (pv 2) pe_int (nomark _)) (pss_one (ps_ret (pe_op op_shr (pv 0) (pe_op op_sub pe_int (pv 2)))))
 pss_nil)
 (pss_one (ps_ret (pe_op op_and (pe_op op_shl (pv 0) (pv 2)) (pe_callC c_ones (hr.mono (by decide)) (by rfl) pass0 (pa_cons (pv 1) pa_nil)))))), at_start (σ := [some (.int v), some (.int w), some (.int s)]) rfl ?_⟩
    try dsimp only [cx_K]
    walk_at "rd"
    refine r_ite2 (fun h => ?_) (fun h => ?_)
    · rw [if_pos h] at q
      walk_at "rd"
      rw [KBL.ofShr]
      exact q
    · rw [if_neg h] at q
      walk_at "rd"
      refine ⟨w, rfl, wl.2, ?_⟩
      walk_at "rd"
      rw [KBL.shl_and]
      exact q
theorem ok_isword {f C aW CE : Addr} {fd : FuncData} (F : Fun K "is_word" "is_word" s_is_word f fd) (c_need_width : KB.Callee P w K mg base (L2.CX P w) 3 "need_width" ["width"] (spNW CE)) (c_is_integer : KB.Callee P w K mg base CX0 1 "is_integer" ["value"] spInt) (c_ones : KB.Callee P w K mg base CX0 1 "ones" ["width"] spOnes) : FnOk P w K mg base CX0 4 f fd ["width", "value"] spIsWord := by
  refine F.ok sc_is_word (fun vs H Q E h => ?_) (fun cdv A outer s H vs Q E hr h => ?_)
  · obtain ⟨w, v, t, rfl, _⟩ := h
    rfl
  · obtain ⟨w, v, t, rfl, w3, od, q⟩ := h
    have wl := w3.le
    refine ⟨_, (pss_cons (ps_expr (pe_callC c_need_width (hr.mono (by decide)) (by rfl) passL (pa_cons (pv 0) pa_nil)))
 (pss_one (ps_ret (pe_and (pe_callC c_is_integer (hr.mono (by decide)) (by rfl) pass0 (pa_cons (pv 1) pa_nil)) (pe_one (pe_chain op_le op_le pe_int (pv 1) (pe_callC c_ones (hr.mono (by decide)) (by rfl) pass0 (pa_cons (pv 0) pa_nil)))))))), at_start (σ := [some (.int w), some v]) rfl ?_⟩
    try dsimp only [cx_K]
    walk_at "rd"
    refine ⟨_, .sc (.int w), rfl, rfl, fun _ => ?_, fun z => by rw [isW_nat w3] at z; cases z⟩
    walk_at "rd"
    refine ⟨v, t, rfl, od, ?_⟩
    walk_at "rd"
    refine r_iteB (fun z => ?_) (fun z => ?_)
    · obtain ⟨i, rfl⟩ := isIntD_of z
      obtain rfl : v = .int i := od
      walk_at "rd"
      have e : isWord w (.sc (.int i)) = decide (0 ≤ i ∧ i ≤ (KBL.onesN w : Nat)) := by
        have := Nat.two_pow_pos w
        show decide (0 ≤ i ∧ i < (2 ^ w : Nat)) = _
        unfold KBL.onesN
        by_cases h : 0 ≤ i ∧ i < (2 ^ w : Nat)
        · rw [decide_eq_true h, decide_eq_true (by omega)]
        · rw [decide_eq_false h, decide_eq_false (by omega)]
      rw [e] at q
      refine KC.r_chain ?_
      walk_at "rd"
      refine r_ite2 (fun h => ?_) (fun h => ?_)
      · walk_at "rd"
        refine ⟨w, rfl, wl.2, ?_⟩
        walk_at "rd"
        have e2 : decide (i ≤ ((KBL.onesN w : Nat) : Int)) = decide (0 ≤ i ∧ i ≤ (KBL.onesN w : Nat)) := by
          by_cases h2 : i ≤ ((KBL.onesN w : Nat) : Int)
          · rw [decide_eq_true h2, decide_eq_true ⟨h, h2⟩]
          · rw [decide_eq_false h2, decide_eq_false (fun y => h2 y.2)]
        rw [e2]
        exact q
      · walk_at "rd"
        rw [decide_eq_false (fun y => h y.1)] at q
        exact q
    · walk_at "rd"
      rw [(noInt_noW z).2.1 w] at q
      exact q
theorem ok_need {f CE : Addr} {fd : FuncData} (F : Fun K "need_word" "need_word" s_need_word f fd) (e_InvalidWord : KX.ErrMk P w K mg base CE "InvalidWord" "value") (c_is_word : KB.Callee P w K mg base CX0 4 "is_word" ["width", "value"] spIsWord) : FnOk P w K mg base (L2.CX P w) 5 f fd ["width", "value"] (spNeed CE) := by
  refine F.okX sc_need_word (fun vs H Q E h => ?_) (fun cdv A outer s H vs Q E hr h => ?_)
  · obtain ⟨w, v, t, rfl, _⟩ := h
    rfl
  · obtain ⟨w, v, t, rfl, w3, od, q, x⟩ := h
    refine ⟨_, (pss_one (ps_if (pt_not (pt_val (pe_callC c_is_word (hr.mono (by decide)) (by rfl) pass0 (pa_cons (pv 0) (pa_cons (pv 1) pa_nil))))) (pss_one (ps_raise rfl KL.def_takes (KX.pmkC e_InvalidWord (hr.mono (by decide)) (by rfl) (pa_cons (pv 1) pa_nil))))
 pss_nil)), at_start (σ := [some (.int w), some v]) rfl ?_⟩
    try dsimp only [KC.cx_KX]
    walk_at "rd"
    refine ⟨w, v, t, rfl, w3, od, ?_⟩
    walk_at "rd"
    refine r_iteBN (fun z => ?_) (fun z => ?_)
    · walk_at "rd"
      refine KX.r_raiseO ?_ KX.mono_var
      walk_at "rd"
      exact fun d H' sm hd => x z d H' sm hd
    · walk_at "rd"
      exact q z
theorem ok_blend {f C aW cW cS cR : Addr} {fd : FuncData} (F : FunD K "__init__" "Blend.__init__" (defArgs s_Blend___init__) (defBody s_Blend___init__) (defScope s_Blend___init__) [.int 0, .non, .int 0] [] f fd) (T : TxtB K mg C aW) (e_InvalidShift : KX.ErrMk P w K mg base cS "InvalidShift" "value")
    (c_need_width : KB.Callee P w K mg base (L2.CX P w) 3 "need_width" ["width"] (spNW cW)) (c_is_integer : KB.Callee P w K mg base CX0 1 "is_integer" ["value"] spInt) (c_need_word : KB.Callee P w K mg base (L2.CX P w) 5 "need_word" ["width", "value"] (spNeed cR))
    (c_ones : KB.Callee P w K mg base CX0 1 "ones" ["width"] spOnes) (c_shifted : KB.Callee P w K mg base CX0 2 "shifted" ["value", "width", "shift"] spSh) : FnOk P w K mg base (L2.CX P w) 6 f fd ["self", "width", "shift", "keep", "flip"] (spBlend C cW cS cR) := by
  refine F.ok sc_Blend___init__ (fun vs H Q E h => ?_) (fun cdv A outer s H vs Q E hr h => ?_)
  · obtain ⟨p, dx, v1, v2, v3, v4, t1, t2, t3, t4, rfl, _⟩ := h
    rfl
  · obtain ⟨p, dx, v1, v2, v3, v4, t1, t2, t3, t4, rfl, hp, o1, o2, o3, o4, x1, x2, x3, x4, q⟩ := h
    refine ⟨_, (pss_cons (ps_expr (pe_callC c_need_width (hr.mono (by decide)) (by rfl) (passes_call KL.def_takes fun _ _ _ _ h => h) (pa_cons (pv 1) pa_nil)))
 (pss_cons (ps_if (PW.pt (pw_or (pt_not (pt_val (pe_callC c_is_integer (hr.mono (by decide)) (by rfl) pass0 (pa_cons (pv 2) pa_nil)))) (pw_or1 (pt_not (pt_chain op_le op_le (pe_op op_sub pe_int (pv 1)) (pv 2) (pv 1)))))) (pss_one (ps_raise rfl KL.def_takes (KX.pmkC e_InvalidShift (hr.mono (by decide)) (by rfl) (pa_cons (pv 2) pa_nil))))
 pss_nil)
 (Evl.pss_cut (ps_if (pt_cmpR op_notN (pv 3) pe_non (nomark _)) (pss_one (ps_expr (pe_callC c_need_word (hr.mono (by decide)) (by rfl) (passes_call KL.def_takes fun _ _ _ _ h => h) (pa_cons (pv 1) (pa_cons (pv 3) pa_nil)))))
 pss_nil)
 (pss_cons (ps_expr (pe_callC c_need_word (hr.mono (by decide)) (by rfl) (passes_call KL.def_takes fun _ _ _ _ h => h) (pa_cons (pv 1) (pa_cons (pv 4) pa_nil))))
 (pss_cons (ps_set (i := 5) sc_Blend___init__.nd rfl (by first | exact Or.inl rfl | exact Or.inr rfl) (pe_callC c_shifted (hr.mono (by decide)) (by rfl) pass0 (pa_cons (pe_callC c_ones (hr.mono (by decide)) (by rfl) pass0 (pa_cons (pv 1) pa_nil)) (pa_cons (pv 1) (pa_cons (pv 2) pa_nil)))))
 (Evl.pss_cut (ps_if (pt_cmpR op_notN (pv 3) pe_non (nomark _)) (pss_one (ps_set (i := 5) sc_Blend___init__.nd rfl (by first | exact Or.inl rfl | exact Or.inr rfl) (pe_op op_and (pv 5) (pv 3))))
 pss_nil)
 (pss_cons (ps_fld (pv 0) (pv 1) rfl)
 (pss_cons (ps_fld (pv 0) (pe_ifExp (pt_cmpR op_eq (pv 5) pe_int (nomark _)) pe_int (pv 2)) rfl)
 (pss_cons (ps_fld (pv 0) (pv 5) rfl)
 (pss_one (ps_fld (pv 0) (pv 4) rfl))))))))))), at_start (σ := [some (.ref p), some v1, some v2, some v3, some v4, none]) rfl ?_⟩
    try dsimp only [KC.cx_KX]
    walk_at "rd"
    refine ⟨v1, t1, rfl, o1, fun hw => ?_, fun hw d H' sm hd => x1 hw d H' sm hd⟩
    obtain ⟨w, w3, rfl⟩ := isW_of hw
    obtain rfl : v1 = .int w := o1
    replace x2 := x2 w rfl w3
    replace x3 := x3 w rfl w3
    replace x4 := x4 w rfl w3
    walk_at "rd"
    refine ⟨v2, t2, rfl, o2, ?_⟩
    walk_at "rd"
    refine r_iteBN (fun z => ?_) (fun z => ?_)
    · walk_at "rd"
      refine KX.r_raiseO ?_ KX.mono_var
      walk_at "rd"
      exact fun d H' sm hd => x2 ((noInt_noW z).2.2 w) d H' sm hd
    obtain ⟨sh, rfl⟩ := isIntD_of z
    obtain rfl : v2 = .int sh := o2
    walk_at "rd"
    refine KC.r_chain ?_
    walk_at "rd"
    have bad : ¬ (0 - (w : Int) ≤ sh ∧ sh ≤ w) → ∀ (d : Addr) (H' : Hp), Same H H' → H' d = some (.xd [("value", .int sh)]) → E (.ref cS) (some d) H' := fun y => x2 (decide_eq_false y)
    refine r_ite2 (fun lo => ?_) (fun lo => ?_)
    rotate_left
    · walk_at "rd"
      refine KX.r_raiseO ?_ KX.mono_var
      walk_at "rd"
      exact bad fun y => lo y.1
    walk_at "rd"
    refine r_iteN2 (fun hi => ?_) (fun hi => ?_)
    · walk_at "rd"
      refine KX.r_raiseO ?_ KX.mono_var
      walk_at "rd"
      exact bad fun y => hi y.2
    have yes : isShift w (.sc (.int sh)) = true := decide_eq_true ⟨lo, hi⟩
    replace x3 := x3 yes
    replace x4 := x4 yes
    clear x1 x2 bad
    obtain ⟨nn1, nn2⟩ := non_of o3
    walk_at "rd"
    refine ⟨fun σ' H' => σ' = [some (.ref p), some (.int w), some (.int sh), some v3, some v4, none] ∧ H' = H ∧ (isNoneD t3 = true ∨ isWord w t3 = true), ?_, ?_⟩
    · walk_at "rd"
      refine r_iteN2 (fun hn => ?_) (fun hn => ?_)
      · have hn' : isNoneD t3 = false := by
          cases e : isNoneD t3 with
          | false => rfl
          | true => exact absurd (nn1 e) hn
        walk_at "rd"
        refine ⟨w, v3, t3, rfl, w3, o3, fun y => ?_, fun y d H' sm hd => x3 hn' y d H' sm hd⟩
        exact ⟨rfl, rfl, .inr y⟩
      · have hn' : isNoneD t3 = true := by
          cases e : isNoneD t3 with
          | true => rfl
          | false => exact absurd hn (nn2 e)
        walk_at "rd"
        exact ⟨rfl, rfl, .inl hn'⟩
    rintro σ' H' ⟨rfl, rfl, hm⟩
    replace x4 := x4 hm
    clear x3
    walk_at "rd"
    refine ⟨w, v4, t4, rfl, w3, o4, fun y => ?_, fun y d H'' sm hd => x4 y d H'' sm hd⟩
    obtain ⟨f4, fl, rfl⟩ := isWord_of y
    obtain rfl : v4 = .int f4 := o4
    clear x4
    walk_at "rd"
    refine ⟨w, rfl, w3.le.2, ?_⟩
    walk_at "rd"
    refine ⟨w, KBL.onesN w, sh, rfl, w3, KBL.ones_lt w, lo, hi, ?_⟩
    walk_at "rd"
    refine ⟨fun σ' H'' => σ' = [some (.ref p), some (.int w), some (.int sh), some v3, some (.int f4), some (.int ((KBL.keepN w sh (maskOf w t3) : Nat) : Int))] ∧ H'' = H', ?_, ?_⟩
    · walk_at "rd"
      refine r_iteN2 (fun hn => ?_) (fun hn => ?_)
      · obtain ⟨n3, l3, rfl⟩ : ∃ n : Nat, n < 2 ^ w ∧ t3 = .sc (.int n) := by
          rcases hm with y | y
          · exact absurd (nn1 y) hn
          · exact isWord_of y
        obtain rfl : v3 = .int n3 := o3
        walk_at "rd"
        rw [KBL.bAnd]
        exact ⟨rfl, rfl⟩
      · have e3 : maskOf w t3 = KBL.onesN w := by
          rcases hm with y | y
          · cases t3 with
            | sc s => cases s <;> first | rfl | cases y
            | tup => rfl
            | lst => rfl
            | dct => rfl
          · obtain ⟨n, _, rfl⟩ := isWord_of y
            obtain rfl : v3 = .int n := o3
            cases hn
        walk_at "rd"
        rw [keep_ones, ← e3]
        exact ⟨rfl, rfl⟩
    rintro σ' H'' ⟨rfl, rfl⟩
    have nm : Nm w sh (KBL.keepN w sh (maskOf w t3)) f4 := ⟨w3, lo, hi, KBL.keep_lt _ _ _, fl⟩
    replace q := q w sh f4 rfl rfl rfl hm nm
    walk_at "rd"
    refine ⟨p, C, dx, _, rfl, hp, T.cl, T.n_width, (by decide), ?_⟩
    walk_at "rd"
    have fin : ∀ s' : Int, s' = KBL.shiftN w sh (maskOf w t3) → Q .non (upd (upd (upd (upd H'' p (.ins C dx (putF "width" (.int w) []))) p (.ins C dx (putF "shift" (.int s') (putF "width" (.int w) [])))) p (.ins C dx (putF "keep" (.int ((KBL.keepN w sh (maskOf w t3) : Nat) : Int)) (putF "shift" (.int s') (putF "width" (.int w) []))))) p (.ins C dx (putF "flip" (.int f4) (putF "keep" (.int ((KBL.keepN w sh (maskOf w t3) : Nat) : Int)) (putF "shift" (.int s') (putF "width" (.int w) [])))))) := by
      intro s' e
      subst e
      have nm2 : Nm w (KBL.shiftN w sh (maskOf w t3)) (KBL.keepN w sh (maskOf w t3)) f4 := by
        refine ⟨w3, ?_, ?_, nm.kl, fl⟩
        · unfold KBL.shiftN; split <;> omega
        · unfold KBL.shiftN; split <;> omega
      refine q _ ⟨nm2, dx, upd_same⟩ fun b o e hb => ?_
      rw [upd_ne hb, upd_ne hb, upd_ne hb, upd_ne hb]
      exact e
    refine r_ite2 (fun h => ?_) (fun h => ?_)
    · have h' : KBL.keepN w sh (maskOf w t3) = 0 := by have := V.int.inj h; omega
      walk_at "rd"
      refine ⟨p, C, dx, _, rfl, upd_same, T.cl, T.n_shift, putF_lt0 (by decide), ?_⟩
      walk_at "rd"
      refine ⟨p, C, dx, _, rfl, upd_same, T.cl, T.n_keep, putF_lt0 (putF_lt (by decide)), ?_⟩
      walk_at "rd"
      refine ⟨p, C, dx, _, rfl, upd_same, T.cl, T.n_flip, putF_lt0 (putF_lt (putF_lt (by decide))), ?_⟩
      exact fin 0 (by unfold KBL.shiftN; rw [if_pos h'])
    · have h' : ¬ KBL.keepN w sh (maskOf w t3) = 0 := fun z => h (by rw [z]; rfl)
      walk_at "rd"
      refine ⟨p, C, dx, _, rfl, upd_same, T.cl, T.n_shift, putF_lt0 (by decide), ?_⟩
      walk_at "rd"
      refine ⟨p, C, dx, _, rfl, upd_same, T.cl, T.n_keep, putF_lt0 (putF_lt (by decide)), ?_⟩
      walk_at "rd"
      refine ⟨p, C, dx, _, rfl, upd_same, T.cl, T.n_flip, putF_lt0 (putF_lt (putF_lt (by decide))), ?_⟩
      exact fin sh (by unfold KBL.shiftN; rw [if_neg h'])

theorem ok_bcall {f C aW cR : Addr} {fd : FuncData} (F : Fun K "__call__" "Blend.__call__" s_Blend___call__ f fd) (T : TxtB K mg C aW) (c_need_word : KB.Callee P w K mg base (L2.CX P w) 5 "need_word" ["width", "value"] (spNeed cR)) (c_shifted : KB.Callee P w K mg base CX0 2 "shifted" ["value", "width", "shift"] spSh) : FnOk P w K mg base (L2.CX P w) 6 f fd ["self", "value"] (spBCall C cR) := by
  refine F.okX sc_Blend___call__ (fun vs H Q E h => ?_) (fun cdv A outer s H vs Q E hr h => ?_)
  · obtain ⟨p, w, s, k, f, v, t, rfl, _⟩ := h
    rfl
  · obtain ⟨p, w, s, k, f, v, t, rfl, ⟨nm, dx, h1⟩, od, q, x⟩ := h
    refine ⟨_, (pss_cons (ps_expr (pe_callC c_need_word (hr.mono (by decide)) (by rfl) (passes_call KL.def_takes fun _ _ _ _ h => h) (pa_cons (pe_fld (pv 0) rfl) (pa_cons (pv 1) pa_nil))))
 (pss_one (ps_ret (pe_op op_xor (pe_fld (pv 0) rfl) (pe_op op_and (pe_fld (pv 0) rfl) (pe_callC c_shifted (hr.mono (by decide)) (by rfl) pass0 (pa_cons (pv 1) (pa_cons (pe_fld (pv 0) rfl) (pa_cons (pe_fld (pv 0) rfl) pa_nil))))))))), at_start (σ := [some (.ref p), some v]) rfl ?_⟩
    try dsimp only [KC.cx_KX]
    have cl := T.cl; have nw := T.n_width; have ns := T.n_shift; have nk := T.n_keep; have nf := T.n_flip
    walk_at "rd"
    refine ⟨w, v, t, rfl, nm.w3, od, fun y => ?_, fun y d H' sm hd => x y d H' sm hd⟩
    obtain ⟨n, hn, rfl⟩ := isWord_of y
    obtain rfl : v = .int n := od
    walk_at "rd"
    refine ⟨w, n, s, rfl, nm.w3, hn, nm.lo, nm.hi, ?_⟩
    walk_at "rd"
    rw [KBL.bAnd, KBL.bXor]
    exact q n hn rfl

theorem ok_brepr {f C aW : Addr} {fd : FuncData} {k : Nat} (F : Fun K "__repr__" "Blend.__repr__" s_Blend___repr__ f fd) (T : TxtB K mg C aW) : FnOk P w K mg base CX0 (k + 1) f fd ["self"] (spBRepr C) := by
  refine F.ok sc_Blend___repr__ (fun vs H Q E h => ?_) (fun cdv A outer s H vs Q E hr h => ?_)
  · obtain ⟨p, w, s, k, f, rfl, _⟩ := h
    rfl
  · obtain ⟨p, w, s, k, f, rfl, ⟨nm, dx, h1⟩, q⟩ := h
    have sl : 1000 ≤ sizeLine := by decide
    have wp := nm.w3.pow
    have wl := nm.w3.le
    obtain ⟨b1, b2, b3, b4⟩ := numBits nm
    refine ⟨_, (pss_one (ps_ret (pe_joined (.cons pe_str (.cons (pe_fmt (pe_fld (pv 0) rfl)) (.cons pe_str (.cons (pe_fmt (pe_fld (pv 0) rfl)) (.cons pe_str (.cons (pe_fmt (pe_fld (pv 0) rfl)) (.cons pe_str (.cons (pe_fmt (pe_fld (pv 0) rfl)) (.cons pe_str .nil)))))))))))), at_start (σ := [some (.ref p)]) rfl ?_⟩
    dsimp only [cx_K]
    have cl := T.cl; have nw := T.n_width; have ns := T.n_shift; have nk := T.n_keep; have nf := T.n_flip
    walk_at "rd"
    have c0 : Str.empty.length = 0 := rfl
    have c1 : (Str.ofString "Blend(").length = 6 := by decide +kernel
    have c2 : (Str.ofString ", ").length = 2 := by decide +kernel
    have c3 : (Str.ofString ")").length = 1 := by decide +kernel
    have d1 := KBL.num_len b1
    have d2 := KBL.num_len b2
    have d3 := KBL.num_len b3
    have d4 := KBL.num_len b4
    have sl2 : 10000 ≤ sizeLine := by decide
    refine ⟨(by simp only [Str.length_append]; omega), ?_⟩
    walk_at "rd"
    refine Or.inr ⟨_, rfl, b1, ?_⟩
    refine ⟨_, rfl, (by simp only [Str.length_append]; omega), ?_⟩
    walk_at "rd"
    refine ⟨(by simp only [Str.length_append]; omega), ?_⟩
    walk_at "rd"
    refine Or.inr ⟨_, rfl, b2, ?_⟩
    refine ⟨_, rfl, (by simp only [Str.length_append]; omega), ?_⟩
    walk_at "rd"
    refine ⟨(by simp only [Str.length_append]; omega), ?_⟩
    walk_at "rd"
    refine Or.inr ⟨_, rfl, b3, ?_⟩
    refine ⟨_, rfl, (by simp only [Str.length_append]; omega), ?_⟩
    walk_at "rd"
    refine ⟨(by simp only [Str.length_append]; omega), ?_⟩
    walk_at "rd"
    refine Or.inr ⟨_, rfl, b4, ?_⟩
    refine ⟨_, rfl, (by simp only [Str.length_append]; omega), ?_⟩
    walk_at "rd"
    refine ⟨(by simp only [Str.length_append]; omega), ?_⟩
    walk_at "rd"
    exact q

end
end K17


namespace K17
open PySem L2 KB KO KY KV KW
/-! ### operations on blends -/
def isStep (w : Nat) : Dt → Bool
  | .sc (.int i) => decide (0 ≤ i ∧ i ≤ w)
  | _ => false
theorem isStep_of {w : Nat} {t : Dt} (h : isStep w t = true) : ∃ n : Nat, n ≤ w ∧ t = .sc (.int n) := by
  cases t with
  | sc s => cases s with
    | int i =>
      have h' : 0 ≤ i ∧ i ≤ (w : Int) := of_decide_eq_true h
      exact ⟨i.toNat, by omega, by rw [show ((i.toNat : Nat) : Int) = i by omega]⟩
    | non => cases h
    | bl => cases h
    | str => cases h
  | tup => cases h
  | lst => cases h
  | dct => cases h
theorem noInt_noStep {t : Dt} (h : isIntD t = false) (w : Nat) : isStep w t = false := by
  cases t with
  | sc s => cases s with
    | int i => cases h
    | non => rfl
    | bl => rfl
    | str => rfl
  | tup => rfl
  | lst => rfl
  | dct => rfl
theorem isStep_nat {w n : Nat} (h : n ≤ w) : isStep w (.sc (.int n)) = true := decide_eq_true ⟨by omega, by omega⟩
def spStepN (cS : Addr) : Sp := fun vs H Q E => ∃ (w : Nat) (v : V) (t : Dt), vs = [.int w, v] ∧ OdAt H v t ∧ (isStep w t = true → Q .non H) ∧ (isStep w t = false → ∀ d H', Same H H' → H' d = some (.xd [("value", v)]) → E (.ref cS) (some d) H')
/-- the shift behind a move -/
def movS (w : Nat) (s s' : Int) (k : Nat) : Int := if KBL.shN w k s' = 0 then 0 else s + s'
/-- the move is within the width -/
def MovOk (w : Nat) (s s' : Int) (k : Nat) : Prop := 0 - (w : Int) ≤ s' ∧ s' ≤ w ∧ (KBL.shN w k s' ≠ 0 → 0 - (w : Int) ≤ s + s' ∧ s + s' ≤ w)
def MadeAt (C : Addr) (H : Hp) (p : Addr) (w : Nat) (s : Int) (m f : Nat) : Prop := BlendAt C H p w (KBL.shiftN w s m) (KBL.keepN w s m) f
def spMoved (C : Addr) : Sp := fun vs H Q _ => ∃ (p : Addr) (w : Nat) (s s' : Int) (k f : Nat), vs = [.ref p, .int s'] ∧ BlendAt C H p w s k f ∧ MovOk w s s' k ∧ ∀ H' x, MadeAt C H' x w (movS w s s' k) (KBL.shN w k s') (KBL.shN w f s') → Same H H' → Q (.ref x) H'
def spShl (C cS : Addr) : Sp := fun vs H Q E => ∃ (p : Addr) (w : Nat) (s : Int) (k f : Nat) (v : V) (t : Dt), vs = [.ref p, v] ∧ BlendAt C H p w s k f ∧ OdAt H v t ∧
  (∀ n : Nat, n ≤ w → t = .sc (.int n) → MovOk w s n k ∧ ∀ H' x, MadeAt C H' x w (movS w s n k) (KBL.shN w k n) (KBL.shN w f n) → Same H H' → Q (.ref x) H') ∧ (isStep w t = false → ∀ d H', Same H H' → H' d = some (.xd [("value", v)]) → E (.ref cS) (some d) H')
def spShr (C cS : Addr) : Sp := fun vs H Q E => ∃ (p : Addr) (w : Nat) (s : Int) (k f : Nat) (v : V) (t : Dt), vs = [.ref p, v] ∧ BlendAt C H p w s k f ∧ OdAt H v t ∧
  (∀ n : Nat, n ≤ w → t = .sc (.int n) → MovOk w s (0 - n) k ∧ ∀ H' x, MadeAt C H' x w (movS w s (0 - n) k) (KBL.shN w k (0 - n)) (KBL.shN w f (0 - n)) → Same H H' → Q (.ref x) H') ∧ (isStep w t = false → ∀ d H', Same H H' → H' d = some (.xd [("value", v)]) → E (.ref cS) (some d) H')
def spAndB (C cR : Addr) : Sp := fun vs H Q E => ∃ (p : Addr) (w : Nat) (s : Int) (k f : Nat) (v : V) (t : Dt), vs = [.ref p, v] ∧ BlendAt C H p w s k f ∧ OdAt H v t ∧
  (∀ n : Nat, n < 2 ^ w → t = .sc (.int n) → ∀ H' x, MadeAt C H' x w s (k &&& n) (f &&& n) → Same H H' → Q (.ref x) H') ∧ (isWord w t = false → ∀ d H', Same H H' → H' d = some (.xd [("value", v)]) → E (.ref cR) (some d) H')
theorem make_b {C cW cS cR : Addr} {H : Hp} {w : Nat} {s : Int} {m f : Nat} {Q : Hp → Prop} {E : XK} {x dx : Addr} (nx : H x = none) (ndx : H dx = none) (nm : Nm w s m f) (q : ∀ H', BlendAt C H' x w (KBL.shiftN w s m) (KBL.keepN w s m) f → Same H H' → Q H') :
    spBlend C cW cS cR [.ref x, .int w, .int s, .int m, .int f] (upd (upd H dx (.own x)) x (.ins C dx [])) (fun v H3 => v = .non ∧ Q H3) E := by
  have sh : isShift w (.sc (.int s)) = true := decide_eq_true ⟨nm.lo, nm.hi⟩
  refine ⟨x, dx, _, _, _, _, .sc (.int w), .sc (.int s), .sc (.int m), .sc (.int f), rfl, upd_same, rfl, rfl, rfl, rfl, fun z => ?_, fun w' e w3 z => ?_, fun w' e w3 _ _ z => ?_, fun w' e w3 _ _ z => ?_, fun w' s' f' e1 e2 e4 _ nm' H' B kp => ⟨rfl, ?_⟩⟩
  · rw [isW_nat nm.w3] at z; cases z
  · cases e; rw [sh] at z; cases z
  · obtain rfl : w = w' := by cases e; rfl
    rw [isWord_nat nm.kl] at z; cases z
  · obtain rfl : w = w' := by cases e; rfl
    rw [isWord_nat nm.fl] at z; cases z
  · obtain rfl : w = w' := by cases e1; rfl
    obtain rfl : s = s' := by cases e2; rfl
    obtain rfl : f = f' := by cases e4; rfl
    exact q H' B fun b o e => kp b o (by rw [upd_ne (ne_of_none e nx), upd_ne (ne_of_none e ndx)]; exact e) (ne_of_none e nx)
theorem make_d {C cW cS cR : Addr} {H : Hp} {w : Nat} {Q : Hp → Prop} {E : XK} {x dx : Addr} (nx : H x = none) (ndx : H dx = none) (w3 : W3 w) (q : ∀ H', BlendAt C H' x w (KBL.shiftN w 0 (KBL.onesN w)) (KBL.keepN w 0 (KBL.onesN w)) 0 → Same H H' → Q H') :
    spBlend C cW cS cR [.ref x, .int w, .int 0, .non, .int 0] (upd (upd H dx (.own x)) x (.ins C dx [])) (fun v H3 => v = .non ∧ Q H3) E := by
  have wl := w3.le
  have sh : isShift w (.sc (.int 0)) = true := decide_eq_true ⟨by omega, by omega⟩
  refine ⟨x, dx, _, _, _, _, .sc (.int w), .sc (.int 0), .sc .non, .sc (.int 0), rfl, upd_same, rfl, rfl, rfl, rfl, fun z => ?_, fun w' e w3 z => ?_, fun w' e w3 _ z => ?_, fun w' e w3 _ _ z => ?_, fun w' s' f' e1 e2 e4 _ nm' H' B kp => ⟨rfl, ?_⟩⟩
  · rw [isW_nat w3] at z; cases z
  · cases e; rw [sh] at z; cases z
  · cases z
  · rw [show (Dt.sc (.int 0)) = .sc (.int ((0 : Nat) : Int)) from rfl, isWord_nat (Nat.two_pow_pos w')] at z; cases z
  · obtain rfl : w = w' := by cases e1; rfl
    obtain rfl : s' = 0 := by cases e2; rfl
    obtain rfl : f' = 0 := by cases e4; rfl
    exact q H' B fun b o e => kp b o (by rw [upd_ne (ne_of_none e nx), upd_ne (ne_of_none e ndx)]; exact e) (ne_of_none e nx)


section
variable {P : Program} {w : World} {K : PySem.W.Frag} {mg : Str → Option Value} {base : Heap}
theorem ok_step {f cS : Addr} {fd : FuncData} (F : Fun K "need_step" "need_step" s_need_step f fd) (e_InvalidShift : KX.ErrMk P w K mg base cS "InvalidShift" "value") (c_is_integer : KB.Callee P w K mg base CX0 1 "is_integer" ["value"] spInt) : FnOk P w K mg base (L2.CX P w) 3 f fd ["width", "step"] (spStepN cS) := by
  refine F.okX sc_need_step (fun vs H Q E h => ?_) (fun cdv A outer s H vs Q E hr h => ?_)
  · obtain ⟨w, v, t, rfl, _⟩ := h
    rfl
  · obtain ⟨w, v, t, rfl, od, q, x⟩ := h
    refine ⟨_, (pss_one (ps_if (PW.pt (pw_or (pt_not (pt_val (pe_callC c_is_integer (hr.mono (by decide)) (by rfl) pass0 (pa_cons (pv 1) pa_nil)))) (pw_or1 (pt_not (pt_chain op_le op_le pe_int (pv 1) (pv 0)))))) (pss_one (ps_raise rfl KL.def_takes (KX.pmkC e_InvalidShift (hr.mono (by decide)) (by rfl) (pa_cons (pv 1) pa_nil))))
 pss_nil)), at_start (σ := [some (.int w), some v]) rfl ?_⟩
    try dsimp only [KC.cx_KX]
    walk_at "rd"
    refine ⟨v, t, rfl, od, ?_⟩
    walk_at "rd"
    refine r_iteBN (fun z => ?_) (fun z => ?_)
    · walk_at "rd"
      refine KX.r_raiseO ?_ KX.mono_var
      walk_at "rd"
      exact fun d H' sm hd => x (noInt_noStep z w) d H' sm hd
    obtain ⟨i, rfl⟩ := isIntD_of z
    obtain rfl : v = .int i := od
    have bad : ¬ (0 ≤ i ∧ i ≤ (w : Int)) → ∀ (d : Addr) (H' : Hp), Same H H' → H' d = some (.xd [("value", .int i)]) → E (.ref cS) (some d) H' := fun y => x (decide_eq_false y)
    walk_at "rd"
    refine KC.r_chain ?_
    walk_at "rd"
    refine r_ite2 (fun lo => ?_) (fun lo => ?_)
    rotate_left
    · walk_at "rd"
      refine KX.r_raiseO ?_ KX.mono_var
      walk_at "rd"
      exact bad fun y => lo y.1
    walk_at "rd"
    refine r_iteN2 (fun hi => ?_) (fun hi => ?_)
    · walk_at "rd"
      refine KX.r_raiseO ?_ KX.mono_var
      walk_at "rd"
      exact bad fun y => hi y.2
    walk_at "rd"
    exact q (decide_eq_true ⟨lo, hi⟩)
theorem ok_moved {f C aW cW cS cR : Addr} {fd : FuncData} (F : Fun K "moved" "moved" s_moved f fd) (T : TxtB K mg C aW) (c_shifted : KB.Callee P w K mg base CX0 2 "shifted" ["value", "width", "shift"] spSh) (c_Blend___init__ : CalleeI P w K mg base (L2.CX P w) 6 C "Blend" ["self", "width", "shift", "keep", "flip"] (spBlend C cW cS cR)) : FnOk P w K mg base CX0 8 f fd ["blend", "step"] (spMoved C) := by
  refine F.ok sc_moved (fun vs H Q E h => ?_) (fun cdv A outer s H vs Q E hr h => ?_)
  · obtain ⟨p, w, s, s', k, f, rfl, _⟩ := h
    rfl
  · obtain ⟨p, w, s, s', k, f, rfl, ⟨nm, dx, h1⟩, ⟨m1, m2, m3⟩, q⟩ := h
    refine ⟨_, (pss_cons (ps_set (i := 2) sc_moved.nd rfl (by first | exact Or.inl rfl | exact Or.inr rfl) (pe_callC c_shifted (hr.mono (by decide)) (by rfl) pass0 (pa_cons (pe_fld (pv 0) rfl) (pa_cons (pe_fld (pv 0) rfl) (pa_cons (pv 1) pa_nil)))))
 (pss_cons (ps_set (i := 3) sc_moved.nd rfl (by first | exact Or.inl rfl | exact Or.inr rfl) (pe_callC c_shifted (hr.mono (by decide)) (by rfl) pass0 (pa_cons (pe_fld (pv 0) rfl) (pa_cons (pe_fld (pv 0) rfl) (pa_cons (pv 1) pa_nil)))))
 (pss_one (ps_ret (pe_makeC c_Blend___init__ (hr.mono (by decide)) (by rfl) passL (pa_cons (pe_fld (pv 0) rfl) (pa_cons (pe_ifExp (pt_cmpR op_ne (pv 2) pe_int (nomark _)) (pe_op op_add (pe_fld (pv 0) rfl) (pv 1)) pe_int) (pa_cons (pv 2) (pa_cons (pv 3) pa_nil))))))))), at_start (σ := [some (.ref p), some (.int s'), none, none]) rfl ?_⟩
    try dsimp only [cx_K]
    have cl := T.cl; have nw := T.n_width; have ns := T.n_shift; have nk := T.n_keep; have nf := T.n_flip
    have k1 := KBL.sh_lt (s := s') nm.kl
    have f1 := KBL.sh_lt (s := s') nm.fl
    walk_at "rd"
    refine ⟨w, k, s', rfl, nm.w3, nm.kl, m1, m2, ?_⟩
    walk_at "rd"
    refine ⟨w, f, s', rfl, nm.w3, nm.fl, m1, m2, ?_⟩
    walk_at "rd"
    unfold movS at q
    refine r_iteN2 (fun h => ?_) (fun h => ?_)
    · have h' : ¬ KBL.shN w k s' = 0 := fun z => h (by rw [z]; rfl)
      rw [if_neg h'] at q
      walk_at "rd"
      refine fun x dx nx ndx nxd => make_b nx ndx ⟨nm.w3, (m3 h').1, (m3 h').2, k1, f1⟩ fun H' B sm => ?_
      exact q H' x B sm
    · have h' : KBL.shN w k s' = 0 := by have := V.int.inj h; omega
      rw [if_pos h'] at q
      walk_at "rd"
      refine fun x dx nx ndx nxd => make_b nx ndx ⟨nm.w3, by omega, by omega, k1, f1⟩ fun H' B sm => ?_
      exact q H' x B sm
theorem ok_shl {f C aW cS : Addr} {fd : FuncData} (F : Fun K "__lshift__" "Blend.__lshift__" s_Blend___lshift__ f fd) (T : TxtB K mg C aW) (c_need_step : KB.Callee P w K mg base (L2.CX P w) 3 "need_step" ["width", "step"] (spStepN cS)) (c_moved : KB.Callee P w K mg base CX0 8 "moved" ["blend", "step"] (spMoved C)) : FnOk P w K mg base (L2.CX P w) 9 f fd ["self", "other"] (spShl C cS) := by
  refine F.okX sc_Blend___lshift__ (fun vs H Q E h => ?_) (fun cdv A outer s H vs Q E hr h => ?_)
  · obtain ⟨p, w, s, k, f, v, t, rfl, _⟩ := h
    rfl
  · obtain ⟨p, w, s, k, f, v, t, rfl, B, od, q, x⟩ := h
    obtain ⟨nm, dx, h1⟩ := id B
    refine ⟨_, (pss_cons (ps_expr (pe_callC c_need_step (hr.mono (by decide)) (by rfl) (passes_call KL.def_takes fun _ _ _ _ h => h) (pa_cons (pe_fld (pv 0) rfl) (pa_cons (pv 1) pa_nil))))
 (pss_one (ps_ret (pe_callC c_moved (hr.mono (by decide)) (by rfl) pass0 (pa_cons (pv 0) (pa_cons (pv 1) pa_nil)))))), at_start (σ := [some (.ref p), some v]) rfl ?_⟩
    try dsimp only [KC.cx_KX]
    have cl := T.cl; have nw := T.n_width
    walk_at "rd"
    refine ⟨w, v, t, rfl, od, fun y => ?_, fun y d H' sm hd => x y d H' sm hd⟩
    obtain ⟨n, hn, rfl⟩ := isStep_of y
    obtain rfl : v = .int n := od
    obtain ⟨q1, q2⟩ := q n hn rfl
    walk_at "rd"
    exact ⟨p, w, s, n, k, f, rfl, B, q1, q2⟩
theorem ok_shr {f C aW cS : Addr} {fd : FuncData} (F : Fun K "__rshift__" "Blend.__rshift__" s_Blend___rshift__ f fd) (T : TxtB K mg C aW) (c_need_step : KB.Callee P w K mg base (L2.CX P w) 3 "need_step" ["width", "step"] (spStepN cS)) (c_moved : KB.Callee P w K mg base CX0 8 "moved" ["blend", "step"] (spMoved C)) : FnOk P w K mg base (L2.CX P w) 9 f fd ["self", "other"] (spShr C cS) := by
  refine F.okX sc_Blend___rshift__ (fun vs H Q E h => ?_) (fun cdv A outer s H vs Q E hr h => ?_)
  · obtain ⟨p, w, s, k, f, v, t, rfl, _⟩ := h
    rfl
  · obtain ⟨p, w, s, k, f, v, t, rfl, B, od, q, x⟩ := h
    obtain ⟨nm, dx, h1⟩ := id B
    refine ⟨_, (pss_cons (ps_expr (pe_callC c_need_step (hr.mono (by decide)) (by rfl) (passes_call KL.def_takes fun _ _ _ _ h => h) (pa_cons (pe_fld (pv 0) rfl) (pa_cons (pv 1) pa_nil))))
 (pss_one (ps_ret (pe_callC c_moved (hr.mono (by decide)) (by rfl) pass0 (pa_cons (pv 0) (pa_cons (pe_op op_sub pe_int (pv 1)) pa_nil)))))), at_start (σ := [some (.ref p), some v]) rfl ?_⟩
    try dsimp only [KC.cx_KX]
    have cl := T.cl; have nw := T.n_width
    walk_at "rd"
    refine ⟨w, v, t, rfl, od, fun y => ?_, fun y d H' sm hd => x y d H' sm hd⟩
    obtain ⟨n, hn, rfl⟩ := isStep_of y
    obtain rfl : v = .int n := od
    obtain ⟨q1, q2⟩ := q n hn rfl
    walk_at "rd"
    exact ⟨p, w, s, 0 - (n : Int), k, f, rfl, B, q1, q2⟩
theorem ok_andB {f C aW cW cS cR : Addr} {fd : FuncData} (F : Fun K "__and__" "Blend.__and__" s_Blend___and__ f fd) (T : TxtB K mg C aW) (c_need_word : KB.Callee P w K mg base (L2.CX P w) 5 "need_word" ["width", "value"] (spNeed cR)) (c_Blend___init__ : CalleeI P w K mg base (L2.CX P w) 6 C "Blend" ["self", "width", "shift", "keep", "flip"] (spBlend C cW cS cR)) : FnOk P w K mg base (L2.CX P w) 8 f fd ["self", "other"] (spAndB C cR) := by
  refine F.okX sc_Blend___and__ (fun vs H Q E h => ?_) (fun cdv A outer s H vs Q E hr h => ?_)
  · obtain ⟨p, w, s, k, f, v, t, rfl, _⟩ := h
    rfl
  · obtain ⟨p, w, s, k, f, v, t, rfl, B, od, q, x⟩ := h
    obtain ⟨nm, dx, h1⟩ := id B
    refine ⟨_, (pss_cons (ps_expr (pe_callC c_need_word (hr.mono (by decide)) (by rfl) (passes_call KL.def_takes fun _ _ _ _ h => h) (pa_cons (pe_fld (pv 0) rfl) (pa_cons (pv 1) pa_nil))))
 (pss_one (ps_ret (pe_makeC c_Blend___init__ (hr.mono (by decide)) (by rfl) (passes_call KL.def_takes fun _ _ _ _ h => h) (pa_cons (pe_fld (pv 0) rfl) (pa_cons (pe_fld (pv 0) rfl) (pa_cons (pe_op op_and (pe_fld (pv 0) rfl) (pv 1)) (pa_cons (pe_op op_and (pe_fld (pv 0) rfl) (pv 1)) pa_nil)))))))), at_start (σ := [some (.ref p), some v]) rfl ?_⟩
    try dsimp only [KC.cx_KX]
    have cl := T.cl; have nw := T.n_width; have ns := T.n_shift; have nk := T.n_keep; have nf := T.n_flip
    walk_at "rd"
    refine ⟨w, v, t, rfl, nm.w3, od, fun y => ?_, fun y d H' sm hd => x y d H' sm hd⟩
    obtain ⟨n, hn, rfl⟩ := isWord_of y
    obtain rfl : v = .int n := od
    walk_at "rd"
    rw [KBL.bAnd, KBL.bAnd]
    refine fun x dx nx ndx nxd => make_b nx ndx ⟨nm.w3, nm.lo, nm.hi, Nat.and_lt_two_pow _ hn, Nat.and_lt_two_pow _ hn⟩ fun H' B' sm => ?_
    exact q n hn rfl H' x B' sm

end
end K17


namespace K17
open PySem L2 KB KO KY KV KW
def spInv (C : Addr) : Sp := fun vs H Q _ => ∃ (p : Addr) (w : Nat) (s : Int) (k f : Nat), vs = [.ref p] ∧ BlendAt C H p w s k f ∧ ∀ H' x, MadeAt C H' x w s k (f ^^^ KBL.onesN w) → Same H H' → Q (.ref x) H'
def spIsC (C : Addr) : Sp := fun vs H Q _ => ∃ (p : Addr) (w : Nat) (s : Int) (k f : Nat), vs = [.ref p] ∧ BlendAt C H p w s k f ∧ Q (.bl (decide (k = 0))) H
def spSrc (C : Addr) : SpG := fun vs H Q _ => ∃ (p : Addr) (w : Nat) (s : Int) (k f : Nat), vs = [.ref p] ∧ BlendAt C H p w s k f ∧ ∀ ys H', Same H H' → PairsAt H' ys (KBL.srcsK w s k) → Q ys H'
theorem nat_int {k : Nat} {j : Nat} : decide (V.int (k : Int) = V.int (j : Int)) = decide (k = j) := by
  rw [decI]
  exact decide_eq_decide.mpr (by omega)
theorem srcsK_next (w : Nat) (s : Int) (k i : Nat) : ((List.range (i + 1)).filter (k.testBit ·)).map (fun (p : Nat) => ((p : Int), (p : Int) - s)) = ((List.range i).filter (k.testBit ·)).map (fun (p : Nat) => ((p : Int), (p : Int) - s)) ++ (if k.testBit i = true then [((i : Int), (i : Int) - s)] else []) := by
  rw [List.range_succ, List.filter_append, List.map_append]
  congr 1
  rw [List.filter_cons]
  split <;> rfl

/-- the pairs of a blend, handed out one by one: its consumer keeps all that was told -/
def spSrcH (C : Addr) : KH.SpH := fun vs H rs yl en => ∃ (p : Addr) (w : Nat) (s : Int) (k f : Nat), vs = [.ref p] ∧ BlendAt C H p w s k f ∧ (∀ j Hy H', rs j Hy H' → Same Hy H') ∧
  (∀ (j : Nat) (q : Int × Int) (H0 : Hp) (a : Addr), (KBL.srcsK w s k)[j]? = some q → H0 a = none → yl j H0 (.ref a) (upd H0 a (.tup [.int q.1, .int q.2]))) ∧ ∀ H0, en (KBL.srcsK w s k).length H0 H0
theorem srcs_at {w : Nat} {s : Int} {k i : Nat} (hi : i < w) (hb : k.testBit i = true) : (KBL.srcsK w s k)[((List.range i).filter (k.testBit ·)).length]? = some ((i : Int), (i : Int) - s) := by
  unfold KBL.srcsK
  have e : List.range w = List.range i ++ (List.range (w - i)).map (i + ·) := by
    rw [← List.range_add, Nat.add_sub_cancel' (Nat.le_of_lt hi)]
  obtain ⟨m, hm⟩ : ∃ m, w - i = m + 1 := ⟨w - i - 1, by omega⟩
  rw [e, hm, List.range_succ_eq_map, List.map_cons, List.filter_append, List.filter_cons, if_pos (by simpa using hb), List.map_append, List.getElem?_append_right (by simp), List.length_map, Nat.sub_self, List.map_cons]
  simp
theorem cnt_next (k i : Nat) : ((List.range (i + 1)).filter (k.testBit ·)).length = ((List.range i).filter (k.testBit ·)).length + (if k.testBit i = true then 1 else 0) := by
  rw [List.range_succ, List.filter_append, List.length_append, List.filter_cons]
  split <;> simp
theorem cnt_le (k i : Nat) : ((List.range i).filter (k.testBit ·)).length ≤ i := by
  have z := List.length_filter_le (k.testBit ·) (List.range i)
  rw [List.length_range] at z
  exact z

section
variable {P : Program} {w : World} {K : PySem.W.Frag} {mg : Str → Option Value} {base : Heap}
theorem ok_srcH {f C aW : Addr} {oc kV dc pm cdv ct : Value} {od an : Option Addr} {sl : Array (Option Value)} (look : K.lookup f = some ⟨oc, od, .func (PySem.W.fnOf "sources" "Blend.sources" (defArgs s_Blend_sources) (defBody s_Blend_sources) (defScope s_Blend_sources) .none kV dc pm an cdv ct), sl⟩) (code : PySem.W.codeIn K cdv "Blend.sources" = true) (T : TxtB K mg C aW) :
    KH.HFn P w K mg base 1 40 f (PySem.W.fnOf "sources" "Blend.sources" (defArgs s_Blend_sources) (defBody s_Blend_sources) (defScope s_Blend_sources) .none kV dc pm an cdv ct) ["self"] (spSrcH C) := by
  refine KH.hfn_of look code sc_Blend_sources (by decide +kernel) (fun vs H rs yl en h => ?_) (fun A outer L a go ops vs H rs yl en hr h => ?_)
  · obtain ⟨p, w, s, k, f, rfl, _⟩ := h
    rfl
  · obtain ⟨p, w, s, k, f, rfl, B, hrs, hyl, hen⟩ := h
    obtain ⟨nm, dx, h1⟩ := id B
    have wl := nm.w3.le
    refine ⟨_, (KH.gts_cons (KH.gt_for (by intro _ _ _; exact KH.goPI (pi_range1 rfl T.z_range (pa_cons (pe_fld (pv 0) rfl) pa_nil)) (by (try dsimp only [KH.GN.cx]) <;> exact rfl)) (by intro _ _ _; exact KH.goPG (pg_name (i := 1) sc_Blend_sources.nd rfl (by first | exact Or.inl rfl | exact Or.inr rfl)) (by (try dsimp only [KH.GN.cx]) <;> exact rfl))
 (KH.gts_cons (KH.gt_if (by intro _ _ _; exact KH.goPT (pt_cmpR op_eq (pe_op op_and (pe_op op_shr (pe_fld (pv 0) rfl) (pv 1)) pe_int) pe_int (nomark _)) (by (try dsimp only [KH.GN.cx]) <;> exact rfl)) (KH.gts_cons (KH.gt_yield (by intro _ _ _; exact KH.goPE (pe_tup (pa_cons (pv 1) (pa_cons (pe_op op_sub (pv 1) (pe_fld (pv 0) rfl)) pa_nil))) (by (try dsimp only [KH.GN.cx]) <;> exact rfl)))
 KH.gts_nil) KH.gts_nil)
 KH.gts_nil))
 KH.gts_nil), fun H0 r0 => ?_⟩
    have cl := T.cl; have nw := T.n_width; have ns := T.n_shift; have nk := T.n_keep
    have h0 : H0 p = some (.ins C dx (flB w s k f)) := hrs _ _ _ r0 _ _ h1
    refine KH.r_hthen (KH.r_hfor ?_)
    walk_at "rd"
    refine ⟨by omega, by omega, ?_⟩
    rw [show ((w : Int)).toNat = w by omega]
    refine KH.hforW (walk_range (lo := 0) (n := w)) (fun i j H0 σ' H' => H' = H0 ∧ j = ((List.range i).filter (k.testBit ·)).length ∧ H0 p = some (.ins C dx (flB w s k f)) ∧ ∃ y1, σ' = [some (.ref p), y1]) ⟨rfl, rfl, h0, _, rfl⟩ (fun _ _ _ _ _ _ _ => trivial) ?_ ?_
    · rintro i x j H1 σ' _ H2 hi ⟨rfl, ej, h2, y1, rfl⟩ ⟨rfl, rfl⟩
      walk_at "rd"
      refine KH.r_hthen (KH.r_hif ?_)
      walk_at "rd"
      rw [show (0 + (i : Int)).toNat = i by omega, KBL.bit_one, show V.int 1 = V.int ((1 : Nat) : Int) from rfl, nat_int]
      have e0 : decide (KBL.b2n (k.testBit i) = 1) = k.testBit i := by cases k.testBit i <;> rfl
      rw [e0]
      have en := cnt_next k i
      have le := cnt_le k i
      cases hb : k.testBit i with
      | true =>
        rw [hb, if_pos rfl] at en
        refine iteT ?_
        refine KH.r_hthen (KH.r_hyield (show j + 1 < 40 by omega) ?_)
        walk_at "rd"
        refine ⟨by walk_at "sz", fun a na => ⟨?_, fun H3 r3 => ?_⟩⟩
        · have z := hyl j _ H2 a (by rw [ej]; exact srcs_at hi hb) na
          rw [show (0 : Int) + (i : Int) = (i : Int) by omega]
          exact z
        · refine KH.r_h0 (KH.r_h0 ⟨rfl, by rw [en, ej], ?_, _, rfl⟩)
          exact hrs _ _ _ r3 _ _ (same_new na _ _ h2)
      | false =>
        rw [hb, if_neg (by decide), Nat.add_zero] at en
        refine iteF ?_
        refine KH.r_h0 (KH.r_h0 ⟨rfl, by rw [en]; exact ej, h2, _, rfl⟩)
    · rintro j H1 σ' H2 ⟨rfl, ej, h2, y1, rfl⟩
      refine KH.r_h0 ?_
      have z := hen H2
      rw [show (KBL.srcsK w s k).length = j by unfold KBL.srcsK; rw [List.length_map, ej]] at z
      exact z
end
end K17


namespace K17
open PySem L2 KB KO KV KY KR
def BitAt (C : Addr) (H : Hp) (a : Addr) (s : Int) : Prop := ∃ dx, H a = some (.ins C dx [("held", .int s)])
theorem BitAt.up {C : Addr} {H H' : Hp} {a : Addr} {s : Int} (h : BitAt C H a s) (k : Same H H') : BitAt C H' a s := by
  obtain ⟨dx, e⟩ := h
  exact ⟨dx, k _ _ e⟩
/-- the state of a bit, whatever stands behind it -/
def HeldAt (C : Addr) (H : Hp) (a : Addr) (s : Int) : Prop := ∃ dx fs, H a = some (.ins C dx (("held", .int s) :: fs))
theorem BitAt.held {C : Addr} {H : Hp} {a : Addr} {s : Int} (h : BitAt C H a s) : HeldAt C H a s := by
  obtain ⟨dx, e⟩ := h
  exact ⟨dx, [], e⟩
structure TxtKB (K : PySem.W.Frag) (C : Addr) : Prop where
  cl : Cls K C
  n_held : NoAttr K C "held"
def isBit : Dt → Bool
  | .sc (.int i) => decide (i = 0 ∨ i = 1)
  | _ => false
theorem isBit_of {t : Dt} (h : isBit t = true) : ∃ i, t = .sc (.int i) ∧ (i = 0 ∨ i = 1) := by
  cases t with
  | sc s => cases s with
    | int i => exact ⟨i, rfl, of_decide_eq_true h⟩
    | non => cases h
    | bl => cases h
    | str => cases h
  | tup => cases h
  | lst => cases h
  | dct => cases h
theorem noInt_noBit {t : Dt} (h : isIntD t = false) : isBit t = false := by
  cases t with
  | sc s => cases s with
    | int i => cases h
    | non => rfl
    | bl => rfl
    | str => rfl
  | tup => rfl
  | lst => rfl
  | dct => rfl
/-- the refusal of v -/
def Bad (cR : Addr) (v : V) (t : Dt) (H : Hp) (E : XK) : Prop := isBit t = false → ∀ d H', Same H H' → H' d = some (.xd [("value", v)]) → E (.ref cR) (some d) H'
def spNeedB (cR : Addr) : Sp := fun vs H Q E => ∃ (v : V) (t : Dt), vs = [v] ∧ OdAt H v t ∧ (isBit t = true → ∀ H', Same H H' → Q .non H') ∧ Bad cR v t H E
def spBInit (C cR : Addr) : Sp := fun vs H Q E => ∃ (a dx : Addr) (v : V) (t : Dt), vs = [.ref a, v] ∧ OdAt H v t ∧ H a = some (.ins C dx []) ∧ (∀ b, t = .sc (.int b) → (b = 0 ∨ b = 1) → ∀ H', BitAt C H' a b → Keep a H H' → Q .non H') ∧ Bad cR v t H E
def spNow (C : Addr) : Sp := fun vs H Q _ => ∃ (a : Addr) (s : Int), vs = [.ref a] ∧ HeldAt C H a s ∧ Q (.int (s % 2)) H
def spState (C : Addr) : Sp := fun vs H Q _ => ∃ (a : Addr) (s : Int), vs = [.ref a] ∧ HeldAt C H a s ∧ Q (.int s) H
/-- a read: the value; the state f s behind it -/
def spRd (C : Addr) (f : Int → Int) : Sp := fun vs H Q _ => ∃ (a : Addr) (s : Int), vs = [.ref a] ∧ BitAt C H a s ∧ ∀ H', BitAt C H' a (f s) → Keep a H H' → Q (.int (s % 2)) H'
/-- a write: the state f s b behind it, or the refusal -/
def spWr (C cR : Addr) (f : Int → Int → Int) : Sp := fun vs H Q E => ∃ (a : Addr) (s : Int) (v : V) (t : Dt), vs = [.ref a, v] ∧ OdAt H v t ∧ BitAt C H a s ∧ (∀ b, t = .sc (.int b) → (b = 0 ∨ b = 1) → ∀ H', BitAt C H' a (f s b) → Keep a H H' → Q .non H') ∧ Bad cR v t H E
/-- a deed: whether there was one, the state behind it -/
def spDe (C : Addr) (g : Int → Bool) (f : Int → Int) : Sp := fun vs H Q _ => ∃ (a : Addr) (s : Int), vs = [.ref a] ∧ BitAt C H a s ∧ ∀ H', BitAt C H' a (f s) → Keep a H H' → Q (.bl (g s)) H'
abbrev SF (P : Program) (K : PySem.W.Frag) (f : Addr) (fd : FuncData) (n q : Str) (st : Stmt) (cda cc D : Addr) : Prop := KN.SupF P K f fd n q (defArgs st) (defBody st) (defScope st) cda cc D
theorem cx_sup {CX : CXT} {P : Program} {w : World} {K : PySem.W.Frag} {mg : Str → Option Value} {base : Heap} {N : List Str} {ql : Str} {sc : Scope} {f cda cc : Addr} {A : Around} {out : List Env} {st : Shared} {h : Hp} {W : XK} : (KX.supCx CX P w K mg base N ql sc f cda cc A out st h W).K = K := rfl
/-- what such a def that may raise lets out -/
theorem sup_takes {P : Program} {w : World} {K : PySem.W.Frag} {mg : Str → Option Value} {base : Heap} {N : List Str} {ql : Str} {sc : Scope} {f cda cc : Addr} {A : Around} {out : List Env} {st : Shared} {h : Hp} {E : XK} : Takes (KX.supCx (L2.CX P w) P w K mg base N ql sc f cda cc A out st h E) (fun cls d _ H' => E cls d H') := takes_of rfl rfl rfl rfl
def spKInit (C cR : Addr) : Sp := fun vs H Q E => ∃ (a dx k : Addr) (v : V) (t : Dt), vs = [.ref a, .ref k, v] ∧ OdAt H v t ∧ H a = some (.ins C dx []) ∧ (∀ b, t = .sc (.int b) → (b = 0 ∨ b = 1) → ∀ H' dx', H' a = some (.ins C dx' [("held", .int b), ("kind", .ref k)]) → Keep a H H' → Q .non H') ∧ Bad cR v t H E
/-- a bit of a kind -/
def KBAt (C CK : Addr) (H : Hp) (a : Addr) (s : Int) (k : Addr) (r w d : Str) : Prop := (∃ dx, H a = some (.ins C dx [("held", .int s), ("kind", .ref k)])) ∧ KindAt CK H k r w d
theorem KBAt.held {C CK : Addr} {H : Hp} {a : Addr} {s : Int} {k : Addr} {r w d : Str} (h : KBAt C CK H a s k r w d) : HeldAt C H a s := by
  obtain ⟨⟨dx, e⟩, _⟩ := h
  exact ⟨dx, _, e⟩
theorem KBAt.up {C CK : Addr} {H H' : Hp} {a : Addr} {s : Int} {k : Addr} {r w d : Str} (h : KBAt C CK H a s k r w d) (m : Same H H') : KBAt C CK H' a s k r w d := by
  obtain ⟨⟨dx, e⟩, kd⟩ := h
  exact ⟨⟨dx, m _ _ e⟩, kd.up m⟩
theorem KBAt.set {C CK : Addr} {H : Hp} {a dx : Addr} {s s' : Int} {k : Addr} {r w d : Str} (e : H a = some (.ins C dx [("held", .int s), ("kind", .ref k)])) (kd : KindAt CK H k r w d) (n : k ≠ a) : KBAt C CK (upd H a (.ins C dx [("held", .int s'), ("kind", .ref k)])) a s' k r w d := by
  obtain ⟨dy, st, h1, h2⟩ := kd
  refine ⟨⟨dx, upd_same⟩, dy, st, by rw [upd_ne n]; exact h1, ?_⟩
  have : st ≠ a := fun z => by rw [z, e] at h2; cases h2
  rw [upd_ne this]
  exact h2
def spKRd (C CK : Addr) : Sp := fun vs H Q _ => ∃ (a k : Addr) (s : Int) (r w d : Str), vs = [.ref a] ∧ k ≠ a ∧ KBAt C CK H a s k r w d ∧ ∀ H', KBAt C CK H' a (afterRead r s) k r w d → Keep a H H' → Q (.int (s % 2)) H'
def spKWr (C CK cR : Addr) : Sp := fun vs H Q E => ∃ (a k : Addr) (s : Int) (r w d : Str) (v : V) (t : Dt), vs = [.ref a, v] ∧ OdAt H v t ∧ k ≠ a ∧ KBAt C CK H a s k r w d ∧ (∀ b, t = .sc (.int b) → (b = 0 ∨ b = 1) → ∀ H', KBAt C CK H' a (afterWrite w s b) k r w d → Keep a H H' → Q .non H') ∧ Bad cR v t H E
def spKDe (C CK : Addr) : Sp := fun vs H Q _ => ∃ (a k : Addr) (s : Int) (r w d : Str), vs = [.ref a] ∧ k ≠ a ∧ d ∈ DV ∧ KBAt C CK H a s k r w d ∧ ∀ H', KBAt C CK H' a ((deedsOf d s ++ [s]).headD 0) k r w d → Keep a H H' → Q (.bl (decide (deedsOf d s ≠ []))) H'
theorem deeds_one (d : Str) (s : Int) : deedsOf d s = [] ∨ ∃ t, deedsOf d s = [t] := by
  unfold deedsOf
  split
  · exact .inr ⟨_, rfl⟩
  · exact .inl rfl
theorem r_eqIntsT {K : PySem.W.Frag} {H : Hp} {Q : VK} {a b : Addr} {ns ms : List Int} (h : SqT K H a (ns.map V.int)) (h' : SqT K H b (ms.map V.int)) (q : Q (.bl (decide (ns = ms))) H) : rEqD K (.ref a) (.ref b) H Q :=
  ⟨_, _, .tup h (dp_ints ns), .tup h' (dp_ints ms), shaped_ints ns, shaped_ints ms, (show Q (.bl (PyData.eqvAll (ns.map PyData.int) (ms.map PyData.int))) H by rw [eqv_ints]; exact q)⟩

section
variable {P : Program} {w : World} {K : PySem.W.Frag} {mg : Str → Option Value} {base : Heap}
theorem ok_needB {f cR : Addr} {fd : FuncData} (F : Fun K "need_bit" "need_bit" s_need_bit f fd) (e_InvalidWord : KX.ErrMk P w K mg base cR "InvalidWord" "value") (c_is_integer : KB.Callee P w K mg base CX0 1 "is_integer" ["value"] spInt) : FnOk P w K mg base (L2.CX P w) 3 f fd ["value"] (spNeedB cR) := by
  refine F.okX sc_need_bit (fun vs H Q E h => ?_) (fun cdv A outer s H vs Q E hr h => ?_)
  · obtain ⟨v, t, rfl, _⟩ := h
    rfl
  · obtain ⟨v, t, rfl, od, q, x⟩ := h
    refine ⟨_, (pss_one (ps_if (PW.pt (pw_or (pt_not (pt_val (pe_callC c_is_integer (hr.mono (by decide)) (by rfl) pass0 (pa_cons (pv 0) pa_nil)))) (pw_or1 (pt_cmpR op_notIn_seq (pv 0) (pe_tup (pa_cons pe_int (pa_cons pe_int pa_nil))) (by rfl))))) (pss_one (ps_raise rfl KL.def_takes (KX.pmkC e_InvalidWord (hr.mono (by decide)) (by rfl) (pa_cons (pv 0) pa_nil))))
 pss_nil)), at_start (σ := [some v]) rfl ?_⟩
    try dsimp only [KC.cx_KX]
    walk_at "rd"
    refine ⟨v, t, rfl, od, ?_⟩
    walk_at "rd"
    refine r_iteBN (fun z => ?_) (fun z => ?_)
    · walk_at "rd"
      refine KX.r_raiseO ?_ KX.mono_var
      walk_at "rd"
      exact fun d H' sm hd => x (noInt_noBit z) d H' sm hd
    obtain ⟨i, rfl⟩ := isIntD_of z
    obtain rfl : v = .int i := od
    walk_at "rd"
    refine ⟨by walk_at "sz", fun c1 n1 => ?_⟩
    refine r_notInI (zs := [0, 1]) (.inr (SqT.of upd_same)) ?_
    walk_at "rd"
    refine r_iteN2 (fun hi => ?_) (fun hi => ?_)
    · walk_at "rd"
      refine KX.r_raiseO ?_ KX.mono_var
      walk_at "rd"
      exact fun d H' sm hd => x (decide_eq_false (by simpa using hi)) d H' ((same_new n1).trans sm) hd
    walk_at "rd"
    exact q (decide_eq_true (by simpa using hi)) _ (same_new n1)
theorem ok_binit {f C cR : Addr} {fd : FuncData} (F : FunD K "__init__" "Bit.__init__" (defArgs s_Bit___init__) (defBody s_Bit___init__) (defScope s_Bit___init__) [.int 0] [] f fd) (T : TxtKB K C) (c_need_bit : KB.Callee P w K mg base (L2.CX P w) 3 "need_bit" ["value"] (spNeedB cR)) : FnOk P w K mg base (L2.CX P w) 4 f fd ["self", "value"] (spBInit C cR) := by
  refine F.ok sc_Bit___init__ (fun vs H Q E h => ?_) (fun cdv A outer s H vs Q E hr h => ?_)
  · obtain ⟨a, dx, v, t, rfl, _⟩ := h
    rfl
  · obtain ⟨a, dx, v, t, rfl, od, ha, q, x⟩ := h
    refine ⟨_, (pss_cons (ps_expr (pe_callC c_need_bit (hr.mono (by decide)) (by rfl) (passes_call KL.def_takes fun _ _ _ _ h => h) (pa_cons (pv 1) pa_nil)))
 (pss_one (ps_fld (pv 0) (pv 1) rfl))), at_start (σ := [some (.ref a), some v]) rfl ?_⟩
    try dsimp only [KC.cx_KX]
    walk_at "rd"
    refine ⟨v, t, rfl, od, fun hb H1 s1 => ?_, x⟩
    obtain ⟨b, rfl, hb01⟩ := isBit_of hb
    obtain rfl : v = .int b := od
    walk_at "rd"
    refine ⟨a, C, dx, _, rfl, s1 _ _ ha, T.cl, T.n_held, (by simp), ?_⟩
    exact q b rfl hb01 _ ⟨dx, upd_same⟩ fun b o e hb => by rw [upd_ne hb]; exact s1 _ _ e
theorem ok_bnow {f C : Addr} {fd : FuncData} {k : Nat} (F : Fun K "now" "Bit.now" s_Bit_now f fd) (T : TxtKB K C) : FnOk P w K mg base CX0 (k + 1) f fd ["self"] (spNow C) := by
  refine F.ok sc_Bit_now (fun vs H Q E h => ?_) (fun cdv A outer s H vs Q E hr h => ?_)
  · obtain ⟨a, t, rfl, _⟩ := h
    rfl
  · obtain ⟨a, t, rfl, ⟨dx, fs, ha⟩, q⟩ := h
    have cl := T.cl; have nh := T.n_held
    refine ⟨_, (pss_one (ps_ret (pe_op op_mod (pe_fld (pv 0) rfl) pe_int))), at_start (σ := [some (.ref a)]) rfl ?_⟩
    try dsimp only [cx_K]
    walk_at "rd"
    exact q
theorem ok_bstate {f C : Addr} {fd : FuncData} {k : Nat} (F : Fun K "state" "Bit.state" s_Bit_state f fd) (T : TxtKB K C) : FnOk P w K mg base CX0 (k + 1) f fd ["self"] (spState C) := by
  refine F.ok sc_Bit_state (fun vs H Q E h => ?_) (fun cdv A outer s H vs Q E hr h => ?_)
  · obtain ⟨a, t, rfl, _⟩ := h
    rfl
  · obtain ⟨a, t, rfl, ⟨dx, fs, ha⟩, q⟩ := h
    have cl := T.cl; have nh := T.n_held
    refine ⟨_, (pss_one (ps_ret (pe_fld (pv 0) rfl))), at_start (σ := [some (.ref a)]) rfl ?_⟩
    try dsimp only [cx_K]
    walk_at "rd"
    exact q
theorem ok_kinit {f C cR cda cc D : Addr} {fd : FuncData} (F : SF P K f fd "__init__" "KindBit.__init__" s_KindBit___init__ cda cc D) (T : TxtKB K C) (n_kind : NoAttr K C "kind") (hm : mg "super" = none) (cs : KN.SupM P w K mg base (L2.CX P w) 4 C D "__init__" ["self", "value"] (spBInit C cR)) : FnOk P w K mg base (L2.CX P w) 6 f fd ["self", "kind", "value"] (spKInit C cR) := by
  refine F.ok sc_KindBit___init__ (fun vs H Q E h => ?_) (fun A outer s H vs Q E hr h => ?_)
  · obtain ⟨a, dx, k, v, t, rfl, _⟩ := h
    rfl
  · obtain ⟨a, dx, k, v, t, rfl, od, ha, q, x⟩ := h
    refine ⟨_, (KN.pssa_cons (KN.psa_expr (KN.pea_super F sc_KindBit___init__ rfl rfl (by decide) hm cs (hr.mono (by decide)) (passes_call sup_takes fun _ _ _ _ h => h) (pa_cons (pv 2) pa_nil)) rfl) (KN.pssa_any (pss_one (ps_fld (pv 0) (pv 1) rfl)))), at_start (σ := [some (.ref a), some (.ref k), some v]) rfl ?_⟩
    try dsimp only [cx_sup]
    walk_at "rd"
    refine KN.r_sup rfl ha ?_
    walk_at "rd"
    refine ⟨a, dx, v, t, rfl, od, ha, fun b eb hb H1 b1 k1 => ?_, x⟩
    obtain ⟨dx1, ha1⟩ := b1
    walk_at "rd"
    refine ⟨a, C, dx1, _, rfl, ha1, T.cl, n_kind, (by simp), ?_⟩
    walk_at "rd"
    exact q b eb hb _ dx1 upd_same fun b o e hb => by rw [upd_ne hb]; exact k1 _ _ e hb
theorem ok_kread {f C CK : Addr} {fd : FuncData} (F : Fun K "read" "KindBit.read" s_KindBit_read f fd) (T : TxtKB K C) (n_kind : NoAttr K C "kind") (p_KB_now : KW.OwnP P w K mg base 1 C "now" ["self"] (spNow C)) (c_Kind_after_read : CalleeM P w K mg base CX0 1 CK "after_read" ["self", "state"] (spRead CK)) : FnOk P w K mg base CX0 3 f fd ["self"] (spKRd C CK) := by
  refine F.ok sc_KindBit_read (fun vs H Q E h => ?_) (fun cdv A outer s H vs Q E hr h => ?_)
  · obtain ⟨a, k, s, r, w, d, rfl, _⟩ := h
    rfl
  · obtain ⟨a, k, t, r, wr, d, rfl, nk, kb, q⟩ := h
    have cl := T.cl; have nh := T.n_held
    have kb' := kb
    obtain ⟨⟨dx, ha⟩, kd⟩ := kb'
    obtain ⟨dy, st, hk, hst⟩ := id kd
    refine ⟨_, (pss_cons (ps_set (i := 1) sc_KindBit_read.nd rfl (by first | exact Or.inl rfl | exact Or.inr rfl) (KW.pe_propO p_KB_now (pv 0) (hr.mono (by decide))))
 (pss_cons (ps_fld (pv 0) (pe_methC c_Kind_after_read (pe_fld (pv 0) rfl) (hr.mono (by decide)) pass0 (pa_cons (pe_fld (pv 0) rfl) pa_nil)) rfl)
 (pss_one (ps_ret (pv 1))))), at_start (σ := [some (.ref a), none]) rfl ?_⟩
    try dsimp only [cx_K]
    walk_at "rd"
    refine KW.r_prop ?_
    walk_at "rd"
    refine ⟨a, dx, _, rfl, ha, a, t, rfl, kb.held, ?_⟩
    walk_at "rd"
    refine ⟨k, dy, _, rfl, hk, rfl, ?_⟩
    walk_at "rd"
    refine ⟨k, r, wr, d, t, rfl, kd, ?_⟩
    walk_at "rd"
    refine ⟨a, C, dx, _, rfl, ha, T.cl, T.n_held, (by simp), ?_⟩
    walk_at "rd"
    exact q _ (KBAt.set ha kd nk) fun b o e hb => by rw [upd_ne hb]; exact e
theorem ok_kwrite {f C CK cR : Addr} {fd : FuncData} (F : Fun K "write" "KindBit.write" s_KindBit_write f fd) (T : TxtKB K C) (n_kind : NoAttr K C "kind") (c_need_bit : KB.Callee P w K mg base (L2.CX P w) 3 "need_bit" ["value"] (spNeedB cR)) (c_Kind_after_write : CalleeM P w K mg base CX0 2 CK "after_write" ["self", "state", "bit"] (spWrite CK)) : FnOk P w K mg base (L2.CX P w) 4 f fd ["self", "bit"] (spKWr C CK cR) := by
  refine F.okX sc_KindBit_write (fun vs H Q E h => ?_) (fun cdv A outer s H vs Q E hr h => ?_)
  · obtain ⟨a, k, s, r, w, d, v, t, rfl, _⟩ := h
    rfl
  · obtain ⟨a, k, s0, r, wr, d, v, t, rfl, od, nk, kb, q, x⟩ := h
    have cl := T.cl; have nh := T.n_held
    refine ⟨_, (pss_cons (ps_expr (pe_callC c_need_bit (hr.mono (by decide)) (by rfl) (passes_call KL.def_takes fun _ _ _ _ h => h) (pa_cons (pv 1) pa_nil)))
 (pss_one (ps_fld (pv 0) (pe_methC c_Kind_after_write (pe_fld (pv 0) rfl) (hr.mono (by decide)) pass0 (pa_cons (pe_fld (pv 0) rfl) (pa_cons (pv 1) pa_nil))) rfl))), at_start (σ := [some (.ref a), some v]) rfl ?_⟩
    try dsimp only [KC.cx_KX]
    walk_at "rd"
    refine ⟨v, t, rfl, od, fun hb H1 s1 => ?_, x⟩
    obtain ⟨b, rfl, hb01⟩ := isBit_of hb
    obtain rfl : v = .int b := od
    replace q := q b rfl hb01
    have kb1 := kb.up s1
    obtain ⟨⟨dx, ha⟩, kd⟩ := id kb1
    obtain ⟨dy, st, hk, hst⟩ := id kd
    walk_at "rd"
    refine ⟨k, dy, _, rfl, hk, rfl, ?_⟩
    walk_at "rd"
    refine ⟨k, r, wr, d, s0, b, rfl, kd, ?_⟩
    walk_at "rd"
    refine ⟨a, C, dx, _, rfl, ha, T.cl, T.n_held, (by simp), ?_⟩
    exact q _ (KBAt.set ha kd nk) fun b o e hb => by rw [upd_ne hb]; exact s1 _ _ e
theorem ok_kdeed {f C CK : Addr} {fd : FuncData} (F : Fun K "deed" "KindBit.deed" s_KindBit_deed f fd) (T : TxtKB K C) (n_kind : NoAttr K C "kind") (c_Kind_deeds : CalleeM P w K mg base CX0 1 CK "deeds" ["self", "state"] (spDeedsK CK)) : FnOk P w K mg base CX0 3 f fd ["self"] (spKDe C CK) := by
  refine F.ok sc_KindBit_deed (fun vs H Q E h => ?_) (fun cdv A outer s H vs Q E hr h => ?_)
  · obtain ⟨a, k, s, r, w, d, rfl, _⟩ := h
    rfl
  · obtain ⟨a, k, s0, r, wr, d, rfl, nk, hd, kb, q⟩ := h
    have cl := T.cl; have nh := T.n_held
    obtain ⟨⟨dx, ha⟩, kd⟩ := id kb
    obtain ⟨dy, st, hk, hst⟩ := id kd
    refine ⟨_, (pss_cons (ps_set (i := 1) sc_KindBit_deed.nd rfl (by first | exact Or.inl rfl | exact Or.inr rfl) (pe_methC c_Kind_deeds (pe_fld (pv 0) rfl) (hr.mono (by decide)) pass0 (pa_cons (pe_fld (pv 0) rfl) pa_nil)))
 (pss_cons (ps_if (pt_cmpR (op_eqD hr.units) (pv 1) (pe_tup pa_nil) (nomark _)) (pss_one (ps_ret pe_bl))
 pss_nil)
 (pss_cons (ps_fld (pv 0) (pe_ix ix_tup (pv 1) pe_int (fun _ _ => rfl)) rfl)
 (pss_one (ps_ret pe_bl))))), at_start (σ := [some (.ref a), none]) rfl ?_⟩
    try dsimp only [cx_K]
    walk_at "rd"
    refine ⟨k, dy, _, rfl, hk, rfl, ?_⟩
    walk_at "rd"
    refine ⟨k, r, wr, d, s0, rfl, kd, hd, fun H1 e1 s1 g1 => ?_⟩
    have kb1 := kb.up s1
    walk_at "rd"
    refine ⟨by walk_at "sz", fun c1 n1 => ?_⟩
    refine r_eqIntsT (ns := deedsOf d s0) (ms := []) (SqT.of (upd_new n1 g1)) (SqT.of upd_same) ?_
    walk_at "rd"
    rcases deeds_one d s0 with e0 | ⟨t, e0⟩
    · rw [e0] at q ⊢
      refine r_iteT rfl ?_
      walk_at "rd"
      exact q _ (kb1.up (same_new n1)) (Keep.same (s1.trans (same_new n1)))
    · rw [e0] at q g1 ⊢
      refine r_iteF (by simp) ?_
      have kb2 := kb1.up (same_new (o := .tup []) n1)
      have g2 := upd_new (o := .tup []) n1 g1
      have s2 := s1.trans (same_new (o := .tup []) n1)
      generalize upd H1 c1 (.tup []) = H2 at kb2 g2 s2 ⊢
      obtain ⟨⟨dx2, ha2⟩, kd2⟩ := id kb2
      walk_at "rd"
      refine ⟨a, C, dx2, _, rfl, ha2, T.cl, T.n_held, (by simp), ?_⟩
      walk_at "rd"
      exact q _ (KBAt.set ha2 kd2 nk) fun b o e hb => by rw [upd_ne hb]; exact s2 _ _ e
end
/-- where a promise leaves no refusal, the def raises nothing -/
theorem calm_of {P : Program} {w : World} {K : PySem.W.Frag} {mg : Str → Option Value} {base : Heap} {k : Nat} {f : Addr} {fd : FuncData} {ps : List Str} {sp sp0 : Sp} (F : FnOk P w K mg base (L2.CX P w) k f fd ps sp) (h : ∀ vs H Q E, sp0 vs H Q E → sp vs H Q fun _ _ _ => False) : FnOk P w K mg base CX0 k f fd ps sp0 :=
  ⟨fun vs H Q E q => F.len _ _ _ _ (h _ _ _ _ q), fun A outer s H args us vs Q E hr he hb hv q => codeAny_mono (F.run A outer s H args us vs Q (fun _ _ _ => False) hr he hb hv (h _ _ _ _ q)) fun res st z => by
    match res, z with
    | .error e, z =>
      obtain ⟨_, _, _, _, _, _, _, _, _, _, _, _, x⟩ := z
      exact x.elim
    | .ok fl, z => cases fl <;> exact z⟩
def spKWr0 (C CK : Addr) : Sp := fun vs H Q _ => ∃ (a k : Addr) (s b : Int) (r w d : Str), vs = [.ref a, .int b] ∧ (b = 0 ∨ b = 1) ∧ k ≠ a ∧ KBAt C CK H a s k r w d ∧ ∀ H', KBAt C CK H' a (afterWrite w s b) k r w d → Keep a H H' → Q .non H'
theorem kwr_calm {P : Program} {w : World} {K : PySem.W.Frag} {mg : Str → Option Value} {base : Heap} {k : Nat} {g C CK cR : Addr} {fd : FuncData} {ps : List Str} (F : FnOk P w K mg base (L2.CX P w) k g fd ps (spKWr C CK cR)) : FnOk P w K mg base CX0 k g fd ps (spKWr0 C CK) := by
  refine calm_of F fun vs H Q E h => ?_
  obtain ⟨a, k, s, b, r, wr, d, rfl, hb, nk, kb, q⟩ := h
  refine ⟨a, k, s, r, wr, d, .int b, .sc (.int b), rfl, rfl, nk, kb, fun b' eb _ H' b1 k1 => ?_, fun z => ?_⟩
  · cases eb
    exact q H' b1 k1
  · have : isBit (.sc (.int b)) = true := decide_eq_true hb
    rw [this] at z
    cases z
end K17

namespace K17
open PySem L2 KB KO KV KY
/-! ### rows of ends are closed under deeds -/
theorem rowOf_nil (r w d : Str) (q : Bool) (s : Int) : rowOf r w d q [] s = wdl d q [s] := rfl
theorem row_start {r w d : Str} {s : Int} (hd : d ∈ DV) (hs : s ∈ S4) : s ∈ rowOf r w d false [] s := by
  rw [rowOf_nil]
  unfold wdl
  rw [if_neg (by decide)]
  exact (mem_clo hd (fun k m => by rw [List.mem_singleton.mp m]; exact hs)).mpr (.inl List.mem_cons_self)
theorem row_step {r w d : Str} {cs : List Nat} {c : Nat} {s s0 : Int} (hr : r ∈ RD) (hw : w ∈ WR) (hd : d ∈ DV) (hc : isLet c) (h : s ∈ rowOf r w d false cs s0) : afterL r w c s ∈ rowOf r w d false (cs ++ [c]) s0 := by
  rw [rowOf_snoc]
  unfold stepRow wdl
  rw [if_neg (by decide)]
  refine (mem_clo hd (fun k m => ?_)).mpr (.inl (List.mem_map_of_mem h))
  obtain ⟨j, hj, rfl⟩ := List.mem_map.mp m
  exact afterL_s4 hr hw hc (rowOf_s4 j hj)
theorem row_deed {r w d : Str} {cs : List Nat} {s e s0 : Int} (hr : r ∈ RD) (hw : w ∈ WR) (hd : d ∈ DV) (hcs : ∀ c ∈ cs, isLet c) (h0 : s0 ∈ S4) (h : s ∈ rowOf r w d false cs s0) (he : e ∈ deedsOf d s) : e ∈ rowOf r w d false cs s0 := by
  rcases List.eq_nil_or_concat cs with rfl | ⟨cs', c, rfl⟩
  · rw [rowOf_nil] at h ⊢
    unfold wdl at h ⊢
    rw [if_neg (by decide)] at h ⊢
    exact clo_deeds hd (fun k m => by rw [List.mem_singleton.mp m]; exact h0) h he
  · rw [List.concat_eq_append] at h ⊢
    rw [rowOf_snoc] at h ⊢
    unfold stepRow wdl at h ⊢
    rw [if_neg (by decide)] at h ⊢
    refine clo_deeds hd (fun k m => ?_) h he
    obtain ⟨j, hj, rfl⟩ := List.mem_map.mp m
    exact afterL_s4 hr hw (hcs c (by simp)) (rowOf_s4 j hj)
theorem row_deeds {r w d : Str} {cs : List Nat} {s s0 : Int} (hr : r ∈ RD) (hw : w ∈ WR) (hd : d ∈ DV) (hcs : ∀ c ∈ cs, isLet c) (h0 : s0 ∈ S4) (h : s ∈ rowOf r w d false cs s0) : (deedsOf d s ++ [s]).headD 0 ∈ rowOf r w d false cs s0 := by
  rcases deeds_one d s with e | ⟨t, e⟩
  · rw [e]; exact h
  · rw [e]
    exact row_deed hr hw hd hcs h0 h (by rw [e]; exact List.mem_singleton.mpr rfl)
/-! ### a blend bit by bit -/
def blStep (v : Nat) (acc : Nat) (q : Int × Int) : Nat := if v.testBit q.2.toNat = true then acc ^^^ 2 ^ q.1.toNat else acc
theorem bl_fold {w v k f : Nat} {s : Int} (hv : v < 2 ^ w) (hk : ∀ p, k.testBit p = true → p < w ∧ s ≤ (p : Int)) : ∀ i, i ≤ w → (((List.range i).filter (k.testBit ·)).map fun (p : Nat) => ((p : Int), (p : Int) - s)).foldl (blStep v) f = f ^^^ ((k &&& KBL.shN w v s) % 2 ^ i) := by
  intro i
  induction i with
  | zero => intro _; simp [Nat.mod_one]
  | succ i ih =>
    intro hi
    rw [List.range_succ, List.filter_append, List.map_append, List.foldl_append, ih (by omega)]
    have tb : (k &&& KBL.shN w v s).testBit i = (k.testBit i && (decide (s ≤ (i : Int)) && v.testBit ((i : Int) - s).toNat)) := by
      rw [Nat.testBit_and, KBL.bit_sh hv, decide_eq_true (show i < w by omega), Bool.true_and]
    generalize hx : k &&& KBL.shN w v s = x at tb ⊢
    have key : x.testBit i = true → (f ^^^ x % 2 ^ i) ^^^ 2 ^ i = f ^^^ x % 2 ^ (i + 1) := fun e => by
      refine Nat.eq_of_testBit_eq fun p => ?_
      rw [Nat.testBit_xor, Nat.testBit_xor, Nat.testBit_xor, Nat.testBit_mod_two_pow, Nat.testBit_mod_two_pow, Nat.testBit_two_pow]
      rcases Nat.lt_trichotomy p i with h | h | h
      · rw [decide_eq_true h, decide_eq_true (show p < i + 1 by omega), decide_eq_false (show ¬ i = p by omega), Bool.xor_false]
      · subst h
        rw [decide_eq_false (Nat.lt_irrefl p), decide_eq_true (Nat.lt_succ_self p), decide_eq_true rfl, e]
        simp
      · rw [decide_eq_false (show ¬ p < i by omega), decide_eq_false (show ¬ p < i + 1 by omega), decide_eq_false (show ¬ i = p by omega), Bool.xor_false]
    have key0 : x.testBit i = false → f ^^^ x % 2 ^ i = f ^^^ x % 2 ^ (i + 1) := fun e => by
      rw [KBL.mod_next, e]
      simp [KBL.b2n]
    cases hb : k.testBit i with
    | false =>
      rw [List.filter_cons, if_neg (by simp [hb])]
      rw [hb, Bool.false_and] at tb
      exact key0 tb
    | true =>
      rw [List.filter_cons, if_pos (by simp [hb])]
      have hs := (hk i hb).2
      rw [hb, Bool.true_and, decide_eq_true hs, Bool.true_and] at tb
      show blStep v (f ^^^ x % 2 ^ i) ((i : Int), (i : Int) - s) = _
      unfold blStep
      dsimp only
      rw [Int.toNat_natCast]
      cases hv' : v.testBit ((i : Int) - s).toNat with
      | true =>
        rw [if_pos rfl]
        exact key (by rw [tb, hv'])
      | false =>
        rw [if_neg (by decide)]
        exact key0 (by rw [tb, hv'])
/-- the result of a blend by its pairs -/
theorem bl_srcs {w v f m : Nat} {s : Int} (hv : v < 2 ^ w) (hf : f < 2 ^ w) : (KBL.srcsK w (KBL.shiftN w s m) (KBL.keepN w s m)).foldl (blStep v) f = f ^^^ (KBL.keepN w s m &&& KBL.shN w v (KBL.shiftN w s m)) := by
  unfold KBL.srcsK
  rw [bl_fold hv (fun p hp => ?_) w (Nat.le_refl w)]
  · congr 1
    exact Nat.mod_eq_of_lt (Nat.and_lt_two_pow _ (KBL.sh_lt hv))
  · have h0 : KBL.keepN w s m ≠ 0 := fun z => by rw [z, Nat.zero_testBit] at hp; cases hp
    have hp' := hp
    rw [KBL.bit_keep] at hp'
    obtain ⟨a, b, c⟩ := KBL.src_of hp'
    unfold KBL.shiftN
    rw [if_neg h0]
    exact ⟨a, b⟩
theorem src_pos {w m : Nat} {s : Int} {j : Nat} {q : Int × Int} (h : (KBL.srcsK w (KBL.shiftN w s m) (KBL.keepN w s m))[j]? = some q) : 0 ≤ q.1 ∧ 0 ≤ q.2 ∧ q.1 < w ∧ q.2 < w := by
  unfold KBL.srcsK at h
  have hm := List.mem_of_getElem? h
  obtain ⟨p, hp, rfl⟩ := List.mem_map.mp hm
  obtain ⟨h1, h2⟩ := List.mem_filter.mp hp
  have h1 := List.mem_range.mp h1
  have hk : (KBL.keepN w s m).testBit p = true := by simpa using h2
  have h0 : KBL.keepN w s m ≠ 0 := fun z => by rw [z, Nat.zero_testBit] at hk; cases hk
  rw [KBL.bit_keep] at hk
  obtain ⟨a, b, c⟩ := KBL.src_of hk
  unfold KBL.shiftN
  rw [if_neg h0]
  dsimp only
  exact ⟨by omega, by omega, by omega, by omega⟩
/-! ### eight things -/
def row8 (f : Nat → V) : List V := (List.range 8).map f
def setN {α : Type} (f : Nat → α) (i : Nat) (x : α) : Nat → α := fun j => if j = i then x else f j
theorem setN_same {α : Type} {f : Nat → α} {i : Nat} {x : α} : setN f i x i = x := if_pos rfl
theorem setN_ne {α : Type} {f : Nat → α} {i j : Nat} {x : α} (h : j ≠ i) : setN f i x j = f j := if_neg h
theorem row8_len (f : Nat → V) : (row8 f).length = 8 := by unfold row8; rw [List.length_map, List.length_range]
theorem row8_at {f : Nat → V} {i : Nat} (h : i < 8) : (row8 f)[i]? = some (f i) := by
  unfold row8
  rw [List.getElem?_map, List.getElem?_range h]
  rfl
theorem row8_of {f : Nat → V} {i : Nat} {v : V} (h : (row8 f)[i]? = some v) : i < 8 ∧ v = f i := by
  have hi : i < 8 := by
    have := (List.getElem?_eq_some_iff.mp h).1
    rw [row8_len] at this
    exact this
  rw [row8_at hi] at h
  exact ⟨hi, (Option.some.inj h).symm⟩
theorem row8_ext {f : Nat → V} {ys : List V} (l : ys.length = 8) (h : ∀ i v, ys[i]? = some v → v = f i) : ys = row8 f := by
  refine List.ext_getElem? fun i => ?_
  by_cases hi : i < 8
  · rw [row8_at hi, List.getElem?_eq_getElem (show i < ys.length by omega)]
    exact congrArg some (h i _ (List.getElem?_eq_getElem (show i < ys.length by omega)))
  · rw [List.getElem?_eq_none (show ys.length ≤ i by omega), List.getElem?_eq_none (by rw [row8_len]; omega)]
theorem row8_set {f : Nat → V} {i : Nat} {v : V} : (row8 f).set i v = row8 (setN f i v) := by
  refine row8_ext (by rw [List.length_set, row8_len]) fun j u e => ?_
  by_cases hj : j = i
  · subst hj
    rw [setN_same]
    have hl := (List.getElem?_eq_some_iff.mp e).1
    rw [List.length_set] at hl
    rw [List.getElem?_set_self hl] at e
    exact (Option.some.inj e).symm
  · rw [setN_ne hj]
    rw [List.getElem?_set_ne (Ne.symm hj)] at e
    exact (row8_of e).2
theorem row8_inj {f g : Nat → V} (h : row8 f = row8 g) {i : Nat} (hi : i < 8) : f i = g i := by
  have := congrArg (fun l => l[i]?) h
  rw [row8_at hi, row8_at hi] at this
  exact Option.some.inj this
theorem row8_no {f : Nat → V} {xs : List V} (h : xs.length ≠ 8) : row8 f ≠ xs := fun z => h (by rw [← z, row8_len])
theorem row8_atI {f : Nat → V} {i : Nat} (h : i < 8) : atI (row8 f) (i : Int) = some (f i) := atI_nat (row8_at h)
theorem row8_setN {α : Type} (g : α → V) (f : Nat → α) (i : Nat) (x : α) : setN (fun j => g (f j)) i (g x) = fun j => g (setN f i x j) := by
  funext j
  unfold setN
  split <;> rfl
/-! ### what stands in the heap -/
structure St where
  C : Addr
  CK : Addr
  pen : Addr
  pc : Addr
  L : Addr
  T : Addr
  So : Addr
  Kl : Addr
  Sl : Addr
  bs : Nat → Addr
  ks : Nat → Addr
  ws : Nat → Addr
  r : Nat → Str
  w : Nat → Str
  d : Nat → Str
  s0 : Nat → Int
structure Ok (S : St) : Prop where
  hr : ∀ i < 8, S.r i ∈ RD
  hw : ∀ i < 8, S.w i ∈ WR
  hd : ∀ i < 8, S.d i ∈ DV
  h0 : ∀ i < 8, S.s0 i = 0 ∨ S.s0 i = 1
  inj : ∀ i j, i < 8 → j < 8 → S.bs i = S.bs j → i = j
structure M (S : St) (n : Nat) (ss : Nat → Int) (ts : Nat → Str) (H : Hp) : Prop where
  pn : PenC H S.pen S.pc n
  hL : H S.L = some (.lst (row8 fun i => .ref (S.bs i)))
  hT : H S.T = some (.lst (row8 fun i => .str (ts i)))
  hS : H S.So = some (.lst (row8 fun i => .ref (S.ws i)))
  hK : H S.Kl = some (.lst (row8 fun i => .ref (S.ks i)))
  h0 : H S.Sl = some (.lst (row8 fun i => .int (S.s0 i)))
  bit : ∀ i < 8, ∃ dx, H (S.bs i) = some (.ins S.C dx [("held", .int (ss i)), ("kind", .ref (S.ks i))])
  kd : ∀ i < 8, KindAt S.CK H (S.ks i) (S.r i) (S.w i) (S.d i)
  wd : ∀ i < 8, H (S.ws i) = some (.tup [.str (S.r i), .str (S.w i), .str (S.d i)])
section
variable {S : St} {n m : Nat} {ss : Nat → Int} {ts : Nat → Str} {H H' : Hp}
theorem M.up (h : M S n ss ts H) (s : Same H H') : M S n ss ts H' :=
  ⟨h.pn.up s, s _ _ h.hL, s _ _ h.hT, s _ _ h.hS, s _ _ h.hK, s _ _ h.h0, fun i hi => by obtain ⟨dx, e⟩ := h.bit i hi; exact ⟨dx, s _ _ e⟩, fun i hi => (h.kd i hi).up s, fun i hi => s _ _ (h.wd i hi)⟩
theorem M.mono (h : M S n ss ts H) (e : m ≤ n) : M S m ss ts H := { h with pn := h.pn.mono e }
theorem ne_by {H : Hp} {a b : Addr} {o u : HO} (h : H a = some o) (g : H b = some u) (n : o ≠ u) : a ≠ b := fun z => n (by rw [z, g] at h; exact (Option.some.inj h).symm)
theorem lst_ne {xs ys : List V} (n : xs ≠ ys) : (HO.lst xs) ≠ .lst ys := fun z => n (by injection z)
theorem M.draw (h : M S n ss ts H) (p : PenC H' S.pen S.pc m) (e : Keep S.pen H H') : M S m ss ts H' := by
  obtain ⟨ns, at_, left, hp, _⟩ := id h.pn
  have r8 : ∀ {a : Addr} {f : Nat → V}, H a = some (.lst (row8 f)) → H' a = some (.lst (row8 f)) := fun {a f} g => e _ _ g (ne_by g hp (lst_ne (row8_no (by simp))))
  refine ⟨p, r8 h.hL, r8 h.hT, r8 h.hS, r8 h.hK, r8 h.h0, fun i hi => ?_, fun i hi => ?_, fun i hi => e _ _ (h.wd i hi) (ne_by (h.wd i hi) hp (fun z => by cases z))⟩
  · obtain ⟨dx, g⟩ := h.bit i hi
    exact ⟨dx, e _ _ g (ne_by g hp (fun z => by cases z))⟩
  · obtain ⟨dx, st, g1, g2⟩ := h.kd i hi
    exact ⟨dx, st, e _ _ g1 (ne_by g1 hp (fun z => by cases z)), e _ _ g2 (ne_by g2 hp (fun z => by cases z))⟩
theorem M.kne (h : M S n ss ts H) {i j : Nat} (hi : i < 8) (hj : j < 8) : S.ks j ≠ S.bs i := by
  obtain ⟨dx, g⟩ := h.bit i hi
  obtain ⟨dy, st, g1, g2⟩ := h.kd j hj
  refine ne_by g1 g (fun z => ?_)
  injection z with _ _ z
  have := congrArg List.length z
  simp [flds] at this
theorem M.kb (h : M S n ss ts H) {i : Nat} (hi : i < 8) : KBAt S.C S.CK H (S.bs i) (ss i) (S.ks i) (S.r i) (S.w i) (S.d i) := ⟨h.bit i hi, h.kd i hi⟩
/-- a bit does something -/
theorem M.act (o : Ok S) (h : M S n ss ts H) {i : Nat} {s : Int} (hi : i < 8) (b : KBAt S.C S.CK H' (S.bs i) s (S.ks i) (S.r i) (S.w i) (S.d i)) (e : Keep (S.bs i) H H') : M S n (setN ss i s) ts H' := by
  obtain ⟨dx, g⟩ := h.bit i hi
  have lst : ∀ {a : Addr} {xs : List V}, H a = some (.lst xs) → H' a = some (.lst xs) := fun {a xs} q => e _ _ q (ne_by q g (fun z => by cases z))
  obtain ⟨ns, at_, left, p1, p2, p3, p4, p5⟩ := id h.pn
  refine ⟨⟨ns, at_, left, lst p1, lst p2, p3, p4, p5⟩, lst h.hL, lst h.hT, lst h.hS, lst h.hK, lst h.h0, fun j hj => ?_, fun j hj => ?_, fun j hj => e _ _ (h.wd j hj) (ne_by (h.wd j hj) g (fun z => by cases z))⟩
  · by_cases z : j = i
    · subst z
      rw [setN_same]
      exact b.1
    · rw [setN_ne z]
      obtain ⟨dy, q⟩ := h.bit j hj
      exact ⟨dy, e _ _ q (fun y => z (o.inj j i hj hi y))⟩
  · obtain ⟨dy, st, g1, g2⟩ := h.kd j hj
    exact ⟨dy, st, e _ _ g1 (h.kne hi hj), e _ _ g2 (ne_by g2 g (fun z => by cases z))⟩
def St.ls (S : St) : List Addr := [S.pen, S.pc, S.L, S.T, S.So, S.Kl, S.Sl]
theorem M.fresh (h : M S n ss ts H) {D : Addr} (f : H D = none) : D ∉ S.ls := fun z => by
  unfold St.ls at z
  simp only [List.mem_cons, List.not_mem_nil, or_false] at z
  obtain ⟨ns, at_, left, p1, p2, _⟩ := id h.pn
  have k1 := h.hL
  have k2 := h.hT
  have k3 := h.hS
  have k4 := h.hK
  have k5 := h.h0
  rcases z with rfl | rfl | rfl | rfl | rfl | rfl | rfl
  · rw [f] at p1; cases p1
  · rw [f] at p2; cases p2
  · rw [f] at k1; cases k1
  · rw [f] at k2; cases k2
  · rw [f] at k3; cases k3
  · rw [f] at k4; cases k4
  · rw [f] at k5; cases k5
theorem M.setl (h : M S n ss ts H) {D : Addr} {xs ys : List V} (f : D ∉ S.ls) (g : H D = some (.lst xs)) : M S n ss ts (upd H D (.lst ys)) := by
  unfold St.ls at f
  simp only [List.mem_cons, List.not_mem_nil, or_false, not_or] at f
  obtain ⟨f1, f2, f3, f4, f5, f6, f7⟩ := f
  obtain ⟨ns, at_, left, p1, p2, p3, p4, p5⟩ := id h.pn
  have no : ∀ {a : Addr} {o : HO}, H a = some o → a ≠ D → upd H D (.lst ys) a = some o := fun {a o} q z => by rw [upd_ne z]; exact q
  refine ⟨⟨ns, at_, left, no p1 (Ne.symm f1), no p2 (Ne.symm f2), p3, p4, p5⟩, no h.hL (Ne.symm f3), no h.hT (Ne.symm f4), no h.hS (Ne.symm f5), no h.hK (Ne.symm f6), no h.h0 (Ne.symm f7), fun i hi => ?_, fun i hi => ?_, fun i hi => no (h.wd i hi) (ne_by (h.wd i hi) g (fun z => by cases z))⟩
  · obtain ⟨dx, q⟩ := h.bit i hi
    exact ⟨dx, no q (ne_by q g (fun z => by cases z))⟩
  · obtain ⟨dy, st, g1, g2⟩ := h.kd i hi
    exact ⟨dy, st, no g1 (ne_by g1 g (fun z => by cases z)), no g2 (ne_by g2 g (fun z => by cases z))⟩
/-- a text is put -/
theorem M.text (h : M S n ss ts H) {i : Nat} (z : Str) : M S n ss (setN ts i z) (upd H S.T (.lst ((row8 fun i => .str (ts i)).set i (.str z)))) := by
  rw [row8_set, row8_setN V.str]
  obtain ⟨ns, at_, left, p1, p2, p3, p4, p5⟩ := id h.pn
  have t := h.hT
  have no : ∀ {a : Addr} {o : HO}, H a = some o → o ≠ .lst (row8 fun i => .str (ts i)) → upd H S.T (.lst (row8 fun j => .str (setN ts i z j))) a = some o := fun {a o} q y => by rw [upd_ne (ne_by q t y)]; exact q
  have dif : ∀ {f : Nat → V}, (∀ x y, f x ≠ .str y) → HO.lst (row8 f) ≠ .lst (row8 fun i => .str (ts i)) := fun {f} y => lst_ne (fun e => y 0 _ (row8_inj e (by decide)))
  have pcne : HO.lst (ns.map V.int) ≠ .lst (row8 fun i => .str (ts i)) := lst_ne fun e => by
    have e0 := congrArg (fun l => l[0]?) e
    rw [row8_at (by decide)] at e0
    cases ns with
    | nil => cases e0
    | cons a b => cases e0
  refine ⟨⟨ns, at_, left, no p1 (lst_ne (fun e => row8_no (f := fun i => .str (ts i)) (by simp) e.symm)), no p2 pcne, p3, p4, p5⟩, no h.hL (dif (fun x y z => by cases z)), upd_same, no h.hS (dif (fun x y z => by cases z)), no h.hK (dif (fun x y z => by cases z)), no h.h0 (dif (fun x y z => by cases z)),
    fun i hi => ?_, fun i hi => ?_, fun i hi => no (h.wd i hi) (fun z => by cases z)⟩
  · obtain ⟨dx, q⟩ := h.bit i hi
    exact ⟨dx, no q (fun z => by cases z)⟩
  · obtain ⟨dy, st, g1, g2⟩ := h.kd i hi
    exact ⟨dy, st, no g1 (fun z => by cases z), no g2 (fun z => by cases z)⟩
end
end K17


namespace K17
open PySem L2 KB KO KY KV KW
theorem r_ienum {K : PySem.W.Frag} {σ : L2.St} {H : Hp} {ta : TA} {R : It → Hp → Prop} (q : ta σ H fun vs H1 => ∃ a xs, vs = [.ref a] ∧ SqL K H1 a xs ∧ R (Ite K a) H1) : iEnum K ta σ H R := q
def spWord : Sp := fun vs H Q _ => ∃ (pen pc : Addr) (w k : Nat), vs = [.ref pen, .int w] ∧ W3 w ∧ PenC H pen pc (k + 7) ∧ ∀ (n : Nat) H', n < 2 ^ w → PenC H' pen pc k → Keep pen H H' → Q (.int n) H'
def spBlended (C : Addr) : Sp := fun vs H Q _ => ∃ (p : Addr) (w : Nat) (s : Int) (m f n : Nat), vs = [.ref p, .int n] ∧ BlendAt C H p w (KBL.shiftN w s m) (KBL.keepN w s m) f ∧ n < 2 ^ w ∧ ∀ H', Same H H' → Q (.int ((f ^^^ (KBL.keepN w s m &&& KBL.shN w n (KBL.shiftN w s m)) : Nat) : Int)) H'
/-- the word of the bits -/
def bitI (ss : Nat → Int) (i : Nat) : Int := ss i % 2 * 2 ^ i
def wordI (ss : Nat → Int) : Int := ((List.range 8).map (bitI ss)).sum
theorem word_lt (ss : Nat → Int) : ∃ v : Nat, v < 256 ∧ wordI ss = v := by
  have h : 0 ≤ wordI ss ∧ wordI ss < 256 := by
    unfold wordI bitI
    simp only [List.range, List.range.loop, List.map_cons, List.map_nil, List.sum_cons, List.sum_nil]
    omega
  exact ⟨(wordI ss).toNat, by omega, by omega⟩
def rdTo (S : St) (ss : Nat → Int) (i : Nat) : Nat → Int := fun j => if j < i then afterRead (S.r j) (ss j) else ss j
theorem rdTo_zero (S : St) (ss : Nat → Int) : rdTo S ss 0 = ss := rfl
theorem rdTo_at (S : St) (ss : Nat → Int) (i : Nat) : rdTo S ss i i = ss i := if_neg (Nat.lt_irrefl i)
theorem rdTo_next (S : St) (ss : Nat → Int) (i : Nat) : setN (rdTo S ss i) i (afterRead (S.r i) (ss i)) = rdTo S ss (i + 1) := by
  funext j
  unfold setN rdTo
  by_cases h : j = i
  · subst h
    rw [if_pos rfl, if_pos (Nat.lt_succ_self j)]
  · rw [if_neg h]
    by_cases l : j < i
    · rw [if_pos l, if_pos (by omega)]
    · rw [if_neg l, if_neg (by omega)]
def spReadAll (S : St) : Sp := fun vs H Q _ => ∃ (n : Nat) (ss : Nat → Int) (ts : Nat → Str), vs = [.ref S.L] ∧ Ok S ∧ M S n ss ts H ∧ ∀ H', M S n (rdTo S ss 8) ts H' → Q (.int (wordI ss)) H'
theorem map_bits (ss : Nat → Int) (i : Nat) : ((List.range i).map (bitI ss)).map V.int ++ [.int (bitI ss i)] = ((List.range (i + 1)).map (bitI ss)).map V.int := by
  rw [List.range_succ, List.map_append, List.map_append]
  rfl

section
variable {P : Program} {w : World} {K : PySem.W.Frag} {mg : Str → Option Value} {base : Heap}
theorem ok_word {f : Addr} {fd : FuncData} (F : Fun K "_law_word" "_law_word" s__law_word f fd) (T : Txt mg) (c__law_draw : KB.Callee P w K mg base CX0 1 "_law_draw" ["_law_pen_here", "_law_many"] spDraw) : FnOk P w K mg base CX0 2 f fd ["_law_pen_here", "_law_width"] spWord := by
  refine F.ok sc__law_word (fun vs H Q E h => ?_) (fun cdv A outer s H vs Q E hr h => ?_)
  · obtain ⟨pen, pc, w, k, rfl, _⟩ := h
    rfl
  · obtain ⟨pen, pc, w, k, rfl, w3, pn, q⟩ := h
    have wl := w3.le
    have wp := w3.pow
    refine ⟨_, (pss_cons (ps_set (i := 2) sc__law_word.nd rfl (by first | exact Or.inl rfl | exact Or.inr rfl) (pe_dget (hu_of hr) (pe_disp (pps_cons pe_int pe_int (pps_cons pe_int pe_int (pps_cons pe_int pe_int pps_nil))) (by rfl) (by rfl) (fun z => by cases z) (by decide)) (pv 1) (fun _ _ => rfl)))
 (pss_cons (ps_set (i := 3) sc__law_word.nd rfl (by first | exact Or.inl rfl | exact Or.inr rfl) pe_int)
 (pss_cons (ps_for PassesOwn.never rfl (pi_range1 rfl T.z_range (pa_cons (pe_op op_fdiv (pv 1) pe_int) pa_nil)) (pg_name (i := 4) sc__law_word.nd rfl (by first | exact Or.inl rfl | exact Or.inr rfl))
 (pss_one (ps_set (i := 3) sc__law_word.nd rfl (by first | exact Or.inl rfl | exact Or.inr rfl) (pe_op op_add (pe_op op_mul pe_int (pv 3)) (pe_callC c__law_draw (hr.mono (by decide)) (by rfl) pass0 (pa_cons (pv 0) (pa_cons pe_int pa_nil)))))))
 (pss_cons (ps_set (i := 5) sc__law_word.nd rfl (by first | exact Or.inl rfl | exact Or.inr rfl) (pe_op op_shl pe_int (pe_callC c__law_draw (hr.mono (by decide)) (by rfl) pass0 (pa_cons (pv 0) (pa_cons (pv 1) pa_nil)))))
 (pss_one (ps_ret (pe_ix ix_list (pe_lst (pa_cons pe_int (pa_cons (pv 2) (pa_cons (pv 5) (pa_cons (pe_op op_sub (pv 2) (pv 5)) (pa_cons (pv 3) (pa_cons (pv 3) pa_nil))))))) (pe_callC c__law_draw (hr.mono (by decide)) (by rfl) pass0 (pa_cons (pv 0) (pa_cons pe_int pa_nil))) (fun _ _ => rfl)))))))), at_start (σ := [some (.ref pen), some (.int w), none, none, none, none]) rfl ?_⟩
    try dsimp only [cx_K]
    walk_at "rd"
    refine r_wdict w3 (mono_var1 rfl) fun H1 s1 => ?_
    rw [top_is w3]
    have pn1 := pn.up s1
    walk_at "rd"
    have hb : ((w : Int) / 8).toNat ≤ 4 ∧ 256 ^ ((w : Int) / 8).toNat = 2 ^ w := by
      rcases w3 with rfl | rfl | rfl <;> decide
    obtain ⟨hb1, hb2⟩ := hb
    refine ⟨by omega, by omega, ?_⟩
    refine forW (walk_range (lo := 0) (n := ((w : Int) / 8).toNat)) (fun i σ H' => ∃ (y4 : Option V) (m : Nat), σ = [some (.ref pen), some (.int w), some (.int ((KBL.onesN w : Nat) : Int)), some (.int m), y4, none] ∧ m < 256 ^ i ∧ PenC H' pen pc (k + 7 - i) ∧ Keep pen H H')
      ⟨_, 0, rfl, by decide, pn1, Keep.same s1⟩ (fun _ _ _ _ _ => trivial) ?_ ?_
    · rintro i x σ' _ H2 hi ⟨y4, m, rfl, hm, pn2, kp2⟩ ⟨rfl, rfl⟩
      have hm4 : m < 4294967296 := Nat.lt_of_lt_of_le hm (Nat.le_trans (Nat.pow_le_pow_right (by decide) (show i ≤ 4 by omega)) (by decide))
      walk_at "rd"
      refine ⟨pen, pc, 256, k + 7 - (i + 1), rfl, by decide, by decide, pn2.mono (by omega), fun r H3 r0 r1 pn3 kp3 => ?_⟩
      walk_at "rd"
      refine ⟨some (.int (0 + (i : Int))), 256 * m + r.toNat, ?_, ?_, pn3, kp2.tr kp3⟩
      · rw [show ((256 * m + r.toNat : Nat) : Int) = 256 * (m : Int) + r by omega]
        rfl
      · rw [Nat.pow_succ]
        omega
    · rintro σ' H2 ⟨y4, m, rfl, hm, pn2, kp2⟩
      rw [hb2] at hm
      walk_at "rd"
      refine ⟨pen, pc, w, k + 1, rfl, by omega, by omega, pn2.mono (by omega), fun r H3 r0 r1 pn3 kp3 => ?_⟩
      walk_at "rd"
      have er : ((1 : Int) * 2 ^ r.toNat) = ((2 ^ r.toNat : Nat) : Int) := by
        rw [Int.one_mul, Int.natCast_pow]
        rfl
      rw [er]
      have hr2 : 2 ^ r.toNat < 2 ^ w := KBL.two_lt (by omega)
      generalize 2 ^ r.toNat = o at hr2 ⊢
      walk_at "rd"
      refine ⟨by walk_at "sz", fun l nl => ?_⟩
      walk_at "rd"
      have nlp : l ≠ pen := pn3.ne nl
      refine ⟨pen, pc, 6, k, rfl, by decide, by decide, (pn3.up (same_new nl)).mono (by omega), fun r6 H4 a0 a1 pn4 kp4 => ?_⟩
      have hl := kp4 _ _ upd_same nlp
      have kp : Keep pen H H4 := ((kp2.tr kp3).tr (Keep.same (same_new nl))).tr kp4
      have on : KBL.onesN w = 2 ^ w - 1 := rfl
      have fin : ∀ n : Nat, n < 2 ^ w → Q (.int n) H4 := fun n hn => q n H4 hn pn4 kp
      clear kp kp2 kp3 kp4 pn2 pn3 pn4 q
      obtain ⟨j, rfl⟩ : ∃ j : Nat, r6 = (j : Int) := ⟨r6.toNat, by omega⟩
      have hj : j < 6 := by omega
      match j, hj with
      | 0, _ => exact r_ixL (n := 0) (SqL.of hl) rfl (fin 0 (by omega))
      | 1, _ => exact r_ixL (n := 1) (SqL.of hl) rfl (fin _ (by omega))
      | 2, _ => exact r_ixL (n := 2) (SqL.of hl) rfl (fin _ hr2)
      | 3, _ => exact r_ixL (n := 3) (v := .int ((KBL.onesN w - o : Nat) : Int)) (SqL.of hl) (by rw [show ((KBL.onesN w - o : Nat) : Int) = ((KBL.onesN w : Nat) : Int) - (o : Int) by omega]; rfl) (fin _ (by omega))
      | 4, _ => exact r_ixL (n := 4) (SqL.of hl) rfl (fin _ hm)
      | 5, _ => exact r_ixL (n := 5) (SqL.of hl) rfl (fin _ hm)
      | j + 6, h => exact absurd h (by omega)

theorem ok_blended {f C aW : Addr} {fd : FuncData} (F : Fun K "_law_blended" "_law_blended" s__law_blended f fd) (T : TxtB K mg C aW) (h_Blend_sources : KH.CalleeHM P w K mg base 1 40 C "sources" ["self"] (spSrcH C)) : FnOk P w K mg base CX0 4 f fd ["_law_blend", "_law_word_here"] (spBlended C) := by
  refine F.ok sc__law_blended (fun vs H Q E h => ?_) (fun cdv A outer s H vs Q E hr h => ?_)
  · obtain ⟨p, w, s, m, f, n, rfl, _⟩ := h
    rfl
  · obtain ⟨p, w, s, m, f, n, rfl, B, hn, q⟩ := h
    obtain ⟨nm, dx, h1⟩ := id B
    have cl := T.cl; have nf := T.n_flip
    refine ⟨_, (pss_cons (ps_set (i := 2) sc__law_blended.nd rfl (by first | exact Or.inl rfl | exact Or.inr rfl) (pe_fld (pv 0) rfl))
 (pss_cons (KH.ps_forH PassesOwn.never KH.xs_nox (by decide) (hr.mono (by decide)) (KH.ph_meth0 h_Blend_sources (pv 0) (hr.mono (by decide))) (pg_tup rfl (pgs_cons (pg_name (i := 3) sc__law_blended.nd rfl (by first | exact Or.inl rfl | exact Or.inr rfl)) (pgs_cons (pg_name (i := 4) sc__law_blended.nd rfl (by first | exact Or.inl rfl | exact Or.inr rfl)) pgs_nil)))
 (pss_one (ps_if (pt_cmpR op_eq (pe_op op_and (pe_op op_shr (pv 1) (pv 4)) pe_int) pe_int (nomark _)) (pss_one (ps_set (i := 2) sc__law_blended.nd rfl (by first | exact Or.inl rfl | exact Or.inr rfl) (pe_op op_xor (pv 2) (pe_op op_shl pe_int (pv 3)))))
 pss_nil)))
 (pss_one (ps_ret (pv 2))))), at_start (σ := [some (.ref p), some (.int (n : Nat)), none, none, none]) rfl ?_⟩
    try dsimp only [cx_K]
    walk_at "rd"
    refine ⟨fun j Hy σ' H' => (∃ y3 y4, σ' = [some (.ref p), some (.int (n : Nat)), some (.int ((((KBL.srcsK w (KBL.shiftN w s m) (KBL.keepN w s m)).take j).foldl (blStep n) f : Nat) : Int)), y3, y4]) ∧ Same H H' ∧ Same Hy H', ?_⟩
    unfold KH.tHMeth
    walk_at "rd"
    refine ⟨p, dx, _, rfl, h1, rfl, fun _ Hy H' => Same Hy H', fun j H0 x H' => ∃ (a : Addr) (q : Int × Int), x = .ref a ∧ (KBL.srcsK w (KBL.shiftN w s m) (KBL.keepN w s m))[j]? = some q ∧ H0 a = none ∧ H' = upd H0 a (.tup [.int q.1, .int q.2]), fun j H0 H' => j = (KBL.srcsK w (KBL.shiftN w s m) (KBL.keepN w s m)).length ∧ H' = H0,
      ⟨p, w, _, _, f, rfl, B, fun _ _ _ z => z, fun j q H0 a e n => ⟨a, q, rfl, e, n, rfl⟩, fun H0 => ⟨rfl, rfl⟩⟩, ⟨⟨_, _, rfl⟩, Same.refl _, Same.refl _⟩, fun _ _ _ _ z => z.2.2, ?_, ?_⟩
    · rintro j Hy σ' H2 x H3 ⟨⟨y3, y4, rfl⟩, s2, s3⟩ ⟨a, qq, rfl, e, na, rfl⟩
      obtain ⟨p1, p2, p3, p4⟩ := src_pos e
      have wl := nm.w3.le
      have tk : ((KBL.srcsK w (KBL.shiftN w s m) (KBL.keepN w s m)).take (j + 1)).foldl (blStep n) f = blStep n (((KBL.srcsK w (KBL.shiftN w s m) (KBL.keepN w s m)).take j).foldl (blStep n) f) qq := by
        rw [List.take_add_one, e, List.foldl_append]
        rfl
      have s4 := s2.trans (same_new (o := .tup [.int qq.1, .int qq.2]) na)
      refine KB.r_gtup (SqT.of upd_same) rfl ?_
      walk_at "rd"
      rw [KBL.bit_one, show V.int 1 = V.int ((1 : Nat) : Int) from rfl, nat_int]
      have e0 : decide (KBL.b2n (n.testBit qq.2.toNat) = 1) = n.testBit qq.2.toNat := by cases n.testBit qq.2.toNat <;> rfl
      rw [e0]
      cases hb : n.testBit qq.2.toNat with
      | true =>
        walk_at "rd"
        first | rw [KBL.ofShl 1, Nat.one_mul, KBL.bXor] | (erw [KBL.ofShl 1, Nat.one_mul, KBL.bXor])
        refine ⟨⟨some (.int qq.1), some (.int qq.2), ?_⟩, s4, Same.refl _⟩
        rw [tk]
        unfold blStep
        rw [if_pos hb]
        rfl
      | false =>
        walk_at "rd"
        refine ⟨⟨some (.int qq.1), some (.int qq.2), ?_⟩, s4, Same.refl _⟩
        rw [tk]
        conv => rhs; unfold blStep
        rw [if_neg (by rw [hb]; decide)]
        rfl
    · rintro j Hy σ' H2 H3 ⟨⟨y3, y4, rfl⟩, s2, s3⟩ ⟨rfl, rfl⟩
      rw [List.take_length, bl_srcs hn nm.fl]
      walk_at "rd"
      exact q _ s2
theorem ok_readall {f : Addr} {S : St} {fd : FuncData} (F : Fun K "_law_read_all" "_law_read_all" s__law_read_all f fd) (T : Txt mg) (c_KindBit_read : CalleeM P w K mg base CX0 3 S.C "read" ["self"] (spKRd S.C S.CK)) : FnOk P w K mg base CX0 5 f fd ["_law_bits"] (spReadAll S) := by
  refine F.ok sc__law_read_all (fun vs H Q E h => ?_) (fun cdv A outer s H vs Q E hr h => ?_)
  · obtain ⟨n, ss, ts, rfl, _⟩ := h
    rfl
  · obtain ⟨n, ss, ts, rfl, o, mm, q⟩ := h
    refine ⟨_, (pss_one (ps_ret (pe_callB (cr_sum rfl) (by rfl) T.z_sum (by decide +kernel) (pa_cons (pe_lc (own := [("_law_at", 1), ("_law_bit", 2)]) (g := gTup K 2 (gCons (gName 1) (gCons (gName 2) gNil))) (tt := tYes) (by rfl) sc__law_read_all.nd (pi_enum (by rfl) T.z_enumerate (pa_cons (pv 0) pa_nil)) (blkOk_by (own := [("_law_at", 1), ("_law_bit", 2)]) (N := ["_law_bits", "_law_at", "_law_bit"]) (sc := defScope s__law_read_all) (by decide +kernel)) (fun _ _ _ _ _ => (pg_tup rfl (pgs_cons (pg_name (i := 1) sc__law_read_all.nd rfl (by first | exact Or.inl rfl | exact Or.inr rfl)) (pgs_cons (pg_name (i := 2) sc__law_read_all.nd rfl (by first | exact Or.inl rfl | exact Or.inr rfl)) pgs_nil)))) (fun _ _ _ _ _ => pts_nil) (fun _ _ _ _ _ => (pe_op op_shl (pe_methC0 c_KindBit_read (pv 2) (hr.mono (by decide)) pass0) (pv 1)))) pa_nil)))), at_start (σ := [some (.ref S.L), none, none]) rfl ?_⟩
    try dsimp only [cx_K]
    walk_at "rd"
    refine r_ienum ?_
    walk_at "rd"
    refine ⟨S.L, _, rfl, SqL.of mm.hL, fun D nD => ?_⟩
    have fr := mm.fresh nD
    refine lc_it (walk_enum (K := K) (a := S.L) (xs := row8 fun i => .ref (S.bs i))) (fun i H' => M S n (rdTo S ss i) ts H' ∧ H' D = some (.lst (((List.range i).map (bitI ss)).map V.int))) ⟨by rw [rdTo_zero]; exact mm.up (same_new nD), upd_same⟩ (fun i H' _ z => SqL.of z.1.hL) ?_ ?_
    · rintro i x H2 _ hi ⟨m2, hD⟩ ⟨t, x1, x2, rfl, nt, rfl, e1, e2⟩
      rw [row8_len] at hi
      cases e1
      obtain ⟨_, rfl⟩ := row8_of e2
      refine r_gtup (SqT.of upd_same) rfl ?_
      have st := same_new (o := .tup [.int (i : Nat), .ref (S.bs i)]) nt
      replace m2 := m2.up st
      replace hD := st _ _ hD
      generalize upd H2 t (.tup [.int (i : Nat), .ref (S.bs i)]) = H3 at m2 hD ⊢
      walk_at "rd"
      refine ⟨rfl, KD.r_yes (iteT ?_)⟩
      walk_at "rd"
      have kb := m2.kb hi
      obtain ⟨⟨dx, hb⟩, _⟩ := id kb
      refine ⟨S.bs i, dx, _, rfl, hb, rfl, ?_⟩
      walk_at "rd"
      refine ⟨S.bs i, S.ks i, _, _, _, _, rfl, m2.kne hi hi, kb, fun H4 kb4 kp4 => ?_⟩
      have m4 := m2.act o hi kb4 kp4
      have hD4 := kp4 _ _ hD (ne_by hD hb (fun z => by cases z))
      rw [rdTo_at] at m4 ⊢
      rw [rdTo_next] at m4
      walk_at "rd"
      refine ⟨_, hD4, small1000' (by rw [List.length_map, List.length_map, List.length_range]; omega), m4.setl fr hD4, ?_⟩
      rw [upd_same, ← map_bits]
      unfold bitI
      rw [Int.toNat_natCast]
    · rintro H2 ⟨m2, hD⟩
      rw [row8_len] at m2 hD
      exact ⟨D, _, rfl, SqL.of hD, q H2 m2⟩
end
end K17


namespace K17
open PySem L2 KB KO KY KV KW
/-- what one letter makes of each bit, and the letters put to the texts -/
def Step (S : St) (ss ss' : Nat → Int) (ts ts' : Nat → Str) : Prop := ∀ i < 8, ∃ c, isLet c ∧ ss' i = afterL (S.r i) (S.w i) c (ss i) ∧ (ts' i).cps.toList = (ts i).cps.toList ++ [c]
def spAct (S : St) : Sp := fun vs H Q _ => ∃ (n v : Nat) (ss : Nat → Int) (ts : Nat → Str), vs = [.ref S.pen, .ref S.L, .ref S.T, .int (v : Nat)] ∧ Ok S ∧ v < 256 ∧ M S (n + 40) ss ts H ∧ (∀ i < 8, (ts i).length ≤ 100) ∧
  ∀ (v' : Nat) (ss' : Nat → Int) (ts' : Nat → Str) H', v' < 256 → Step S ss ss' ts ts' → M S n ss' ts' H' → Q (.int (v' : Nat)) H'
def txTo (f g : Nat → Str) (i : Nat) : Nat → Str := fun j => if j < i then g j else f j
theorem txTo_at (f g : Nat → Str) (i : Nat) : txTo f g i i = f i := if_neg (Nat.lt_irrefl i)
theorem txTo_next (f g : Nat → Str) (i : Nat) : setN (txTo f g i) i (g i) = txTo f g (i + 1) := by
  funext j
  unfold setN txTo
  by_cases h : j = i
  · subst h
    rw [if_pos rfl, if_pos (Nat.lt_succ_self j)]
  · rw [if_neg h]
    by_cases l : j < i
    · rw [if_pos l, if_pos (by omega)]
    · rw [if_neg l, if_neg (by omega)]
def wrTo (S : St) (ss : Nat → Int) (x : Nat) (i : Nat) : Nat → Int := fun j => if j < i then afterWrite (S.w j) (ss j) ((KBL.b2n (x.testBit j) : Nat) : Int) else ss j
theorem wrTo_at (S : St) (ss : Nat → Int) (x i : Nat) : wrTo S ss x i i = ss i := if_neg (Nat.lt_irrefl i)
theorem wrTo_next (S : St) (ss : Nat → Int) (x i : Nat) : setN (wrTo S ss x i) i (afterWrite (S.w i) (ss i) ((KBL.b2n (x.testBit i) : Nat) : Int)) = wrTo S ss x (i + 1) := by
  funext j
  unfold setN wrTo
  by_cases h : j = i
  · subst h
    rw [if_pos rfl, if_pos (Nat.lt_succ_self j)]
  · rw [if_neg h]
    by_cases l : j < i
    · rw [if_pos l, if_pos (by omega)]
    · rw [if_neg l, if_neg (by omega)]
theorem b2n_cases (b : Bool) : KBL.b2n b = 0 ∨ KBL.b2n b = 1 := by cases b <;> decide
theorem add_list (a b : Str) : (a ++ b).cps.toList = a.cps.toList ++ b.cps.toList := by
  show (a.cps ++ b.cps).toList = _
  simp
theorem add_len (a b : Str) : (a ++ b).length = a.length + b.length := by
  show (a.cps ++ b.cps).size = _
  rw [Array.size_append]
  rfl
def bitT (x i : Nat) : Str := Str.ofString (toString ((KBL.b2n (x.testBit i) : Nat) : Int))
theorem bitT_is (x i : Nat) : (bitT x i).cps.toList = [48 + KBL.b2n (x.testBit i)] ∧ (bitT x i).length = 1 := by
  unfold bitT
  rcases b2n_cases (x.testBit i) with e | e <;> rw [e] <;> decide +kernel

section
variable {P : Program} {w : World} {K : PySem.W.Frag} {mg : Str → Option Value} {base : Heap}
theorem ok_act {f aW CB cW cS cR : Addr} {S : St} {fd : FuncData} (F : Fun K "_law_act" "_law_act" s__law_act f fd) (T : TxtB K mg CB aW) (p_KindBit_now : KW.OwnP P w K mg base 1 S.C "now" ["self"] (spNow S.C))
    (c_KindBit_write : CalleeM P w K mg base (L2.CX P w) 4 S.C "write" ["self", "bit"] (spKWr S.C S.CK cR)) (c__law_blended : KB.Callee P w K mg base CX0 4 "_law_blended" ["_law_blend", "_law_word_here"] (spBlended CB))
    (call_Blend : KC.OwnC P w K mg base (L2.CX P w) 6 CB ["self", "value"] (spBCall CB cR)) (c_Blend___init__ : CalleeI P w K mg base (L2.CX P w) 6 CB "Blend" ["self", "width", "shift", "keep", "flip"] (spBlend CB cW cS cR))
    (bd_Blend_and : KR.OwnBD P w K mg base (L2.CX P w) 8 CB .BitAnd ["self", "other"] (spAndB CB cR)) (c__law_word : KB.Callee P w K mg base CX0 2 "_law_word" ["_law_pen_here", "_law_width"] spWord)
    (c__law_draw : KB.Callee P w K mg base CX0 1 "_law_draw" ["_law_pen_here", "_law_many"] spDraw) (c__law_read_all : KB.Callee P w K mg base CX0 5 "_law_read_all" ["_law_bits"] (spReadAll S)) :
    FnOk P w K mg base CX0 10 f fd ["_law_pen_here", "_law_bits", "_law_texts", "_law_last"] (spAct S) := by
  refine F.ok sc__law_act (fun vs H Q E h => ?_) (fun cdv A outer s H vs Q E hr h => ?_)
  · obtain ⟨n, v, ss, ts, rfl, _⟩ := h
    rfl
  · obtain ⟨n, v, ss, ts, rfl, o, hv, mm, tl, q⟩ := h
    refine ⟨_, (pss_cons (ps_if (pt_cmpR op_eq (pe_callC c__law_draw (hr.mono (by decide)) (by rfl) pass0 (pa_cons (pv 0) (pa_cons pe_int pa_nil))) pe_int (nomark _)) (pss_cons (ps_set (i := 4) sc__law_act.nd rfl (by first | exact Or.inl rfl | exact Or.inr rfl) (pe_callB (cr_sum rfl) (by rfl) T.z_sum (by decide +kernel) (pa_cons (pe_lc (own := [("_law_at", 5), ("_law_bit", 6)]) (g := gTup K 2 (gCons (gName 5) (gCons (gName 6) gNil))) (tt := tYes) (by rfl) sc__law_act.nd (pi_enum (by rfl) T.z_enumerate (pa_cons (pv 1) pa_nil)) (blkOk_by (own := [("_law_at", 5), ("_law_bit", 6)]) (N := ["_law_pen_here", "_law_bits", "_law_texts", "_law_last", "_law_due", "_law_at", "_law_bit", "_law_blend", "_law_word_here"]) (sc := defScope s__law_act) (by decide +kernel)) (fun _ _ _ _ _ => (pg_tup rfl (pgs_cons (pg_name (i := 5) sc__law_act.nd rfl (by first | exact Or.inl rfl | exact Or.inr rfl)) (pgs_cons (pg_name (i := 6) sc__law_act.nd rfl (by first | exact Or.inl rfl | exact Or.inr rfl)) pgs_nil)))) (fun _ _ _ _ _ => pts_nil) (fun _ _ _ _ _ => (pe_op op_shl (KW.pe_propO p_KindBit_now (pv 6) (hr.mono (by decide))) (pv 5)))) pa_nil)))
 (pss_cons (ps_for PassesOwn.never rfl (pi_range1 rfl T.z_range (pa_cons pe_int pa_nil)) (pg_name (i := 5) sc__law_act.nd rfl (by first | exact Or.inl rfl | exact Or.inr rfl))
 (pss_one (ps_asg (pe_op op_add_str (pe_ix ix_list (pv 2) (pv 5) (fun _ _ => rfl)) pe_str) (pg_sub (pv 2) (pv 5) set_list))))
 (pss_one (ps_ret (pe_ifExp (pt_cmpR op_eq (pe_callC c__law_read_all (hr.mono (by decide)) (by rfl) pass0 (pa_cons (pv 1) pa_nil)) (pv 4) (nomark _)) (pv 4) pe_non)))))
 pss_nil)
 (pss_cons (ps_set (i := 7) sc__law_act.nd rfl (by first | exact Or.inl rfl | exact Or.inr rfl) (pe_op (KR.op_binD bd_Blend_and (hr.mono (by decide)) passL) (pe_makeC c_Blend___init__ (hr.mono (by decide)) (by rfl) passL (pa_cons pe_int (pa_cons (pe_op op_sub (pe_callC c__law_draw (hr.mono (by decide)) (by rfl) pass0 (pa_cons (pv 0) (pa_cons pe_int pa_nil))) pe_int) (pa_cons (pe_callC c__law_word (hr.mono (by decide)) (by rfl) pass0 (pa_cons (pv 0) (pa_cons pe_int pa_nil))) (pa_cons (pe_callC c__law_word (hr.mono (by decide)) (by rfl) pass0 (pa_cons (pv 0) (pa_cons pe_int pa_nil))) pa_nil))))) (pe_callC c__law_word (hr.mono (by decide)) (by rfl) pass0 (pa_cons (pv 0) (pa_cons pe_int pa_nil)))))
 (pss_cons (ps_set (i := 8) sc__law_act.nd rfl (by first | exact Or.inl rfl | exact Or.inr rfl) (KC.pe_callO call_Blend (hr.mono (by decide)) passL (pv 7) (pa_cons (pv 3) pa_nil)))
 (pss_cons (ps_if (pt_cmpR op_ne (pv 8) (pe_callC c__law_blended (hr.mono (by decide)) (by rfl) pass0 (pa_cons (pv 7) (pa_cons (pv 3) pa_nil))) (nomark _)) (pss_one (ps_ret pe_non))
 pss_nil)
 (pss_cons (ps_for PassesOwn.never rfl (pi_enum (by rfl) T.z_enumerate (pa_cons (pv 1) pa_nil)) (pg_tup rfl (pgs_cons (pg_name (i := 5) sc__law_act.nd rfl (by first | exact Or.inl rfl | exact Or.inr rfl)) (pgs_cons (pg_name (i := 6) sc__law_act.nd rfl (by first | exact Or.inl rfl | exact Or.inr rfl)) pgs_nil)))
 (pss_cons (ps_expr (pe_methC c_KindBit_write (pv 6) (hr.mono (by decide)) passL (pa_cons (pe_op op_and (pe_op op_shr (pv 8) (pv 5)) pe_int) pa_nil)))
 (pss_one (ps_asg (pe_op op_add_str (pe_ix ix_list (pv 2) (pv 5) (fun _ _ => rfl)) (pe_callTy call_str_int (by rfl) T.z_str (by decide +kernel) (pa_cons (pe_op op_and (pe_op op_shr (pv 8) (pv 5)) pe_int) pa_nil))) (pg_sub (pv 2) (pv 5) set_list)))))
 (pss_one (ps_ret (pv 3)))))))), at_start (σ := [some (.ref S.pen), some (.ref S.L), some (.ref S.T), some (.int (v : Nat)), none, none, none, none, none]) rfl ?_⟩
    try dsimp only [cx_K]
    walk_at "rd"
    refine ⟨S.pen, S.pc, 3, n + 39, rfl, by decide, by decide, mm.pn, fun r1 H1 a1 b1 pn1 kp1 => ?_⟩
    replace mm := mm.draw pn1 kp1
    clear pn1 kp1
    walk_at "rd"
    refine r_iteI2 (fun h => ?_) (fun h => ?_)
    · walk_at "rd"
      refine r_ienum ?_
      walk_at "rd"
      refine ⟨S.L, _, rfl, SqL.of mm.hL, ?_⟩
      refine KD.lc_made (walk_enum (K := K) (a := S.L) (xs := row8 fun i => .ref (S.bs i))) (fun i v _ => v = .int (bitI ss i)) (by rw [row8_len]; decide) (fun i v H H' z _ => z) (fun H' s => SqL.of (s _ _ mm.hL)) (fun i x Ha Ha' N B hi sm y qN => ?_) (fun D Hd ys nD sd eD ly hy => ?_)
      · obtain ⟨t, x1, x2, rfl, nt, rfl, e1, e2⟩ := y
        rw [row8_len] at hi
        cases e1
        obtain ⟨_, rfl⟩ := row8_of e2
        refine r_gtup (SqT.of upd_same) rfl ?_
        have st := same_new (o := .tup [.int (i : Nat), .ref (S.bs i)]) nt
        have m2 := (mm.up sm).up st
        generalize upd Ha t (.tup [.int (i : Nat), .ref (S.bs i)]) = H3 at m2 st ⊢
        walk_at "rd"
        refine ⟨rfl, KD.r_yes (iteT ?_)⟩
        walk_at "rd"
        have kb := m2.kb hi
        obtain ⟨⟨dx, hb⟩, _⟩ := id kb
        refine KW.r_prop ?_
        walk_at "rd"
        refine ⟨S.bs i, dx, _, rfl, hb, S.bs i, _, rfl, kb.held, ?_⟩
        walk_at "rd"
        refine qN _ _ st ?_
        unfold bitI
        rw [Int.toNat_natCast]
      have ey : ys = ((List.range 8).map (bitI ss)).map V.int := by
        rw [List.map_map]
        refine row8_ext (f := fun i => .int (bitI ss i)) (by rw [ly, row8_len]) fun i v e => hy i v e
      rw [ey] at eD
      refine ⟨D, _, rfl, SqL.of eD, ?_⟩
      replace mm := mm.up sd
      clear ey hy ly eD sd nD ys
      obtain ⟨v', lv, ev⟩ := word_lt ss
      rw [show ((List.range 8).map (bitI ss)).sum = ((v' : Nat) : Int) from ev]
      walk_at "rd"
      refine ⟨by decide, by decide, ?_⟩
      refine forW (walk_range (lo := 0) (n := 8)) (fun i σ' H' => ∃ y5, σ' = [some (.ref S.pen), some (.ref S.L), some (.ref S.T), some (.int (v : Nat)), some (.int (v' : Nat)), y5, none, none, none] ∧ M S (n + 39) ss (txTo ts (fun j => ts j ++ "r") i) H') ⟨_, rfl, mm⟩ (fun _ _ _ _ _ => trivial) ?_ ?_
      · rintro i x σ' H2 _ hi ⟨y5, rfl, m2⟩ ⟨rfl, rfl⟩
        have hi8 : i < 8 := hi
        walk_at "rd"
        rw [show (0 : Int) + (i : Int) = (i : Int) by omega]
        refine KB.r_ixL (SqL.of m2.hT) (row8_atI hi8) ?_
        rw [txTo_at]
        refine r_addS (by have := tl i hi8; exact Nat.le_trans (Nat.add_le_add_right this _) (by decide)) ?_
        walk_at "rd"
        refine KB.r_setL m2.hT (by rw [row8_len]; exact Evl.ixN_nat hi8) ?_
        have m3 := m2.text (i := i) (ts i ++ "r")
        rw [txTo_next ts (fun j => ts j ++ "r")] at m3
        exact ⟨_, rfl, m3⟩
      · rintro σ' H2 ⟨y5, rfl, m2⟩
        walk_at "rd"
        refine ⟨_, ss, _, rfl, o, m2, fun H3 m3 => ?_⟩
        rw [ev]
        walk_at "rd"
        rw [decide_eq_true rfl]
        walk_at "rd"
        refine q v' _ _ H3 lv (fun i hi => ⟨114, .inr (.inr rfl), ?_, ?_⟩) (m3.mono (by omega))
        · unfold rdTo afterL
          rw [if_pos hi, if_pos rfl]
        · unfold txTo
          rw [if_pos hi, add_list]
          rfl
    · walk_at "rd"
      refine ⟨S.pen, S.pc, 5, n + 38, rfl, by decide, by decide, mm.pn, fun r2 H2 a2 b2 pn2 kp2 => ?_⟩
      replace mm := mm.draw pn2 kp2
      clear pn2 kp2
      walk_at "rd"
      refine ⟨S.pen, S.pc, 8, n + 31, rfl, .inl rfl, mm.pn.mono (by omega), fun k3 H3 l3 pn3 kp3 => ?_⟩
      replace mm := mm.draw pn3 kp3
      clear pn3 kp3
      walk_at "rd"
      refine ⟨S.pen, S.pc, 8, n + 24, rfl, .inl rfl, mm.pn.mono (by omega), fun f4 H4 l4 pn4 kp4 => ?_⟩
      replace mm := mm.draw pn4 kp4
      clear pn4 kp4
      walk_at "rd"
      refine fun x dx nx ndx nxd => make_b (w := 8) (s := r2 - 2) (m := k3) (f := f4) nx ndx ⟨.inl rfl, by omega, by omega, l3, l4⟩ fun H5 B5 sm5 => ?_
      replace mm := mm.up sm5
      clear nx ndx nxd sm5
      walk_at "rd"
      refine ⟨S.pen, S.pc, 8, n + 17, rfl, .inl rfl, mm.pn.mono (by omega), fun n6 H6 l6 pn6 kp6 => ?_⟩
      have x6 : BlendAt CB H6 x 8 (KBL.shiftN 8 (r2 - 2) k3) (KBL.keepN 8 (r2 - 2) k3) f4 := by
        obtain ⟨nm, dx, e⟩ := B5
        obtain ⟨ns, at_, left, hp, _⟩ := id mm.pn
        exact ⟨nm, dx, kp6 _ _ e (ne_by e hp (fun z => by cases z))⟩
      replace mm := mm.draw pn6 kp6
      clear pn6 kp6 B5
      obtain ⟨nm6, dx6, hx6⟩ := id x6
      refine ⟨x, dx6, _, .sc (.int (n6 : Nat)), rfl, hx6, rfl, x, 8, _, _, _, _, .sc (.int (n6 : Nat)), rfl, x6, rfl, fun m6 hm6 em6 H7 y B7 sm7 => ?_, fun z => ?_⟩
      rotate_left
      · rw [isWord_nat l6] at z; cases z
      obtain rfl : n6 = m6 := by injection em6 with em6; injection em6 with em6; omega
      replace mm := mm.up sm7
      clear sm7 hm6 em6 hx6 x6
      unfold MadeAt at B7
      obtain ⟨nm7, dx7, hy7⟩ := id B7
      walk_at "rd"
      refine KC.r_callO ?_
      walk_at "rd"
      refine ⟨y, dx7, _, rfl, hy7, ?_⟩
      walk_at "rd"
      refine ⟨hy7, y, 8, _, _, _, _, .sc (.int (v : Nat)), rfl, B7, rfl, fun m hm em => ?_, fun z => ?_⟩
      rotate_left
      · rw [isWord_nat hv] at z; cases z
      obtain rfl : v = m := by injection em with em; injection em with em; omega
      clear em
      walk_at "rd"
      refine ⟨y, 8, _, _, _, v, rfl, B7, hm, fun H8 s8 => ?_⟩
      have wl : (f4 &&& n6) ^^^ (KBL.keepN 8 (KBL.shiftN 8 (r2 - 2) k3) (KBL.keepN 8 (r2 - 2) k3 &&& n6) &&& KBL.shN 8 v (KBL.shiftN 8 (KBL.shiftN 8 (r2 - 2) k3) (KBL.keepN 8 (r2 - 2) k3 &&& n6))) < 2 ^ 8 := Nat.xor_lt_two_pow nm7.fl (Nat.and_lt_two_pow _ (KBL.sh_lt hm))
      generalize (f4 &&& n6) ^^^ (KBL.keepN 8 (KBL.shiftN 8 (r2 - 2) k3) (KBL.keepN 8 (r2 - 2) k3 &&& n6) &&& KBL.shN 8 v (KBL.shiftN 8 (KBL.shiftN 8 (r2 - 2) k3) (KBL.keepN 8 (r2 - 2) k3 &&& n6))) = W at wl ⊢
      replace mm := mm.up s8
      clear s8 hy7 nm7 B7 hm
      walk_at "rd"
      refine r_iteN2 (fun h => (h rfl).elim) fun _ => ?_
      walk_at "rd"
      refine r_ienum ?_
      walk_at "rd"
      refine ⟨S.L, _, rfl, SqL.of mm.hL, ?_⟩
      refine forW (walk_enum (K := K) (a := S.L) (xs := row8 fun i => .ref (S.bs i))) (fun i σ' H' => ∃ y5 y6, σ' = [some (.ref S.pen), some (.ref S.L), some (.ref S.T), some (.int (v : Nat)), none, y5, y6, some (.ref y), some (.int (W : Nat))] ∧ M S (n + 17) (wrTo S ss W i) (txTo ts (fun j => ts j ++ bitT W j) i) H') ⟨_, _, rfl, mm⟩ (fun i _ H' _ z => ?_) ?_ ?_
      · obtain ⟨_, _, _, z⟩ := z
        exact SqL.of z.hL
      · rintro i x σ' H9 H9' hi ⟨y5, y6, rfl, m2⟩ ⟨t, x1, x2, rfl, nt, rfl, e1, e2⟩
        rw [row8_len] at hi
        cases e1
        obtain ⟨_, rfl⟩ := row8_of e2
        refine r_gtup (SqT.of upd_same) rfl ?_
        replace m2 := m2.up (same_new (o := .tup [.int (i : Nat), .ref (S.bs i)]) nt)
        generalize upd H9 t (.tup [.int (i : Nat), .ref (S.bs i)]) = H10 at m2 ⊢
        clear nt e2
        walk_at "rd"
        have kb := m2.kb hi
        obtain ⟨⟨dx, hb⟩, _⟩ := id kb
        refine ⟨S.bs i, dx, _, rfl, hb, rfl, ?_⟩
        walk_at "rd"
        rw [KBL.bit_one, Int.toNat_natCast]
        refine ⟨S.bs i, S.ks i, _, _, _, _, _, .sc (.int ((KBL.b2n (W.testBit i) : Nat) : Int)), rfl, rfl, m2.kne hi hi, kb, fun b eb hb01 H11 kb11 kp11 => ?_, fun z => ?_⟩
        rotate_left
        · have : isBit (.sc (.int ((KBL.b2n (W.testBit i) : Nat) : Int))) = true := by
            rcases b2n_cases (W.testBit i) with e | e <;> rw [e] <;> rfl
          rw [this] at z
          cases z
        have m3 := m2.act o hi kb11 kp11
        obtain rfl : b = ((KBL.b2n (W.testBit i) : Nat) : Int) := by injection eb with eb; injection eb with eb; exact eb.symm
        rw [wrTo_at, wrTo_next] at m3
        clear kb11 kp11 eb m2 kb hb
        walk_at "rd"
        refine KB.r_ixL (SqL.of m3.hT) (row8_atI hi) ?_
        walk_at "rd"
        rw [KBL.bit_one, Int.toNat_natCast]
        rw [txTo_at]
        refine ⟨by rcases b2n_cases (W.testBit i) with e | e <;> rw [e] <;> decide, ?_⟩
        refine r_addS ?_ ?_
        · have := tl i hi
          rw [show (Str.ofString (toString ((KBL.b2n (W.testBit i) : Nat) : Int))).length = 1 from (bitT_is W i).2]
          exact Nat.le_trans (Nat.add_le_add_right this _) (by decide)
        walk_at "rd"
        refine KB.r_setL m3.hT (by rw [row8_len]; exact Evl.ixN_nat hi) ?_
        have m4 := m3.text (i := i) (ts i ++ bitT W i)
        rw [txTo_next ts (fun j => ts j ++ bitT W j)] at m4
        exact ⟨_, _, rfl, m4⟩
      · rintro σ' H9 ⟨y5, y6, rfl, m2⟩
        rw [row8_len] at m2
        walk_at "rd"
        refine q v _ _ H9 hv (fun i hi => ?_) (m2.mono (by omega))
        obtain ⟨e1, e2⟩ := bitT_is W i
        refine ⟨48 + KBL.b2n (W.testBit i), ?_, ?_, ?_⟩
        · rcases b2n_cases (W.testBit i) with e | e <;> rw [e]
          · exact .inl rfl
          · exact .inr (.inl rfl)
        · unfold wrTo afterL
          rw [if_pos hi]
          rcases b2n_cases (W.testBit i) with e | e <;> rw [e] <;> rfl
        · unfold txTo
          rw [if_pos hi, add_list, e1]
end
end K17


namespace K17
open PySem L2 KB KO KY KV KW
def spLaw (K : PySem.W.Frag) : Sp := fun vs H Q _ => ∃ (a : Addr) (ns : List Int), vs = [.ref a] ∧ SqL K H a (ns.map V.int) ∧ ns.length ≤ 63 ∧ ∀ H', Q (.bl true) H'
def gQf (us _ws : List V) : List V := us ++ [.bl false]
def gDef (us _ws : List V) : List V := us ++ [.bl false]
/-- each bit is in an end that the letters so far lead to -/
def Row (S : St) (m : Nat) (ss : Nat → Int) (ts : Nat → Str) : Prop := ∀ i < 8, (∀ c ∈ (ts i).cps.toList, isLet c) ∧ (ts i).cps.toList.length ≤ m ∧ ss i ∈ rowOf (S.r i) (S.w i) (S.d i) false (ts i).cps.toList (S.s0 i)
theorem s01 {s : Int} (h : s = 0 ∨ s = 1) : s ∈ S4 := by
  rcases h with rfl | rfl <;> decide
theorem Row.act {S : St} {m : Nat} {ss ss' : Nat → Int} {ts ts' : Nat → Str} (o : Ok S) (h : Row S m ss ts) (st : Step S ss ss' ts ts') : Row S (m + 1) ss' ts' := fun i hi => by
  obtain ⟨c, hc, e1, e2⟩ := st i hi
  obtain ⟨h1, h2, h3⟩ := h i hi
  rw [e1, e2]
  refine ⟨fun x m => ?_, by rw [List.length_append]; exact Nat.add_le_add_right h2 1, row_step (o.hr i hi) (o.hw i hi) (o.hd i hi) hc h3⟩
  rcases List.mem_append.mp m with m | m
  · exact h1 x m
  · rw [List.mem_singleton.mp m]; exact hc
theorem Row.deed {S : St} {m : Nat} {ss : Nat → Int} {ts : Nat → Str} (o : Ok S) (h : Row S m ss ts) {i : Nat} (hi : i < 8) : Row S m (setN ss i ((deedsOf (S.d i) (ss i) ++ [ss i]).headD 0)) ts := fun j hj => by
  obtain ⟨h1, h2, h3⟩ := h j hj
  refine ⟨h1, h2, ?_⟩
  by_cases z : j = i
  · subst z
    rw [setN_same]
    exact row_deeds (o.hr j hj) (o.hw j hj) (o.hd j hj) h1 (s01 (o.h0 j hj)) h3
  · rw [setN_ne z]
    exact h3
theorem Row.start {S : St} (o : Ok S) : Row S 0 S.s0 (fun _ => "") := fun i hi => ⟨fun c m => (by cases m), Nat.le_refl 0, row_start (o.hd i hi) (s01 (o.h0 i hi))⟩
def Top (S : St) (n m : Nat) (H : Hp) : Prop := ∃ ss ts, M S n ss ts H ∧ Row S m ss ts
theorem row01 {r w d : Str} {q : Bool} {s : Int} (h : s = 0 ∨ s = 1) : ∃ n : Nat, s = n ∧ ∀ cs, (rowsOf r w d q cs)[n]? = some (rowOf r w d q cs s) := by
  refine ⟨s.toNat, by omega, fun cs => ?_⟩
  unfold rowsOf statesOf
  rcases h with rfl | rfl <;> split <;> rfl
theorem bs_fun {bs : List Addr} (l : bs.length = 8) (nd : bs.Nodup) : ∃ f : Nat → Addr, bs.map V.ref = row8 (fun i => .ref (f i)) ∧ (∀ i < 8, bs[i]? = some (f i)) ∧ ∀ i j, i < 8 → j < 8 → f i = f j → i = j := by
  refine ⟨fun i => bs.getD i 0, ?_, fun i hi => ?_, fun i j hi hj e => ?_⟩
  · refine row8_ext (by rw [List.length_map, l]) fun i v e => ?_
    rw [List.getElem?_map] at e
    obtain ⟨b, eb, rfl⟩ := Option.map_eq_some_iff.mp e
    dsimp only
    rw [List.getD_eq_getElem?_getD, eb]
    rfl
  · dsimp only
    rw [List.getD_eq_getElem?_getD, List.getElem?_eq_getElem (by omega)]
    rfl
  · dsimp only at e
    rw [List.getD_eq_getElem?_getD, List.getElem?_eq_getElem (show i < bs.length by omega), List.getD_eq_getElem?_getD, List.getElem?_eq_getElem (show j < bs.length by omega)] at e
    have p := List.pairwise_iff_getElem.mp nd
    rcases Nat.lt_trichotomy i j with h | h | h
    · exact absurd e (p i j (by omega) (by omega) h)
    · exact h
    · exact absurd e.symm (p j i (by omega) (by omega) h)

section
variable {P : Program} {w : World} {K : PySem.W.Frag} {mg : Str → Option Value} {base : Heap}
theorem ok_law {f C dM CE CB aW CBt cR : Addr} {fd : FuncData} (F : Fun K "law" "law" s_law f fd) (T : TxtF K w mg C dM CE) (cKB : Cls K CBt)
    (p_KindBit_state : KW.OwnP P w K mg base 1 CBt "state" ["self"] (spState CBt)) (c_KindBit_deed : CalleeM P w K mg base CX0 3 CBt "deed" ["self"] (spKDe CBt C))
    (call_Effect : KC.OwnC P w K mg base CX0 1 CE ["self", "state"] (spECall C CE))
    (c__law_act : KB.Callee P w K mg base CX0 10 "_law_act" ["_law_pen_here", "_law_bits", "_law_texts", "_law_last"] (fun vs H Q E => ∃ S : St, (S.C = CBt ∧ S.CK = C) ∧ spAct S vs H Q E))
    (ck_Effect_of_2_ : KU.CalleeCK P w K mg base CX0 6 CE "of" ["cls", "kind", "letters", "quiet"] (spOf C CE) 3 [] gDef)
    (k_shortest_2_ : CalleeKw P w K mg base CX0 10 "shortest" ["kind", "letters", "quiet"] (spShort C) 2 [] gQf)
    (c_KindBit___init__ : CalleeI P w K mg base (L2.CX P w) 6 CBt "KindBit" ["self", "kind", "value"] (spKInit CBt cR))
    (c_Kind___init__ : CalleeI P w K mg base CX0 1 C "Kind" ["self", "reading", "writing", "device"] (spKind C))
    (c__law_deeds : KB.Callee P w K mg base CX0 1 "_law_deeds" ["_law_device", "_law_state"] spLD) (c__law_word : KB.Callee P w K mg base CX0 2 "_law_word" ["_law_pen_here", "_law_width"] spWord)
    (c__law_words : KB.Callee P w K mg base CX0 2 "_law_words" ["_law_pen_here"] spWords) (c__law_draw : KB.Callee P w K mg base CX0 1 "_law_draw" ["_law_pen_here", "_law_many"] spDraw) (c__law_pen : KB.Callee P w K mg base CX0 1 "_law_pen" ["_law_script"] (spPen K)) :
    KG.FnG P w K mg base CX0 14 f fd ["_law_script"] (spLaw K) := by
  refine KG.fun_okG F sc_law (fun vs H Q E h => ?_) (fun cdv A outer s H vs Q E hr fr h => ?_)
  · obtain ⟨a, ns, rfl, _⟩ := h
    rfl
  · obtain ⟨a, ns, rfl, hS, hlen, q⟩ := h
    refine ⟨_, (pss_cons (ps_set (i := 1) sc_law.nd rfl (by first | exact Or.inl rfl | exact Or.inr rfl) (pe_callC c__law_pen (hr.mono (by decide)) (by rfl) pass0 (pa_cons (pv 0) pa_nil)))
 (pss_cons (ps_setLc (i := 2) (own := [("_law_turn", 3)]) (g := gName 3) (tt := tYes) (by rfl) sc_law.nd rfl rfl (sw_true rfl rfl rfl (by decide +kernel)) (pi_range1 rfl T.z_range (pa_cons pe_int pa_nil)) (blkOk_by (own := [("_law_turn", 3)]) (N := ["_law_script", "_law_pen_here", "_law_some", "_law_turn", "_law_kinds", "_law_words_here", "_law_states", "_law_kind", "_law_bits", "_law_state", "_law_texts", "_law_last", "_law_again", "_law_at", "_law_ends", "_law_bit", "_law_letters", "_law_effect"]) (sc := defScope s_law) (by decide +kernel)) (fun _ _ _ _ _ => (pg_name (i := 3) sc_law.nd rfl (by first | exact Or.inl rfl | exact Or.inr rfl))) (fun _ _ _ _ _ => pts_nil) (fun _ _ _ _ _ => (pe_callC c__law_words (hr.mono (by decide)) (by rfl) pass0 (pa_cons (pv 1) pa_nil))))
 (pss_cons (ps_setLc (i := 4) (own := [("_law_words_here", 5)]) (g := gName 5) (tt := tYes) (by rfl) sc_law.nd rfl rfl (sw_true rfl rfl rfl (by decide +kernel)) (pi_list (pv 2)) (blkOk_by (own := [("_law_words_here", 5)]) (N := ["_law_script", "_law_pen_here", "_law_some", "_law_turn", "_law_kinds", "_law_words_here", "_law_states", "_law_kind", "_law_bits", "_law_state", "_law_texts", "_law_last", "_law_again", "_law_at", "_law_ends", "_law_bit", "_law_letters", "_law_effect"]) (sc := defScope s_law) (by decide +kernel)) (fun _ _ _ _ _ => (pg_name (i := 5) sc_law.nd rfl (by first | exact Or.inl rfl | exact Or.inr rfl))) (fun _ _ _ _ _ => pts_nil) (fun _ _ _ _ _ => (pe_makeC c_Kind___init__ (hr.mono (by decide)) (by rfl) pass0 (pa_cons (pe_ix (KH.ix_tupW K rfl) (pv 5) pe_int (fun _ _ => rfl)) (pa_cons (pe_ix (KH.ix_tupW K rfl) (pv 5) pe_int (fun _ _ => rfl)) (pa_cons (pe_ix (KH.ix_tupW K rfl) (pv 5) pe_int (fun _ _ => rfl)) pa_nil))))))
 (pss_cons (ps_setLc (i := 6) (own := [("_law_kind", 7)]) (g := gName 7) (tt := tYes) (by rfl) sc_law.nd rfl rfl (sw_true rfl rfl rfl (by decide +kernel)) (pi_list (pv 4)) (blkOk_by (own := [("_law_kind", 7)]) (N := ["_law_script", "_law_pen_here", "_law_some", "_law_turn", "_law_kinds", "_law_words_here", "_law_states", "_law_kind", "_law_bits", "_law_state", "_law_texts", "_law_last", "_law_again", "_law_at", "_law_ends", "_law_bit", "_law_letters", "_law_effect"]) (sc := defScope s_law) (by decide +kernel)) (fun _ _ _ _ _ => (pg_name (i := 7) sc_law.nd rfl (by first | exact Or.inl rfl | exact Or.inr rfl))) (fun _ _ _ _ _ => pts_nil) (fun _ _ _ _ _ => (pe_callC c__law_draw (hr.mono (by decide)) (by rfl) pass0 (pa_cons (pv 1) (pa_cons pe_int pa_nil)))))
 (pss_cons (ps_setLc (i := 8) (own := [("_law_kind", 7), ("_law_state", 9)]) (g := gTup K 2 (gCons (gName 7) (gCons (gName 9) gNil))) (tt := tYes) (by rfl) sc_law.nd rfl rfl (sw_true rfl rfl rfl (by decide +kernel)) (pi_zip (by rfl) T.z_zip (pa_cons (pv 4) (pa_cons (pv 6) pa_nil))) (blkOk_by (own := [("_law_kind", 7), ("_law_state", 9)]) (N := ["_law_script", "_law_pen_here", "_law_some", "_law_turn", "_law_kinds", "_law_words_here", "_law_states", "_law_kind", "_law_bits", "_law_state", "_law_texts", "_law_last", "_law_again", "_law_at", "_law_ends", "_law_bit", "_law_letters", "_law_effect"]) (sc := defScope s_law) (by decide +kernel)) (fun _ _ _ _ _ => (pg_tup rfl (pgs_cons (pg_name (i := 7) sc_law.nd rfl (by first | exact Or.inl rfl | exact Or.inr rfl)) (pgs_cons (pg_name (i := 9) sc_law.nd rfl (by first | exact Or.inl rfl | exact Or.inr rfl)) pgs_nil)))) (fun _ _ _ _ _ => pts_nil) (fun _ _ _ _ _ => (pe_makeC c_KindBit___init__ (hr.mono (by decide)) (by rfl) passL (pa_cons (pv 7) (pa_cons (pv 9) pa_nil)))))
 (pss_cons (ps_set (i := 10) sc_law.nd rfl (by first | exact Or.inl rfl | exact Or.inr rfl) (pe_op op_rep (pe_lst (pa_cons pe_str pa_nil)) pe_int))
 (Evl.pss_cut (ps_set (i := 11) sc_law.nd rfl (by first | exact Or.inl rfl | exact Or.inr rfl) (pe_callC c__law_word (hr.mono (by decide)) (by rfl) pass0 (pa_cons (pv 1) (pa_cons pe_int pa_nil))))
 (Evl.pss_cut (ps_for PassesOwn.never rfl (pi_range1 rfl T.z_range (pa_cons (pe_op op_add pe_int (pe_callC c__law_draw (hr.mono (by decide)) (by rfl) pass0 (pa_cons (pv 1) (pa_cons pe_int pa_nil)))) pa_nil)) (pg_name (i := 3) sc_law.nd rfl (by first | exact Or.inl rfl | exact Or.inr rfl))
 (pss_cons (ps_for PassesOwn.never rfl (pi_range1 rfl T.z_range (pa_cons (pe_callC c__law_draw (hr.mono (by decide)) (by rfl) pass0 (pa_cons (pv 1) (pa_cons pe_int pa_nil))) pa_nil)) (pg_name (i := 12) sc_law.nd rfl (by first | exact Or.inl rfl | exact Or.inr rfl))
 (pss_cons (ps_set (i := 13) sc_law.nd rfl (by first | exact Or.inl rfl | exact Or.inr rfl) (pe_callC c__law_draw (hr.mono (by decide)) (by rfl) pass0 (pa_cons (pv 1) (pa_cons pe_int pa_nil))))
 (pss_cons (ps_set (i := 14) sc_law.nd rfl (by first | exact Or.inl rfl | exact Or.inr rfl) (pe_callC c__law_deeds (hr.mono (by decide)) (by rfl) pass0 (pa_cons (pe_ix (KH.ix_tupW K rfl) (pe_ix (KH.ix_listW K rfl) (pv 2) (pv 13) (fun _ _ => rfl)) pe_int (fun _ _ => rfl)) (pa_cons (KW.pe_propO p_KindBit_state (pe_ix (KH.ix_listW K rfl) (pv 8) (pv 13) (fun _ _ => rfl)) (hr.mono (by decide))) pa_nil))))
 (pss_one (ps_if (pt_cmpR op_ne (pe_callB (KG.call_reprD fr hr) (by rfl) T.z_repr (by decide +kernel) (pa_cons (pe_methC0 c_KindBit_deed (pe_ix (KH.ix_listW K rfl) (pv 8) (pv 13) (fun _ _ => rfl)) (hr.mono (by decide)) pass0) pa_nil)) (pe_callB (KG.call_reprD fr hr) (by rfl) T.z_repr (by decide +kernel) (pa_cons (pe_cmpR (op_neD hr.units) (pv 14) (pe_tup pa_nil) (nomark _)) pa_nil)) (nomark _)) (pss_one (ps_ret pe_bl))
 pss_nil)))))
 (pss_cons (ps_set (i := 11) sc_law.nd rfl (by first | exact Or.inl rfl | exact Or.inr rfl) (pe_callC c__law_act (hr.mono (by decide)) (by rfl) pass0 (pa_cons (pv 1) (pa_cons (pv 8) (pa_cons (pv 10) (pa_cons (pv 11) pa_nil))))))
 (pss_one (ps_if (pt_cmpR op_isN (pv 11) pe_non (nomark _)) (pss_one (ps_ret pe_bl))
 pss_nil)))))
 (pss_cons (ps_for PassesOwn.never rfl (KZ.pi_zip (by rfl) T.z_zip (pa_cons (pv 4) (pa_cons (pv 6) (pa_cons (pv 8) (pa_cons (pv 10) pa_nil))))) (pg_tup rfl (pgs_cons (pg_name (i := 7) sc_law.nd rfl (by first | exact Or.inl rfl | exact Or.inr rfl)) (pgs_cons (pg_name (i := 9) sc_law.nd rfl (by first | exact Or.inl rfl | exact Or.inr rfl)) (pgs_cons (pg_name (i := 15) sc_law.nd rfl (by first | exact Or.inl rfl | exact Or.inr rfl)) (pgs_cons (pg_name (i := 16) sc_law.nd rfl (by first | exact Or.inl rfl | exact Or.inr rfl)) pgs_nil)))))
 (pss_cons (ps_if (pt_cmpR op_notIn_seq (KW.pe_propO p_KindBit_state (pv 15) (hr.mono (by decide))) (KI.pe_callOE call_Effect (hr.mono (by decide)) pass0 (KU.pe_cmethK ck_Effect_of_2_ (pe_glob (v := .ref _) (by rfl) T.mg_Effect rfl) (hr.mono (by decide)) pass0 (pa_cons (pv 7) (pa_cons (pv 16) pa_nil)) pk_nil) (pa_cons (pv 9) pa_nil)) (by rfl)) (pss_one (ps_ret pe_bl))
 pss_nil)
 (pss_cons (ps_set (i := 17) sc_law.nd rfl (by first | exact Or.inl rfl | exact Or.inr rfl) (KU.pe_cmethK ck_Effect_of_2_ (pe_glob (v := .ref _) (by rfl) T.mg_Effect rfl) (hr.mono (by decide)) pass0 (pa_cons (pv 7) (pa_cons (pe_callKw k_shortest_2_ (hr.mono (by decide)) (by rfl) pass0 (pa_cons (pv 7) (pa_cons (pv 16) pa_nil)) pk_nil) pa_nil)) pk_nil))
 (pss_one (ps_if (pt_cmpR op_notIn_seq (KW.pe_propO p_KindBit_state (pv 15) (hr.mono (by decide))) (KC.pe_callO call_Effect (hr.mono (by decide)) pass0 (pv 17) (pa_cons (pv 9) pa_nil)) (by rfl)) (pss_one (ps_ret pe_bl))
 pss_nil)))))
 (pss_one (ps_ret pe_bl))))))))))), at_start (σ := [some (.ref a), none, none, none, none, none, none, none, none, none, none, none, none, none, none, none, none, none]) rfl ?_⟩
    try dsimp only [cx_K]
    walk_at "rd"
    refine ⟨a, ns, rfl, hS, hlen, fun H1 pen pc s1 n1 n1c pn => ?_⟩
    replace pn := pn.mono (show 2000 ≤ _ by omega)
    clear s1 n1 n1c hS
    walk_at "rd"
    refine ⟨by decide, by decide, ?_⟩
    refine lc_pen (walk_range (lo := 0) (n := 8)) (pen := pen) (c := pc) (fun _ v H => ∃ (y : Addr × Str × Str × Str), v = .ref y.1 ∧ y.2.1 ∈ RD ∧ y.2.2.1 ∈ WR ∧ y.2.2.2 ∈ DV ∧ H y.1 = some (.tup [.str y.2.1, .str y.2.2.1, .str y.2.2.2])) (fun i => 2000 - 3 * i) (by decide) pn (fun i v H H' ⟨y, e1, e2, e3, e4, e5⟩ sn => ⟨y, e1, e2, e3, e4, sn.tup e5⟩) (fun _ _ => trivial) (fun i x Ha Ha' N B hi kpa pna y qN => ?_) (fun So H2 zs nD kp2 pn2 eSo ly hy => ?_)
    · obtain ⟨rfl, rfl⟩ := y
      walk_at "rd"
      refine ⟨rfl, KD.r_yes (iteT ?_)⟩
      walk_at "rd"
      refine ⟨pen, pc, 2000 - 3 * (i + 1), rfl, pna.mono (by omega), fun r wr d Hb wa hr1 hw1 hd1 pnb kpb ewd => ?_⟩
      exact qN _ _ kpb pnb ⟨(wa, r, wr, d), rfl, hr1, hw1, hd1, ewd⟩
    obtain ⟨fy, hfy⟩ := KF.choose_at hy
    obtain rfl : zs = row8 (fun i => .ref (fy i).1) := row8_ext ly fun i v e => (hfy i v e).1
    have hwd : ∀ i < 8, (fy i).2.1 ∈ RD ∧ (fy i).2.2.1 ∈ WR ∧ (fy i).2.2.2 ∈ DV ∧ H2 (fy i).1 = some (.tup [.str (fy i).2.1, .str (fy i).2.2.1, .str (fy i).2.2.2]) := fun i hi => (hfy i _ (row8_at hi)).2
    have nSo : So ≠ pen := pn.ne nD
    clear hfy hy ly kp2 pn nD
    walk_at "rd"
    refine ⟨So, rfl, ⟨_, SqL.of eSo⟩, ?_⟩
    refine KD.lc_made (walk_list (xs := row8 fun i => .ref (fy i).1)) (fun i v H => ∃ k : Addr, v = .ref k ∧ KindAt C H k (fy i).2.1 (fy i).2.2.1 (fy i).2.2.2) (by rw [row8_len]; decide) (fun i v H H' ⟨k, e1, dx, st, e2, e3⟩ sn => ⟨k, e1, dx, st, sn.ins e2, sn.tup e3⟩) (fun H' s => SqL.of (s _ _ eSo)) (fun i x Ha Ha' N B hi sm y qN => ?_) (fun Kl H3 zs nD s3 eKl ly hy => ?_)
    · obtain ⟨rfl, hx⟩ := y
      obtain ⟨hi8, rfl⟩ := row8_of hx
      obtain ⟨hr1, hw1, hd1, ewd⟩ := hwd i hi8
      replace ewd := sm _ _ ewd
      walk_at "rd"
      refine ⟨rfl, KD.r_yes (iteT ?_)⟩
      walk_at "rd"
      refine fun k dx nx ndx nxd => ⟨k, dx, _, _, _, rfl, hr1, hw1, hd1, upd_same, fun Hb kdb kpb => ⟨rfl, ?_⟩⟩
      have sb : Same Ha' Hb := fun b o e => kpb b o (by rw [upd_ne (ne_of_none e nx), upd_ne (ne_of_none e ndx)]; exact e) (ne_of_none e nx)
      exact qN _ _ sb ⟨k, rfl, kdb⟩
    obtain ⟨ks, hks⟩ := KF.choose_at hy
    rw [row8_len] at ly
    obtain rfl : zs = row8 (fun i => .ref (ks i)) := row8_ext ly fun i v e => (hks i v e).1
    have hkd : ∀ i < 8, KindAt C H3 (ks i) (fy i).2.1 (fy i).2.2.1 (fy i).2.2.2 := fun i hi => (hks i _ (row8_at hi)).2
    have nKl : Kl ≠ pen := pn2.ne nD
    have pn3 := pn2.up s3
    have eSo3 := s3 _ _ eSo
    have hwd3 : ∀ i < 8, (fy i).2.1 ∈ RD ∧ (fy i).2.2.1 ∈ WR ∧ (fy i).2.2.2 ∈ DV ∧ H3 (fy i).1 = some (.tup [.str (fy i).2.1, .str (fy i).2.2.1, .str (fy i).2.2.2]) := fun i hi => ⟨(hwd i hi).1, (hwd i hi).2.1, (hwd i hi).2.2.1, s3 _ _ (hwd i hi).2.2.2⟩
    clear hks hy ly s3 pn2 nD hwd eSo
    walk_at "rd"
    refine ⟨Kl, rfl, ⟨_, SqL.of eKl⟩, ?_⟩
    refine lc_pen (walk_list (xs := row8 fun i => .ref (ks i))) (pen := pen) (c := pc) (fun _ v _ => ∃ s : Int, v = .int s ∧ (s = 0 ∨ s = 1)) (fun i => 1976 - i) (by rw [row8_len]; decide) pn3 (fun i v H H' z _ => z) (fun H' k => SqL.of (k _ _ eKl nKl)) (fun i x Ha Ha' N B hi kpa pna y qN => ?_) (fun Sl H4 zs nD kp4 pn4 eSl ly hy => ?_)
    · obtain ⟨rfl, _⟩ := y
      rw [row8_len] at hi
      walk_at "rd"
      refine ⟨rfl, KD.r_yes (iteT ?_)⟩
      walk_at "rd"
      refine ⟨pen, pc, 2, 1976 - (i + 1), rfl, by decide, by decide, pna.mono (by omega), fun s Hb a0 b0 pnb kpb => ?_⟩
      exact qN _ _ kpb pnb ⟨s, rfl, by omega⟩
    rw [row8_len] at ly pn4
    obtain ⟨s0, hs0⟩ := KF.choose_at hy
    obtain rfl : zs = row8 (fun i => .int (s0 i)) := row8_ext ly fun i v e => (hs0 i v e).1
    have h01 : ∀ i < 8, s0 i = 0 ∨ s0 i = 1 := fun i hi => (hs0 i _ (row8_at hi)).2
    have nSl : Sl ≠ pen := pn3.ne nD
    have eSo4 := kp4 _ _ eSo3 nSo
    have eKl4 := kp4 _ _ eKl nKl
    obtain ⟨ns_, at_, left_, hpen3, _⟩ := id pn3
    have hwd4 : ∀ i < 8, (fy i).2.1 ∈ RD ∧ (fy i).2.2.1 ∈ WR ∧ (fy i).2.2.2 ∈ DV ∧ H4 (fy i).1 = some (.tup [.str (fy i).2.1, .str (fy i).2.2.1, .str (fy i).2.2.2]) := fun i hi => ⟨(hwd3 i hi).1, (hwd3 i hi).2.1, (hwd3 i hi).2.2.1, kp4 _ _ (hwd3 i hi).2.2.2 (ne_by (hwd3 i hi).2.2.2 hpen3 (fun z => by cases z))⟩
    have hkd4 : ∀ i < 8, KindAt C H4 (ks i) (fy i).2.1 (fy i).2.2.1 (fy i).2.2.2 := fun i hi => by
      obtain ⟨dx, st, g1, g2⟩ := hkd i hi
      exact ⟨dx, st, kp4 _ _ g1 (ne_by g1 hpen3 (fun z => by cases z)), kp4 _ _ g2 (ne_by g2 hpen3 (fun z => by cases z))⟩
    clear hs0 hy ly kp4 pn3 nD hwd3 eSo3 eKl hkd hpen3
    walk_at "rd"
    refine ⟨_, rfl, _, rfl, Kl, Sl, _, _, rfl, SqL.of eKl4, SqL.of eSl, ?_⟩
    refine KF.lc_fresh (walk_zip (xs := row8 fun i => .ref (ks i)) (ys := row8 fun i => .int (s0 i)) (n := 8) (by rw [row8_len, row8_len]; rfl)) (fun i b H => i < 8 ∧ ∃ dx, H b = some (.ins CBt dx [("held", .int (s0 i)), ("kind", .ref (ks i))])) (by decide) (fun i b H H' ⟨hi, dx, e⟩ sn => ⟨hi, dx, sn.ins e⟩) (fun H' s => ⟨SqL.of (s _ _ eKl4), SqL.of (s _ _ eSl)⟩) (fun i x Ha Ha' N B hi sm y qN => ?_) (fun L H5 bs nD s5 eL ly nd hy => ?_)
    · obtain ⟨t, x1, x2, rfl, nt, rfl, e1, e2⟩ := y
      dsimp only at e1 e2
      obtain ⟨_, rfl⟩ := row8_of e1
      obtain ⟨_, rfl⟩ := row8_of e2
      refine r_gtup (SqT.of upd_same) rfl ?_
      walk_at "rd"
      refine ⟨rfl, KD.r_yes (iteT ?_)⟩
      walk_at "rd"
      have st := same_new (o := .tup [.ref (ks i), .int (s0 i)]) nt
      refine fun b dx nb ndx nbd => ⟨b, dx, ks i, .int (s0 i), .sc (.int (s0 i)), rfl, rfl, upd_same, fun z ez hz Hb dx' eb kpb => ⟨rfl, ?_⟩, fun z => ?_⟩
      · obtain rfl : s0 i = z := by injection ez with ez; injection ez
        have sb : Same (upd Ha t (.tup [.ref (ks i), .int (s0 i)])) Hb := fun c o e => kpb c o (by rw [upd_ne (ne_of_none e nb), upd_ne (ne_of_none e ndx)]; exact e) (ne_of_none e nb)
        exact qN _ _ _ (st.trans sb) (st.free nb) eb ⟨hi, dx', eb⟩
      · have : isBit (.sc (.int (s0 i))) = true := decide_eq_true (h01 i hi)
        rw [this] at z
        cases z
    obtain ⟨bf, hbf, hat, inj⟩ := bs_fun ly nd
    rw [hbf] at eL
    have hbit : ∀ i < 8, ∃ dx, H5 (bf i) = some (.ins CBt dx [("held", .int (s0 i)), ("kind", .ref (ks i))]) := fun i hi => (hy i _ (hat i hi)).2
    have pn5 := pn4.up s5
    have nL : L ≠ pen := pn4.ne nD
    clear hy hat hbf ly nd nD
    walk_at "rd"
    refine ⟨by walk_at "sz", fun l1 nl1 => ?_⟩
    walk_at "rd"
    refine ⟨l1, 8, _, rfl, rfl, upd_same, by decide, by decide, by decide, fun Tx nTx => ?_⟩
    have eT : upd (upd H5 l1 (.lst [.str ""])) Tx (.lst (List.replicate (8 : Int).toNat [V.str ""]).flatten) Tx = some (.lst (row8 fun _ => .str "")) := by rw [upd_same]; rfl
    have s6 := (same_new (o := .lst [.str ""]) nl1).trans (same_new (o := .lst (List.replicate (8 : Int).toNat [V.str ""]).flatten) nTx)
    generalize upd (upd H5 l1 (.lst [.str ""])) Tx (.lst (List.replicate (8 : Int).toNat [V.str ""]).flatten) = H6 at eT s6 ⊢
    obtain ⟨S, hC, hCK, hpen, hpc, hL, hT, hSo, hKl, hSl, hbs, hks, hws, hr_, hw_, hd_, h0_⟩ : ∃ S : St, S.C = CBt ∧ S.CK = C ∧ S.pen = pen ∧ S.pc = pc ∧ S.L = L ∧ S.T = Tx ∧ S.So = So ∧ S.Kl = Kl ∧ S.Sl = Sl ∧ S.bs = bf ∧ S.ks = ks ∧ S.ws = (fun i => (fy i).1) ∧ S.r = (fun i => (fy i).2.1) ∧ S.w = (fun i => (fy i).2.2.1) ∧ S.d = (fun i => (fy i).2.2.2) ∧ S.s0 = s0 :=
      ⟨⟨CBt, C, pen, pc, L, Tx, So, Kl, Sl, bf, ks, fun i => (fy i).1, fun i => (fy i).2.1, fun i => (fy i).2.2.1, fun i => (fy i).2.2.2, s0⟩, rfl, rfl, rfl, rfl, rfl, rfl, rfl, rfl, rfl, rfl, rfl, rfl, rfl, rfl, rfl, rfl⟩
    have o : Ok S := ⟨by rw [hr_]; exact fun i hi => (hwd4 i hi).1, by rw [hw_]; exact fun i hi => (hwd4 i hi).2.1, by rw [hd_]; exact fun i hi => (hwd4 i hi).2.2.1, by rw [h0_]; exact h01, by rw [hbs]; exact inj⟩
    have m6 : M S 1968 S.s0 (fun _ => "") H6 := by
      have s46 := s5.trans s6
      refine ⟨by rw [hpen, hpc]; exact (pn5.up s6), by rw [hL, hbs]; exact s6 _ _ eL, by rw [hT]; exact eT, by rw [hSo, hws]; exact s46 _ _ eSo4, by rw [hKl, hks]; exact s46 _ _ eKl4, by rw [hSl, h0_]; exact s46 _ _ eSl, fun i hi => ?_, fun i hi => ?_, fun i hi => ?_⟩
      · rw [hbs, hC, h0_, hks]
        obtain ⟨dx, e⟩ := hbit i hi
        exact ⟨dx, s6 _ _ e⟩
      · rw [hCK, hks, hr_, hw_, hd_]
        exact (hkd4 i hi).up s46
      · rw [hws, hr_, hw_, hd_]
        exact s46 _ _ (hwd4 i hi).2.2.2
    clear hbs hks hws hr_ hw_ hd_ h0_ hbit hkd4 hwd4 inj h01 eL eT eSo4 eKl4 eSl s5 s6 pn5 pn4 nL nSl nKl nSo nTx nl1
    subst hC hCK hpen hpc hL hT hSo hKl hSl
    walk_at "rd"
    refine ⟨fun σ H' => ∃ v : Nat, v < 256 ∧ σ = [some (.ref a), some (.ref S.pen), some (.ref S.So), none, some (.ref S.Kl), none, some (.ref S.Sl), none, some (.ref S.L), none, some (.ref S.T), some (.int (v : Nat)), none, none, none, none, none, none] ∧ Top S 1940 0 H', ?_, ?_⟩
    · walk_at "rd"
      refine ⟨S.pen, S.pc, 8, 1940, rfl, .inl rfl, m6.pn.mono (by omega), fun v H7 lv pn7 kp7 => ?_⟩
      walk_at "rd"
      exact ⟨v, lv, rfl, _, _, m6.draw pn7 kp7, Row.start o⟩
    rintro σ H7 ⟨v, lv, rfl, T7⟩
    clear m6
    refine ⟨fun σ H' => ∃ y3 y11 y12 y13 y14, σ = [some (.ref a), some (.ref S.pen), some (.ref S.So), y3, some (.ref S.Kl), none, some (.ref S.Sl), none, some (.ref S.L), none, some (.ref S.T), y11, y12, y13, y14, none, none, none] ∧ Top S 0 8 H', ?_, ?_⟩
    · walk_at "rd"
      obtain ⟨ss7, ts7, m7, row7⟩ := T7
      refine ⟨S.pen, S.pc, 8, 1930, rfl, by decide, by decide, m7.pn.mono (by omega), fun r8 H8 a8 b8 pn8 kp8 => ?_⟩
      have m8 := m7.draw pn8 kp8
      clear m7 pn8 kp8
      walk_at "rd"
      refine ⟨by omega, by omega, ?_⟩
      obtain ⟨n8, hn8, ln8⟩ : ∃ n8 : Nat, (1 + r8).toNat = n8 ∧ n8 ≤ 8 := ⟨_, rfl, by omega⟩
      rw [hn8]
      clear hn8 a8 b8
      refine forW (walk_range (lo := 0) (n := n8)) (fun i σ' H' => ∃ (v : Nat) (y3 y12 y13 y14 : Option V), v < 256 ∧ σ' = [some (.ref a), some (.ref S.pen), some (.ref S.So), y3, some (.ref S.Kl), none, some (.ref S.Sl), none, some (.ref S.L), none, some (.ref S.T), some (.int (v : Nat)), y12, y13, y14, none, none, none] ∧ Top S (1930 - 100 * i) i H') ⟨v, _, _, _, _, lv, rfl, _, _, m8, row7⟩ (fun _ _ _ _ _ => trivial) ?_ ?_
      · rintro i x σ' H9 _ hi ⟨v, y3, y12, y13, y14, lv, rfl, ss9, ts9, m9, row9⟩ ⟨rfl, rfl⟩
        walk_at "rd"
        refine ⟨S.pen, S.pc, 4, 1930 - 100 * i - 1, rfl, by decide, by decide, m9.pn.mono (by omega), fun r10 H10 a10 b10 pn10 kp10 => ?_⟩
        have m10 := m9.draw pn10 kp10
        clear m9 pn10 kp10
        walk_at "rd"
        refine ⟨by omega, by omega, ?_⟩
        obtain ⟨n10, hn10, ln10⟩ : ∃ n10 : Nat, r10.toNat = n10 ∧ n10 ≤ 3 := ⟨_, rfl, by omega⟩
        rw [hn10]
        clear hn10 a10 b10
        refine forW (walk_range (lo := 0) (n := n10)) (fun j σ' H' => ∃ (y12 y13 y14 : Option V), σ' = [some (.ref a), some (.ref S.pen), some (.ref S.So), some (.int (0 + (i : Int))), some (.ref S.Kl), none, some (.ref S.Sl), none, some (.ref S.L), none, some (.ref S.T), some (.int (v : Nat)), y12, y13, y14, none, none, none] ∧ Top S (1930 - 100 * i - 1 - j) i H') ⟨_, _, _, rfl, _, _, m10, row9⟩ (fun _ _ _ _ _ => trivial) ?_ ?_
        · clear m10 row9
          rintro j x σ' H11 _ hj ⟨y12, y13, y14, rfl, ss11, ts11, m11, row11⟩ ⟨rfl, rfl⟩
          walk_at "rd"
          refine ⟨S.pen, S.pc, 8, 1930 - 100 * i - 1 - (j + 1), rfl, by decide, by decide, m11.pn.mono (by omega), fun r12 H12 a12 b12 pn12 kp12 => ?_⟩
          have m12 := m11.draw pn12 kp12
          clear m11 pn12 kp12
          obtain ⟨k, rfl⟩ : ∃ k : Nat, r12 = k := ⟨r12.toNat, by omega⟩
          have hk : k < 8 := by omega
          clear a12 b12
          walk_at "rd"
          refine KB.r_ixL (SqL.of m12.hS) (row8_atI hk) ?_
          walk_at "rd"
          refine KB.r_ixT (v := .str (S.d k)) (SqT.of (m12.wd k hk)) rfl ?_
          walk_at "rd"
          refine KW.r_prop ?_
          walk_at "rd"
          refine KB.r_ixL (SqL.of m12.hL) (row8_atI hk) ?_
          obtain ⟨dx, hb⟩ := m12.bit k hk
          refine ⟨S.bs k, dx, _, rfl, hb, S.bs k, ss11 k, rfl, (m12.kb hk).held, ?_⟩
          walk_at "rd"
          refine ⟨S.d k, ss11 k, rfl, o.hd k hk, fun H13 a13 s13 e13 => ?_⟩
          have m13 := m12.up s13
          clear hb dx m12 s13
          walk_at "rd"
          refine KB.r_ixL (SqL.of m13.hL) (row8_atI hk) ?_
          obtain ⟨dx, hb⟩ := m13.bit k hk
          refine ⟨S.bs k, dx, _, rfl, hb, rfl, ?_⟩
          walk_at "rd"
          refine ⟨S.bs k, S.ks k, _, _, _, _, rfl, m13.kne hk hk, o.hd k hk, m13.kb hk, fun H14 kb14 kp14 => ?_⟩
          have m14 := m13.act o hk kb14 kp14
          have e14 := kp14 _ _ e13 (ne_by e13 hb (fun z => by cases z))
          clear m13 kb14 kp14 e13 hb dx
          walk_at "rd"
          refine KV.r_reprS (.bl _) Sm.bool (by decide) (by decide) ?_
          walk_at "rd"
          refine ⟨by walk_at "sz", fun t15 n15 => ?_⟩
          have m15 := m14.up (same_new (o := .tup []) n15)
          refine KB.r_neIntsT (ns := deedsOf (S.d k) (ss11 k)) (ms := []) (SqT.of (same_new (o := .tup []) n15 _ _ e14)) (SqT.of upd_same) ?_
          generalize upd H14 t15 (.tup []) = H15 at m15 ⊢
          clear m14 e14 n15
          walk_at "rd"
          refine KV.r_reprS (.bl _) Sm.bool (by decide) (by decide) ?_
          walk_at "rd"
          rw [show decide (deedsOf (S.d k) (ss11 k) ≠ []) = !decide (deedsOf (S.d k) (ss11 k) = []) from decide_not, decide_eq_true rfl]
          walk_at "rd"
          exact ⟨_, _, _, rfl, _, _, m15, row11.deed o hk⟩
        · clear m10 row9
          rintro σ' H11 ⟨y12, y13, y14, rfl, ss11, ts11, m11, row11⟩
          walk_at "rd"
          refine ⟨S, ⟨rfl, rfl⟩, 1930 - 100 * (i + 1), v, ss11, ts11, rfl, o, lv, m11.mono (by omega), fun l hl => ?_, fun v' ss' ts' H12 lv' st m12 => ?_⟩
          · have := (row11 l hl).2.1
            have e : (ts11 l).length = (ts11 l).cps.toList.length := by rw [Array.length_toList]; rfl
            omega
          walk_at "rd"
          rw [decide_eq_false (show ¬ V.int (v' : Nat) = V.non from fun z => by cases z)]
          walk_at "rd"
          exact ⟨v', _, _, _, _, lv', rfl, _, _, m12, row11.act o st⟩
      · rintro σ' H9 ⟨v, y3, y12, y13, y14, lv, rfl, ss9, ts9, m9, row9⟩
        exact ⟨_, _, _, _, _, rfl, _, _, m9.mono (by omega), fun l hl => ⟨(row9 l hl).1, Nat.le_trans (row9 l hl).2.1 ln8, (row9 l hl).2.2⟩⟩
    · rintro σ H9 ⟨y3, y11, y12, y13, y14, rfl, ss, ts, m9, row9⟩
      clear T7
      walk_at "rd"
      refine KZ.r_izip ?_
      walk_at "rd"
      refine ⟨_, _, _, _, _, _, _, _, rfl, SqL.of m9.hK, SqL.of m9.h0, SqL.of m9.hL, SqL.of m9.hT, ?_⟩
      refine forW (KZ.walk (n := 8) (row8_len _) (row8_len _) (row8_len _) (row8_len _)) (fun i σ' H' => ∃ y7 y9 y15 y16 y17, σ' = [some (.ref a), some (.ref S.pen), some (.ref S.So), y3, some (.ref S.Kl), none, some (.ref S.Sl), y7, some (.ref S.L), y9, some (.ref S.T), y11, y12, y13, y14, y15, y16, y17] ∧ M S 0 ss ts H') ⟨_, _, _, _, _, rfl, m9⟩ (fun _ _ _ _ ⟨_, _, _, _, _, _, z⟩ => ⟨SqL.of z.hK, SqL.of z.h0, SqL.of z.hL, SqL.of z.hT⟩) ?_ ?_
      · clear m9
        rintro i x σ' H10 _ hi ⟨y7, y9, y15, y16, y17, rfl, m10⟩ ⟨t, x1, x2, x3, x4, rfl, nt, rfl, e1, e2, e3, e4⟩
        obtain ⟨_, rfl⟩ := row8_of e1
        obtain ⟨_, rfl⟩ := row8_of e2
        obtain ⟨_, rfl⟩ := row8_of e3
        obtain ⟨_, rfl⟩ := row8_of e4
        clear e1 e2 e3 e4
        refine r_gtup (SqT.of upd_same) rfl ?_
        replace m10 := m10.up (same_new (o := .tup [.ref (S.ks i), .int (S.s0 i), .ref (S.bs i), .str (ts i)]) nt)
        generalize upd H10 t (.tup [.ref (S.ks i), .int (S.s0 i), .ref (S.bs i), .str (ts i)]) = H11 at m10 ⊢
        clear nt
        obtain ⟨l1, l2, l3⟩ := row9 i hi
        have lt : Lets (ts i) := ⟨by have : (ts i).cps.size = (ts i).cps.toList.length := by rw [Array.length_toList]
                                     omega, l1⟩
        obtain ⟨n, en, hn⟩ : ∃ n : Nat, S.s0 i = n ∧ ∀ cs, (rowsOf (S.r i) (S.w i) (S.d i) false cs)[n]? = some (rowOf (S.r i) (S.w i) (S.d i) false cs (S.s0 i)) := row01 (o.h0 i hi)
        have hr1 := o.hr i hi
        have hw1 := o.hw i hi
        have hd1 := o.hd i hi
        obtain ⟨dx, hb⟩ := m10.bit i hi
        walk_at "rd"
        refine KW.r_prop ?_
        walk_at "rd"
        refine ⟨S.bs i, dx, _, rfl, hb, S.bs i, ss i, rfl, (m10.kb hi).held, ?_⟩
        refine KC.r_callO ?_
        refine KU.r_cmethK ?_
        walk_at "rd"
        refine ⟨rfl, ?_⟩
        walk_at "rd"
        refine ⟨⟨rfl, rfl⟩, S.ks i, _, _, _, ts i, false, rfl, m10.kd i hi, hr1, hw1, hd1, lt, fun H12 x12 s12 ef12 => ?_⟩
        have m12 := m10.up s12
        clear m10 s12 hb dx
        obtain ⟨dx12, k12, a12, h12, kd12, ra12⟩ := id ef12
        refine ⟨x12, dx12, _, rfl, h12, ?_⟩
        walk_at "rd"
        rw [en]
        refine ⟨h12, x12, _, _, _, _, n, _, rfl, ef12, hn _, fun e12 he12 => ?_⟩
        refine r_notInI (.inr (SqT.of he12)) ?_
        rw [decide_eq_true l3]
        walk_at "rd"
        clear dx12 k12 a12 h12 kd12 ra12 he12 e12 ef12
        refine KU.r_cmethK ?_
        walk_at "rd"
        refine ⟨rfl, ?_⟩
        walk_at "rd"
        refine ⟨rfl, rfl, S.ks i, _, _, _, ts i, false, rfl, m12.kd i hi, hr1, hw1, hd1, lt, fun H13 s13 => ?_⟩
        have m13 := m12.up s13
        clear m12 s13
        have lt2 : Lets (txt (shE (S.r i) (S.w i) (S.d i) false (rowsOf (S.r i) (S.w i) (S.d i) false (ts i).cps.toList))) := ⟨Nat.le_trans (shE_two hr1 hw1 hd1 l1) (by decide), shE_let hr1 hw1 hd1 l1⟩
        walk_at "rd"
        refine ⟨⟨rfl, rfl⟩, S.ks i, _, _, _, txt (shE (S.r i) (S.w i) (S.d i) false (rowsOf (S.r i) (S.w i) (S.d i) false (ts i).cps.toList)), false, rfl, m13.kd i hi, hr1, hw1, hd1, lt2, fun H14 x14 s14 ef14 => ?_⟩
        rw [txt_list, shE_rows hr1 hw1 hd1 l1] at ef14
        have m14 := m13.up s14
        clear m13 s14
        obtain ⟨dx, hb⟩ := m14.bit i hi
        walk_at "rd"
        refine KW.r_prop ?_
        walk_at "rd"
        refine ⟨S.bs i, dx, _, rfl, hb, S.bs i, ss i, rfl, (m14.kb hi).held, ?_⟩
        refine KC.r_callO ?_
        obtain ⟨dx14, k14, a14, h14, kd14, ra14⟩ := id ef14
        walk_at "rd"
        refine ⟨x14, dx14, _, rfl, h14, ?_⟩
        walk_at "rd"
        refine ⟨h14, x14, _, _, _, _, n, _, rfl, ef14, hn _, fun e15 he15 => ?_⟩
        refine r_notInI (.inr (SqT.of he15)) ?_
        rw [decide_eq_true l3]
        walk_at "rd"
        exact ⟨_, _, _, _, _, rfl, m14⟩
      · rintro σ' H10 ⟨y7, y9, y15, y16, y17, rfl, m10⟩
        walk_at "rd"
        exact q _
end
end K17


namespace K17
open PySem L2 KB KO KV KW KY KR
abbrev s_I0 : Stmt := inClass (top 3) 0
abbrev s_I2 : Stmt := inClass (top 4) 0
abbrev s_I3 : Stmt := inClass (top 5) 0
theorem sqK {K : PySem.W.Frag} {a : Addr} {dd : Option Addr} {its : Array Value} {n : Nat} {sl : Array (Option Value)} {xs : List V} (h : K.lookup a = some ⟨.type "tuple", dd, .seq its n, sl⟩) (hz : its.size ≤ 100) (r : Vals xs its.toList) : ∀ H, SqT K H a xs :=
  fun _ => .inr ⟨_, its, n, h, rfl, rfl, Nat.le_trans hz (by decide), r⟩
theorem vals_rev : ∀ {xs : List V} {us : List Value}, Vals xs us → Vals xs.reverse us.reverse
  | _, _, .nil => .nil
  | _, _, .cons h t => by
    rw [List.reverse_cons, List.reverse_cons]
    exact (vals_rev t).append (.cons h .nil)
theorem free_only {sc : Scope} {x : Str} (h : ∀ z ∈ sc.names, z.2 = .free → z.1 = x) : ∀ y, sc.names.lookup y = some .free → y = x := fun y e => h (y, .free) (PySem.mem_of_lookup e) rfl
theorem all_mk {l : PySem.W.OpenLaw} {w : World} {K : PySem.W.Frag} {h : Heap} {mg : Str → Option Value} {fa C_Kind t_Kind_READINGS t_Kind_WRITINGS t_Kind_DEVICES C_Effect C_Blend C_Bit C_KindBit f_Kind___init__ f_Kind___eq__ f_Kind_after_read f_Kind_after_write f_Kind_unguarded f_Kind_deeds f_need_letters f_with_deeds f_after_letter f_longer f_Effect___init__ f_Effect_of D_Effect_of p_Effect_of f_Effect___call__ f_Effect___eq__ f_all_effects D_all_effects f_shortest D_shortest f_is_integer f_need_width f_ones f_is_word f_need_word f_shifted f_Blend___init__ DT_Blend___init__ f_Blend___call__ f_Blend___and__ f_Blend___rand__ f_Blend___repr__ f_Blend_sources f_need_bit f_Bit___init__ DT_Bit___init__ f_Bit_now p_Bit_now f_Bit_state p_Bit_state f_KindBit_read f_KindBit_write f_KindBit_deed f__law_pen f__law_draw f__law_word f__law_deeds f__law_words f__law_blended f__law_read_all f__law_act f_law dM a_m0 a_m1 a_m2 a_m3 N_Kind N_Effect aW e0 e2 e3 cda0 ccell0 fI0 N_E0 cda2 ccell2 fI2 N_E2 cda3 ccell3 fI3 N_E3 f_KindBit___init__ cda_KindBit___init__ cc_KindBit___init__ DT_KindBit___init__ : Addr} (X : K.In h) (G : h.Ns mainGlobals mg) (hfa : mg "law" = some (.ref fa))
    {dd_t_Kind_READINGS : Option Addr} {n_t_Kind_READINGS : Nat} {sl_t_Kind_READINGS : Array (Option Value)}
    {k_t_Kind_READINGS_0 k_t_Kind_READINGS_1 : Tok}
    {dd_t_Kind_WRITINGS : Option Addr} {n_t_Kind_WRITINGS : Nat} {sl_t_Kind_WRITINGS : Array (Option Value)}
    {k_t_Kind_WRITINGS_0 k_t_Kind_WRITINGS_1 k_t_Kind_WRITINGS_2 k_t_Kind_WRITINGS_3 k_t_Kind_WRITINGS_4 k_t_Kind_WRITINGS_5 k_t_Kind_WRITINGS_6 : Tok}
    {dd_t_Kind_DEVICES : Option Addr} {n_t_Kind_DEVICES : Nat} {sl_t_Kind_DEVICES : Array (Option Value)}
    {k_t_Kind_DEVICES_0 k_t_Kind_DEVICES_1 k_t_Kind_DEVICES_2 k_t_Kind_DEVICES_3 : Tok}
    {od_Kind___init__ an_Kind___init__ : Option Addr} {sl_Kind___init__ : Array (Option Value)} {oc_Kind___init__ kV_Kind___init__ dc_Kind___init__ pm_Kind___init__ cd_Kind___init__ ct_Kind___init__ : Value}
    {od_Kind___eq__ an_Kind___eq__ : Option Addr} {sl_Kind___eq__ : Array (Option Value)} {oc_Kind___eq__ kV_Kind___eq__ dc_Kind___eq__ pm_Kind___eq__ cd_Kind___eq__ ct_Kind___eq__ : Value}
    {od_Kind_after_read an_Kind_after_read : Option Addr} {sl_Kind_after_read : Array (Option Value)} {oc_Kind_after_read kV_Kind_after_read dc_Kind_after_read pm_Kind_after_read cd_Kind_after_read ct_Kind_after_read : Value}
    {od_Kind_after_write an_Kind_after_write : Option Addr} {sl_Kind_after_write : Array (Option Value)} {oc_Kind_after_write kV_Kind_after_write dc_Kind_after_write pm_Kind_after_write cd_Kind_after_write ct_Kind_after_write : Value}
    {od_Kind_unguarded an_Kind_unguarded : Option Addr} {sl_Kind_unguarded : Array (Option Value)} {oc_Kind_unguarded kV_Kind_unguarded dc_Kind_unguarded pm_Kind_unguarded cd_Kind_unguarded ct_Kind_unguarded : Value}
    {od_Kind_deeds an_Kind_deeds : Option Addr} {sl_Kind_deeds : Array (Option Value)} {oc_Kind_deeds kV_Kind_deeds dc_Kind_deeds pm_Kind_deeds cd_Kind_deeds ct_Kind_deeds : Value}
    {od_need_letters an_need_letters : Option Addr} {sl_need_letters : Array (Option Value)} {oc_need_letters kV_need_letters dc_need_letters pm_need_letters cd_need_letters ct_need_letters : Value}
    {od_with_deeds an_with_deeds : Option Addr} {sl_with_deeds : Array (Option Value)} {oc_with_deeds kV_with_deeds dc_with_deeds pm_with_deeds cd_with_deeds ct_with_deeds : Value}
    {od_after_letter an_after_letter : Option Addr} {sl_after_letter : Array (Option Value)} {oc_after_letter kV_after_letter dc_after_letter pm_after_letter cd_after_letter ct_after_letter : Value}
    {od_longer an_longer : Option Addr} {sl_longer : Array (Option Value)} {oc_longer kV_longer dc_longer pm_longer cd_longer ct_longer : Value}
    {od_Effect___init__ an_Effect___init__ : Option Addr} {sl_Effect___init__ : Array (Option Value)} {oc_Effect___init__ kV_Effect___init__ dc_Effect___init__ pm_Effect___init__ cd_Effect___init__ ct_Effect___init__ : Value}
    {od_Effect_of an_Effect_of : Option Addr} {sl_Effect_of : Array (Option Value)} {oc_Effect_of dc_Effect_of pm_Effect_of cd_Effect_of ct_Effect_of : Value}
    {rs_Effect_of : List Value}
    {od_Effect___call__ an_Effect___call__ : Option Addr} {sl_Effect___call__ : Array (Option Value)} {oc_Effect___call__ kV_Effect___call__ dc_Effect___call__ pm_Effect___call__ cd_Effect___call__ ct_Effect___call__ : Value}
    {od_Effect___eq__ an_Effect___eq__ : Option Addr} {sl_Effect___eq__ : Array (Option Value)} {oc_Effect___eq__ kV_Effect___eq__ dc_Effect___eq__ pm_Effect___eq__ cd_Effect___eq__ ct_Effect___eq__ : Value}
    {od_all_effects an_all_effects : Option Addr} {sl_all_effects : Array (Option Value)} {oc_all_effects dc_all_effects pm_all_effects cd_all_effects ct_all_effects : Value}
    {od_shortest an_shortest : Option Addr} {sl_shortest : Array (Option Value)} {oc_shortest dc_shortest pm_shortest cd_shortest ct_shortest : Value}
    {od_is_integer an_is_integer : Option Addr} {sl_is_integer : Array (Option Value)} {oc_is_integer kV_is_integer dc_is_integer pm_is_integer cd_is_integer ct_is_integer : Value}
    {od_need_width an_need_width : Option Addr} {sl_need_width : Array (Option Value)} {oc_need_width kV_need_width dc_need_width pm_need_width cd_need_width ct_need_width : Value}
    {od_ones an_ones : Option Addr} {sl_ones : Array (Option Value)} {oc_ones kV_ones dc_ones pm_ones cd_ones ct_ones : Value}
    {od_is_word an_is_word : Option Addr} {sl_is_word : Array (Option Value)} {oc_is_word kV_is_word dc_is_word pm_is_word cd_is_word ct_is_word : Value}
    {od_need_word an_need_word : Option Addr} {sl_need_word : Array (Option Value)} {oc_need_word kV_need_word dc_need_word pm_need_word cd_need_word ct_need_word : Value}
    {od_shifted an_shifted : Option Addr} {sl_shifted : Array (Option Value)} {oc_shifted kV_shifted dc_shifted pm_shifted cd_shifted ct_shifted : Value}
    {od_Blend___init__ an_Blend___init__ : Option Addr} {sl_Blend___init__ : Array (Option Value)} {oc_Blend___init__ kV_Blend___init__ dc_Blend___init__ pm_Blend___init__ cd_Blend___init__ ct_Blend___init__ : Value}
    {dd_DT_Blend___init__ : Option Addr} {n_DT_Blend___init__ : Nat} {sl_DT_Blend___init__ : Array (Option Value)} {tk_Blend___init___0 tk_Blend___init___2 : Tok}
    {od_Blend___call__ an_Blend___call__ : Option Addr} {sl_Blend___call__ : Array (Option Value)} {oc_Blend___call__ kV_Blend___call__ dc_Blend___call__ pm_Blend___call__ cd_Blend___call__ ct_Blend___call__ : Value}
    {od_Blend___and__ an_Blend___and__ : Option Addr} {sl_Blend___and__ : Array (Option Value)} {oc_Blend___and__ kV_Blend___and__ dc_Blend___and__ pm_Blend___and__ cd_Blend___and__ ct_Blend___and__ : Value}
    {od_Blend___rand__ an_Blend___rand__ : Option Addr} {sl_Blend___rand__ : Array (Option Value)} {oc_Blend___rand__ kV_Blend___rand__ dc_Blend___rand__ pm_Blend___rand__ cd_Blend___rand__ ct_Blend___rand__ : Value}
    {od_Blend___repr__ an_Blend___repr__ : Option Addr} {sl_Blend___repr__ : Array (Option Value)} {oc_Blend___repr__ kV_Blend___repr__ dc_Blend___repr__ pm_Blend___repr__ cd_Blend___repr__ ct_Blend___repr__ : Value}
    {od_Blend_sources an_Blend_sources : Option Addr} {sl_Blend_sources : Array (Option Value)} {oc_Blend_sources kV_Blend_sources dc_Blend_sources pm_Blend_sources cd_Blend_sources ct_Blend_sources : Value}
    {od_need_bit an_need_bit : Option Addr} {sl_need_bit : Array (Option Value)} {oc_need_bit kV_need_bit dc_need_bit pm_need_bit cd_need_bit ct_need_bit : Value}
    {od_Bit___init__ an_Bit___init__ : Option Addr} {sl_Bit___init__ : Array (Option Value)} {oc_Bit___init__ kV_Bit___init__ dc_Bit___init__ pm_Bit___init__ cd_Bit___init__ ct_Bit___init__ : Value}
    {dd_DT_Bit___init__ : Option Addr} {n_DT_Bit___init__ : Nat} {sl_DT_Bit___init__ : Array (Option Value)} {tk_Bit___init___0 : Tok}
    {od_Bit_now an_Bit_now : Option Addr} {sl_Bit_now : Array (Option Value)} {oc_Bit_now kV_Bit_now dc_Bit_now pm_Bit_now cd_Bit_now ct_Bit_now : Value}
    {rs_Bit_now : List Value}
    {od_Bit_state an_Bit_state : Option Addr} {sl_Bit_state : Array (Option Value)} {oc_Bit_state kV_Bit_state dc_Bit_state pm_Bit_state cd_Bit_state ct_Bit_state : Value}
    {rs_Bit_state : List Value}
    {od_KindBit_read an_KindBit_read : Option Addr} {sl_KindBit_read : Array (Option Value)} {oc_KindBit_read kV_KindBit_read dc_KindBit_read pm_KindBit_read cd_KindBit_read ct_KindBit_read : Value}
    {od_KindBit_write an_KindBit_write : Option Addr} {sl_KindBit_write : Array (Option Value)} {oc_KindBit_write kV_KindBit_write dc_KindBit_write pm_KindBit_write cd_KindBit_write ct_KindBit_write : Value}
    {od_KindBit_deed an_KindBit_deed : Option Addr} {sl_KindBit_deed : Array (Option Value)} {oc_KindBit_deed kV_KindBit_deed dc_KindBit_deed pm_KindBit_deed cd_KindBit_deed ct_KindBit_deed : Value}
    {od__law_pen an__law_pen : Option Addr} {sl__law_pen : Array (Option Value)} {oc__law_pen kV__law_pen dc__law_pen pm__law_pen cd__law_pen ct__law_pen : Value}
    {od__law_draw an__law_draw : Option Addr} {sl__law_draw : Array (Option Value)} {oc__law_draw kV__law_draw dc__law_draw pm__law_draw cd__law_draw ct__law_draw : Value}
    {od__law_word an__law_word : Option Addr} {sl__law_word : Array (Option Value)} {oc__law_word kV__law_word dc__law_word pm__law_word cd__law_word ct__law_word : Value}
    {od__law_deeds an__law_deeds : Option Addr} {sl__law_deeds : Array (Option Value)} {oc__law_deeds kV__law_deeds dc__law_deeds pm__law_deeds cd__law_deeds ct__law_deeds : Value}
    {od__law_words an__law_words : Option Addr} {sl__law_words : Array (Option Value)} {oc__law_words kV__law_words dc__law_words pm__law_words cd__law_words ct__law_words : Value}
    {od__law_blended an__law_blended : Option Addr} {sl__law_blended : Array (Option Value)} {oc__law_blended kV__law_blended dc__law_blended pm__law_blended cd__law_blended ct__law_blended : Value}
    {od__law_read_all an__law_read_all : Option Addr} {sl__law_read_all : Array (Option Value)} {oc__law_read_all kV__law_read_all dc__law_read_all pm__law_read_all cd__law_read_all ct__law_read_all : Value}
    {od__law_act an__law_act : Option Addr} {sl__law_act : Array (Option Value)} {oc__law_act kV__law_act dc__law_act pm__law_act cd__law_act ct__law_act : Value}
    {od_law an_law : Option Addr} {sl_law : Array (Option Value)} {oc_law kV_law dc_law pm_law cd_law ct_law : Value}
    {es_M : Array DictEntry} {n_M : Nat}
    {dd_0 dd_1 dd_2 dd_3 : Option Addr} {q_0 q_1 q_2 q_3 : Nat} {sl_0 sl_1 sl_2 sl_3 : Array (Option Value)} {tk_1 tk_2 tk_3 tk_4 : Tok}
    {nm_K qq_K : Str} {bs_K : List Value} {hd_K : Bool} {sn_K : List Str} {sub_K : List Value} {ab_K : Bool} {col_K : Option Bool} {dd_K : Option Addr} {k0_K k1_K k2_K k3_K k5_K : Option Value} {nid_K : String}
    {o_K o_N : PySem.Obj}
    {nm_F qq_F : Str} {bs_F : List Value} {hd_F : Bool} {sn_F : List Str} {sub_F : List Value} {ab_F : Bool} {col_F : Option Bool} {dd_F : Option Addr} {k0_F k1_F k2_F k3_F k5_F : Option Value} {nid_F : String}
    {o_F o_M : PySem.Obj} {tkL tkM : Tok}
    {dd_W : Option Addr} {n_W : Nat} {sl_W : Array (Option Value)} {tw0 tw1 tw2 : Tok}
    {o_E0 : PySem.Obj} {nm_E0 qq_E0 : Str} {bs_E0 bm_E0 : List Value} {sn_E0 : List Str} {sub_E0 : List Value} {ab_E0 : Bool} {col_E0 : Option Bool} {dd_E0 : Option Addr} {k0_E0 k1_E0 k2_E0 k3_E0 k5_E0 : Option Value} {od_I0 an_I0 cdd_I0 cld_I0 : Option Addr} {sl_I0 ccs_I0 csl_I0 : Array (Option Value)} {oc_I0 kV_I0 dc_I0 pm_I0 ct_I0 ccl_I0 cl_I0 : Value} {vs_I0 : Array Value} {file_I0 : Str} {tf_I0 : Tok}
    {o_E2 : PySem.Obj} {nm_E2 qq_E2 : Str} {bs_E2 bm_E2 : List Value} {sn_E2 : List Str} {sub_E2 : List Value} {ab_E2 : Bool} {col_E2 : Option Bool} {dd_E2 : Option Addr} {k0_E2 k1_E2 k2_E2 k3_E2 k5_E2 : Option Value} {od_I2 an_I2 cdd_I2 cld_I2 : Option Addr} {sl_I2 ccs_I2 csl_I2 : Array (Option Value)} {oc_I2 kV_I2 dc_I2 pm_I2 ct_I2 ccl_I2 cl_I2 : Value} {vs_I2 : Array Value} {file_I2 : Str} {tf_I2 : Tok}
    {o_E3 : PySem.Obj} {nm_E3 qq_E3 : Str} {bs_E3 bm_E3 : List Value} {sn_E3 : List Str} {sub_E3 : List Value} {ab_E3 : Bool} {col_E3 : Option Bool} {dd_E3 : Option Addr} {k0_E3 k1_E3 k2_E3 k3_E3 k5_E3 : Option Value} {od_I3 an_I3 cdd_I3 cld_I3 : Option Addr} {sl_I3 ccs_I3 csl_I3 : Array (Option Value)} {oc_I3 kV_I3 dc_I3 pm_I3 ct_I3 ccl_I3 cl_I3 : Value} {vs_I3 : Array Value} {file_I3 : Str} {tf_I3 : Tok}
    {od_KindBit___init__ an_KindBit___init__ cdd_KindBit___init__ cld_KindBit___init__ : Option Addr} {sl_KindBit___init__ ccs_KindBit___init__ csl_KindBit___init__ : Array (Option Value)} {oc_KindBit___init__ kV_KindBit___init__ dc_KindBit___init__ pm_KindBit___init__ ct_KindBit___init__ ccl_KindBit___init__ cl_KindBit___init__ : Value} {vs_KindBit___init__ : Array Value} {file_KindBit___init__ : Str} {tf_KindBit___init__ : Tok}
    {dd_DT_KindBit___init__ : Option Addr} {n_DT_KindBit___init__ : Nat} {sl_DT_KindBit___init__ : Array (Option Value)} {tk_KindBit___init__ : Tok}
    (aC_Kind : PySem.W.nsIn K mainGlobals "Kind" = some (some (.ref C_Kind)))
    (pg_Kind : PySem.W.plainGet K C_Kind Str.empty = true)
    (hd_Kind : PySem.W.hasDictIn K C_Kind = true)
    (po_Kind : PySem.W.plainOver K C_Kind = true)
    (sa_Kind : PySem.W.findIn K (.ref C_Kind) "__setattr__" = some (some (.builtin "object.__setattr__")))
    (mk_Kind : PySem.W.makesIn K C_Kind = true)
    (kc_Kind : PySem.W.keepIn K (.ref C_Kind) = true)
    (n_Kind_reading : PySem.W.findIn K (.ref C_Kind) "reading" = some none)
    (n_Kind_writing : PySem.W.findIn K (.ref C_Kind) "writing" = some none)
    (n_Kind_device : PySem.W.findIn K (.ref C_Kind) "device" = some none)
    (n_Kind_states : PySem.W.findIn K (.ref C_Kind) "states" = some none)
    (rd_Kind : PySem.W.readsIn K C_Kind (.type "type") = true)
    (ga_Kind : PySem.W.specialIn K (.ref C_Kind) "__getattribute__" = some (some (.builtin "type.__getattribute__")))
    (fc_t_Kind_READINGS : PySem.W.findCls K (.ref C_Kind) (.type "type") "READINGS" = some (.val (.ref t_Kind_READINGS)))
    (lk_t_Kind_READINGS : K.lookup t_Kind_READINGS = some ⟨.type "tuple", dd_t_Kind_READINGS, .seq #[.str "keep" k_t_Kind_READINGS_0, .str "take" k_t_Kind_READINGS_1] n_t_Kind_READINGS, sl_t_Kind_READINGS⟩)
    (fc_t_Kind_WRITINGS : PySem.W.findCls K (.ref C_Kind) (.type "type") "WRITINGS" = some (.val (.ref t_Kind_WRITINGS)))
    (lk_t_Kind_WRITINGS : K.lookup t_Kind_WRITINGS = some ⟨.type "tuple", dd_t_Kind_WRITINGS, .seq #[.str "store" k_t_Kind_WRITINGS_0, .str "clear1" k_t_Kind_WRITINGS_1, .str "clear0" k_t_Kind_WRITINGS_2, .str "set1" k_t_Kind_WRITINGS_3, .str "flip1" k_t_Kind_WRITINGS_4, .str "once" k_t_Kind_WRITINGS_5, .str "none" k_t_Kind_WRITINGS_6] n_t_Kind_WRITINGS, sl_t_Kind_WRITINGS⟩)
    (fc_t_Kind_DEVICES : PySem.W.findCls K (.ref C_Kind) (.type "type") "DEVICES" = some (.val (.ref t_Kind_DEVICES)))
    (lk_t_Kind_DEVICES : K.lookup t_Kind_DEVICES = some ⟨.type "tuple", dd_t_Kind_DEVICES, .seq #[.str "still" k_t_Kind_DEVICES_0, .str "raise" k_t_Kind_DEVICES_1, .str "end" k_t_Kind_DEVICES_2, .str "drift" k_t_Kind_DEVICES_3] n_t_Kind_DEVICES, sl_t_Kind_DEVICES⟩)
    (aC_Effect : PySem.W.nsIn K mainGlobals "Effect" = some (some (.ref C_Effect)))
    (pg_Effect : PySem.W.plainGet K C_Effect Str.empty = true)
    (hd_Effect : PySem.W.hasDictIn K C_Effect = true)
    (po_Effect : PySem.W.plainOver K C_Effect = true)
    (sa_Effect : PySem.W.findIn K (.ref C_Effect) "__setattr__" = some (some (.builtin "object.__setattr__")))
    (mk_Effect : PySem.W.makesIn K C_Effect = true)
    (kc_Effect : PySem.W.keepIn K (.ref C_Effect) = true)
    (n_Effect_kind : PySem.W.findIn K (.ref C_Effect) "kind" = some none)
    (n_Effect_ends : PySem.W.findIn K (.ref C_Effect) "ends" = some none)
    (aC_Blend : PySem.W.nsIn K mainGlobals "Blend" = some (some (.ref C_Blend)))
    (pg_Blend : PySem.W.plainGet K C_Blend Str.empty = true)
    (hd_Blend : PySem.W.hasDictIn K C_Blend = true)
    (po_Blend : PySem.W.plainOver K C_Blend = true)
    (sa_Blend : PySem.W.findIn K (.ref C_Blend) "__setattr__" = some (some (.builtin "object.__setattr__")))
    (mk_Blend : PySem.W.makesIn K C_Blend = true)
    (kc_Blend : PySem.W.keepIn K (.ref C_Blend) = true)
    (n_Blend_width : PySem.W.findIn K (.ref C_Blend) "width" = some none)
    (n_Blend_shift : PySem.W.findIn K (.ref C_Blend) "shift" = some none)
    (n_Blend_keep : PySem.W.findIn K (.ref C_Blend) "keep" = some none)
    (n_Blend_flip : PySem.W.findIn K (.ref C_Blend) "flip" = some none)
    (aC_Bit : PySem.W.nsIn K mainGlobals "Bit" = some (some (.ref C_Bit)))
    (pg_Bit : PySem.W.plainGet K C_Bit Str.empty = true)
    (hd_Bit : PySem.W.hasDictIn K C_Bit = true)
    (po_Bit : PySem.W.plainOver K C_Bit = true)
    (sa_Bit : PySem.W.findIn K (.ref C_Bit) "__setattr__" = some (some (.builtin "object.__setattr__")))
    (mk_Bit : PySem.W.makesIn K C_Bit = true)
    (kc_Bit : PySem.W.keepIn K (.ref C_Bit) = true)
    (aC_KindBit : PySem.W.nsIn K mainGlobals "KindBit" = some (some (.ref C_KindBit)))
    (pg_KindBit : PySem.W.plainGet K C_KindBit Str.empty = true)
    (hd_KindBit : PySem.W.hasDictIn K C_KindBit = true)
    (po_KindBit : PySem.W.plainOver K C_KindBit = true)
    (sa_KindBit : PySem.W.findIn K (.ref C_KindBit) "__setattr__" = some (some (.builtin "object.__setattr__")))
    (mk_KindBit : PySem.W.makesIn K C_KindBit = true)
    (kc_KindBit : PySem.W.keepIn K (.ref C_KindBit) = true)
    (n_KindBit_held : PySem.W.findIn K (.ref C_KindBit) "held" = some none)
    (n_KindBit_kind : PySem.W.findIn K (.ref C_KindBit) "kind" = some none)
    (a_Kind___init__ : PySem.W.findIn K (.ref C_Kind) "__init__" = some (some (.ref f_Kind___init__)))
    (i_Kind___init__ : PySem.W.isFn K (.ref f_Kind___init__) = true)
    (l_Kind___init__ : K.lookup f_Kind___init__ = some ⟨oc_Kind___init__, od_Kind___init__, .func (PySem.W.fnOf "__init__" "Kind.__init__" (defArgs s_Kind___init__) (defBody s_Kind___init__) (defScope s_Kind___init__) .none kV_Kind___init__ dc_Kind___init__ pm_Kind___init__ an_Kind___init__ cd_Kind___init__ ct_Kind___init__), sl_Kind___init__⟩)
    (c_Kind___init__ : PySem.W.codeIn K cd_Kind___init__ "Kind.__init__" = true)
    (k_Kind___init__ : PySem.W.keepIn K (.ref f_Kind___init__) = true)
    (a_Kind___eq__ : PySem.W.findIn K (.ref C_Kind) "__eq__" = some (some (.ref f_Kind___eq__)))
    (i_Kind___eq__ : PySem.W.isFn K (.ref f_Kind___eq__) = true)
    (l_Kind___eq__ : K.lookup f_Kind___eq__ = some ⟨oc_Kind___eq__, od_Kind___eq__, .func (PySem.W.fnOf "__eq__" "Kind.__eq__" (defArgs s_Kind___eq__) (defBody s_Kind___eq__) (defScope s_Kind___eq__) .none kV_Kind___eq__ dc_Kind___eq__ pm_Kind___eq__ an_Kind___eq__ cd_Kind___eq__ ct_Kind___eq__), sl_Kind___eq__⟩)
    (c_Kind___eq__ : PySem.W.codeIn K cd_Kind___eq__ "Kind.__eq__" = true)
    (k_Kind___eq__ : PySem.W.keepIn K (.ref f_Kind___eq__) = true)
    (a_Kind_after_read : PySem.W.findIn K (.ref C_Kind) "after_read" = some (some (.ref f_Kind_after_read)))
    (i_Kind_after_read : PySem.W.isFn K (.ref f_Kind_after_read) = true)
    (l_Kind_after_read : K.lookup f_Kind_after_read = some ⟨oc_Kind_after_read, od_Kind_after_read, .func (PySem.W.fnOf "after_read" "Kind.after_read" (defArgs s_Kind_after_read) (defBody s_Kind_after_read) (defScope s_Kind_after_read) .none kV_Kind_after_read dc_Kind_after_read pm_Kind_after_read an_Kind_after_read cd_Kind_after_read ct_Kind_after_read), sl_Kind_after_read⟩)
    (c_Kind_after_read : PySem.W.codeIn K cd_Kind_after_read "Kind.after_read" = true)
    (k_Kind_after_read : PySem.W.keepIn K (.ref f_Kind_after_read) = true)
    (a_Kind_after_write : PySem.W.findIn K (.ref C_Kind) "after_write" = some (some (.ref f_Kind_after_write)))
    (i_Kind_after_write : PySem.W.isFn K (.ref f_Kind_after_write) = true)
    (l_Kind_after_write : K.lookup f_Kind_after_write = some ⟨oc_Kind_after_write, od_Kind_after_write, .func (PySem.W.fnOf "after_write" "Kind.after_write" (defArgs s_Kind_after_write) (defBody s_Kind_after_write) (defScope s_Kind_after_write) .none kV_Kind_after_write dc_Kind_after_write pm_Kind_after_write an_Kind_after_write cd_Kind_after_write ct_Kind_after_write), sl_Kind_after_write⟩)
    (c_Kind_after_write : PySem.W.codeIn K cd_Kind_after_write "Kind.after_write" = true)
    (k_Kind_after_write : PySem.W.keepIn K (.ref f_Kind_after_write) = true)
    (a_Kind_unguarded : PySem.W.findIn K (.ref C_Kind) "unguarded" = some (some (.ref f_Kind_unguarded)))
    (i_Kind_unguarded : PySem.W.isFn K (.ref f_Kind_unguarded) = true)
    (l_Kind_unguarded : K.lookup f_Kind_unguarded = some ⟨oc_Kind_unguarded, od_Kind_unguarded, .func (PySem.W.fnOf "unguarded" "Kind.unguarded" (defArgs s_Kind_unguarded) (defBody s_Kind_unguarded) (defScope s_Kind_unguarded) .none kV_Kind_unguarded dc_Kind_unguarded pm_Kind_unguarded an_Kind_unguarded cd_Kind_unguarded ct_Kind_unguarded), sl_Kind_unguarded⟩)
    (c_Kind_unguarded : PySem.W.codeIn K cd_Kind_unguarded "Kind.unguarded" = true)
    (k_Kind_unguarded : PySem.W.keepIn K (.ref f_Kind_unguarded) = true)
    (a_Kind_deeds : PySem.W.findIn K (.ref C_Kind) "deeds" = some (some (.ref f_Kind_deeds)))
    (i_Kind_deeds : PySem.W.isFn K (.ref f_Kind_deeds) = true)
    (l_Kind_deeds : K.lookup f_Kind_deeds = some ⟨oc_Kind_deeds, od_Kind_deeds, .func (PySem.W.fnOf "deeds" "Kind.deeds" (defArgs s_Kind_deeds) (defBody s_Kind_deeds) (defScope s_Kind_deeds) .none kV_Kind_deeds dc_Kind_deeds pm_Kind_deeds an_Kind_deeds cd_Kind_deeds ct_Kind_deeds), sl_Kind_deeds⟩)
    (c_Kind_deeds : PySem.W.codeIn K cd_Kind_deeds "Kind.deeds" = true)
    (k_Kind_deeds : PySem.W.keepIn K (.ref f_Kind_deeds) = true)
    (a_need_letters : PySem.W.nsIn K mainGlobals "need_letters" = some (some (.ref f_need_letters)))
    (l_need_letters : K.lookup f_need_letters = some ⟨oc_need_letters, od_need_letters, .func (PySem.W.fnOf "need_letters" "need_letters" (defArgs s_need_letters) (defBody s_need_letters) (defScope s_need_letters) .none kV_need_letters dc_need_letters pm_need_letters an_need_letters cd_need_letters ct_need_letters), sl_need_letters⟩)
    (c_need_letters : PySem.W.codeIn K cd_need_letters "need_letters" = true)
    (k_need_letters : PySem.W.keepIn K (.ref f_need_letters) = true)
    (a_with_deeds : PySem.W.nsIn K mainGlobals "with_deeds" = some (some (.ref f_with_deeds)))
    (l_with_deeds : K.lookup f_with_deeds = some ⟨oc_with_deeds, od_with_deeds, .func (PySem.W.fnOf "with_deeds" "with_deeds" (defArgs s_with_deeds) (defBody s_with_deeds) (defScope s_with_deeds) .none kV_with_deeds dc_with_deeds pm_with_deeds an_with_deeds cd_with_deeds ct_with_deeds), sl_with_deeds⟩)
    (c_with_deeds : PySem.W.codeIn K cd_with_deeds "with_deeds" = true)
    (k_with_deeds : PySem.W.keepIn K (.ref f_with_deeds) = true)
    (a_after_letter : PySem.W.nsIn K mainGlobals "after_letter" = some (some (.ref f_after_letter)))
    (l_after_letter : K.lookup f_after_letter = some ⟨oc_after_letter, od_after_letter, .func (PySem.W.fnOf "after_letter" "after_letter" (defArgs s_after_letter) (defBody s_after_letter) (defScope s_after_letter) .none kV_after_letter dc_after_letter pm_after_letter an_after_letter cd_after_letter ct_after_letter), sl_after_letter⟩)
    (c_after_letter : PySem.W.codeIn K cd_after_letter "after_letter" = true)
    (k_after_letter : PySem.W.keepIn K (.ref f_after_letter) = true)
    (a_longer : PySem.W.nsIn K mainGlobals "longer" = some (some (.ref f_longer)))
    (l_longer : K.lookup f_longer = some ⟨oc_longer, od_longer, .func (PySem.W.fnOf "longer" "longer" (defArgs s_longer) (defBody s_longer) (defScope s_longer) .none kV_longer dc_longer pm_longer an_longer cd_longer ct_longer), sl_longer⟩)
    (c_longer : PySem.W.codeIn K cd_longer "longer" = true)
    (k_longer : PySem.W.keepIn K (.ref f_longer) = true)
    (a_Effect___init__ : PySem.W.findIn K (.ref C_Effect) "__init__" = some (some (.ref f_Effect___init__)))
    (i_Effect___init__ : PySem.W.isFn K (.ref f_Effect___init__) = true)
    (l_Effect___init__ : K.lookup f_Effect___init__ = some ⟨oc_Effect___init__, od_Effect___init__, .func (PySem.W.fnOf "__init__" "Effect.__init__" (defArgs s_Effect___init__) (defBody s_Effect___init__) (defScope s_Effect___init__) .none kV_Effect___init__ dc_Effect___init__ pm_Effect___init__ an_Effect___init__ cd_Effect___init__ ct_Effect___init__), sl_Effect___init__⟩)
    (c_Effect___init__ : PySem.W.codeIn K cd_Effect___init__ "Effect.__init__" = true)
    (k_Effect___init__ : PySem.W.keepIn K (.ref f_Effect___init__) = true)
    (a_Effect_of : PySem.W.findCls K (.ref C_Effect) (.type "type") "of" = some (.get (.builtin "classmethod.__get__") (.ref p_Effect_of) .none (.ref C_Effect)))
    (rc_Effect_of : PySem.W.recIn K p_Effect_of "classmethod" = some (.ref f_Effect_of :: rs_Effect_of))
    (fi_Effect_of : PySem.W.fnIn K f_Effect_of = true)
    (l_Effect_of : K.lookup f_Effect_of = some ⟨oc_Effect_of, od_Effect_of, .func (PySem.W.fnOf "of" "Effect.of" (defArgs s_Effect_of) (defBody s_Effect_of) (defScope s_Effect_of) .none (.ref D_Effect_of) dc_Effect_of pm_Effect_of an_Effect_of cd_Effect_of ct_Effect_of), sl_Effect_of⟩)
    (kw_Effect_of_quiet : PySem.W.nsIn K D_Effect_of "quiet" = some (some (.bool false)))
    (c_Effect_of : PySem.W.codeIn K cd_Effect_of "Effect.of" = true)
    (k_Effect_of : PySem.W.keepIn K (.ref f_Effect_of) = true)
    (a_Effect___call__ : PySem.W.findIn K (.ref C_Effect) "__call__" = some (some (.ref f_Effect___call__)))
    (i_Effect___call__ : PySem.W.isFn K (.ref f_Effect___call__) = true)
    (l_Effect___call__ : K.lookup f_Effect___call__ = some ⟨oc_Effect___call__, od_Effect___call__, .func (PySem.W.fnOf "__call__" "Effect.__call__" (defArgs s_Effect___call__) (defBody s_Effect___call__) (defScope s_Effect___call__) .none kV_Effect___call__ dc_Effect___call__ pm_Effect___call__ an_Effect___call__ cd_Effect___call__ ct_Effect___call__), sl_Effect___call__⟩)
    (c_Effect___call__ : PySem.W.codeIn K cd_Effect___call__ "Effect.__call__" = true)
    (k_Effect___call__ : PySem.W.keepIn K (.ref f_Effect___call__) = true)
    (a_Effect___eq__ : PySem.W.findIn K (.ref C_Effect) "__eq__" = some (some (.ref f_Effect___eq__)))
    (i_Effect___eq__ : PySem.W.isFn K (.ref f_Effect___eq__) = true)
    (l_Effect___eq__ : K.lookup f_Effect___eq__ = some ⟨oc_Effect___eq__, od_Effect___eq__, .func (PySem.W.fnOf "__eq__" "Effect.__eq__" (defArgs s_Effect___eq__) (defBody s_Effect___eq__) (defScope s_Effect___eq__) .none kV_Effect___eq__ dc_Effect___eq__ pm_Effect___eq__ an_Effect___eq__ cd_Effect___eq__ ct_Effect___eq__), sl_Effect___eq__⟩)
    (c_Effect___eq__ : PySem.W.codeIn K cd_Effect___eq__ "Effect.__eq__" = true)
    (k_Effect___eq__ : PySem.W.keepIn K (.ref f_Effect___eq__) = true)
    (a_all_effects : PySem.W.nsIn K mainGlobals "all_effects" = some (some (.ref f_all_effects)))
    (l_all_effects : K.lookup f_all_effects = some ⟨oc_all_effects, od_all_effects, .func (PySem.W.fnOf "all_effects" "all_effects" (defArgs s_all_effects) (defBody s_all_effects) (defScope s_all_effects) .none (.ref D_all_effects) dc_all_effects pm_all_effects an_all_effects cd_all_effects ct_all_effects), sl_all_effects⟩)
    (kw_all_effects_quiet : PySem.W.nsIn K D_all_effects "quiet" = some (some (.bool false)))
    (c_all_effects : PySem.W.codeIn K cd_all_effects "all_effects" = true)
    (k_all_effects : PySem.W.keepIn K (.ref f_all_effects) = true)
    (a_shortest : PySem.W.nsIn K mainGlobals "shortest" = some (some (.ref f_shortest)))
    (l_shortest : K.lookup f_shortest = some ⟨oc_shortest, od_shortest, .func (PySem.W.fnOf "shortest" "shortest" (defArgs s_shortest) (defBody s_shortest) (defScope s_shortest) .none (.ref D_shortest) dc_shortest pm_shortest an_shortest cd_shortest ct_shortest), sl_shortest⟩)
    (kw_shortest_quiet : PySem.W.nsIn K D_shortest "quiet" = some (some (.bool false)))
    (c_shortest : PySem.W.codeIn K cd_shortest "shortest" = true)
    (k_shortest : PySem.W.keepIn K (.ref f_shortest) = true)
    (a_is_integer : PySem.W.nsIn K mainGlobals "is_integer" = some (some (.ref f_is_integer)))
    (l_is_integer : K.lookup f_is_integer = some ⟨oc_is_integer, od_is_integer, .func (PySem.W.fnOf "is_integer" "is_integer" (defArgs s_is_integer) (defBody s_is_integer) (defScope s_is_integer) .none kV_is_integer dc_is_integer pm_is_integer an_is_integer cd_is_integer ct_is_integer), sl_is_integer⟩)
    (c_is_integer : PySem.W.codeIn K cd_is_integer "is_integer" = true)
    (k_is_integer : PySem.W.keepIn K (.ref f_is_integer) = true)
    (a_need_width : PySem.W.nsIn K mainGlobals "need_width" = some (some (.ref f_need_width)))
    (l_need_width : K.lookup f_need_width = some ⟨oc_need_width, od_need_width, .func (PySem.W.fnOf "need_width" "need_width" (defArgs s_need_width) (defBody s_need_width) (defScope s_need_width) .none kV_need_width dc_need_width pm_need_width an_need_width cd_need_width ct_need_width), sl_need_width⟩)
    (c_need_width : PySem.W.codeIn K cd_need_width "need_width" = true)
    (k_need_width : PySem.W.keepIn K (.ref f_need_width) = true)
    (a_ones : PySem.W.nsIn K mainGlobals "ones" = some (some (.ref f_ones)))
    (l_ones : K.lookup f_ones = some ⟨oc_ones, od_ones, .func (PySem.W.fnOf "ones" "ones" (defArgs s_ones) (defBody s_ones) (defScope s_ones) .none kV_ones dc_ones pm_ones an_ones cd_ones ct_ones), sl_ones⟩)
    (c_ones : PySem.W.codeIn K cd_ones "ones" = true)
    (k_ones : PySem.W.keepIn K (.ref f_ones) = true)
    (a_is_word : PySem.W.nsIn K mainGlobals "is_word" = some (some (.ref f_is_word)))
    (l_is_word : K.lookup f_is_word = some ⟨oc_is_word, od_is_word, .func (PySem.W.fnOf "is_word" "is_word" (defArgs s_is_word) (defBody s_is_word) (defScope s_is_word) .none kV_is_word dc_is_word pm_is_word an_is_word cd_is_word ct_is_word), sl_is_word⟩)
    (c_is_word : PySem.W.codeIn K cd_is_word "is_word" = true)
    (k_is_word : PySem.W.keepIn K (.ref f_is_word) = true)
    (a_need_word : PySem.W.nsIn K mainGlobals "need_word" = some (some (.ref f_need_word)))
    (l_need_word : K.lookup f_need_word = some ⟨oc_need_word, od_need_word, .func (PySem.W.fnOf "need_word" "need_word" (defArgs s_need_word) (defBody s_need_word) (defScope s_need_word) .none kV_need_word dc_need_word pm_need_word an_need_word cd_need_word ct_need_word), sl_need_word⟩)
    (c_need_word : PySem.W.codeIn K cd_need_word "need_word" = true)
    (k_need_word : PySem.W.keepIn K (.ref f_need_word) = true)
    (a_shifted : PySem.W.nsIn K mainGlobals "shifted" = some (some (.ref f_shifted)))
    (l_shifted : K.lookup f_shifted = some ⟨oc_shifted, od_shifted, .func (PySem.W.fnOf "shifted" "shifted" (defArgs s_shifted) (defBody s_shifted) (defScope s_shifted) .none kV_shifted dc_shifted pm_shifted an_shifted cd_shifted ct_shifted), sl_shifted⟩)
    (c_shifted : PySem.W.codeIn K cd_shifted "shifted" = true)
    (k_shifted : PySem.W.keepIn K (.ref f_shifted) = true)
    (a_Blend___init__ : PySem.W.findIn K (.ref C_Blend) "__init__" = some (some (.ref f_Blend___init__)))
    (i_Blend___init__ : PySem.W.isFn K (.ref f_Blend___init__) = true)
    (l_Blend___init__ : K.lookup f_Blend___init__ = some ⟨oc_Blend___init__, od_Blend___init__, .func (PySem.W.fnOf "__init__" "Blend.__init__" (defArgs s_Blend___init__) (defBody s_Blend___init__) (defScope s_Blend___init__) (.ref DT_Blend___init__) kV_Blend___init__ dc_Blend___init__ pm_Blend___init__ an_Blend___init__ cd_Blend___init__ ct_Blend___init__), sl_Blend___init__⟩)
    (dt_Blend___init__ : K.lookup DT_Blend___init__ = some ⟨.type "tuple", dd_DT_Blend___init__, .seq #[.int 0 tk_Blend___init___0, .none, .int 0 tk_Blend___init___2] n_DT_Blend___init__, sl_DT_Blend___init__⟩)
    (c_Blend___init__ : PySem.W.codeIn K cd_Blend___init__ "Blend.__init__" = true)
    (k_Blend___init__ : PySem.W.keepIn K (.ref f_Blend___init__) = true)
    (a_Blend___call__ : PySem.W.findIn K (.ref C_Blend) "__call__" = some (some (.ref f_Blend___call__)))
    (i_Blend___call__ : PySem.W.isFn K (.ref f_Blend___call__) = true)
    (l_Blend___call__ : K.lookup f_Blend___call__ = some ⟨oc_Blend___call__, od_Blend___call__, .func (PySem.W.fnOf "__call__" "Blend.__call__" (defArgs s_Blend___call__) (defBody s_Blend___call__) (defScope s_Blend___call__) .none kV_Blend___call__ dc_Blend___call__ pm_Blend___call__ an_Blend___call__ cd_Blend___call__ ct_Blend___call__), sl_Blend___call__⟩)
    (c_Blend___call__ : PySem.W.codeIn K cd_Blend___call__ "Blend.__call__" = true)
    (k_Blend___call__ : PySem.W.keepIn K (.ref f_Blend___call__) = true)
    (a_Blend___and__ : PySem.W.findIn K (.ref C_Blend) "__and__" = some (some (.ref f_Blend___and__)))
    (i_Blend___and__ : PySem.W.isFn K (.ref f_Blend___and__) = true)
    (l_Blend___and__ : K.lookup f_Blend___and__ = some ⟨oc_Blend___and__, od_Blend___and__, .func (PySem.W.fnOf "__and__" "Blend.__and__" (defArgs s_Blend___and__) (defBody s_Blend___and__) (defScope s_Blend___and__) .none kV_Blend___and__ dc_Blend___and__ pm_Blend___and__ an_Blend___and__ cd_Blend___and__ ct_Blend___and__), sl_Blend___and__⟩)
    (c_Blend___and__ : PySem.W.codeIn K cd_Blend___and__ "Blend.__and__" = true)
    (k_Blend___and__ : PySem.W.keepIn K (.ref f_Blend___and__) = true)
    (a_Blend___rand__ : PySem.W.findIn K (.ref C_Blend) "__rand__" = some (some (.ref f_Blend___rand__)))
    (i_Blend___rand__ : PySem.W.isFn K (.ref f_Blend___rand__) = true)
    (l_Blend___rand__ : K.lookup f_Blend___rand__ = some ⟨oc_Blend___rand__, od_Blend___rand__, .func (PySem.W.fnOf "__rand__" "Blend.__rand__" (defArgs s_Blend___rand__) (defBody s_Blend___rand__) (defScope s_Blend___rand__) .none kV_Blend___rand__ dc_Blend___rand__ pm_Blend___rand__ an_Blend___rand__ cd_Blend___rand__ ct_Blend___rand__), sl_Blend___rand__⟩)
    (c_Blend___rand__ : PySem.W.codeIn K cd_Blend___rand__ "Blend.__rand__" = true)
    (k_Blend___rand__ : PySem.W.keepIn K (.ref f_Blend___rand__) = true)
    (a_Blend___repr__ : PySem.W.findIn K (.ref C_Blend) "__repr__" = some (some (.ref f_Blend___repr__)))
    (i_Blend___repr__ : PySem.W.isFn K (.ref f_Blend___repr__) = true)
    (l_Blend___repr__ : K.lookup f_Blend___repr__ = some ⟨oc_Blend___repr__, od_Blend___repr__, .func (PySem.W.fnOf "__repr__" "Blend.__repr__" (defArgs s_Blend___repr__) (defBody s_Blend___repr__) (defScope s_Blend___repr__) .none kV_Blend___repr__ dc_Blend___repr__ pm_Blend___repr__ an_Blend___repr__ cd_Blend___repr__ ct_Blend___repr__), sl_Blend___repr__⟩)
    (c_Blend___repr__ : PySem.W.codeIn K cd_Blend___repr__ "Blend.__repr__" = true)
    (k_Blend___repr__ : PySem.W.keepIn K (.ref f_Blend___repr__) = true)
    (a_Blend_sources : PySem.W.findIn K (.ref C_Blend) "sources" = some (some (.ref f_Blend_sources)))
    (i_Blend_sources : PySem.W.isFn K (.ref f_Blend_sources) = true)
    (l_Blend_sources : K.lookup f_Blend_sources = some ⟨oc_Blend_sources, od_Blend_sources, .func (PySem.W.fnOf "sources" "Blend.sources" (defArgs s_Blend_sources) (defBody s_Blend_sources) (defScope s_Blend_sources) .none kV_Blend_sources dc_Blend_sources pm_Blend_sources an_Blend_sources cd_Blend_sources ct_Blend_sources), sl_Blend_sources⟩)
    (c_Blend_sources : PySem.W.codeIn K cd_Blend_sources "Blend.sources" = true)
    (k_Blend_sources : PySem.W.keepIn K (.ref f_Blend_sources) = true)
    (a_need_bit : PySem.W.nsIn K mainGlobals "need_bit" = some (some (.ref f_need_bit)))
    (l_need_bit : K.lookup f_need_bit = some ⟨oc_need_bit, od_need_bit, .func (PySem.W.fnOf "need_bit" "need_bit" (defArgs s_need_bit) (defBody s_need_bit) (defScope s_need_bit) .none kV_need_bit dc_need_bit pm_need_bit an_need_bit cd_need_bit ct_need_bit), sl_need_bit⟩)
    (c_need_bit : PySem.W.codeIn K cd_need_bit "need_bit" = true)
    (k_need_bit : PySem.W.keepIn K (.ref f_need_bit) = true)
    (a_Bit___init__ : PySem.W.findIn K (.ref C_Bit) "__init__" = some (some (.ref f_Bit___init__)))
    (i_Bit___init__ : PySem.W.isFn K (.ref f_Bit___init__) = true)
    (l_Bit___init__ : K.lookup f_Bit___init__ = some ⟨oc_Bit___init__, od_Bit___init__, .func (PySem.W.fnOf "__init__" "Bit.__init__" (defArgs s_Bit___init__) (defBody s_Bit___init__) (defScope s_Bit___init__) (.ref DT_Bit___init__) kV_Bit___init__ dc_Bit___init__ pm_Bit___init__ an_Bit___init__ cd_Bit___init__ ct_Bit___init__), sl_Bit___init__⟩)
    (dt_Bit___init__ : K.lookup DT_Bit___init__ = some ⟨.type "tuple", dd_DT_Bit___init__, .seq #[.int 0 tk_Bit___init___0] n_DT_Bit___init__, sl_DT_Bit___init__⟩)
    (c_Bit___init__ : PySem.W.codeIn K cd_Bit___init__ "Bit.__init__" = true)
    (k_Bit___init__ : PySem.W.keepIn K (.ref f_Bit___init__) = true)
    (pa_Bit_now : PySem.W.findIn K (.ref C_Bit) "now" = some (some (.ref p_Bit_now)))
    (pb_Bit_now : PySem.W.specialIn K (.ref p_Bit_now) "__get__" = some (some (.builtin "property.__get__")))
    (pc_Bit_now : PySem.W.takesIn K (.ref p_Bit_now) = some true)
    (pd_Bit_now : PySem.W.recIn K p_Bit_now "property" = some (.ref f_Bit_now :: rs_Bit_now))
    (l_Bit_now : K.lookup f_Bit_now = some ⟨oc_Bit_now, od_Bit_now, .func (PySem.W.fnOf "now" "Bit.now" (defArgs s_Bit_now) (defBody s_Bit_now) (defScope s_Bit_now) .none kV_Bit_now dc_Bit_now pm_Bit_now an_Bit_now cd_Bit_now ct_Bit_now), sl_Bit_now⟩)
    (c_Bit_now : PySem.W.codeIn K cd_Bit_now "Bit.now" = true)
    (k_Bit_now : PySem.W.keepIn K (.ref f_Bit_now) = true)
    (pa_Bit_state : PySem.W.findIn K (.ref C_Bit) "state" = some (some (.ref p_Bit_state)))
    (pb_Bit_state : PySem.W.specialIn K (.ref p_Bit_state) "__get__" = some (some (.builtin "property.__get__")))
    (pc_Bit_state : PySem.W.takesIn K (.ref p_Bit_state) = some true)
    (pd_Bit_state : PySem.W.recIn K p_Bit_state "property" = some (.ref f_Bit_state :: rs_Bit_state))
    (l_Bit_state : K.lookup f_Bit_state = some ⟨oc_Bit_state, od_Bit_state, .func (PySem.W.fnOf "state" "Bit.state" (defArgs s_Bit_state) (defBody s_Bit_state) (defScope s_Bit_state) .none kV_Bit_state dc_Bit_state pm_Bit_state an_Bit_state cd_Bit_state ct_Bit_state), sl_Bit_state⟩)
    (c_Bit_state : PySem.W.codeIn K cd_Bit_state "Bit.state" = true)
    (k_Bit_state : PySem.W.keepIn K (.ref f_Bit_state) = true)
    (a_KindBit_read : PySem.W.findIn K (.ref C_KindBit) "read" = some (some (.ref f_KindBit_read)))
    (i_KindBit_read : PySem.W.isFn K (.ref f_KindBit_read) = true)
    (l_KindBit_read : K.lookup f_KindBit_read = some ⟨oc_KindBit_read, od_KindBit_read, .func (PySem.W.fnOf "read" "KindBit.read" (defArgs s_KindBit_read) (defBody s_KindBit_read) (defScope s_KindBit_read) .none kV_KindBit_read dc_KindBit_read pm_KindBit_read an_KindBit_read cd_KindBit_read ct_KindBit_read), sl_KindBit_read⟩)
    (c_KindBit_read : PySem.W.codeIn K cd_KindBit_read "KindBit.read" = true)
    (k_KindBit_read : PySem.W.keepIn K (.ref f_KindBit_read) = true)
    (a_KindBit_write : PySem.W.findIn K (.ref C_KindBit) "write" = some (some (.ref f_KindBit_write)))
    (i_KindBit_write : PySem.W.isFn K (.ref f_KindBit_write) = true)
    (l_KindBit_write : K.lookup f_KindBit_write = some ⟨oc_KindBit_write, od_KindBit_write, .func (PySem.W.fnOf "write" "KindBit.write" (defArgs s_KindBit_write) (defBody s_KindBit_write) (defScope s_KindBit_write) .none kV_KindBit_write dc_KindBit_write pm_KindBit_write an_KindBit_write cd_KindBit_write ct_KindBit_write), sl_KindBit_write⟩)
    (c_KindBit_write : PySem.W.codeIn K cd_KindBit_write "KindBit.write" = true)
    (k_KindBit_write : PySem.W.keepIn K (.ref f_KindBit_write) = true)
    (a_KindBit_deed : PySem.W.findIn K (.ref C_KindBit) "deed" = some (some (.ref f_KindBit_deed)))
    (i_KindBit_deed : PySem.W.isFn K (.ref f_KindBit_deed) = true)
    (l_KindBit_deed : K.lookup f_KindBit_deed = some ⟨oc_KindBit_deed, od_KindBit_deed, .func (PySem.W.fnOf "deed" "KindBit.deed" (defArgs s_KindBit_deed) (defBody s_KindBit_deed) (defScope s_KindBit_deed) .none kV_KindBit_deed dc_KindBit_deed pm_KindBit_deed an_KindBit_deed cd_KindBit_deed ct_KindBit_deed), sl_KindBit_deed⟩)
    (c_KindBit_deed : PySem.W.codeIn K cd_KindBit_deed "KindBit.deed" = true)
    (k_KindBit_deed : PySem.W.keepIn K (.ref f_KindBit_deed) = true)
    (a__law_pen : PySem.W.nsIn K mainGlobals "_law_pen" = some (some (.ref f__law_pen)))
    (l__law_pen : K.lookup f__law_pen = some ⟨oc__law_pen, od__law_pen, .func (PySem.W.fnOf "_law_pen" "_law_pen" (defArgs s__law_pen) (defBody s__law_pen) (defScope s__law_pen) .none kV__law_pen dc__law_pen pm__law_pen an__law_pen cd__law_pen ct__law_pen), sl__law_pen⟩)
    (c__law_pen : PySem.W.codeIn K cd__law_pen "_law_pen" = true)
    (k__law_pen : PySem.W.keepIn K (.ref f__law_pen) = true)
    (a__law_draw : PySem.W.nsIn K mainGlobals "_law_draw" = some (some (.ref f__law_draw)))
    (l__law_draw : K.lookup f__law_draw = some ⟨oc__law_draw, od__law_draw, .func (PySem.W.fnOf "_law_draw" "_law_draw" (defArgs s__law_draw) (defBody s__law_draw) (defScope s__law_draw) .none kV__law_draw dc__law_draw pm__law_draw an__law_draw cd__law_draw ct__law_draw), sl__law_draw⟩)
    (c__law_draw : PySem.W.codeIn K cd__law_draw "_law_draw" = true)
    (k__law_draw : PySem.W.keepIn K (.ref f__law_draw) = true)
    (a__law_word : PySem.W.nsIn K mainGlobals "_law_word" = some (some (.ref f__law_word)))
    (l__law_word : K.lookup f__law_word = some ⟨oc__law_word, od__law_word, .func (PySem.W.fnOf "_law_word" "_law_word" (defArgs s__law_word) (defBody s__law_word) (defScope s__law_word) .none kV__law_word dc__law_word pm__law_word an__law_word cd__law_word ct__law_word), sl__law_word⟩)
    (c__law_word : PySem.W.codeIn K cd__law_word "_law_word" = true)
    (k__law_word : PySem.W.keepIn K (.ref f__law_word) = true)
    (a__law_deeds : PySem.W.nsIn K mainGlobals "_law_deeds" = some (some (.ref f__law_deeds)))
    (l__law_deeds : K.lookup f__law_deeds = some ⟨oc__law_deeds, od__law_deeds, .func (PySem.W.fnOf "_law_deeds" "_law_deeds" (defArgs s__law_deeds) (defBody s__law_deeds) (defScope s__law_deeds) .none kV__law_deeds dc__law_deeds pm__law_deeds an__law_deeds cd__law_deeds ct__law_deeds), sl__law_deeds⟩)
    (c__law_deeds : PySem.W.codeIn K cd__law_deeds "_law_deeds" = true)
    (k__law_deeds : PySem.W.keepIn K (.ref f__law_deeds) = true)
    (a__law_words : PySem.W.nsIn K mainGlobals "_law_words" = some (some (.ref f__law_words)))
    (l__law_words : K.lookup f__law_words = some ⟨oc__law_words, od__law_words, .func (PySem.W.fnOf "_law_words" "_law_words" (defArgs s__law_words) (defBody s__law_words) (defScope s__law_words) .none kV__law_words dc__law_words pm__law_words an__law_words cd__law_words ct__law_words), sl__law_words⟩)
    (c__law_words : PySem.W.codeIn K cd__law_words "_law_words" = true)
    (k__law_words : PySem.W.keepIn K (.ref f__law_words) = true)
    (a__law_blended : PySem.W.nsIn K mainGlobals "_law_blended" = some (some (.ref f__law_blended)))
    (l__law_blended : K.lookup f__law_blended = some ⟨oc__law_blended, od__law_blended, .func (PySem.W.fnOf "_law_blended" "_law_blended" (defArgs s__law_blended) (defBody s__law_blended) (defScope s__law_blended) .none kV__law_blended dc__law_blended pm__law_blended an__law_blended cd__law_blended ct__law_blended), sl__law_blended⟩)
    (c__law_blended : PySem.W.codeIn K cd__law_blended "_law_blended" = true)
    (k__law_blended : PySem.W.keepIn K (.ref f__law_blended) = true)
    (a__law_read_all : PySem.W.nsIn K mainGlobals "_law_read_all" = some (some (.ref f__law_read_all)))
    (l__law_read_all : K.lookup f__law_read_all = some ⟨oc__law_read_all, od__law_read_all, .func (PySem.W.fnOf "_law_read_all" "_law_read_all" (defArgs s__law_read_all) (defBody s__law_read_all) (defScope s__law_read_all) .none kV__law_read_all dc__law_read_all pm__law_read_all an__law_read_all cd__law_read_all ct__law_read_all), sl__law_read_all⟩)
    (c__law_read_all : PySem.W.codeIn K cd__law_read_all "_law_read_all" = true)
    (k__law_read_all : PySem.W.keepIn K (.ref f__law_read_all) = true)
    (a__law_act : PySem.W.nsIn K mainGlobals "_law_act" = some (some (.ref f__law_act)))
    (l__law_act : K.lookup f__law_act = some ⟨oc__law_act, od__law_act, .func (PySem.W.fnOf "_law_act" "_law_act" (defArgs s__law_act) (defBody s__law_act) (defScope s__law_act) .none kV__law_act dc__law_act pm__law_act an__law_act cd__law_act ct__law_act), sl__law_act⟩)
    (c__law_act : PySem.W.codeIn K cd__law_act "_law_act" = true)
    (k__law_act : PySem.W.keepIn K (.ref f__law_act) = true)
    (a_law : PySem.W.nsIn K mainGlobals "law" = some (some (.ref f_law)))
    (l_law : K.lookup f_law = some ⟨oc_law, od_law, .func (PySem.W.fnOf "law" "law" (defArgs s_law) (defBody s_law) (defScope s_law) .none kV_law dc_law pm_law an_law cd_law ct_law), sl_law⟩)
    (c_law : PySem.W.codeIn K cd_law "law" = true)
    (k_law : PySem.W.keepIn K (.ref f_law) = true)
    (mM : PySem.W.nsIn K mainGlobals "MOVABLE" = some (some (.ref dM)))
    (lM : K.lookup dM = some ⟨.type "dict", none, .dict es_M n_M, #[]⟩)
    (litM : PySem.W.KeysLit w.params es_M.toList)
    (lowM : (dM == sysModules) = false)
    (iM0 : PySem.W.nsIn K dM "still" = some (some (.ref a_m0)))
    (iM1 : PySem.W.nsIn K dM "raise" = some (some (.ref a_m1)))
    (iM2 : PySem.W.nsIn K dM "end" = some (some (.ref a_m2)))
    (iM3 : PySem.W.nsIn K dM "drift" = some (some (.ref a_m3)))
    (tM0 : K.lookup a_m0 = some ⟨.type "tuple", dd_0, .seq #[] q_0, sl_0⟩)
    (tM1 : K.lookup a_m1 = some ⟨.type "tuple", dd_1, .seq #[.int 0 tk_1] q_1, sl_1⟩)
    (tM2 : K.lookup a_m2 = some ⟨.type "tuple", dd_2, .seq #[.int 1 tk_2] q_2, sl_2⟩)
    (tM3 : K.lookup a_m3 = some ⟨.type "tuple", dd_3, .seq #[.int 0 tk_3, .int 1 tk_4] q_3, sl_3⟩)
    (tyc : PySem.W.findIn K (.ref C_Kind) "__class__" = some (some (.builtin "object.__class__")))
    (tyg : PySem.W.specialIn K (.builtin "object.__class__") "__get__" = some (some (.builtin "getset_descriptor.__get__")))
    (tyt : PySem.W.takesIn K (.builtin "object.__class__") = some true)
    (tym : PySem.W.mroIn K C_Kind (.type "object") = some true)
    (tyi : PySem.W.kitOne K (.ref C_Kind) (.ref C_Kind) = some true)
    (lkK : K.lookup C_Kind = some o_K)
    (lkO : o_K = (excClassObj nm_K qq_K C_Kind N_Kind bs_K [.type "object"] hd_K sn_K sub_K ab_K col_K dd_K k0_K k1_K k2_K k3_K k5_K nid_K))
    (nsK : K.lookup N_Kind = some o_N)
    (nsO : ∀ K2 : PySem.W.Frag, K2.lookup N_Kind = some o_N → PySem.W.nsOkIn K2 N_Kind = true)
    (neq : PySem.W.nsIn K N_Kind "__eq__" = some (some (.ref f_Kind___eq__)))
    (nne : PySem.W.nsIn K N_Kind "__ne__" = some none)
    (foK : oc_Kind___eq__ = .type "function")
    (tycF : PySem.W.findIn K (.ref C_Effect) "__class__" = some (some (.builtin "object.__class__")))
    (tymF : PySem.W.mroIn K C_Effect (.type "object") = some true)
    (tyiF : PySem.W.kitOne K (.ref C_Effect) (.ref C_Effect) = some true)
    (lkKF : K.lookup C_Effect = some o_F)
    (lkOF : o_F = (excClassObj nm_F qq_F C_Effect N_Effect bs_F [.type "object"] hd_F sn_F sub_F ab_F col_F dd_F k0_F k1_F k2_F k3_F k5_F nid_F))
    (nsKF : K.lookup N_Effect = some o_M)
    (nsOF : ∀ K2 : PySem.W.Frag, K2.lookup N_Effect = some o_M → PySem.W.nsOkIn K2 N_Effect = true)
    (neqF : PySem.W.nsIn K N_Effect "__eq__" = some (some (.ref f_Effect___eq__)))
    (nneF : PySem.W.nsIn K N_Effect "__ne__" = some none)
    (foKF : oc_Effect___eq__ = .type "function")
    (fnC : PySem.W.fnIn K f_Effect___call__ = true)
    (rdF : PySem.W.readsIn K C_Effect (.type "type") = true)
    (gaF : PySem.W.specialIn K (.ref C_Effect) "__getattribute__" = some (some (.builtin "type.__getattribute__")))
    (gLT : PySem.W.nsIn K mainGlobals "LETTERS" = some (some (.str "01r" tkL)))
    (gML : PySem.W.nsIn K mainGlobals "MOST_LETTERS" = some (some (.int 40 tkM)))
    (nfK : PySem.W.notFirst K C_Kind (.ref C_Kind) = true)
    (aWd : PySem.W.nsIn K mainGlobals "WIDTHS" = some (some (.ref aW)))
    (lWd : K.lookup aW = some ⟨.type "tuple", dd_W, .seq #[.int 8 tw0, .int 16 tw1, .int 32 tw2] n_W, sl_W⟩)
    (aE0 : PySem.W.nsIn K mainGlobals "InvalidWidth" = some (some (.ref e0)))
    (xs0 : PySem.W.subIn K (.ref e0) (.type "BaseException") = some true)
    (xv0 : PySem.W.findIn K (.ref e0) "value" = some none)
    (lkE0 : K.lookup e0 = some o_E0)
    (lkF0 : o_E0 = (excClassObj nm_E0 qq_E0 e0 N_E0 bs_E0 bm_E0 true sn_E0 sub_E0 ab_E0 col_E0 dd_E0 k0_E0 k1_E0 k2_E0 k3_E0 k5_E0 "ValueError.__new__"))
    (rvE0 : PySem.HandSPX.refsVE bm_E0 = true)
    (saE0 : PySem.W.findIn K (.ref e0) "__setattr__" = some (some (.builtin "object.__setattr__")))
    (tyE0 : PySem.W.typeIn K (.ref e0) = some (.type "type"))
    (kpE0 : PySem.W.keepIn K (.ref e0) = true)
    (inE0 : PySem.W.findIn K (.ref e0) "__init__" = some (some (.ref fI0)))
    (tiE0 : PySem.W.typeIn K (.ref fI0) = some (.type "function"))
    (lIK0 : K.lookup fI0 = some ⟨oc_I0, od_I0, .func (PySem.W.ksFn "__init__" "InvalidWidth.__init__" (defArgs s_I0) (defBody s_I0) (defScope s_I0) .none kV_I0 dc_I0 pm_I0 an_I0 (.ref cda0) ct_I0 ccell0), sl_I0⟩)
    (cIK0 : PySem.W.codeIn K (.ref cda0) "InvalidWidth.__init__" = true)
    (lcd0 : K.lookup cda0 = some ⟨ccl_I0, cdd_I0, .fields vs_I0, ccs_I0⟩)
    (vsI0 : vs_I0[2]? = some (.str file_I0 tf_I0))
    (fiI0 : ((l.prog.main.file : Str) == file_I0) = true)
    (lcc0 : K.lookup ccell0 = some ⟨cl_I0, cld_I0, .cell (some (.ref e0)), csl_I0⟩)
    (sbI0 : PySem.W.mroIn K e0 (.ref e0) = some true)
    (veI0 : PySem.W.mroIn K e0 (.type "ValueError") = some true)
    (suI0 : PySem.W.ks_superIn K e0 e0 "__init__" = some (some (.builtin "ValueError.__init__")))
    (aE2 : PySem.W.nsIn K mainGlobals "InvalidWord" = some (some (.ref e2)))
    (xs2 : PySem.W.subIn K (.ref e2) (.type "BaseException") = some true)
    (xv2 : PySem.W.findIn K (.ref e2) "value" = some none)
    (lkE2 : K.lookup e2 = some o_E2)
    (lkF2 : o_E2 = (excClassObj nm_E2 qq_E2 e2 N_E2 bs_E2 bm_E2 true sn_E2 sub_E2 ab_E2 col_E2 dd_E2 k0_E2 k1_E2 k2_E2 k3_E2 k5_E2 "ValueError.__new__"))
    (rvE2 : PySem.HandSPX.refsVE bm_E2 = true)
    (saE2 : PySem.W.findIn K (.ref e2) "__setattr__" = some (some (.builtin "object.__setattr__")))
    (tyE2 : PySem.W.typeIn K (.ref e2) = some (.type "type"))
    (kpE2 : PySem.W.keepIn K (.ref e2) = true)
    (inE2 : PySem.W.findIn K (.ref e2) "__init__" = some (some (.ref fI2)))
    (tiE2 : PySem.W.typeIn K (.ref fI2) = some (.type "function"))
    (lIK2 : K.lookup fI2 = some ⟨oc_I2, od_I2, .func (PySem.W.ksFn "__init__" "InvalidWord.__init__" (defArgs s_I2) (defBody s_I2) (defScope s_I2) .none kV_I2 dc_I2 pm_I2 an_I2 (.ref cda2) ct_I2 ccell2), sl_I2⟩)
    (cIK2 : PySem.W.codeIn K (.ref cda2) "InvalidWord.__init__" = true)
    (lcd2 : K.lookup cda2 = some ⟨ccl_I2, cdd_I2, .fields vs_I2, ccs_I2⟩)
    (vsI2 : vs_I2[2]? = some (.str file_I2 tf_I2))
    (fiI2 : ((l.prog.main.file : Str) == file_I2) = true)
    (lcc2 : K.lookup ccell2 = some ⟨cl_I2, cld_I2, .cell (some (.ref e2)), csl_I2⟩)
    (sbI2 : PySem.W.mroIn K e2 (.ref e2) = some true)
    (veI2 : PySem.W.mroIn K e2 (.type "ValueError") = some true)
    (suI2 : PySem.W.ks_superIn K e2 e2 "__init__" = some (some (.builtin "ValueError.__init__")))
    (aE3 : PySem.W.nsIn K mainGlobals "InvalidShift" = some (some (.ref e3)))
    (xs3 : PySem.W.subIn K (.ref e3) (.type "BaseException") = some true)
    (xv3 : PySem.W.findIn K (.ref e3) "value" = some none)
    (lkE3 : K.lookup e3 = some o_E3)
    (lkF3 : o_E3 = (excClassObj nm_E3 qq_E3 e3 N_E3 bs_E3 bm_E3 true sn_E3 sub_E3 ab_E3 col_E3 dd_E3 k0_E3 k1_E3 k2_E3 k3_E3 k5_E3 "ValueError.__new__"))
    (rvE3 : PySem.HandSPX.refsVE bm_E3 = true)
    (saE3 : PySem.W.findIn K (.ref e3) "__setattr__" = some (some (.builtin "object.__setattr__")))
    (tyE3 : PySem.W.typeIn K (.ref e3) = some (.type "type"))
    (kpE3 : PySem.W.keepIn K (.ref e3) = true)
    (inE3 : PySem.W.findIn K (.ref e3) "__init__" = some (some (.ref fI3)))
    (tiE3 : PySem.W.typeIn K (.ref fI3) = some (.type "function"))
    (lIK3 : K.lookup fI3 = some ⟨oc_I3, od_I3, .func (PySem.W.ksFn "__init__" "InvalidShift.__init__" (defArgs s_I3) (defBody s_I3) (defScope s_I3) .none kV_I3 dc_I3 pm_I3 an_I3 (.ref cda3) ct_I3 ccell3), sl_I3⟩)
    (cIK3 : PySem.W.codeIn K (.ref cda3) "InvalidShift.__init__" = true)
    (lcd3 : K.lookup cda3 = some ⟨ccl_I3, cdd_I3, .fields vs_I3, ccs_I3⟩)
    (vsI3 : vs_I3[2]? = some (.str file_I3 tf_I3))
    (fiI3 : ((l.prog.main.file : Str) == file_I3) = true)
    (lcc3 : K.lookup ccell3 = some ⟨cl_I3, cld_I3, .cell (some (.ref e3)), csl_I3⟩)
    (sbI3 : PySem.W.mroIn K e3 (.ref e3) = some true)
    (veI3 : PySem.W.mroIn K e3 (.type "ValueError") = some true)
    (suI3 : PySem.W.ks_superIn K e3 e3 "__init__" = some (some (.builtin "ValueError.__init__")))
    (tpI : (l.prog.main.scope.names.lookup ("super" : Str)).isSome = false)
    (opI : PySem.W.nsIn K cStatics "thirdparty.any" = some none)
    (fnCB : PySem.W.fnIn K f_Blend___call__ = true)
    (sfB : PySem.W.selfFirst K C_Blend = true)
    (sub_int : PySem.W.subIn K (.ref C_Blend) (.type "int") = some false)
    (sub_bool : PySem.W.subIn K (.ref C_Blend) (.type "bool") = some false)
    (sub_dict : PySem.W.subIn K (.ref C_Blend) (.type "dict") = some false)
    (d_and : PySem.W.findIn K (.ref C_Blend) (PySem.dunder Operator.BitAnd.info.2) = some (some (.ref f_Blend___and__)))
    (r_and : PySem.W.findIn K (.ref C_Blend) (dunderR Operator.BitAnd.info.2) = some (some (.ref f_Blend___rand__)))
    (in_KB : PySem.W.findIn K (.ref C_KindBit) "__init__" = some (some (.ref f_KindBit___init__)))
    (l_KindBit___init__ : K.lookup f_KindBit___init__ = some ⟨oc_KindBit___init__, od_KindBit___init__, .func (PySem.W.ksFn "__init__" "KindBit.__init__" (defArgs s_KindBit___init__) (defBody s_KindBit___init__) (defScope s_KindBit___init__) (.ref DT_KindBit___init__) kV_KindBit___init__ dc_KindBit___init__ pm_KindBit___init__ an_KindBit___init__ (.ref cda_KindBit___init__) ct_KindBit___init__ cc_KindBit___init__), sl_KindBit___init__⟩)
    (c_KindBit___init__ : PySem.W.codeIn K (.ref cda_KindBit___init__) "KindBit.__init__" = true)
    (ld_KindBit___init__ : K.lookup cda_KindBit___init__ = some ⟨ccl_KindBit___init__, cdd_KindBit___init__, .fields vs_KindBit___init__, ccs_KindBit___init__⟩)
    (vs2_KindBit___init__ : vs_KindBit___init__[2]? = some (.str file_KindBit___init__ tf_KindBit___init__))
    (fi2_KindBit___init__ : ((l.prog.main.file : Str) == file_KindBit___init__) = true)
    (lc_KindBit___init__ : K.lookup cc_KindBit___init__ = some ⟨cl_KindBit___init__, cld_KindBit___init__, .cell (some (.ref C_KindBit)), csl_KindBit___init__⟩)
    (dcl_KindBit___init__ : ∃ cd, PySem.W.clsIn K C_KindBit = some cd)
    (i_KindBit___init__ : PySem.W.isFn K (.ref f_KindBit___init__) = true)
    (k_KindBit___init__ : PySem.W.keepIn K (.ref f_KindBit___init__) = true)
    (dt_KindBit___init__ : K.lookup DT_KindBit___init__ = some ⟨.type "tuple", dd_DT_KindBit___init__, .seq #[.int 0 tk_KindBit___init__] n_DT_KindBit___init__, sl_DT_KindBit___init__⟩)
    (nw_KB : PySem.W.findIn K (.ref C_KindBit) "now" = some (some (.ref p_Bit_now)))
    (st_KB : PySem.W.findIn K (.ref C_KindBit) "state" = some (some (.ref p_Bit_state)))
    (ti_Bi : PySem.W.typeIn K (.ref f_Bit___init__) = some (.type "function"))
    (fn_Bi : PySem.W.fnIn K f_Bit___init__ = true)
    (su_KB : PySem.W.ks_superIn K C_KindBit C_KindBit "__init__" = some (some (.ref f_Bit___init__)))
    (sb_KB : PySem.W.mroIn K C_KindBit (.ref C_KindBit) = some true)
    (z_int : PySem.W.nsIn K mainGlobals "int" = some none)
    (z_abs : PySem.W.nsIn K mainGlobals "abs" = some none)
    (z_len : PySem.W.nsIn K mainGlobals "len" = some none)
    (z_list : PySem.W.nsIn K mainGlobals "list" = some none)
    (z_tuple : PySem.W.nsIn K mainGlobals "tuple" = some none)
    (z_max : PySem.W.nsIn K mainGlobals "max" = some none)
    (z_range : PySem.W.nsIn K mainGlobals "range" = some none)
    (z_isinstance : PySem.W.nsIn K mainGlobals "isinstance" = some none)
    (z_repr : PySem.W.nsIn K mainGlobals "repr" = some none)
    (z_str : PySem.W.nsIn K mainGlobals "str" = some none)
    (z_sorted : PySem.W.nsIn K mainGlobals "sorted" = some none)
    (z_set : PySem.W.nsIn K mainGlobals "set" = some none)
    (z_zip : PySem.W.nsIn K mainGlobals "zip" = some none)
    (z_enumerate : PySem.W.nsIn K mainGlobals "enumerate" = some none)
    (z_all : PySem.W.nsIn K mainGlobals "all" = some none)
    (z_bool : PySem.W.nsIn K mainGlobals "bool" = some none)
    (z_dict : PySem.W.nsIn K mainGlobals "dict" = some none)
    (z_sum : PySem.W.nsIn K mainGlobals "sum" = some none)
    (z_ValueError : PySem.W.nsIn K mainGlobals "ValueError" = some none)
    (z_super : PySem.W.nsIn K mainGlobals "super" = some none)
    : ∃ fd : FuncData, (∀ (s : Shared) (v : Value), BindsTo s fd ⟨[v], []⟩ [("_law_script", v)]) ∧ ∀ base : Heap, K.In base → base.Ns mainGlobals mg → KG.FnG l.prog w K mg base CX0 14 fa fd ["_law_script"] (spLaw K) := by
  have e := hfa.symm.trans (PySem.W.mg_of X G a_law)
  cases e
  have F_Kind___init__ := fun_mk (st := s_Kind___init__) l_Kind___init__ c_Kind___init__ k_Kind___init__
  have b_Kind___init__ := F_Kind___init__.binds (ps := ["self", "reading", "writing", "device"]) fun _ _ _ _ _ _ us hl => match us, hl with | [_, _, _, _], _ => rfl
  have F_Kind___eq__ := fun_mk (st := s_Kind___eq__) l_Kind___eq__ c_Kind___eq__ k_Kind___eq__
  have b_Kind___eq__ := F_Kind___eq__.binds (ps := ["self", "other"]) fun _ _ _ _ _ _ us hl => match us, hl with | [_, _], _ => rfl
  have F_Kind_after_read := fun_mk (st := s_Kind_after_read) l_Kind_after_read c_Kind_after_read k_Kind_after_read
  have b_Kind_after_read := F_Kind_after_read.binds (ps := ["self", "state"]) fun _ _ _ _ _ _ us hl => match us, hl with | [_, _], _ => rfl
  have F_Kind_after_write := fun_mk (st := s_Kind_after_write) l_Kind_after_write c_Kind_after_write k_Kind_after_write
  have b_Kind_after_write := F_Kind_after_write.binds (ps := ["self", "state", "bit"]) fun _ _ _ _ _ _ us hl => match us, hl with | [_, _, _], _ => rfl
  have F_Kind_unguarded := fun_mk (st := s_Kind_unguarded) l_Kind_unguarded c_Kind_unguarded k_Kind_unguarded
  have b_Kind_unguarded := F_Kind_unguarded.binds (ps := ["self", "state", "bit"]) fun _ _ _ _ _ _ us hl => match us, hl with | [_, _, _], _ => rfl
  have F_Kind_deeds := fun_mk (st := s_Kind_deeds) l_Kind_deeds c_Kind_deeds k_Kind_deeds
  have b_Kind_deeds := F_Kind_deeds.binds (ps := ["self", "state"]) fun _ _ _ _ _ _ us hl => match us, hl with | [_, _], _ => rfl
  have F_need_letters := fun_mk (st := s_need_letters) l_need_letters c_need_letters k_need_letters
  have b_need_letters := F_need_letters.binds (ps := ["letters"]) fun _ _ _ _ _ _ us hl => match us, hl with | [_], _ => rfl
  have F_with_deeds := fun_mk (st := s_with_deeds) l_with_deeds c_with_deeds k_with_deeds
  have b_with_deeds := F_with_deeds.binds (ps := ["kind", "states", "quiet"]) fun _ _ _ _ _ _ us hl => match us, hl with | [_, _, _], _ => rfl
  have F_after_letter := fun_mk (st := s_after_letter) l_after_letter c_after_letter k_after_letter
  have b_after_letter := F_after_letter.binds (ps := ["kind", "state", "letter"]) fun _ _ _ _ _ _ us hl => match us, hl with | [_, _, _], _ => rfl
  have F_longer := fun_mk (st := s_longer) l_longer c_longer k_longer
  have b_longer := F_longer.binds (ps := ["kind", "ends", "letter", "quiet"]) fun _ _ _ _ _ _ us hl => match us, hl with | [_, _, _, _], _ => rfl
  have F_Effect___init__ := fun_mk (st := s_Effect___init__) l_Effect___init__ c_Effect___init__ k_Effect___init__
  have b_Effect___init__ := F_Effect___init__.binds (ps := ["self", "kind", "ends"]) fun _ _ _ _ _ _ us hl => match us, hl with | [_, _, _], _ => rfl
  have F_Effect_of := fun_mk (st := s_Effect_of) l_Effect_of c_Effect_of k_Effect_of
  have F_Effect___call__ := fun_mk (st := s_Effect___call__) l_Effect___call__ c_Effect___call__ k_Effect___call__
  have b_Effect___call__ := F_Effect___call__.binds (ps := ["self", "state"]) fun _ _ _ _ _ _ us hl => match us, hl with | [_, _], _ => rfl
  have F_Effect___eq__ := fun_mk (st := s_Effect___eq__) l_Effect___eq__ c_Effect___eq__ k_Effect___eq__
  have b_Effect___eq__ := F_Effect___eq__.binds (ps := ["self", "other"]) fun _ _ _ _ _ _ us hl => match us, hl with | [_, _], _ => rfl
  have F_all_effects := fun_mk (st := s_all_effects) l_all_effects c_all_effects k_all_effects
  have F_shortest := fun_mk (st := s_shortest) l_shortest c_shortest k_shortest
  have F_is_integer := fun_mk (st := s_is_integer) l_is_integer c_is_integer k_is_integer
  have b_is_integer := F_is_integer.binds (ps := ["value"]) fun _ _ _ _ _ _ us hl => match us, hl with | [_], _ => rfl
  have F_need_width := fun_mk (st := s_need_width) l_need_width c_need_width k_need_width
  have b_need_width := F_need_width.binds (ps := ["width"]) fun _ _ _ _ _ _ us hl => match us, hl with | [_], _ => rfl
  have F_ones := fun_mk (st := s_ones) l_ones c_ones k_ones
  have b_ones := F_ones.binds (ps := ["width"]) fun _ _ _ _ _ _ us hl => match us, hl with | [_], _ => rfl
  have F_is_word := fun_mk (st := s_is_word) l_is_word c_is_word k_is_word
  have b_is_word := F_is_word.binds (ps := ["width", "value"]) fun _ _ _ _ _ _ us hl => match us, hl with | [_, _], _ => rfl
  have F_need_word := fun_mk (st := s_need_word) l_need_word c_need_word k_need_word
  have b_need_word := F_need_word.binds (ps := ["width", "value"]) fun _ _ _ _ _ _ us hl => match us, hl with | [_, _], _ => rfl
  have F_shifted := fun_mk (st := s_shifted) l_shifted c_shifted k_shifted
  have b_shifted := F_shifted.binds (ps := ["value", "width", "shift"]) fun _ _ _ _ _ _ us hl => match us, hl with | [_, _, _], _ => rfl
  have F_Blend___call__ := fun_mk (st := s_Blend___call__) l_Blend___call__ c_Blend___call__ k_Blend___call__
  have b_Blend___call__ := F_Blend___call__.binds (ps := ["self", "value"]) fun _ _ _ _ _ _ us hl => match us, hl with | [_, _], _ => rfl
  have F_Blend___and__ := fun_mk (st := s_Blend___and__) l_Blend___and__ c_Blend___and__ k_Blend___and__
  have b_Blend___and__ := F_Blend___and__.binds (ps := ["self", "other"]) fun _ _ _ _ _ _ us hl => match us, hl with | [_, _], _ => rfl
  have F_Blend___rand__ := fun_mk (st := s_Blend___rand__) l_Blend___rand__ c_Blend___rand__ k_Blend___rand__
  have b_Blend___rand__ := F_Blend___rand__.binds (ps := ["self", "other"]) fun _ _ _ _ _ _ us hl => match us, hl with | [_, _], _ => rfl
  have F_Blend___repr__ := fun_mk (st := s_Blend___repr__) l_Blend___repr__ c_Blend___repr__ k_Blend___repr__
  have b_Blend___repr__ := F_Blend___repr__.binds (ps := ["self"]) fun _ _ _ _ _ _ us hl => match us, hl with | [_], _ => rfl
  have F_Blend_sources := fun_mk (st := s_Blend_sources) l_Blend_sources c_Blend_sources k_Blend_sources
  have b_Blend_sources := F_Blend_sources.binds (ps := ["self"]) fun _ _ _ _ _ _ us hl => match us, hl with | [_], _ => rfl
  have F_need_bit := fun_mk (st := s_need_bit) l_need_bit c_need_bit k_need_bit
  have b_need_bit := F_need_bit.binds (ps := ["value"]) fun _ _ _ _ _ _ us hl => match us, hl with | [_], _ => rfl
  have F_Bit_now := fun_mk (st := s_Bit_now) l_Bit_now c_Bit_now k_Bit_now
  have b_Bit_now := F_Bit_now.binds (ps := ["self"]) fun _ _ _ _ _ _ us hl => match us, hl with | [_], _ => rfl
  have F_Bit_state := fun_mk (st := s_Bit_state) l_Bit_state c_Bit_state k_Bit_state
  have b_Bit_state := F_Bit_state.binds (ps := ["self"]) fun _ _ _ _ _ _ us hl => match us, hl with | [_], _ => rfl
  have F_KindBit_read := fun_mk (st := s_KindBit_read) l_KindBit_read c_KindBit_read k_KindBit_read
  have b_KindBit_read := F_KindBit_read.binds (ps := ["self"]) fun _ _ _ _ _ _ us hl => match us, hl with | [_], _ => rfl
  have F_KindBit_write := fun_mk (st := s_KindBit_write) l_KindBit_write c_KindBit_write k_KindBit_write
  have b_KindBit_write := F_KindBit_write.binds (ps := ["self", "bit"]) fun _ _ _ _ _ _ us hl => match us, hl with | [_, _], _ => rfl
  have F_KindBit_deed := fun_mk (st := s_KindBit_deed) l_KindBit_deed c_KindBit_deed k_KindBit_deed
  have b_KindBit_deed := F_KindBit_deed.binds (ps := ["self"]) fun _ _ _ _ _ _ us hl => match us, hl with | [_], _ => rfl
  have F__law_pen := fun_mk (st := s__law_pen) l__law_pen c__law_pen k__law_pen
  have b__law_pen := F__law_pen.binds (ps := ["_law_script"]) fun _ _ _ _ _ _ us hl => match us, hl with | [_], _ => rfl
  have F__law_draw := fun_mk (st := s__law_draw) l__law_draw c__law_draw k__law_draw
  have b__law_draw := F__law_draw.binds (ps := ["_law_pen_here", "_law_many"]) fun _ _ _ _ _ _ us hl => match us, hl with | [_, _], _ => rfl
  have F__law_word := fun_mk (st := s__law_word) l__law_word c__law_word k__law_word
  have b__law_word := F__law_word.binds (ps := ["_law_pen_here", "_law_width"]) fun _ _ _ _ _ _ us hl => match us, hl with | [_, _], _ => rfl
  have F__law_deeds := fun_mk (st := s__law_deeds) l__law_deeds c__law_deeds k__law_deeds
  have b__law_deeds := F__law_deeds.binds (ps := ["_law_device", "_law_state"]) fun _ _ _ _ _ _ us hl => match us, hl with | [_, _], _ => rfl
  have F__law_words := fun_mk (st := s__law_words) l__law_words c__law_words k__law_words
  have b__law_words := F__law_words.binds (ps := ["_law_pen_here"]) fun _ _ _ _ _ _ us hl => match us, hl with | [_], _ => rfl
  have F__law_blended := fun_mk (st := s__law_blended) l__law_blended c__law_blended k__law_blended
  have b__law_blended := F__law_blended.binds (ps := ["_law_blend", "_law_word_here"]) fun _ _ _ _ _ _ us hl => match us, hl with | [_, _], _ => rfl
  have F__law_read_all := fun_mk (st := s__law_read_all) l__law_read_all c__law_read_all k__law_read_all
  have b__law_read_all := F__law_read_all.binds (ps := ["_law_bits"]) fun _ _ _ _ _ _ us hl => match us, hl with | [_], _ => rfl
  have F__law_act := fun_mk (st := s__law_act) l__law_act c__law_act k__law_act
  have b__law_act := F__law_act.binds (ps := ["_law_pen_here", "_law_bits", "_law_texts", "_law_last"]) fun _ _ _ _ _ _ us hl => match us, hl with | [_, _, _, _], _ => rfl
  have F_law := fun_mk (st := s_law) l_law c_law k_law
  have b_law := F_law.binds (ps := ["_law_script"]) fun _ _ _ _ _ _ us hl => match us, hl with | [_], _ => rfl

  have cK : Cls K C_Kind := ⟨pg_Kind, hd_Kind, po_Kind, sa_Kind⟩
  have cE : Cls K C_Effect := ⟨pg_Effect, hd_Effect, po_Effect, sa_Effect⟩
  have TM : TxtM K w mg C_Kind dM := {
    z_int := PySem.W.mg_none_of X G z_int, z_abs := PySem.W.mg_none_of X G z_abs, z_len := PySem.W.mg_none_of X G z_len, z_list := PySem.W.mg_none_of X G z_list, z_tuple := PySem.W.mg_none_of X G z_tuple, z_max := PySem.W.mg_none_of X G z_max, z_range := PySem.W.mg_none_of X G z_range, z_isinstance := PySem.W.mg_none_of X G z_isinstance, z_repr := PySem.W.mg_none_of X G z_repr, z_str := PySem.W.mg_none_of X G z_str, z_sorted := PySem.W.mg_none_of X G z_sorted, z_set := PySem.W.mg_none_of X G z_set, z_zip := PySem.W.mg_none_of X G z_zip, z_enumerate := PySem.W.mg_none_of X G z_enumerate, z_all := PySem.W.mg_none_of X G z_all, z_bool := PySem.W.mg_none_of X G z_bool, z_dict := PySem.W.mg_none_of X G z_dict, z_sum := PySem.W.mg_none_of X G z_sum, z_ValueError := PySem.W.mg_none_of X G z_ValueError
    cl := cK, n_reading := n_Kind_reading, n_writing := n_Kind_writing, n_device := n_Kind_device, n_states := n_Kind_states, mg_Kind := PySem.W.mg_of X G aC_Kind
    con := ⟨.type "type", t_Kind_READINGS, t_Kind_WRITINGS, t_Kind_DEVICES, _, _, _, ⟨rd_Kind, ga_Kind⟩, ⟨fc_t_Kind_READINGS, rfl⟩, ⟨fc_t_Kind_WRITINGS, rfl⟩, ⟨fc_t_Kind_DEVICES, rfl⟩,
      sqK lk_t_Kind_READINGS (by simp) (.cons ⟨_, rfl⟩ (.cons ⟨_, rfl⟩ .nil)),
      sqK lk_t_Kind_WRITINGS (by simp) (.cons ⟨_, rfl⟩ (.cons ⟨_, rfl⟩ (.cons ⟨_, rfl⟩ (.cons ⟨_, rfl⟩ (.cons ⟨_, rfl⟩ (.cons ⟨_, rfl⟩ (.cons ⟨_, rfl⟩ .nil))))))),
      sqK lk_t_Kind_DEVICES (by simp) (.cons ⟨_, rfl⟩ (.cons ⟨_, rfl⟩ (.cons ⟨_, rfl⟩ (.cons ⟨_, rfl⟩ .nil))))⟩
    ty := fun e => .base (.ins e cK tyc tyg tyt tym), isi := tyi, mg_MOVABLE := PySem.W.mg_of X G mM, mov := ⟨es_M, n_M, lM, litM, lowM⟩
    item := fun d hd => by
      simp only [DV, List.mem_cons, List.not_mem_nil, or_false] at hd
      rcases hd with rfl | rfl | rfl | rfl
      · exact ⟨a_m0, iM0, sqK tM0 (by simp) .nil⟩
      · exact ⟨a_m1, iM1, sqK tM1 (by simp) (.cons ⟨_, rfl⟩ .nil)⟩
      · exact ⟨a_m2, iM2, sqK tM2 (by simp) (.cons ⟨_, rfl⟩ .nil)⟩
      · exact ⟨a_m3, iM3, sqK tM3 (by simp) (.cons ⟨_, rfl⟩ (.cons ⟨_, rfl⟩ .nil))⟩ }
  have T : TxtF K w mg C_Kind dM C_Effect := {
    toTxtM := TM, cle := cE, n_kind := n_Effect_kind, n_ends := n_Effect_ends, mg_Effect := PySem.W.mg_of X G aC_Effect
    g_LETTERS := ⟨_, PySem.W.mg_of X G gLT⟩, g_MOST := ⟨_, PySem.W.mg_of X G gML⟩
    tyE := fun e => .base (.ins e cE tycF tyg tyt tymF), isiE := tyiF }
  have TK := TM.toTxtK
  have T0 := TK.toTxt
  have cB : Cls K C_Blend := ⟨pg_Blend, hd_Blend, po_Blend, sa_Blend⟩
  have TB : TxtB K mg C_Blend aW := {
    toTxt := T0, cl := cB, n_width := n_Blend_width, n_shift := n_Blend_shift, n_keep := n_Blend_keep, n_flip := n_Blend_flip, mg_Blend := PySem.W.mg_of X G aC_Blend, mg_WIDTHS := PySem.W.mg_of X G aWd
    widths := sqK lWd (by simp) (.cons ⟨_, rfl⟩ (.cons ⟨_, rfl⟩ (.cons ⟨_, rfl⟩ .nil))) }
  have tk : TxtKB K C_KindBit := ⟨⟨pg_KindBit, hd_KindBit, po_KindBit, sa_KindBit⟩, n_KindBit_held⟩
  have hsup : mg "super" = none := PySem.W.mg_none_of X G z_super
  have OX0 : OexC K e0 := ⟨⟨nm_E0, qq_E0, N_E0, bs_E0, bm_E0, sn_E0, sub_E0, ab_E0, col_E0, dd_E0, k0_E0, k1_E0, k2_E0, k3_E0, k5_E0, lkE0.trans (congrArg some lkF0), rvE0⟩, saE0, xs0, tyE0, kpE0⟩
  have SF0 : KX.SupFn K l.prog fI0 (PySem.W.ksFn "__init__" "InvalidWidth.__init__" (defArgs s_I0) (defBody s_I0) (defScope s_I0) .none kV_I0 dc_I0 pm_I0 an_I0 (.ref cda0) ct_I0 ccell0) e0 "value" "value" := {
    ex := ⟨"InvalidWidth.__init__", defArgs s_I0, defScope s_I0, .none, kV_I0, dc_I0, pm_I0, ct_I0, oc_I0, ccl_I0, cl_I0, an_I0, od_I0, cdd_I0, cld_I0, sl_I0, ccs_I0, csl_I0, cda0, ccell0, vs_I0, file_I0, tf_I0, _, _, _, _, _, _, _, _, _, _, _, _, _, _, rfl, lIK0, cIK0, lcd0, vsI0, fiI0, lcc0, rfl, rfl, rfl, rfl, rfl, by decide +kernel, free_only (by decide +kernel), rfl, rfl, rfl, rfl, fun en => rfl⟩
    top := tpI, nv := ⟨by decide, by decide, by decide⟩, opq := opI, sub := sbI0, ve := veI0, sup := suI0, nof := xv0 }
  have OX2 : OexC K e2 := ⟨⟨nm_E2, qq_E2, N_E2, bs_E2, bm_E2, sn_E2, sub_E2, ab_E2, col_E2, dd_E2, k0_E2, k1_E2, k2_E2, k3_E2, k5_E2, lkE2.trans (congrArg some lkF2), rvE2⟩, saE2, xs2, tyE2, kpE2⟩
  have SF2 : KX.SupFn K l.prog fI2 (PySem.W.ksFn "__init__" "InvalidWord.__init__" (defArgs s_I2) (defBody s_I2) (defScope s_I2) .none kV_I2 dc_I2 pm_I2 an_I2 (.ref cda2) ct_I2 ccell2) e2 "value" "value" := {
    ex := ⟨"InvalidWord.__init__", defArgs s_I2, defScope s_I2, .none, kV_I2, dc_I2, pm_I2, ct_I2, oc_I2, ccl_I2, cl_I2, an_I2, od_I2, cdd_I2, cld_I2, sl_I2, ccs_I2, csl_I2, cda2, ccell2, vs_I2, file_I2, tf_I2, _, _, _, _, _, _, _, _, _, _, _, _, _, _, rfl, lIK2, cIK2, lcd2, vsI2, fiI2, lcc2, rfl, rfl, rfl, rfl, rfl, by decide +kernel, free_only (by decide +kernel), rfl, rfl, rfl, rfl, fun en => rfl⟩
    top := tpI, nv := ⟨by decide, by decide, by decide⟩, opq := opI, sub := sbI2, ve := veI2, sup := suI2, nof := xv2 }
  have OX3 : OexC K e3 := ⟨⟨nm_E3, qq_E3, N_E3, bs_E3, bm_E3, sn_E3, sub_E3, ab_E3, col_E3, dd_E3, k0_E3, k1_E3, k2_E3, k3_E3, k5_E3, lkE3.trans (congrArg some lkF3), rvE3⟩, saE3, xs3, tyE3, kpE3⟩
  have SF3 : KX.SupFn K l.prog fI3 (PySem.W.ksFn "__init__" "InvalidShift.__init__" (defArgs s_I3) (defBody s_I3) (defScope s_I3) .none kV_I3 dc_I3 pm_I3 an_I3 (.ref cda3) ct_I3 ccell3) e3 "value" "value" := {
    ex := ⟨"InvalidShift.__init__", defArgs s_I3, defScope s_I3, .none, kV_I3, dc_I3, pm_I3, ct_I3, oc_I3, ccl_I3, cl_I3, an_I3, od_I3, cdd_I3, cld_I3, sl_I3, ccs_I3, csl_I3, cda3, ccell3, vs_I3, file_I3, tf_I3, _, _, _, _, _, _, _, _, _, _, _, _, _, _, rfl, lIK3, cIK3, lcd3, vsI3, fiI3, lcc3, rfl, rfl, rfl, rfl, rfl, by decide +kernel, free_only (by decide +kernel), rfl, rfl, rfl, rfl, fun en => rfl⟩
    top := tpI, nv := ⟨by decide, by decide, by decide⟩, opq := opI, sub := sbI3, ve := veI3, sup := suI3, nof := xv3 }
  have SFK : SF l.prog K f_KindBit___init__ (PySem.W.ksFn "__init__" "KindBit.__init__" (defArgs s_KindBit___init__) (defBody s_KindBit___init__) (defScope s_KindBit___init__) (.ref DT_KindBit___init__) kV_KindBit___init__ dc_KindBit___init__ pm_KindBit___init__ an_KindBit___init__ (.ref cda_KindBit___init__) ct_KindBit___init__ cc_KindBit___init__) "__init__" "KindBit.__init__" s_KindBit___init__ cda_KindBit___init__ cc_KindBit___init__ C_KindBit := ⟨⟨_, _, _, _, _, _, _, _, _, rfl, l_KindBit___init__⟩, c_KindBit___init__, ⟨_, _, _, _, _, _, ld_KindBit___init__, vs2_KindBit___init__, fi2_KindBit___init__⟩, ⟨_, _, _, lc_KindBit___init__⟩, tpI, opI, dcl_KindBit___init__⟩
  have b3K : Binds K (PySem.W.ksFn "__init__" "KindBit.__init__" (defArgs s_KindBit___init__) (defBody s_KindBit___init__) (defScope s_KindBit___init__) (.ref DT_KindBit___init__) kV_KindBit___init__ dc_KindBit___init__ pm_KindBit___init__ an_KindBit___init__ (.ref cda_KindBit___init__) ct_KindBit___init__ cc_KindBit___init__) ["self", "kind", "value"] [] := fun s us hX hl => match us, (show us.length = 3 by simpa using hl) with
    | [u1, u2, u3], _ => by
      obtain ⟨k, e1, e2⟩ : ∃ k, bindArgs (PySem.W.ksFn "__init__" "KindBit.__init__" (defArgs s_KindBit___init__) (defBody s_KindBit___init__) (defScope s_KindBit___init__) (.ref DT_KindBit___init__) kV_KindBit___init__ dc_KindBit___init__ pm_KindBit___init__ an_KindBit___init__ (.ref cda_KindBit___init__) ct_KindBit___init__ cc_KindBit___init__) ⟨[u1, u2, u3], []⟩ = seqItems? (.ref DT_KindBit___init__) >>= k ∧ k (some #[.int 0 tk_KindBit___init__]) = pure ((["self", "kind", "value"] : List Str).zip [u1, u2, u3]) := ⟨_, rfl, rfl⟩
      refine BindsTo.of_looks fun M => ?_
      show PySem.W.Looks M s.heap (bindArgs _ ⟨[u1, u2, u3], []⟩) _
      rw [e1]
      exact looks_items hX dt_KindBit___init__ rfl (.of_pure e2)
  refine ⟨PySem.W.fnOf "law" "law" (defArgs s_law) (defBody s_law) (defScope s_law) .none kV_law dc_law pm_law an_law cd_law ct_law, fun s v => .of_eq rfl, fun base _ _ => ?_⟩
  have mu : CalleeM l.prog w K mg base CX0 1 C_Kind "unguarded" ["self", "state", "bit"] (spUng C_Kind) := ⟨⟨_, _, ok_unguarded F_Kind_unguarded TK, ⟨a_Kind_unguarded, i_Kind_unguarded, k_Kind_unguarded⟩, b_Kind_unguarded⟩, cK⟩
  have ow : FnOk l.prog w K mg base CX0 2 f_Kind_after_write _ ["self", "state", "bit"] (spWrite C_Kind) := ok_after_write (k := 0) (j := 0) F_Kind_after_write TK mu
  have mw : CalleeM l.prog w K mg base CX0 2 C_Kind "after_write" ["self", "state", "bit"] (spWrite C_Kind) := ⟨⟨_, _, ow, ⟨a_Kind_after_write, i_Kind_after_write, k_Kind_after_write⟩, b_Kind_after_write⟩, cK⟩
  have mr : CalleeM l.prog w K mg base CX0 1 C_Kind "after_read" ["self", "state"] (spRead C_Kind) := ⟨⟨_, _, ok_after_read F_Kind_after_read TK, ⟨a_Kind_after_read, i_Kind_after_read, k_Kind_after_read⟩, b_Kind_after_read⟩, cK⟩
  have md : CalleeM l.prog w K mg base CX0 1 C_Kind "deeds" ["self", "state"] (spDeedsK C_Kind) := ⟨⟨_, _, ok_deedsK F_Kind_deeds TM, ⟨a_Kind_deeds, i_Kind_deeds, k_Kind_deeds⟩, b_Kind_deeds⟩, cK⟩
  have ci : CalleeI l.prog w K mg base CX0 1 C_Kind "Kind" ["self", "reading", "writing", "device"] (spKind C_Kind) := ⟨⟨_, _, ok_kind F_Kind___init__ TK, ⟨mk_Kind, a_Kind___init__, i_Kind___init__, kc_Kind⟩, TM.mg_Kind, b_Kind___init__⟩⟩
  have oe : OwnM l.prog w K mg base 1 C_Kind "__eq__" ["self", "other"] (spEq C_Kind) := ⟨⟨_, _, a_Kind___eq__, i_Kind___eq__, ok_eqK F_Kind___eq__ TM, b_Kind___eq__⟩⟩
  have on_ : OwnNe l.prog w K mg base 1 C_Kind ["self", "other"] (spEq C_Kind) := ⟨⟨_, _, ⟨⟨_, _, _, _, _, _, _, _, _, _, _, _, _, _, _, _, lkK.trans (congrArg some lkO), nsO K nsK, neq, nne⟩, ⟨_, l_Kind___eq__, foK⟩⟩, ok_eqK F_Kind___eq__ TM, b_Kind___eq__⟩⟩
  have cnl : KB.Callee l.prog w K mg base CX0 1 "need_letters" ["letters"] (spNL) := ⟨⟨_, _, ok_nl F_need_letters T, PySem.W.mg_of X G a_need_letters, k_need_letters, b_need_letters⟩⟩
  have cwd : KB.Callee l.prog w K mg base CX0 3 "with_deeds" ["kind", "states", "quiet"] (spWD C_Kind) := ⟨⟨_, _, ok_wd F_with_deeds T0 md, PySem.W.mg_of X G a_with_deeds, k_with_deeds, b_with_deeds⟩⟩
  have cal_ : KB.Callee l.prog w K mg base CX0 3 "after_letter" ["kind", "state", "letter"] (spAL C_Kind) := ⟨⟨_, _, ok_al F_after_letter T0 mr mw, PySem.W.mg_of X G a_after_letter, k_after_letter, b_after_letter⟩⟩
  have clo_ : KB.Callee l.prog w K mg base CX0 4 "longer" ["kind", "ends", "letter", "quiet"] (spLonger C_Kind) := ⟨⟨_, _, ok_longer F_longer T0 cal_ cwd, PySem.W.mg_of X G a_longer, k_longer, b_longer⟩⟩
  have cei : CalleeI l.prog w K mg base CX0 1 C_Effect "Effect" ["self", "kind", "ends"] (spEInit C_Effect) := ⟨⟨_, _, ok_einit F_Effect___init__ T, ⟨mk_Effect, a_Effect___init__, i_Effect___init__, kc_Effect⟩, T.mg_Effect, b_Effect___init__⟩⟩
  have FO : FunD K "of" "Effect.of" (defArgs s_Effect_of) (defBody s_Effect_of) (defScope s_Effect_of) [] [("quiet", .bl false)] f_Effect_of _ := ⟨⟨_, _, _, _, _, _, _, _, _, _, rfl, l_Effect_of, c_Effect_of, .inl ⟨rfl, rfl⟩, .inr ⟨D_Effect_of, rfl, fun q hq => by
    rw [List.mem_singleton.mp hq]
    exact ⟨_, kw_Effect_of_quiet, rfl⟩⟩⟩, k_Effect_of⟩
  have okO : FnOk l.prog w K mg base CX0 6 f_Effect_of _ ["cls", "kind", "letters", "quiet"] (spOf C_Kind C_Effect) := ok_of FO T cnl cwd clo_ cei
  have crE : ClX.CRead K C_Effect (.type "type") := ⟨rdF, gaF⟩
  have cmE : ClX.CMet K C_Effect (.type "type") "of" p_Effect_of f_Effect_of := ⟨a_Effect_of, ⟨_, rc_Effect_of⟩, fi_Effect_of⟩
  have ck2 : KU.CalleeCK l.prog w K mg base CX0 6 C_Effect "of" ["cls", "kind", "letters", "quiet"] (spOf C_Kind C_Effect) 3 ["quiet"] gRev1 := ⟨⟨_, p_Effect_of, f_Effect_of, _, fun us ws => us ++ ws, crE, cmE, okO,
    ⟨fun s us ws _ l1 l2 => .of_eq (match us, ws, l1, l2 with | [_, _, _], [_], _, _ => rfl), fun r1 r2 => r1.append r2⟩⟩⟩
  obtain ⟨gg, kb2⟩ := kbn_def (ps := ["cls", "kind", "letters", "quiet"]) FO 3 (by simp) rfl fun D doc pm an cdv ct us ks hu hk => match us, ks, hu, hk with
    | [_, _, _], [_], _, _ => ⟨_, _, _, _, _, _, rfl, rfl, rfl⟩
  have ckd : KU.CalleeCK l.prog w K mg base CX0 6 C_Effect "of" ["cls", "kind", "letters", "quiet"] (spOf C_Kind C_Effect) 3 [] gDef := ⟨⟨_, p_Effect_of, f_Effect_of, _, gg, crE, cmE, okO, kb2⟩⟩
  have ocE : KC.OwnC l.prog w K mg base CX0 1 C_Effect ["self", "state"] (spECall C_Kind C_Effect) := ⟨⟨_, _, a_Effect___call__, i_Effect___call__, fnC, ok_ecall F_Effect___call__ T, b_Effect___call__⟩⟩
  have okA : KH.HFn l.prog w K mg base 8 20 f_all_effects _ ["kind", "quiet"] (spAllH C_Kind C_Effect) := ok_all l_all_effects c_all_effects T ck2 clo_ cei
  have hA : KH.CalleeH l.prog w K mg base 8 20 "all_effects" ["kind", "quiet"] (spAllH C_Kind C_Effect) 1 ["quiet"] gRev1 := ⟨⟨_, _, fun us ws => us ++ ws, okA, PySem.W.mg_of X G a_all_effects, k_all_effects, ⟨fun s us ws _ l1 l2 => .of_eq (match us, ws, l1, l2 with | [_], [_], _, _ => rfl), fun r1 r2 => r1.append r2⟩⟩⟩
  have FS : FunD K "shortest" "shortest" (defArgs s_shortest) (defBody s_shortest) (defScope s_shortest) [] [("quiet", .bl false)] f_shortest _ := ⟨⟨_, _, _, _, _, _, _, _, _, _, rfl, l_shortest, c_shortest, .inl ⟨rfl, rfl⟩, .inr ⟨D_shortest, rfl, fun q hq => by
    rw [List.mem_singleton.mp hq]
    exact ⟨_, kw_shortest_quiet, rfl⟩⟩⟩, k_shortest⟩
  have okS : FnOk l.prog w K mg base CX0 10 f_shortest _ ["kind", "letters", "quiet"] (spShort C_Kind) := ok_shortest FS T ck2 hA
  obtain ⟨gs, kbs⟩ := kbn_def (ps := ["kind", "letters", "quiet"]) FS 2 (by simp) rfl fun D doc pm an cdv ct us ks hu hk => match us, ks, hu, hk with
    | [_, _], [_], _, _ => ⟨_, _, _, _, _, _, rfl, rfl, rfl⟩
  have ksd : CalleeKw l.prog w K mg base CX0 10 "shortest" ["kind", "letters", "quiet"] (spShort C_Kind) 2 [] gQf := ⟨⟨_, _, gs, okS, PySem.W.mg_of X G a_shortest, k_shortest, kbs⟩⟩
  have cd : KB.Callee l.prog w K mg base CX0 1 "_law_draw" ["_law_pen_here", "_law_many"] (spDraw) := ⟨⟨_, _, ok_draw F__law_draw T0, PySem.W.mg_of X G a__law_draw, k__law_draw, b__law_draw⟩⟩
  have cp : KB.Callee l.prog w K mg base CX0 1 "_law_pen" ["_law_script"] (spPen K) := ⟨⟨_, _, ok_pen F__law_pen T0, PySem.W.mg_of X G a__law_pen, k__law_pen, b__law_pen⟩⟩
  have ce : KB.Callee l.prog w K mg base CX0 1 "_law_deeds" ["_law_device", "_law_state"] (spLD) := ⟨⟨_, _, ok_ld F__law_deeds T0, PySem.W.mg_of X G a__law_deeds, k__law_deeds, b__law_deeds⟩⟩
  have cq : KB.Callee l.prog w K mg base CX0 2 "_law_words" ["_law_pen_here"] (spWords) := ⟨⟨_, _, ok_words F__law_words T0 cd, PySem.W.mg_of X G a__law_words, k__law_words, b__law_words⟩⟩
  have em0 : KX.ErrMk l.prog w K mg base e0 "InvalidWidth" "value" := ⟨fI0, _, "value", OX0, inE0, tiE0, KX.sup_ok SF0 OX0 (PySem.W.mg_none_of X G z_super) (by decide +kernel), .all fun us hl => (match us, hl with | [_, _], _ => rfl), PySem.W.mg_of X G aE0⟩
  have em2 : KX.ErrMk l.prog w K mg base e2 "InvalidWord" "value" := ⟨fI2, _, "value", OX2, inE2, tiE2, KX.sup_ok SF2 OX2 (PySem.W.mg_none_of X G z_super) (by decide +kernel), .all fun us hl => (match us, hl with | [_, _], _ => rfl), PySem.W.mg_of X G aE2⟩
  have em3 : KX.ErrMk l.prog w K mg base e3 "InvalidShift" "value" := ⟨fI3, _, "value", OX3, inE3, tiE3, KX.sup_ok SF3 OX3 (PySem.W.mg_none_of X G z_super) (by decide +kernel), .all fun us hl => (match us, hl with | [_, _], _ => rfl), PySem.W.mg_of X G aE3⟩
  have FDB : FunD K "__init__" "Blend.__init__" (defArgs s_Blend___init__) (defBody s_Blend___init__) (defScope s_Blend___init__) [.int 0, .non, .int 0] [] f_Blend___init__ _ := ⟨⟨_, _, _, _, _, _, _, _, _, _, rfl, l_Blend___init__, c_Blend___init__, .inr ⟨by simp, DT_Blend___init__, _, [.int 0 tk_Blend___init___0, .none, .int 0 tk_Blend___init___2], _, rfl, dt_Blend___init__, rfl, .cons ⟨_, rfl⟩ (.cons rfl (.cons ⟨_, rfl⟩ .nil))⟩, .inl rfl⟩, k_Blend___init__⟩
  obtain ⟨ds5, vd5, bd5⟩ := FDB.binds1 (ps := ["self", "width", "shift", "keep", "flip"]) 5 3 (by simp) rfl fun T kV doc pm an cdv ct us its hu hi => match us, its, hu, hi with
    | [_, _, _, _, _], [_, _, _], _, _ => ⟨_, rfl, rfl⟩
  obtain rfl : ds5 = [] := by
    cases vd5
    rfl
  obtain ⟨ds2, vd2, bd2⟩ := FDB.binds1 (ps := ["self", "width", "shift", "keep", "flip"]) 2 0 (by simp) rfl fun T kV doc pm an cdv ct us its hu hi => match us, its, hu, hi with
    | [_, _], [_, _, _], _, _ => ⟨_, rfl, rfl⟩
  have cI : KB.Callee l.prog w K mg base CX0 1 "is_integer" ["value"] (spInt) := ⟨⟨_, _, ok_int F_is_integer T0, PySem.W.mg_of X G a_is_integer, k_is_integer, b_is_integer⟩⟩
  have cN1 : KB.Callee l.prog w K mg base (L2.CX l.prog w) 3 "need_width" ["width"] (spNW e0) := ⟨⟨_, _, ok_nw F_need_width TB em0 cI, PySem.W.mg_of X G a_need_width, k_need_width, b_need_width⟩⟩
  have cO1 : KB.Callee l.prog w K mg base CX0 1 "ones" ["width"] (spOnes) := ⟨⟨_, _, ok_ones F_ones, PySem.W.mg_of X G a_ones, k_ones, b_ones⟩⟩
  have cS : KB.Callee l.prog w K mg base CX0 2 "shifted" ["value", "width", "shift"] (spSh) := ⟨⟨_, _, ok_sh F_shifted cO1, PySem.W.mg_of X G a_shifted, k_shifted, b_shifted⟩⟩
  have cW : KB.Callee l.prog w K mg base CX0 4 "is_word" ["width", "value"] (spIsWord) := ⟨⟨_, _, ok_isword (C := C_Blend) (aW := aW) F_is_word cN1 cI cO1, PySem.W.mg_of X G a_is_word, k_is_word, b_is_word⟩⟩
  have cD : KB.Callee l.prog w K mg base (L2.CX l.prog w) 5 "need_word" ["width", "value"] (spNeed e2) := ⟨⟨_, _, ok_need F_need_word em2 cW, PySem.W.mg_of X G a_need_word, k_need_word, b_need_word⟩⟩
  have okb : FnOk l.prog w K mg base (L2.CX l.prog w) 6 f_Blend___init__ _ ["self", "width", "shift", "keep", "flip"] (spBlend C_Blend e0 e3 e2) := ok_blend FDB TB em3 cN1 cI cD cO1 cS
  have mkB : Mk K C_Blend f_Blend___init__ := ⟨mk_Blend, a_Blend___init__, i_Blend___init__, kc_Blend⟩
  have ciB : CalleeI l.prog w K mg base (L2.CX l.prog w) 6 C_Blend "Blend" ["self", "width", "shift", "keep", "flip"] (spBlend C_Blend e0 e3 e2) := ⟨⟨_, _, okb, mkB, TB.mg_Blend, bd5⟩⟩
  have cd1 : KC.CalleeID l.prog w K mg base (L2.CX l.prog w) 6 C_Blend "Blend" ["self", "width", "shift", "keep", "flip"] (spBlend C_Blend e0 e3 e2) [.int 0, .non, .int 0] := ⟨⟨_, _, ds2, okb, mkB, TB.mg_Blend, bd2, vd2⟩⟩
  have oc : KC.OwnC l.prog w K mg base (L2.CX l.prog w) 6 C_Blend ["self", "value"] (spBCall C_Blend e2) := ⟨⟨_, _, a_Blend___call__, i_Blend___call__, fnCB, ok_bcall F_Blend___call__ TB cD cS, b_Blend___call__⟩⟩
  have orp : OwnM l.prog w K mg base 1 C_Blend "__repr__" ["self"] (spBRepr C_Blend) := ⟨⟨_, _, a_Blend___repr__, i_Blend___repr__, ok_brepr F_Blend___repr__ TB, b_Blend___repr__⟩⟩
  have ok_and_ : FnOk l.prog w K mg base (L2.CX l.prog w) 8 f_Blend___and__ _ ["self", "other"] (spAndB C_Blend e2) := ok_andB F_Blend___and__ TB cD ciB
  have bdand : KR.OwnBD l.prog w K mg base (L2.CX l.prog w) 8 C_Blend .BitAnd ["self", "other"] (spAndB C_Blend e2) := ⟨⟨_, _, _, by decide, sfB, d_and, i_Blend___and__, r_and, .inr ⟨_, rfl⟩, ok_and_, b_Blend___and__⟩⟩
  have FDK : FunD K "__init__" "Bit.__init__" (defArgs s_Bit___init__) (defBody s_Bit___init__) (defScope s_Bit___init__) [.int 0] [] f_Bit___init__ _ := ⟨⟨_, _, _, _, _, _, _, _, _, _, rfl, l_Bit___init__, c_Bit___init__, .inr ⟨by simp, DT_Bit___init__, _, [.int 0 tk_Bit___init___0], _, rfl, dt_Bit___init__, rfl, .cons ⟨_, rfl⟩ .nil⟩, .inl rfl⟩, k_Bit___init__⟩
  obtain ⟨dsK, vdK, bdK⟩ := FDK.binds1 (ps := ["self", "value"]) 2 1 (by simp) rfl fun T kV doc pm an cdv ct us its hu hi => match us, its, hu, hi with
    | [_, _], [_], _, _ => ⟨_, rfl, rfl⟩
  obtain rfl : dsK = [] := by
    cases vdK
    rfl
  have cNB : KB.Callee l.prog w K mg base (L2.CX l.prog w) 3 "need_bit" ["value"] (spNeedB e2) := ⟨⟨_, _, ok_needB F_need_bit em2 cI, PySem.W.mg_of X G a_need_bit, k_need_bit, b_need_bit⟩⟩
  have pnow : KW.OwnP l.prog w K mg base 1 C_KindBit "now" ["self"] (spNow C_KindBit) := ⟨⟨_, _, _, ⟨nw_KB, pb_Bit_now, pc_Bit_now, ⟨_, pd_Bit_now⟩⟩, ok_bnow F_Bit_now tk, b_Bit_now⟩, tk.cl⟩
  have pstate : KW.OwnP l.prog w K mg base 1 C_KindBit "state" ["self"] (spState C_KindBit) := ⟨⟨_, _, _, ⟨st_KB, pb_Bit_state, pc_Bit_state, ⟨_, pd_Bit_state⟩⟩, ok_bstate F_Bit_state tk, b_Bit_state⟩, tk.cl⟩
  have fk : FnOk l.prog w K mg base (L2.CX l.prog w) 6 f_KindBit___init__ _ ["self", "kind", "value"] (spKInit C_KindBit e2) := ok_kinit SFK tk n_KindBit_kind hsup ⟨⟨_, _, su_KB, ti_Bi, fn_Bi, ok_binit FDK tk cNB, bdK⟩, sb_KB⟩
  have mkK : Mk K C_KindBit f_KindBit___init__ := ⟨mk_KindBit, in_KB, i_KindBit___init__, kc_KindBit⟩
  have ciK : CalleeI l.prog w K mg base (L2.CX l.prog w) 6 C_KindBit "KindBit" ["self", "kind", "value"] (spKInit C_KindBit e2) := ⟨⟨_, _, fk, mkK, PySem.W.mg_of X G aC_KindBit, b3K⟩⟩
  have kbr : CalleeM l.prog w K mg base CX0 3 C_KindBit "read" ["self"] (spKRd C_KindBit C_Kind) := ⟨⟨_, _, ok_kread F_KindBit_read tk n_KindBit_kind pnow mr, ⟨a_KindBit_read, i_KindBit_read, k_KindBit_read⟩, b_KindBit_read⟩, tk.cl⟩
  have kbd : CalleeM l.prog w K mg base CX0 3 C_KindBit "deed" ["self"] (spKDe C_KindBit C_Kind) := ⟨⟨_, _, ok_kdeed F_KindBit_deed tk n_KindBit_kind md, ⟨a_KindBit_deed, i_KindBit_deed, k_KindBit_deed⟩, b_KindBit_deed⟩, tk.cl⟩
  have kbw : CalleeM l.prog w K mg base (L2.CX l.prog w) 4 C_KindBit "write" ["self", "bit"] (spKWr C_KindBit C_Kind e2) := ⟨⟨_, _, ok_kwrite F_KindBit_write tk n_KindBit_kind cNB mw, ⟨a_KindBit_write, i_KindBit_write, k_KindBit_write⟩, b_KindBit_write⟩, tk.cl⟩
  have hS : KH.CalleeHM l.prog w K mg base 1 40 C_Blend "sources" ["self"] (spSrcH C_Blend) := ⟨⟨_, _, ok_srcH l_Blend_sources c_Blend_sources TB, ⟨a_Blend_sources, i_Blend_sources, k_Blend_sources⟩, b_Blend_sources⟩, cB⟩
  have cbl : KB.Callee l.prog w K mg base CX0 4 "_law_blended" ["_law_blend", "_law_word_here"] (spBlended C_Blend) := ⟨⟨_, _, ok_blended F__law_blended TB hS, PySem.W.mg_of X G a__law_blended, k__law_blended, b__law_blended⟩⟩
  have cwd_ : KB.Callee l.prog w K mg base CX0 2 "_law_word" ["_law_pen_here", "_law_width"] (spWord) := ⟨⟨_, _, ok_word F__law_word T0 cd, PySem.W.mg_of X G a__law_word, k__law_word, b__law_word⟩⟩
  have oact : FnOk l.prog w K mg base CX0 10 f__law_act _ ["_law_pen_here", "_law_bits", "_law_texts", "_law_last"] (fun vs H Q E => ∃ S : St, (S.C = C_KindBit ∧ S.CK = C_Kind) ∧ spAct S vs H Q E) := KF.fn_ex fun S hS => by
    obtain ⟨e1, e2⟩ := hS
    refine ok_act (S := S) F__law_act TB ?_ ?_ cbl oc ciB bdand cwd_ cd ⟨⟨_, _, ok_readall (S := S) F__law_read_all T0 ?_, PySem.W.mg_of X G a__law_read_all, k__law_read_all, b__law_read_all⟩⟩
    · rw [e1]; exact pnow
    · rw [e1, e2]; exact kbw
    · rw [e1, e2]; exact kbr
  have cact : KB.Callee l.prog w K mg base CX0 10 "_law_act" ["_law_pen_here", "_law_bits", "_law_texts", "_law_last"] (fun vs H Q E => ∃ S : St, (S.C = C_KindBit ∧ S.CK = C_Kind) ∧ spAct S vs H Q E) := ⟨⟨_, _, oact, PySem.W.mg_of X G a__law_act, k__law_act, b__law_act⟩⟩
  exact ok_law (CB := C_Blend) (aW := aW) F_law T tk.cl pstate kbd ocE cact ckd ksd ciK ci ce cwd_ cq cd cp
end K17


open PySem PySem.W PyProof.Rows
set_option maxRecDepth 100000 in
set_option maxHeartbeats 0 in
theorem PySem.Challenge.cw_keptbits_k17_whole_words_bit_by_bit_holds : PySem.Challenge.rw_keptbits_k17_whole_words_bit_by_bit.Holds := by
  w_on; o_law; k_head; (case hw => w_witness2)
  k_fill
  refine KG.walkG (l := PySem.Challenge.rw_keptbits_k17_whole_words_bit_by_bit) (n := 63) (k := 14) (x := "_law_script") (sp := fun w => K17.spLaw _) rfl (by decide) rfl ⟨rfl, by decide, by decide⟩ (fun w h Y => PySem.W.kIn_of Y) ?F (fun _ _ a ns hl hS => ⟨a, ns, rfl, hS, hl, fun _ => rfl⟩)
  case F =>
    intro w mg fa h KX G hmg
    refine' K17.all_mk KX G hmg ?aC_Kind ?pg_Kind ?hd_Kind ?po_Kind ?sa_Kind ?mk_Kind ?kc_Kind ?n_Kind_reading ?n_Kind_writing ?n_Kind_device ?n_Kind_states ?rd_Kind ?ga_Kind ?fc_t_Kind_READINGS ?lk_t_Kind_READINGS ?fc_t_Kind_WRITINGS ?lk_t_Kind_WRITINGS ?fc_t_Kind_DEVICES ?lk_t_Kind_DEVICES ?aC_Effect ?pg_Effect ?hd_Effect ?po_Effect ?sa_Effect ?mk_Effect ?kc_Effect ?n_Effect_kind ?n_Effect_ends ?aC_Blend ?pg_Blend ?hd_Blend ?po_Blend ?sa_Blend ?mk_Blend ?kc_Blend ?n_Blend_width ?n_Blend_shift ?n_Blend_keep ?n_Blend_flip ?aC_Bit ?pg_Bit ?hd_Bit ?po_Bit ?sa_Bit ?mk_Bit ?kc_Bit ?aC_KindBit ?pg_KindBit ?hd_KindBit ?po_KindBit ?sa_KindBit ?mk_KindBit ?kc_KindBit ?n_KindBit_held ?n_KindBit_kind ?a_Kind___init__ ?i_Kind___init__ ?l_Kind___init__ ?c_Kind___init__ ?k_Kind___init__ ?a_Kind___eq__ ?i_Kind___eq__ ?l_Kind___eq__ ?c_Kind___eq__ ?k_Kind___eq__ ?a_Kind_after_read ?i_Kind_after_read ?l_Kind_after_read ?c_Kind_after_read ?k_Kind_after_read ?a_Kind_after_write ?i_Kind_after_write ?l_Kind_after_write ?c_Kind_after_write ?k_Kind_after_write ?a_Kind_unguarded ?i_Kind_unguarded ?l_Kind_unguarded ?c_Kind_unguarded ?k_Kind_unguarded ?a_Kind_deeds ?i_Kind_deeds ?l_Kind_deeds ?c_Kind_deeds ?k_Kind_deeds ?a_need_letters ?l_need_letters ?c_need_letters ?k_need_letters ?a_with_deeds ?l_with_deeds ?c_with_deeds ?k_with_deeds ?a_after_letter ?l_after_letter ?c_after_letter ?k_after_letter ?a_longer ?l_longer ?c_longer ?k_longer ?a_Effect___init__ ?i_Effect___init__ ?l_Effect___init__ ?c_Effect___init__ ?k_Effect___init__ ?a_Effect_of ?rc_Effect_of ?fi_Effect_of ?l_Effect_of ?kw_Effect_of_quiet ?c_Effect_of ?k_Effect_of ?a_Effect___call__ ?i_Effect___call__ ?l_Effect___call__ ?c_Effect___call__ ?k_Effect___call__ ?a_Effect___eq__ ?i_Effect___eq__ ?l_Effect___eq__ ?c_Effect___eq__ ?k_Effect___eq__ ?a_all_effects ?l_all_effects ?kw_all_effects_quiet ?c_all_effects ?k_all_effects ?a_shortest ?l_shortest ?kw_shortest_quiet ?c_shortest ?k_shortest ?a_is_integer ?l_is_integer ?c_is_integer ?k_is_integer ?a_need_width ?l_need_width ?c_need_width ?k_need_width ?a_ones ?l_ones ?c_ones ?k_ones ?a_is_word ?l_is_word ?c_is_word ?k_is_word ?a_need_word ?l_need_word ?c_need_word ?k_need_word ?a_shifted ?l_shifted ?c_shifted ?k_shifted ?a_Blend___init__ ?i_Blend___init__ ?l_Blend___init__ ?dt_Blend___init__ ?c_Blend___init__ ?k_Blend___init__ ?a_Blend___call__ ?i_Blend___call__ ?l_Blend___call__ ?c_Blend___call__ ?k_Blend___call__ ?a_Blend___and__ ?i_Blend___and__ ?l_Blend___and__ ?c_Blend___and__ ?k_Blend___and__ ?a_Blend___rand__ ?i_Blend___rand__ ?l_Blend___rand__ ?c_Blend___rand__ ?k_Blend___rand__ ?a_Blend___repr__ ?i_Blend___repr__ ?l_Blend___repr__ ?c_Blend___repr__ ?k_Blend___repr__ ?a_Blend_sources ?i_Blend_sources ?l_Blend_sources ?c_Blend_sources ?k_Blend_sources ?a_need_bit ?l_need_bit ?c_need_bit ?k_need_bit ?a_Bit___init__ ?i_Bit___init__ ?l_Bit___init__ ?dt_Bit___init__ ?c_Bit___init__ ?k_Bit___init__ ?pa_Bit_now ?pb_Bit_now ?pc_Bit_now ?pd_Bit_now ?l_Bit_now ?c_Bit_now ?k_Bit_now ?pa_Bit_state ?pb_Bit_state ?pc_Bit_state ?pd_Bit_state ?l_Bit_state ?c_Bit_state ?k_Bit_state ?a_KindBit_read ?i_KindBit_read ?l_KindBit_read ?c_KindBit_read ?k_KindBit_read ?a_KindBit_write ?i_KindBit_write ?l_KindBit_write ?c_KindBit_write ?k_KindBit_write ?a_KindBit_deed ?i_KindBit_deed ?l_KindBit_deed ?c_KindBit_deed ?k_KindBit_deed ?a__law_pen ?l__law_pen ?c__law_pen ?k__law_pen ?a__law_draw ?l__law_draw ?c__law_draw ?k__law_draw ?a__law_word ?l__law_word ?c__law_word ?k__law_word ?a__law_deeds ?l__law_deeds ?c__law_deeds ?k__law_deeds ?a__law_words ?l__law_words ?c__law_words ?k__law_words ?a__law_blended ?l__law_blended ?c__law_blended ?k__law_blended ?a__law_read_all ?l__law_read_all ?c__law_read_all ?k__law_read_all ?a__law_act ?l__law_act ?c__law_act ?k__law_act ?a_law ?l_law ?c_law ?k_law ?mM ?lM ?litM ?lowM ?iM0 ?iM1 ?iM2 ?iM3 ?tM0 ?tM1 ?tM2 ?tM3 ?tyc ?tyg ?tyt ?tym ?tyi ?lkK ?lkO ?nsK ?nsO ?neq ?nne ?foK ?tycF ?tymF ?tyiF ?lkKF ?lkOF ?nsKF ?nsOF ?neqF ?nneF ?foKF ?fnC ?rdF ?gaF ?gLT ?gML ?nfK ?aWd ?lWd ?aE0 ?xs0 ?xv0 ?lkE0 ?lkF0 ?rvE0 ?saE0 ?tyE0 ?kpE0 ?inE0 ?tiE0 ?lIK0 ?cIK0 ?lcd0 ?vsI0 ?fiI0 ?lcc0 ?sbI0 ?veI0 ?suI0 ?aE2 ?xs2 ?xv2 ?lkE2 ?lkF2 ?rvE2 ?saE2 ?tyE2 ?kpE2 ?inE2 ?tiE2 ?lIK2 ?cIK2 ?lcd2 ?vsI2 ?fiI2 ?lcc2 ?sbI2 ?veI2 ?suI2 ?aE3 ?xs3 ?xv3 ?lkE3 ?lkF3 ?rvE3 ?saE3 ?tyE3 ?kpE3 ?inE3 ?tiE3 ?lIK3 ?cIK3 ?lcd3 ?vsI3 ?fiI3 ?lcc3 ?sbI3 ?veI3 ?suI3 ?tpI ?opI ?fnCB ?sfB ?sub_int ?sub_bool ?sub_dict ?d_and ?r_and ?in_KB ?l_KindBit___init__ ?c_KindBit___init__ ?ld_KindBit___init__ ?vs2_KindBit___init__ ?fi2_KindBit___init__ ?lc_KindBit___init__ ?dcl_KindBit___init__ ?i_KindBit___init__ ?k_KindBit___init__ ?dt_KindBit___init__ ?nw_KB ?st_KB ?ti_Bi ?fn_Bi ?su_KB ?sb_KB ?z_int ?z_abs ?z_len ?z_list ?z_tuple ?z_max ?z_range ?z_isinstance ?z_repr ?z_str ?z_sorted ?z_set ?z_zip ?z_enumerate ?z_all ?z_bool ?z_dict ?z_sum ?z_ValueError ?z_super
    (case aC_Kind => k_is)
    (case pg_Kind => k_is)
    (case hd_Kind => k_is)
    (case po_Kind => k_is)
    (case sa_Kind => k_is)
    (case mk_Kind => k_is)
    (case kc_Kind => k_is)
    (case n_Kind_reading => k_is)
    (case n_Kind_writing => k_is)
    (case n_Kind_device => k_is)
    (case n_Kind_states => k_is)
    (case rd_Kind => k_is)
    (case ga_Kind => k_is)
    (case fc_t_Kind_READINGS => k_is)
    (case lk_t_Kind_READINGS => k_is)
    (case fc_t_Kind_WRITINGS => k_is)
    (case lk_t_Kind_WRITINGS => k_is)
    (case fc_t_Kind_DEVICES => k_is)
    (case lk_t_Kind_DEVICES => k_is)
    (case aC_Effect => k_is)
    (case pg_Effect => k_is)
    (case hd_Effect => k_is)
    (case po_Effect => k_is)
    (case sa_Effect => k_is)
    (case mk_Effect => k_is)
    (case kc_Effect => k_is)
    (case n_Effect_kind => k_is)
    (case n_Effect_ends => k_is)
    (case aC_Blend => k_is)
    (case pg_Blend => k_is)
    (case hd_Blend => k_is)
    (case po_Blend => k_is)
    (case sa_Blend => k_is)
    (case mk_Blend => k_is)
    (case kc_Blend => k_is)
    (case n_Blend_width => k_is)
    (case n_Blend_shift => k_is)
    (case n_Blend_keep => k_is)
    (case n_Blend_flip => k_is)
    (case aC_Bit => k_is)
    (case pg_Bit => k_is)
    (case hd_Bit => k_is)
    (case po_Bit => k_is)
    (case sa_Bit => k_is)
    (case mk_Bit => k_is)
    (case kc_Bit => k_is)
    (case aC_KindBit => k_is)
    (case pg_KindBit => k_is)
    (case hd_KindBit => k_is)
    (case po_KindBit => k_is)
    (case sa_KindBit => k_is)
    (case mk_KindBit => k_is)
    (case kc_KindBit => k_is)
    (case n_KindBit_held => k_is)
    (case n_KindBit_kind => k_is)
    (case a_Kind___init__ => k_is)
    (case i_Kind___init__ => k_is)
    (case l_Kind___init__ => k_is)
    (case c_Kind___init__ => k_is)
    (case k_Kind___init__ => k_is)
    (case a_Kind___eq__ => k_is)
    (case i_Kind___eq__ => k_is)
    (case l_Kind___eq__ => k_is)
    (case c_Kind___eq__ => k_is)
    (case k_Kind___eq__ => k_is)
    (case a_Kind_after_read => k_is)
    (case i_Kind_after_read => k_is)
    (case l_Kind_after_read => k_is)
    (case c_Kind_after_read => k_is)
    (case k_Kind_after_read => k_is)
    (case a_Kind_after_write => k_is)
    (case i_Kind_after_write => k_is)
    (case l_Kind_after_write => k_is)
    (case c_Kind_after_write => k_is)
    (case k_Kind_after_write => k_is)
    (case a_Kind_unguarded => k_is)
    (case i_Kind_unguarded => k_is)
    (case l_Kind_unguarded => k_is)
    (case c_Kind_unguarded => k_is)
    (case k_Kind_unguarded => k_is)
    (case a_Kind_deeds => k_is)
    (case i_Kind_deeds => k_is)
    (case l_Kind_deeds => k_is)
    (case c_Kind_deeds => k_is)
    (case k_Kind_deeds => k_is)
    (case a_need_letters => k_is)
    (case l_need_letters => k_is)
    (case c_need_letters => k_is)
    (case k_need_letters => k_is)
    (case a_with_deeds => k_is)
    (case l_with_deeds => k_is)
    (case c_with_deeds => k_is)
    (case k_with_deeds => k_is)
    (case a_after_letter => k_is)
    (case l_after_letter => k_is)
    (case c_after_letter => k_is)
    (case k_after_letter => k_is)
    (case a_longer => k_is)
    (case l_longer => k_is)
    (case c_longer => k_is)
    (case k_longer => k_is)
    (case a_Effect___init__ => k_is)
    (case i_Effect___init__ => k_is)
    (case l_Effect___init__ => k_is)
    (case c_Effect___init__ => k_is)
    (case k_Effect___init__ => k_is)
    (case a_Effect_of => k_is)
    (case rc_Effect_of => k_is)
    (case fi_Effect_of => k_is)
    (case l_Effect_of => k_is)
    (case kw_Effect_of_quiet => k_is)
    (case c_Effect_of => k_is)
    (case k_Effect_of => k_is)
    (case a_Effect___call__ => k_is)
    (case i_Effect___call__ => k_is)
    (case l_Effect___call__ => k_is)
    (case c_Effect___call__ => k_is)
    (case k_Effect___call__ => k_is)
    (case a_Effect___eq__ => k_is)
    (case i_Effect___eq__ => k_is)
    (case l_Effect___eq__ => k_is)
    (case c_Effect___eq__ => k_is)
    (case k_Effect___eq__ => k_is)
    (case a_all_effects => k_is)
    (case l_all_effects => k_is)
    (case kw_all_effects_quiet => k_is)
    (case c_all_effects => k_is)
    (case k_all_effects => k_is)
    (case a_shortest => k_is)
    (case l_shortest => k_is)
    (case kw_shortest_quiet => k_is)
    (case c_shortest => k_is)
    (case k_shortest => k_is)
    (case a_is_integer => k_is)
    (case l_is_integer => k_is)
    (case c_is_integer => k_is)
    (case k_is_integer => k_is)
    (case a_need_width => k_is)
    (case l_need_width => k_is)
    (case c_need_width => k_is)
    (case k_need_width => k_is)
    (case a_ones => k_is)
    (case l_ones => k_is)
    (case c_ones => k_is)
    (case k_ones => k_is)
    (case a_is_word => k_is)
    (case l_is_word => k_is)
    (case c_is_word => k_is)
    (case k_is_word => k_is)
    (case a_need_word => k_is)
    (case l_need_word => k_is)
    (case c_need_word => k_is)
    (case k_need_word => k_is)
    (case a_shifted => k_is)
    (case l_shifted => k_is)
    (case c_shifted => k_is)
    (case k_shifted => k_is)
    (case a_Blend___init__ => k_is)
    (case i_Blend___init__ => k_is)
    (case l_Blend___init__ => k_is)
    (case dt_Blend___init__ => k_is)
    (case c_Blend___init__ => k_is)
    (case k_Blend___init__ => k_is)
    (case a_Blend___call__ => k_is)
    (case i_Blend___call__ => k_is)
    (case l_Blend___call__ => k_is)
    (case c_Blend___call__ => k_is)
    (case k_Blend___call__ => k_is)
    (case a_Blend___and__ => k_is)
    (case i_Blend___and__ => k_is)
    (case l_Blend___and__ => k_is)
    (case c_Blend___and__ => k_is)
    (case k_Blend___and__ => k_is)
    (case a_Blend___rand__ => k_is)
    (case i_Blend___rand__ => k_is)
    (case l_Blend___rand__ => k_is)
    (case c_Blend___rand__ => k_is)
    (case k_Blend___rand__ => k_is)
    (case a_Blend___repr__ => k_is)
    (case i_Blend___repr__ => k_is)
    (case l_Blend___repr__ => k_is)
    (case c_Blend___repr__ => k_is)
    (case k_Blend___repr__ => k_is)
    (case a_Blend_sources => k_is)
    (case i_Blend_sources => k_is)
    (case l_Blend_sources => k_is)
    (case c_Blend_sources => k_is)
    (case k_Blend_sources => k_is)
    (case a_need_bit => k_is)
    (case l_need_bit => k_is)
    (case c_need_bit => k_is)
    (case k_need_bit => k_is)
    (case a_Bit___init__ => k_is)
    (case i_Bit___init__ => k_is)
    (case l_Bit___init__ => k_is)
    (case dt_Bit___init__ => k_is)
    (case c_Bit___init__ => k_is)
    (case k_Bit___init__ => k_is)
    (case pa_Bit_now => k_is)
    (case pb_Bit_now => k_is)
    (case pc_Bit_now => k_is)
    (case pd_Bit_now => k_is)
    (case l_Bit_now => k_is)
    (case c_Bit_now => k_is)
    (case k_Bit_now => k_is)
    (case pa_Bit_state => k_is)
    (case pb_Bit_state => k_is)
    (case pc_Bit_state => k_is)
    (case pd_Bit_state => k_is)
    (case l_Bit_state => k_is)
    (case c_Bit_state => k_is)
    (case k_Bit_state => k_is)
    (case a_KindBit_read => k_is)
    (case i_KindBit_read => k_is)
    (case l_KindBit_read => k_is)
    (case c_KindBit_read => k_is)
    (case k_KindBit_read => k_is)
    (case a_KindBit_write => k_is)
    (case i_KindBit_write => k_is)
    (case l_KindBit_write => k_is)
    (case c_KindBit_write => k_is)
    (case k_KindBit_write => k_is)
    (case a_KindBit_deed => k_is)
    (case i_KindBit_deed => k_is)
    (case l_KindBit_deed => k_is)
    (case c_KindBit_deed => k_is)
    (case k_KindBit_deed => k_is)
    (case a__law_pen => k_is)
    (case l__law_pen => k_is)
    (case c__law_pen => k_is)
    (case k__law_pen => k_is)
    (case a__law_draw => k_is)
    (case l__law_draw => k_is)
    (case c__law_draw => k_is)
    (case k__law_draw => k_is)
    (case a__law_word => k_is)
    (case l__law_word => k_is)
    (case c__law_word => k_is)
    (case k__law_word => k_is)
    (case a__law_deeds => k_is)
    (case l__law_deeds => k_is)
    (case c__law_deeds => k_is)
    (case k__law_deeds => k_is)
    (case a__law_words => k_is)
    (case l__law_words => k_is)
    (case c__law_words => k_is)
    (case k__law_words => k_is)
    (case a__law_blended => k_is)
    (case l__law_blended => k_is)
    (case c__law_blended => k_is)
    (case k__law_blended => k_is)
    (case a__law_read_all => k_is)
    (case l__law_read_all => k_is)
    (case c__law_read_all => k_is)
    (case k__law_read_all => k_is)
    (case a__law_act => k_is)
    (case l__law_act => k_is)
    (case c__law_act => k_is)
    (case k__law_act => k_is)
    (case a_law => k_is)
    (case l_law => k_is)
    (case c_law => k_is)
    (case k_law => k_is)
    (case mM => k_is)
    (case lM => k_is)
    (case litM => exact ⟨⟨_, _, rfl, rfl⟩, ⟨_, _, rfl, rfl⟩, ⟨_, _, rfl, rfl⟩, ⟨_, _, rfl, rfl⟩, trivial⟩)
    (case lowM => exact rfl)
    (case iM0 => k_is)
    (case iM1 => k_is)
    (case iM2 => k_is)
    (case iM3 => k_is)
    (case tM0 => k_is)
    (case tM1 => k_is)
    (case tM2 => k_is)
    (case tM3 => k_is)
    (case tyc => k_is)
    (case tyg => k_is)
    (case tyt => k_is)
    (case tym => k_is)
    (case tyi => exact rfl)
    (case lkK => k_is)
    (case lkO => exact rfl)
    (case nsK => k_is)
    (case nsO => (clear KX G hmg; intro K2 e; unfold PySem.W.nsOkIn; rw [e]; first | rfl | decide | simp))
    (case neq => k_is)
    (case nne => k_is)
    (case foK => exact rfl)
    (case tycF => k_is)
    (case tymF => k_is)
    (case tyiF => exact rfl)
    (case lkKF => k_is)
    (case lkOF => exact rfl)
    (case nsKF => k_is)
    (case nsOF => (clear KX G hmg; intro K2 e; unfold PySem.W.nsOkIn; rw [e]; first | rfl | decide | simp))
    (case neqF => k_is)
    (case nneF => k_is)
    (case foKF => exact rfl)
    (case fnC => exact rfl)
    (case rdF => k_is)
    (case gaF => k_is)
    (case gLT => k_is)
    (case gML => k_is)
    (case nfK => exact rfl)
    (case aWd => k_is)
    (case lWd => k_is)
    (case aE0 => k_is)
    (case xs0 => exact rfl)
    (case xv0 => k_is)
    (case lkE0 => k_is)
    (case lkF0 => exact rfl)
    (case rvE0 => exact rfl)
    (case saE0 => k_is)
    (case tyE0 => exact rfl)
    (case kpE0 => k_is)
    (case inE0 => k_is)
    (case tiE0 => exact rfl)
    (case lIK0 => k_is)
    (case cIK0 => k_is)
    (case lcd0 => k_is)
    (case vsI0 => exact rfl)
    (case fiI0 => exact rfl)
    (case lcc0 => k_is)
    (case sbI0 => k_is)
    (case veI0 => k_is)
    (case suI0 => exact rfl)
    (case aE2 => k_is)
    (case xs2 => exact rfl)
    (case xv2 => k_is)
    (case lkE2 => k_is)
    (case lkF2 => exact rfl)
    (case rvE2 => exact rfl)
    (case saE2 => k_is)
    (case tyE2 => exact rfl)
    (case kpE2 => k_is)
    (case inE2 => k_is)
    (case tiE2 => exact rfl)
    (case lIK2 => k_is)
    (case cIK2 => k_is)
    (case lcd2 => k_is)
    (case vsI2 => exact rfl)
    (case fiI2 => exact rfl)
    (case lcc2 => k_is)
    (case sbI2 => k_is)
    (case veI2 => k_is)
    (case suI2 => exact rfl)
    (case aE3 => k_is)
    (case xs3 => exact rfl)
    (case xv3 => k_is)
    (case lkE3 => k_is)
    (case lkF3 => exact rfl)
    (case rvE3 => exact rfl)
    (case saE3 => k_is)
    (case tyE3 => exact rfl)
    (case kpE3 => k_is)
    (case inE3 => k_is)
    (case tiE3 => exact rfl)
    (case lIK3 => k_is)
    (case cIK3 => k_is)
    (case lcd3 => k_is)
    (case vsI3 => exact rfl)
    (case fiI3 => exact rfl)
    (case lcc3 => k_is)
    (case sbI3 => k_is)
    (case veI3 => k_is)
    (case suI3 => exact rfl)
    (case tpI => exact rfl)
    (case opI => k_is)
    (case fnCB => exact rfl)
    (case sfB => exact rfl)
    (case sub_int => exact rfl)
    (case sub_bool => exact rfl)
    (case sub_dict => exact rfl)
    (case d_and => exact rfl)
    (case r_and => exact rfl)
    (case in_KB => k_is)
    (case l_KindBit___init__ => k_is)
    (case c_KindBit___init__ => k_is)
    (case ld_KindBit___init__ => k_is)
    (case vs2_KindBit___init__ => exact rfl)
    (case fi2_KindBit___init__ => exact rfl)
    (case lc_KindBit___init__ => k_is)
    (case dcl_KindBit___init__ => (exact ⟨_, rfl⟩))
    (case i_KindBit___init__ => k_is)
    (case k_KindBit___init__ => k_is)
    (case dt_KindBit___init__ => k_is)
    (case nw_KB => k_is)
    (case st_KB => k_is)
    (case ti_Bi => exact rfl)
    (case fn_Bi => exact rfl)
    (case su_KB => exact rfl)
    (case sb_KB => k_is)
    (case z_int => k_is)
    (case z_abs => k_is)
    (case z_len => k_is)
    (case z_list => k_is)
    (case z_tuple => k_is)
    (case z_max => k_is)
    (case z_range => k_is)
    (case z_isinstance => k_is)
    (case z_repr => k_is)
    (case z_str => k_is)
    (case z_sorted => k_is)
    (case z_set => k_is)
    (case z_zip => k_is)
    (case z_enumerate => k_is)
    (case z_all => k_is)
    (case z_bool => k_is)
    (case z_dict => k_is)
    (case z_sum => k_is)
    (case z_ValueError => k_is)
    (case z_super => k_is)

