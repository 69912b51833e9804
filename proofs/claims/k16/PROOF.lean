import PyProof.Rows.All
import Wide.All
import OpenK.AllK
import Wide.FinOn
import HandS.ForMost
import HandS.Evl
import HandS.IsInst
import HandS.ClsMeth
import HandS.Flow
import HandS.TupAny
import HandS.Walk
import HandS.Defaults
import HandS.Deep
import PyProof.ReprReads
import HandS.SlotsOwn
import HandS.MakeKw
import HandS.MakeKwOnly
import HandS.FStr
import HandS.More
import KE.KCallOwn
import PyProof.InstNe
import HandS.ExcInit
import HandS.ExcSuper
import HandS.ExcField
import HandS.ExcIs
import KE.KExcIs
import KE.KIsAll
import KE.KSuper
import KE.KExcSuper
import PyProof.EqKinds
import HandS.Dict
import HandS.SetFor
import HandS.Lambda
import HandS.EndBits
import HandS.EndTab
import HandS.WordsExc
import KE.KNestM
import OpenK.KOps
import KE.KOpsOwn
import HandS.Conv
import KE.BitLaws
import PyProof.Ascii
import PyProof.Rows.ReprOcc
import PyProof.FitsInt
import PyProof.ReprNest
import PyProof.ReprRoads
import HandS.Strs
import HandS.SortInts
import HandS.DictComp
import HandS.GenList
import HandS.Zip
import PyProof.Draws
import PyProof.EnumMake
import KE.GoesMore
import PyProof.ReprLen
import HandS.Property
import HandS.SortRule
import HandS.Style
import HandS.NoneIn
import HandS.SetBool
import KE.KeyNested
import KE.KDictDisplayH
import PyProof.Rows.TupTab
import PySem.Challenge.RW_keptbits_k16_whole_runs_of_bits_and_effe
set_option Elab.async false
set_option linter.all false
set_option maxRecDepth 100000
set_option maxHeartbeats 4000000
/-! KB: own helpers over the hand layer: callees bundled, match, readings as steps. -/
namespace KB
open PySem PySem.Spec PyProof.Rows L2

section
variable {X : Cx}
/-! ### callees -/
structure Callee (P : Program) (w : World) (K : PySem.W.Frag) (mg : Str → Option Value) (base : Heap) (CX : CXT) (k : Nat) (x : Str) (ps : List Str) (sp : Sp) : Prop where
  ex : ∃ (f : Addr) (fd : FuncData), FnOk P w K mg base CX k f fd ps sp ∧ mg x = some (.ref f) ∧ PySem.W.keepIn K (.ref f) = true ∧ Binds K fd ps []
structure CalleeM (P : Program) (w : World) (K : PySem.W.Frag) (mg : Str → Option Value) (base : Heap) (CX : CXT) (k : Nat) (C : Addr) (m : Str) (ps : List Str) (sp : Sp) : Prop where
  ex : ∃ (f : Addr) (fd : FuncData), FnOk P w K mg base CX k f fd ps sp ∧ Meth K C m f ∧ Binds K fd ps []
  cl : Cls K C
structure CalleeI (P : Program) (w : World) (K : PySem.W.Frag) (mg : Str → Option Value) (base : Heap) (CX : CXT) (k : Nat) (C : Addr) (x : Str) (ps : List Str) (sp : Sp) : Prop where
  ex : ∃ (f : Addr) (fd : FuncData), FnOk P w K mg base CX k f fd ps sp ∧ Mk K C f ∧ mg x = some (.ref C) ∧ Binds K fd ps []
theorem pe_callC {CX : CXT} {k : Nat} {x : Str} {ps : List Str} {sp : Sp} {E : XK} {e : Expr} {es : List Expr} {p pos : Pos} {t : TA} (c : Callee X.prog X.w X.K X.mg X.base CX k x ps sp) (hr : Room k X.A) (hg : Gl X x) (hx : Passes CX X E) (ha : PA X (e :: es) t)
    (hdb : (x == ("__debug__" : Str)) = false := by decide) (he : starEach (e :: es) X.env = (false, eval e X.env) :: starEach es X.env := by rfl) (hpl : (backTo pos (starEach es X.env)).any (·.1) = false := by rfl) :
    PE X (.Call (.Name x p) (e :: es) [] pos) (tCall sp [] E t) := by
  obtain ⟨f, fd, F, hm, hk, hb⟩ := c.ex
  exact pe_call F hr hg hm hk hb .nil hx ha hdb he hpl
theorem pe_callC0 {CX : CXT} {k : Nat} {x : Str} {ps : List Str} {sp : Sp} {E : XK} {p pos : Pos} (c : Callee X.prog X.w X.K X.mg X.base CX k x ps sp) (hr : Room k X.A) (hg : Gl X x) (hx : Passes CX X E)
    (hdb : (x == ("__debug__" : Str)) = false := by decide) :
    PE X (.Call (.Name x p) [] [] pos) (tCall sp [] E tNil) := by
  obtain ⟨f, fd, F, hm, hk, hb⟩ := c.ex
  exact pe_call0 F hr hg hm hk hb .nil hx hdb
theorem pe_methC {pl : Sem Bool} {CX : CXT} {k : Nat} {C : Addr} {m : Str} {ps : List Str} {sp : Sp} {E : XK} {o e : Expr} {es : List Expr} {apos pos : Pos} {ta : TE} {t : TA} (c : CalleeM X.prog X.w X.K X.mg X.base CX k C m ps sp) (ho : PE X o ta) (hr : Room k X.A) (hx : Passes CX X E) (ha : PA X (e :: es) t)
    (hst : starEach (e :: es) X.env = (false, eval e X.env) :: starEach es X.env := by rfl) (hpl : (backTo pos (starEach es X.env)).any (·.1) = false := by rfl)
    (ht : eval (.Call (.Attribute o m apos) (e :: es) [] pos) X.env = (do
      let ov ← eval o X.env
      standAt apos.atName
      let (f, first) ← holding [ov] (getMethod ov m pl)
      callWith pos f first (backTo pos (starEach (e :: es) X.env)) (backToKw pos (keywordEach [] X.env))) := by rfl) :
    PE X (.Call (.Attribute o m apos) (e :: es) [] pos) (tMeth C m sp [] E ta t) := by
  obtain ⟨f, fd, F, hm, hb⟩ := c.ex
  exact pe_meth ho c.cl hm F hr hb .nil hx ha hst hpl ht
theorem pe_methC0 {pl : Sem Bool} {CX : CXT} {k : Nat} {C : Addr} {m : Str} {ps : List Str} {sp : Sp} {E : XK} {o : Expr} {apos pos : Pos} {ta : TE} (c : CalleeM X.prog X.w X.K X.mg X.base CX k C m ps sp) (ho : PE X o ta) (hr : Room k X.A) (hx : Passes CX X E)
    (ht : eval (.Call (.Attribute o m apos) [] [] pos) X.env = (do
      let ov ← eval o X.env
      standAt apos.atName
      let (f, first) ← holding [ov] (getMethod ov m pl)
      callWith pos f first [] (backToKw pos (keywordEach [] X.env))) := by rfl) :
    PE X (.Call (.Attribute o m apos) [] [] pos) (tMeth C m sp [] E ta tNil) := by
  obtain ⟨f, fd, F, hm, hb⟩ := c.ex
  exact pe_meth0 ho c.cl hm F hr hb .nil hx ht
theorem pe_makeC {CX : CXT} {k : Nat} {C : Addr} {x : Str} {ps : List Str} {sp : Sp} {E : XK} {e : Expr} {es : List Expr} {p pos : Pos} {t : TA} (c : CalleeI X.prog X.w X.K X.mg X.base CX k C x ps sp) (hr : Room (k + 1) X.A) (hg : Gl X x) (hx : Passes CX X E) (ha : PA X (e :: es) t)
    (hdb : (x == ("__debug__" : Str)) = false := by decide) (he : starEach (e :: es) X.env = (false, eval e X.env) :: starEach es X.env := by rfl) (hpl : (backTo pos (starEach es X.env)).any (·.1) = false := by rfl) :
    PE X (.Call (.Name x p) (e :: es) [] pos) (tMake C sp [] E t) := by
  obtain ⟨f, fd, F, M, hm, hb⟩ := c.ex
  exact pe_make M F hr hg hm hb .nil hx ha hdb he hpl

/-- a def with defaults, called without them; called by keywords -/
structure CalleeD (P : Program) (w : World) (K : PySem.W.Frag) (mg : Str → Option Value) (base : Heap) (CX : CXT) (k : Nat) (x : Str) (ps : List Str) (sp : Sp) (dvs : List V) : Prop where
  ex : ∃ (f : Addr) (fd : FuncData) (ds : List Value), FnOk P w K mg base CX k f fd ps sp ∧ mg x = some (.ref f) ∧ PySem.W.keepIn K (.ref f) = true ∧ Binds K fd ps ds ∧ Vals dvs ds
structure CalleeKw (P : Program) (w : World) (K : PySem.W.Frag) (mg : Str → Option Value) (base : Heap) (CX : CXT) (k : Nat) (x : Str) (ps : List Str) (sp : Sp) (n : Nat) (ks : List Str) (gV : List V → List V → List V) : Prop where
  ex : ∃ (f : Addr) (fd : FuncData) (g : List Value → List Value → List Value), FnOk P w K mg base CX k f fd ps sp ∧ mg x = some (.ref f) ∧ PySem.W.keepIn K (.ref f) = true ∧ KBn K fd ps n ks g gV
theorem pe_callD {CX : CXT} {k : Nat} {x : Str} {ps : List Str} {sp : Sp} {dvs : List V} {E : XK} {e : Expr} {es : List Expr} {p pos : Pos} {t : TA} (c : CalleeD X.prog X.w X.K X.mg X.base CX k x ps sp dvs) (hr : Room k X.A) (hg : Gl X x) (hx : Passes CX X E) (ha : PA X (e :: es) t)
    (hdb : (x == ("__debug__" : Str)) = false := by decide) (he : starEach (e :: es) X.env = (false, eval e X.env) :: starEach es X.env := by rfl) (hpl : (backTo pos (starEach es X.env)).any (·.1) = false := by rfl) :
    PE X (.Call (.Name x p) (e :: es) [] pos) (tCall sp dvs E t) := by
  obtain ⟨f, fd, ds, F, hm, hk, hb, hd⟩ := c.ex
  exact pe_call F hr hg hm hk hb hd hx ha hdb he hpl
theorem pe_callKw {CX : CXT} {k n : Nat} {x : Str} {ps ks : List Str} {sp : Sp} {gV : List V → List V → List V} {E : XK} {e : Expr} {es : List Expr} {kws : List Keyword} {p pos : Pos} {t tk : TA} (c : CalleeKw X.prog X.w X.K X.mg X.base CX k x ps sp n ks gV) (hr : Room k X.A) (hg : Gl X x) (hx : Passes CX X E)
    (ha : PA X (e :: es) t) (hkw : PK X kws tk) (hall : (backToKw pos (keywordEach kws X.env)).all (·.1.isSome) = true := by rfl) (hks : (backToKw pos (keywordEach kws X.env)).filterMap (·.1) = ks := by rfl)
    (hdb : (x == ("__debug__" : Str)) = false := by decide) (he : starEach (e :: es) X.env = (false, eval e X.env) :: starEach es X.env := by rfl)
    (hpl : ((backTo pos (starEach (e :: es) X.env)).any (·.1) || (backToKw pos (keywordEach kws X.env)).any (·.1.isNone)) = false := by rfl) :
    PE X (.Call (.Name x p) (e :: es) kws pos) (tCallN n ks.length sp gV E t tk) := by
  obtain ⟨f, fd, g, F, hm, hk, hb⟩ := c.ex
  exact pe_callN F hr hg hm hk hb hx ha hkw hall hks hdb he hpl
theorem hu65 {A : Around} {k : Nat} (hr : Room k A) : A.units + 65 < cLine := by have := hr.un; omega
/-! ### match over written texts -/
structure PM (X : Cx) (cs : List MatchCase) (tm : V → TS) : Prop where
  run : ∀ (pins : List (Addr × Obj)) (s : Shared) (σ : L2.St) (H : Hp) (D : Ends) (v : V) (u : Value) (first : Bool), Inv X pins σ H s → RelV v u → tm v D σ H → wpAny (model X.prog X.w) X.A (matchCases cs X.env u first) (SP X pins D) X.xe s
def tmNil : V → TS := fun _ D σ H => D.nx σ H
def tmStr (x : Str) (t : TS) (tr : V → TS) : V → TS := fun v D σ H => ∃ y, v = .str y ∧ if decide (y = x) = true then t D σ H else tr v D σ H
def tMatch (te : TE) (tm : V → TS) : TS := fun D σ H => te σ H fun x H1 => tm x D σ H1
theorem pm_nil : PM X [] tmNil := ⟨fun _ _ σ H _ _ _ _ I _ h => wpAny_matchCases_nil ⟨σ, H, I, h⟩⟩
theorem pm_str {x : Str} {j : _} {pos pos' : Pos} {body : List Stmt} {rest : List MatchCase} {t : TS} {tr : V → TS} (hb : PSs X body t) (hr : PM X rest tr) : PM X (⟨.MatchValue (.Constant (.str x) j pos) pos', none, body⟩ :: rest) (tmStr x t tr) := by
  refine ⟨fun pins s σ H D v u first I r h => ?_⟩
  obtain ⟨y, rfl, h⟩ := h
  refine wpAny_matchCases_cons (wpAny_matchPattern_Value ?_)
  refine thn (pe_str.run pins s σ H (fun v' H' => v' = .str x ∧ H' = H) I ⟨rfl, rfl⟩) fun u1 s1 ⟨v1, H1, I1, r1, e1, e2⟩ => ?_
  subst e1 e2
  refine thn (op_eq pins s1 σ H1 (.str y) (.str x) u u1 (fun v' H' => v' = .bl (decide (y = x)) ∧ H' = H1) I1 r r1 ⟨rfl, ?_, rfl⟩) fun u2 s2 ⟨v2, H2, I2, r2, e3, e4⟩ => ?_
  · congr 1
    by_cases e : y = x
    · subst e; simp
    · simp [e]
  subst e3 e4
  obtain rfl : u2 = Value.bool (decide (y = x)) := r2
  refine wpAny_truthy_bool ?_
  by_cases e : y = x
  · rw [if_pos (decide_eq_true e)]
    rw [if_pos (decide_eq_true e)] at h
    refine wpAny_assignInOrder_none ?_
    exact hb.run pins s2 σ H2 D I2 h
  · rw [if_neg (by simp [e])]
    rw [if_neg (by simp [e])] at h
    exact hr.run pins s2 σ H2 D _ u false I2 r h
theorem ps_match {e : Expr} {cs : List MatchCase} {pos : Pos} {te : TE} {tm : V → TS} (he : PE X e te) (hm : PM X cs tm) : PS X (.Match e cs pos) (tMatch te tm) := by
  refine ⟨fun pins s σ H D I h => ?_⟩
  refine wpAny_Match (thn (he.run pins s σ H _ I h) fun u s1 ⟨x, H1, I1, r1, q1⟩ => ?_)
  exact hm.run pins s1 σ H1 D x u true I1 r1 q1
end

/-! ### readings as steps -/
def ForW (J : It) (g : TG) (tb : TS) (D : Ends) (σ : L2.St) (H : Hp) : Prop := ∃ W : Nat → Nat → L2.St → Hp → Prop, (∃ m, W 0 m σ H) ∧ ∀ i m σ H, W i m σ H →
      (J.stop i H ∧ D.nx σ H) ∨ (J.go i H ∧ ∃ N : L2.St → Hp → Prop, (∀ σ' H', N σ' H' → ∃ m', m' < m ∧ W (i + 1) m' σ' H') ∧ ∀ x H', J.yld i H x H' → g x σ H' fun σ2 H2 => tb { D with nx := N, ct := N, bk := D.nx } σ2 H2)
def LcW (J : It) (g : TG) (tt : TT) (te : TE) (vs : List Nat) (σ : L2.St) (H1 : Hp) (Q : VK) : Prop := ∀ D, H1 D = none → ∃ W : Nat → Nat → Hp → Prop, (∃ m, W 0 m (upd H1 D (.lst []))) ∧ ∀ i m H, W i m H →
  (J.stop i H ∧ Q (.ref D) H) ∨ (J.go i H ∧ ∃ Nx : Hp → Prop, (∀ H', Nx H' → ∃ m', m' < m ∧ W (i + 1) m' H') ∧ ∀ x H', J.yld i H x H' → g x (wipe σ vs) H' fun σ2 H2 => wipe σ2 vs = wipe σ vs ∧ tt σ2 H2 fun b H3 =>
    if b = true then te σ2 H3 fun y H4 => ∃ acc, H4 D = some (.lst acc) ∧ acc.length < sizeLine ∧ Nx (upd H4 D (.lst (acc ++ [y]))) else Nx H3)
theorem forW {J : It} {n : Nat} {G : Hp → Prop} {Y : Nat → Hp → V → Hp → Prop} (wk : Walk J n G Y) {g : TG} {tb : TS} {D : Ends} {σ : L2.St} {H : Hp} (Pv : Nat → L2.St → Hp → Prop) (h0 : Pv 0 σ H) (hG : ∀ i σ H, i ≤ n → Pv i σ H → G H)
    (hs : ∀ i x σ H H', i < n → Pv i σ H → Y i H x H' → g x σ H' fun σ2 H2 => tb { D with nx := Pv (i + 1), ct := Pv (i + 1), bk := D.nx } σ2 H2) (hd : ∀ σ H, Pv n σ H → D.nx σ H) : ForW J g tb D σ H := for_it wk Pv h0 hG hs hd
section
variable {K : PySem.W.Frag} {σ : L2.St} {H : Hp} {D : Ends} {ta tb tc te : TE} {tA tr : TA} {t u : TT} {t1 t2 tu : TS} {x y v : V} {Q : VK} {QT : Bool → Hp → Prop} {QA : List V → Hp → Prop} {R : It → Hp → Prop} {i : Nat} {a p : Addr} {xs ys : List V}
theorem r_var (h : σ[i]? = some (some v)) (q : Q v H) : tVar i σ H Q := ⟨v, h, q⟩
theorem r_c (q : Q v H) : tC v σ H Q := q
theorem r_op {r : R2} (q : ta σ H fun x H1 => tb σ H1 fun y H2 => r x y H2 Q) : tOp r ta tb σ H Q := q
theorem r_un {r : V → Hp → VK → Prop} (q : ta σ H fun x H1 => r x H1 Q) : tUn r ta σ H Q := q
theorem r_I0 {g : Int → Int → V} {m n : Int} (q : Q (g m n) H) : rI0 g (.int m) (.int n) H Q := ⟨m, n, rfl, rfl, q⟩
theorem r_I {C : Int → Int → Prop} {g : Int → Int → V} {m n : Int} (hc : C m n) (q : Q (g m n) H) : rI C g (.int m) (.int n) H Q := ⟨m, n, rfl, rfl, hc, q⟩
theorem r_U {g : Int → V} {m : Int} (q : Q (g m) H) : rU g (.int m) H Q := ⟨m, rfl, q⟩
theorem r_eq (h : scal x y = true) (q : Q (.bl (decide (x = y))) H) : rEq x y H Q := ⟨h, q⟩
theorem r_ne (h : scal x y = true) (q : Q (.bl (!decide (x = y))) H) : rNe x y H Q := ⟨h, q⟩
theorem r_test (q : te σ H fun x H' => ∃ k, x = .bl k ∧ QT k H') : tTest te σ H QT := q
theorem r_B (q : te σ H fun x H' => ∃ k, x = .bl k ∧ QT k H') : tB te σ H QT := q
theorem r_bl {b : Bool} {q : Bool → Prop} (h : q b) : ∃ k, V.bl b = .bl k ∧ q k := ⟨b, rfl, h⟩
theorem r_and (q : t σ H fun c H1 => if c = true then u σ H1 QT else QT false H1) : tAnd t u σ H QT := q
theorem r_or (q : t σ H fun c H1 => if c = true then QT true H1 else u σ H1 QT) : tOr t u σ H QT := q
theorem r_not (q : t σ H fun c H1 => QT (!c) H1) : tNot t σ H QT := q
theorem r_andV (q : ta σ H fun x H1 => ∃ c, x = .bl c ∧ if c = true then tb σ H1 Q else Q (.bl false) H1) : tAndV ta tb σ H Q := q
theorem r_orV (q : ta σ H fun x H1 => ∃ c, x = .bl c ∧ if c = true then Q (.bl true) H1 else tb σ H1 Q) : tOrV ta tb σ H Q := q
theorem r_notV (q : ta σ H fun x H1 => ∃ c, x = .bl c ∧ Q (.bl (!c)) H1) : tNotV ta σ H Q := q
theorem r_if (q : t σ H fun c H1 => if c = true then ta σ H1 Q else tb σ H1 Q) : tIf t ta tb σ H Q := q
theorem r_nil (q : QA [] H) : tNil σ H QA := q
theorem r_cons (q : ta σ H fun x H1 => tr σ H1 fun xs H2 => QA (x :: xs) H2) : tCons ta tr σ H QA := q
theorem r_tup (q : tA σ H fun xs H1 => xs.length ≤ sizeLine ∧ ∀ p, H1 p = none → Q (.ref p) (upd H1 p (.tup xs))) : tTup tA σ H Q := q
theorem r_lst (q : tA σ H fun xs H1 => xs.length ≤ sizeLine ∧ ∀ p, H1 p = none → Q (.ref p) (upd H1 p (.lst xs))) : tLst tA σ H Q := q
theorem r_call {sp : Sp} {E : XK} (q : tA σ H fun vs H1 => sp (vs ++ []) H1 Q E) : tCall sp [] E tA σ H Q := q
theorem r_cb {r : List V → Hp → VK → Prop} (q : tA σ H fun vs H1 => r vs H1 Q) : tCB r tA σ H Q := q
theorem r_ixL {n : Int} (h : SqL K H p xs) (ha : atI xs n = some v) (q : Q v H) : rIxL K (.ref p) (.int n) H Q := ⟨p, xs, n, v, rfl, rfl, h, ha, q⟩
theorem r_ixT {n : Int} (h : SqT K H p xs) (ha : atI xs n = some v) (q : Q v H) : rIxT K (.ref p) (.int n) H Q := ⟨p, xs, n, v, rfl, rfl, h, ha, q⟩
theorem r_ixS {z : Str} {n : Int} {c : Nat} (hz : z.length ≤ sizeLine) (ha : atI z.cps.toList n = some c) (q : Q (.str ⟨#[c]⟩) H) : rIxS (.str z) (.int n) H Q := ⟨z, n, c, rfl, rfl, hz, ha, q⟩
theorem r_setL {n : Int} {j : Nat} {QH : Hp → Prop} (h : H p = some (.lst xs)) (hj : ixN xs.length n = some j) (q : QH (upd H p (.lst (xs.set j v)))) : rSetL (.ref p) (.int n) v H QH := ⟨p, xs, n, j, rfl, rfl, h, hj, q⟩
theorem r_fld {f : Str} (q : ta σ H fun x H1 => ∃ a C dx fs v, x = .ref a ∧ H1 a = some (.ins C dx fs) ∧ Cls K C ∧ NoAttr K C f ∧ fs.lookup f = some v ∧ Q v H1) : tFld K ta f σ H Q := q
theorem r_meth {C : Addr} {m : Str} {sp : Sp} {E : XK} (q : ta σ H fun x H1 => ∃ a dx fs, x = .ref a ∧ H1 a = some (.ins C dx fs) ∧ fs.lookup m = none ∧ tA σ H1 fun vs H2 => sp (x :: (vs ++ [])) H2 Q E) : tMeth C m sp [] E ta tA σ H Q := q
theorem r_cval {C : Addr} {mc : Value} {f : Str} {uu : Value} (h1 : ClX.CRead K C mc) (h2 : ClX.CVal K C mc f v uu) (q : Q v H) : ClX.tCVal K (tC (.ref C)) f σ H Q := ⟨C, mc, v, uu, rfl, h1, h2, q⟩
theorem r_fldV {C dx : Addr} {fs : List (Str × V)} {f : Str} (hp : H a = some (.ins C dx fs)) (hc : Cls K C) (hn : NoAttr K C f) (hl : fs.lookup f = some v) (hv : σ[i]? = some (some (.ref a))) (q : Q v H) : tFld K (tVar i) f σ H Q := ⟨.ref a, hv, a, C, dx, fs, v, rfl, hp, hc, hn, hl, q⟩
theorem r_sfld {f : Str} {tv : TE} (q : tv σ H fun y H1 => ta σ H1 fun x H2 => ∃ a C dx fs, x = .ref a ∧ H2 a = some (.ins C dx fs) ∧ Cls K C ∧ NoAttr K C f ∧ fs.length < 1000 ∧ D.nx σ (upd H2 a (.ins C dx (putF f y fs)))) : sFld K ta tv f D σ H := q
theorem r_itup (q : te σ H fun x H1 => ∃ a, x = .ref a ∧ (∃ xs, SqT K H1 a xs) ∧ R (Itt K a) H1) : iTup K te σ H R := q
theorem r_ilist (q : te σ H fun x H1 => ∃ a, x = .ref a ∧ (∃ xs, SqL K H1 a xs) ∧ R (Itl K a) H1) : iList K te σ H R := q
theorem r_istr (q : te σ H fun v H1 => ∃ x, v = .str x ∧ R (Its x) H1) : iStr te σ H R := q
theorem r_m1 {r : V → List V → Hp → VK → Prop} (q : ta σ H fun x H1 => (∃ a, x = .str a) ∧ te σ H1 fun y H2 => r x [y] H2 Q) : tM1 r ta te σ H Q := q
theorem r_m0 {r : V → List V → Hp → VK → Prop} (q : ta σ H fun x H1 => (∃ a, x = .str a) ∧ r x [] H1 Q) : tM0 r ta σ H Q := q
theorem r_isStr {z : Str} {B : Prop} (g : B) : (∃ a, V.str z = .str a) ∧ B := ⟨⟨z, rfl⟩, g⟩
theorem r_exStr {z : Str} {q : Str → Prop} (g : q z) : ∃ x, V.str z = .str x ∧ q x := ⟨z, rfl, g⟩
theorem r_gname {QG : L2.St → Hp → Prop} (q : QG (σ.set i (some v)) H) : gName i v σ H QG := q
theorem r_callD {sp : Sp} {dvs : List V} {E : XK} (q : tA σ H fun vs H1 => sp (vs ++ dvs) H1 Q E) : tCall sp dvs E tA σ H Q := q
theorem r_callN {n m : Nat} {sp : Sp} {gV : List V → List V → List V} {E : XK} {tk : TA} (q : tA σ H fun vs H1 => tk σ H1 fun zs H2 => vs.length = n ∧ zs.length = m ∧ sp (gV vs zs) H2 Q E) : tCallN n m sp gV E tA tk σ H Q := q
theorem r_dget1 (q : ta σ H fun x H1 => ∃ a, x = .ref a ∧ IsD H1 a ∧ tb σ H1 fun y H2 => ∃ o, DGet H2 a y o ∧ Q (o.getD .non) H2) : tDGet1 ta tb σ H Q := q
theorem r_dget (q : ta σ H fun x H1 => tb σ H1 fun y H2 => ∃ a v, x = .ref a ∧ DGet H2 a y (some v) ∧ Q v H2) : tDGet ta tb σ H Q := q
theorem r_disp {trs : List (TE × TE)} (q : ∀ p, H p = none → tPairs trs σ (upd H p (.dK [])) fun ps H2 => H2 p = some (.dK []) ∧ ∃ kvs : List (Key × V), ps = kvs.map (fun kv => (kV kv.1, kv.2)) ∧ kvs.length ≤ 15 ∧ Q (.ref p) (upd H2 p (.dK (mergeK [] kvs)))) : tDisp trs σ H Q := q
theorem r_pairs {trs : List (TE × TE)} {QP : List (V × V) → Hp → Prop} (q : ta σ H fun x H1 => tb σ H1 fun y H2 => tPairs trs σ H2 fun ps H3 => QP ((x, y) :: ps) H3) : tPairs ((ta, tb) :: trs) σ H QP := q
theorem r_pairs0 {QP : List (V × V) → Hp → Prop} (q : QP [] H) : tPairs [] σ H QP := q
theorem r_fldK {C dx : Addr} {fs : List (Str × V)} {f : Str} {G : V → Prop} (hp : H p = some (.ins C dx fs)) (hc : Cls K C) (hn : NoAttr K C f) (hl : fs.lookup f = some v) (q : G v) :
    ∃ a C dx fs v, V.ref p = .ref a ∧ H a = some (.ins C dx fs) ∧ Cls K C ∧ NoAttr K C f ∧ fs.lookup f = some v ∧ G v := ⟨p, C, dx, fs, v, rfl, hp, hc, hn, hl, q⟩
theorem r_gtup {n : Nat} {gs : TGs} {QG : L2.St → Hp → Prop} (h : SqT K H a xs) (hn : xs.length = n) (q : gs xs σ H QG) : gTup K n gs (.ref a) σ H QG := ⟨a, xs, rfl, h, hn, q⟩
theorem r_gcons {g : TG} {gs : TGs} {QG : L2.St → Hp → Prop} (q : g v σ H fun σ' H' => gs xs σ' H' QG) : gCons g gs (v :: xs) σ H QG := ⟨v, xs, rfl, q⟩
theorem r_gnil {QG : L2.St → Hp → Prop} (q : QG σ H) : gNil [] σ H QG := ⟨rfl, q⟩
theorem r_asgG {g : TG} (q : te σ H fun x H1 => g x σ H1 D.nx) : tAsg te g D σ H := q
theorem r_rng2 {m n : Int} {q : Int → Int → Prop} (h : q m n) : ∃ i j : Int, [V.int m, V.int n] = [.int i, .int j] ∧ q i j := ⟨m, n, rfl, h⟩
theorem r_irng2 (q : tA σ H fun vs H1 => ∃ i j : Int, vs = [.int i, .int j] ∧ (-(2 ^ 62) ≤ i ∧ i < 2 ^ 62 ∧ -(2 ^ 62) ≤ j ∧ j < 2 ^ 62) ∧ R (Itr i (j - i).toNat) H1) : iRng2 tA σ H R := q
theorem r_cat {p' : Addr} (h : H p = some (.lst xs)) (h' : H p' = some (.lst ys)) (hl : xs.length + ys.length ≤ sizeLine) (g : ∀ c, H c = none → Q (.ref c) (upd H c (.lst (xs ++ ys)))) : rCat (.ref p) (.ref p') H Q := ⟨p, p', xs, ys, rfl, rfl, h, h', hl, g⟩
theorem r_bm {T : String} {r : V → List V → Hp → VK → Prop} (q : ta σ H fun x H1 => tyV K T x H1 ∧ tA σ H1 fun xs H2 => r x xs H2 Q) : tBM K T r ta tA σ H Q := q
theorem r_tyL {B : Prop} (h : SqL K H p xs) (g : B) : tyV K "list" (.ref p) H ∧ B := ⟨.inl ⟨rfl, xs, h⟩, g⟩
theorem r_append (h : H p = some (.lst xs)) (hl : xs.length < sizeLine) (q : Q .non (upd H p (.lst (xs ++ [v])))) : rAppend (.ref p) [v] H Q := ⟨p, xs, v, rfl, rfl, h, hl, q⟩
theorem r_seq (q : t1 { D with nx := t2 D } σ H) : tSeq t1 t2 D σ H := q
theorem r_next (q : D.nx σ H) : tNext D σ H := q
theorem r_asg (q : te σ H fun x H1 => D.nx (σ.set i (some x)) H1) : tAsg te (gName i) D σ H := q
theorem r_asgS {s : TSet} (q : te σ H fun v H1 => ta σ H1 fun o H2 => tb σ H2 fun i H3 => s o i v H3 fun H4 => D.nx σ H4) : tAsg te (gSub ta tb s) D σ H := q
theorem r_ifS (q : t σ H fun b H1 => if b = true then t1 D σ H1 else t2 D σ H1) : tIfS t t1 t2 D σ H := q
theorem r_dput (q : tc σ H fun v H1 => ta σ H1 fun x H2 => tb σ H2 fun y H3 => ∃ a H4, x = .ref a ∧ DPut H3 a y v H4 ∧ D.nx σ H4) : sDPut ta tb tc D σ H := q
theorem r_ret (q : te σ H D.rt) : tRet te D σ H := q
theorem r_drop (q : te σ H fun _ H1 => D.nx σ H1) : tDrop te D σ H := q
theorem r_par {k j : Nat} (q : tA σ H fun vs H1 => ∃ v w, vs = [v, w] ∧ D.nx ((σ.set k (some v)).set j (some w)) H1) : tPar k j tA D σ H := q
theorem r_aug {tip : TIp} (h : σ[i]? = some (some x)) (q : te σ H fun y H1 => tip x y H1 fun z H2 => D.nx (σ.set i (some z)) H2) : tAug i te tip D σ H := ⟨x, h, q⟩
theorem r_match {tm : V → TS} (q : te σ H fun x H1 => tm x D σ H1) : tMatch te tm D σ H := q
theorem r_mstr {x y : Str} {tm : V → TS} (q : if decide (y = x) = true then t1 D σ H else tm (.str y) D σ H) : tmStr x t1 tm (.str y) D σ H := ⟨y, rfl, q⟩
theorem r_mnil (q : D.nx σ H) : tmNil v D σ H := q
theorem r_sl {r : V → Option Int → Option Int → Hp → VK → Prop} {tl th : TO} (q : te σ H fun x H1 => tl σ H1 fun l H2 => th σ H2 fun u H3 => r x l u H3 Q) : tSl r te tl th σ H Q := q
theorem r_nopart {QO : Option Int → Hp → Prop} (q : QO none H) : tNoPart σ H QO := q
theorem r_part {QO : Option Int → Hp → Prop} (q : te σ H fun x H1 => ∃ i, x = .int i ∧ QO (some i) H1) : tPart te σ H QO := q
theorem r_int {m : Int} {q : Int → Prop} (h : q m) : ∃ k, V.int m = .int k ∧ q k := ⟨m, rfl, h⟩
theorem r_int1 {m : Int} {q : Int → Prop} {B : Prop} (h : q m) : (∃ i, [V.int m] = [V.int i] ∧ q i) ∨ B := .inl ⟨m, rfl, h⟩
theorem r_bl1 {b : Bool} {q : Bool → Prop} {A : Prop} (h : q b) : A ∨ ∃ k, [V.bl b] = [V.bl k] ∧ q k := .inr ⟨b, rfl, h⟩
theorem r_ex1 {m : Int} {q : Int → Prop} (h : q m) : ∃ i, [V.int m] = [V.int i] ∧ q i := ⟨m, rfl, h⟩
theorem r_ex2 {m n : Int} {q : Int → Int → Prop} (h : q m n) : ∃ i j, [V.int m, V.int n] = [V.int i, V.int j] ∧ q i j := ⟨m, n, rfl, h⟩
theorem r_lenS {q : List V → Prop} (h : SqL K H p xs) (g : q xs) : ∃ a ys, [V.ref p] = [V.ref a] ∧ (SqL K H a ys ∨ SqT K H a ys) ∧ q ys := ⟨p, xs, rfl, .inl h, g⟩
theorem r_slL {lo hi : Option Int} (h : SqL K H p xs) (q : ∀ c, H c = none → Q (.ref c) (upd H c (.lst (cutV xs lo hi)))) : rSlL K (.ref p) lo hi H Q := ⟨p, xs, rfl, h, q⟩
theorem r_for {wi : TI} {g : TG} (q : wi σ H fun J H1 => ForW J g t1 D σ H1) : tFor wi g t1 D σ H := q
theorem r_lc {wi : TI} {g : TG} {tt : TT} {vs : List Nat} (q : wi σ H fun J H1 => LcW J g tt te vs σ H1 Q) : tLc wi g tt te vs σ H Q := q
theorem r_irng1 (q : tA σ H fun vs H1 => ∃ j : Int, vs = [.int j] ∧ -(2 ^ 62) ≤ j ∧ j < 2 ^ 62 ∧ R (Itr 0 j.toNat) H1) : iRng1 tA σ H R := q
theorem r_iteT {c : Prop} [Decidable c] {A B : Prop} (h : c) (q : A) : if decide c = true then A else B := by rw [if_pos (decide_eq_true h)]; exact q
theorem r_iteF {c : Prop} [Decidable c] {A B : Prop} (h : ¬ c) (q : B) : if decide c = true then A else B := by rw [if_neg (by simpa using h)]; exact q
theorem r_iteNT {c : Prop} [Decidable c] {A B : Prop} (h : ¬ c) (q : A) : if (!decide c) = true then A else B := by rw [if_pos (by simpa using h)]; exact q
theorem r_iteNF {c : Prop} [Decidable c] {A B : Prop} (h : c) (q : B) : if (!decide c) = true then A else B := by rw [if_neg (by simpa using h)]; exact q
theorem ite_join {c : Prop} [Decidable c] (Z : VK) (h1 : c → ∀ Q : VK, (∀ v H', Z v H' → Q v H') → ta σ H Q) (h2 : ¬ c → ∀ Q : VK, (∀ v H', Z v H' → Q v H') → tb σ H Q) (q : ∀ v H', Z v H' → Q v H') : if decide c = true then ta σ H Q else tb σ H Q := by
  by_cases h : c
  · rw [if_pos (decide_eq_true h)]; exact h1 h Q q
  · rw [if_neg (by simpa using h)]; exact h2 h Q q
theorem r_make {C : Addr} {sp : Sp} {E : XK} (q : tA σ H fun vs H1 => ∀ x dx, H1 x = none → H1 dx = none → dx ≠ x → sp (.ref x :: (vs ++ [])) (upd (upd H1 dx (.own x)) x (.ins C dx [])) (fun v H2 => v = .non ∧ Q (.ref x) H2) E) : tMake C sp [] E tA σ H Q := q
theorem r_addS {m n : Str} {q : Str → Str → Prop} (h : m.length + n.length ≤ sizeLine) (g : q m n) : ∃ i j, V.str m = .str i ∧ V.str n = .str j ∧ i.length + j.length ≤ sizeLine ∧ q i j := ⟨m, n, rfl, rfl, h, g⟩
theorem iteNt {A B : Prop} (h : B) : if (!true) = true then A else B := h
theorem iteNf {A B : Prop} (h : A) : if (!false) = true then A else B := h
theorem r_ite2 {c : Prop} [Decidable c] {A B : Prop} (h1 : c → A) (h2 : ¬ c → B) : if decide c = true then A else B := by
  by_cases h : c
  · exact r_iteT h (h1 h)
  · exact r_iteF h (h2 h)
theorem r_iteN2 {c : Prop} [Decidable c] {A B : Prop} (h1 : ¬ c → A) (h2 : c → B) : if (!decide c) = true then A else B := by
  by_cases h : c
  · exact r_iteNF h (h2 h)
  · exact r_iteNT h (h1 h)
end

theorem at_start {t : TS} {D : Ends} {σ σ0 : L2.St} {H : Hp} (h : σ0 = σ) (q : t D σ H) : t D σ0 H := h ▸ q
theorem cx_K {CX : CXT} {P : Program} {w : World} {K : PySem.W.Frag} {mg : Str → Option Value} {base : Heap} {N : List Str} {qual : Str} {sc : Scope} {f : Addr} {cd : Value} {A : Around} {outer : List Env} {s : Shared} {H : Hp} {E : XK} : (cxOf CX P w K mg base N qual sc f cd A outer s H E).nox.K = K := rfl
theorem mul_bd {x y A B : Int} (h0 : 0 ≤ x) (h1 : x ≤ A) (h2 : 0 ≤ y) (h3 : y ≤ B) : 0 ≤ x * y ∧ x * y ≤ A * B := ⟨Int.mul_nonneg h0 h2, Int.mul_le_mul h1 h3 h2 (Int.le_trans h0 h1)⟩
/-! ### flat lists compared -/
theorem dp_ints {K : PySem.W.Frag} {H : Hp} : ∀ ns : List Int, DpAll K H (ns.map V.int) (ns.map PyData.int)
  | [] => .nil
  | n :: r => .cons (.int n) (dp_ints r)
theorem lay_ints : ∀ ns : List Int, PyData.canLayAll0 (ns.map PyData.int) = true
  | [] => rfl
  | n :: r => by
    show (PyData.canLay0 (.int n) && PyData.canLayAll0 (r.map PyData.int)) = true
    rw [lay_ints r]; rfl
theorem depth_ints : ∀ ns : List Int, PyData.depthAll (ns.map PyData.int) = 0
  | [] => rfl
  | n :: r => by
    show max (PyData.depth (.int n)) (PyData.depthAll (r.map PyData.int)) = 0
    rw [depth_ints r]; rfl
theorem shaped_ints (ns : List Int) : SeqAt.shaped (.list (ns.map PyData.int)) = true := by
  show (PyData.canLayAll0 (ns.map PyData.int) && decide (PyData.depthAll (ns.map PyData.int) + 1 ≤ 64)) = true
  rw [lay_ints, depth_ints]; rfl
theorem eqv_ints : ∀ ns ms : List Int, PyData.eqvAll (ns.map PyData.int) (ms.map PyData.int) = decide (ns = ms)
  | [], [] => rfl
  | [], _ :: _ => rfl
  | _ :: _, [] => rfl
  | n :: r, m :: q => by
    show ((n == m) && PyData.eqvAll (r.map PyData.int) (q.map PyData.int)) = decide (n :: r = m :: q)
    rw [eqv_ints r q]
    by_cases h1 : n = m <;> by_cases h2 : r = q <;> simp [h1, h2]
theorem eqT_shaped (ns : List Int) : SeqAt.shaped (.tuple (ns.map PyData.int)) = true := by
  show (PyData.canLayAll0 (ns.map PyData.int) && decide (PyData.depthAll (ns.map PyData.int) + 1 ≤ 64)) = true
  rw [lay_ints, depth_ints]; rfl
theorem r_neIntsT {K : PySem.W.Frag} {H : Hp} {Q : VK} {a b : Addr} {ns ms : List Int} (h : SqT K H a (ns.map V.int)) (h' : SqT K H b (ms.map V.int)) (q : Q (.bl (!decide (ns = ms))) H) : rNeD K (.ref a) (.ref b) H Q :=
  ⟨_, _, .tup h (dp_ints ns), .tup h' (dp_ints ms), eqT_shaped ns, eqT_shaped ms, (show Q (.bl (!PyData.eqvAll (ns.map PyData.int) (ms.map PyData.int))) H by rw [eqv_ints]; exact q)⟩
theorem r_eqInts {K : PySem.W.Frag} {H : Hp} {Q : VK} {a b : Addr} {ns ms : List Int} (h : SqL K H a (ns.map V.int)) (h' : SqL K H b (ms.map V.int)) (q : Q (.bl (decide (ns = ms))) H) : rEqD K (.ref a) (.ref b) H Q :=
  ⟨_, _, .lst h (dp_ints ns), .lst h' (dp_ints ms), shaped_ints ns, shaped_ints ms, (show Q (.bl (PyData.eqvAll (ns.map PyData.int) (ms.map PyData.int))) H by rw [eqv_ints]; exact q)⟩
theorem r_neInts {K : PySem.W.Frag} {H : Hp} {Q : VK} {a b : Addr} {ns ms : List Int} (h : SqL K H a (ns.map V.int)) (h' : SqL K H b (ms.map V.int)) (q : Q (.bl (!decide (ns = ms))) H) : rNeD K (.ref a) (.ref b) H Q :=
  ⟨_, _, .lst h (dp_ints ns), .lst h' (dp_ints ms), shaped_ints ns, shaped_ints ms, (show Q (.bl (!PyData.eqvAll (ns.map PyData.int) (ms.map PyData.int))) H by rw [eqv_ints]; exact q)⟩
theorem inV_strs {z : Str} : ∀ zs : List Str, inV (.str z) (zs.map V.str) = decide (z ∈ zs)
  | [] => by simp [inV]
  | y :: r => by
    have ih := inV_strs (z := z) r
    unfold inV at ih ⊢
    rw [List.map_cons, List.any_cons, ih]
    show (decide (y = z) || decide (z ∈ r)) = decide (z ∈ y :: r)
    by_cases e : y = z
    · subst e; simp
    · have e' : ¬ z = y := fun q => e q.symm
      simp [e, e']
theorem inV_ints {z : Int} : ∀ zs : List Int, inV (.int z) (zs.map V.int) = decide (z ∈ zs)
  | [] => by simp [inV]
  | y :: r => by
    have ih := inV_ints (z := z) r
    unfold inV at ih ⊢
    rw [List.map_cons, List.any_cons, ih]
    show ((y == z) || decide (z ∈ r)) = decide (z ∈ y :: r)
    by_cases e : y = z
    · subst e; simp
    · have e' : ¬ z = y := fun q => e q.symm
      simp [e, e']
theorem flat_ints : ∀ zs : List Int, (zs.map V.int).all flatV = true
  | [] => rfl
  | y :: r => by rw [List.map_cons, List.all_cons, flat_ints r]; rfl
theorem r_notInI {K : PySem.W.Frag} {H : Hp} {Q : VK} {p : Addr} {z : Int} {zs : List Int} (h : SqL K H p (zs.map V.int) ∨ SqT K H p (zs.map V.int)) (q : Q (.bl (!decide (z ∈ zs))) H) : rIn K true (.int z) (.ref p) H Q :=
  ⟨p, _, rfl, h, rfl, flat_ints zs, (show Q (.bl (!inV (.int z) (zs.map V.int))) H by rw [inV_ints]; exact q)⟩
theorem r_inI {K : PySem.W.Frag} {H : Hp} {Q : VK} {p : Addr} {z : Int} {zs : List Int} (h : SqL K H p (zs.map V.int) ∨ SqT K H p (zs.map V.int)) (q : Q (.bl (decide (z ∈ zs))) H) : rIn K false (.int z) (.ref p) H Q :=
  ⟨p, _, rfl, h, rfl, flat_ints zs, (show Q (.bl (inV (.int z) (zs.map V.int))) H by rw [inV_ints]; exact q)⟩
theorem flat_strs : ∀ zs : List Str, (zs.map V.str).all flatV = true
  | [] => rfl
  | y :: r => by rw [List.map_cons, List.all_cons, flat_strs r]; rfl
theorem r_notInS {K : PySem.W.Frag} {H : Hp} {Q : VK} {p : Addr} {z : Str} {zs : List Str} (h : SqL K H p (zs.map V.str) ∨ SqT K H p (zs.map V.str)) (q : Q (.bl (!decide (z ∈ zs))) H) : rIn K true (.str z) (.ref p) H Q :=
  ⟨p, _, rfl, h, rfl, flat_strs zs, (show Q (.bl (!inV (.str z) (zs.map V.str))) H by rw [inV_strs]; exact q)⟩
theorem r_inS {K : PySem.W.Frag} {H : Hp} {Q : VK} {p : Addr} {z : Str} {zs : List Str} (h : SqL K H p (zs.map V.str) ∨ SqT K H p (zs.map V.str)) (q : Q (.bl (decide (z ∈ zs))) H) : rIn K false (.str z) (.ref p) H Q :=
  ⟨p, _, rfl, h, rfl, flat_strs zs, (show Q (.bl (inV (.str z) (zs.map V.str))) H by rw [inV_strs]; exact q)⟩
/-! ### heaps -/
theorem upd_new {H : Hp} {a p : Addr} {o u : HO} (hn : H p = none) (h : H a = some u) : upd H p o a = some u := by rw [upd_ne (ne_of_none h hn)]; exact h
theorem same_new {H : Hp} {p : Addr} {o : HO} (hn : H p = none) : Same H (upd H p o) := fun _ _ e => upd_new hn e
theorem Same.up {H H' : Hp} {a : Addr} {o : HO} (s : Same H H') (h : H a = some o) : H' a = some o := s a o h
theorem same_mut {H H' : Hp} {p : Addr} {o : HO} (s : Same H H') (hn : H p = none) : Same H (upd H' p o) := fun _ _ e => by rw [upd_ne (ne_of_none e hn)]; exact s _ _ e
theorem same_seqT {K : PySem.W.Frag} {H H' : Hp} {a : Addr} {xs : List V} (e : Same H H') (h : SqT K H a xs) : SqT K H' a xs := by
  rcases h with (h | ⟨o, h⟩) | h
  · exact .inl (.inl (e _ _ h))
  · exact .inl (.inr ⟨o, e _ _ h⟩)
  · exact .inr h
theorem small1000' {n : Nat} (h : n ≤ 10000) : n < sizeLine := Nat.lt_of_le_of_lt h (by decide)
/-- a comprehension whose test and element are pure -/
theorem lc_all {J : It} {n : Nat} {G : Hp → Prop} {Y : Nat → Hp → V → Hp → Prop} (wk : Walk J n G Y) {tt : TT} {te : TE} {vs : List Nat} {σ : L2.St} {H1 : Hp} {Q : VK} {j : Nat} (yv : Nat → V) (f : Nat → Bool) (v : Nat → V) (hn : n ≤ 10000)
    (hY : ∀ i H x H', i < n → Y i H x H' → H' = H ∧ x = yv i) (hG : ∀ H', Same H1 H' → G H') (hw : ∀ x, wipe ((wipe σ vs).set j (some x)) vs = wipe σ vs)
    (ht : ∀ i H', i < n → Same H1 H' → ∀ QT : Bool → Hp → Prop, (∀ H2, Same H' H2 → QT (f i) H2) → tt ((wipe σ vs).set j (some (yv i))) H' QT)
    (he : ∀ i H', i < n → f i = true → Same H1 H' → ∀ Q : VK, (∀ H2, Same H' H2 → Q (v i) H2) → te ((wipe σ vs).set j (some (yv i))) H' Q)
    (hd : ∀ D H', H1 D = none → Same H1 H' → H' D = some (.lst (Evl.given n f v)) → Q (.ref D) H') :
    LcW J (gName j) tt te vs σ H1 Q := by
  intro D hD
  refine lc_it wk (Qd := fun H => Q (.ref D) H) (fun i H => Same H1 H ∧ H D = some (.lst (Evl.given i f v))) ⟨same_new hD, upd_same⟩ (fun i H _ p => hG H p.1) (fun i x H H' hi p y => ?_) (fun H p => hd D H hD p.1 p.2)
  obtain ⟨rfl, rfl⟩ := hY i H x H' hi y
  refine ⟨hw _, ?_⟩
  refine ht i _ hi p.1 _ fun H2 s2 => ?_
  cases e : f i with
  | true =>
    refine iteT ?_
    refine he i H2 hi e (p.1.trans s2) _ fun H3 s3 => ?_
    refine ⟨_, s3 _ _ (s2 _ _ p.2), small1000' (Nat.le_trans (Evl.given_len i f v) (by omega)), same_mut ((p.1.trans s2).trans s3) hD, ?_⟩
    rw [upd_same, Evl.given_yes e]
  | false =>
    refine iteF ?_
    refine ⟨p.1.trans s2, ?_⟩
    rw [s2 _ _ p.2, Evl.given_no e]
theorem range_get {α : Type} (xs : List α) (d : α) : (List.range xs.length).map (fun i => xs.getD i d) = xs := by
  refine List.ext_getElem (by simp) fun i h1 h2 => ?_
  simp [List.getElem?_eq_getElem h2]
theorem given_filter {α : Type} (xs : List α) (d : α) (p : α → Bool) (g : α → V) : Evl.given xs.length (fun i => p (xs.getD i d)) (fun i => g (xs.getD i d)) = (xs.filter p).map g := by
  unfold Evl.given
  have e := range_get xs d
  have h2 : (List.range xs.length).filter (fun i => p (xs.getD i d)) = (List.range xs.length).filter (p ∘ fun i => xs.getD i d) := rfl
  have h3 : ((List.range xs.length).filter (p ∘ fun i => xs.getD i d)).map (g ∘ fun i => xs.getD i d) = (xs.filter p).map g := by
    rw [← List.map_map, ← List.filter_map, e]
  exact h3
theorem given_map {α : Type} (xs : List α) (d : α) (g : α → V) : Evl.given xs.length (fun _ => true) (fun i => g (xs.getD i d)) = xs.map g := by
  have h := given_filter xs d (fun _ => true) g
  rw [List.filter_eq_self.mpr (fun _ _ => rfl)] at h
  exact h
theorem atI_map {α : Type} {xs : List α} {g : α → V} {r : Int} (h0 : 0 ≤ r) (h1 : r < (xs.length : Int)) : ∃ x ∈ xs, atI (xs.map g) r = some (g x) := by
  obtain ⟨n, rfl⟩ : ∃ n : Nat, r = (n : Int) := ⟨r.toNat, by omega⟩
  have hl : n < xs.length := by omega
  refine ⟨xs[n], List.getElem_mem hl, ?_⟩
  exact atI_nat (by simp [hl])
theorem YAt_get {α : Type} {xs : List α} {d : α} {g : α → V} {i : Nat} {H : Hp} {x : V} {H' : Hp} (hi : i < (xs.map g).length) (y : YAt (xs.map g) i H x H') : H' = H ∧ x = g (xs.getD i d) := by
  obtain ⟨rfl, e⟩ := y
  refine ⟨rfl, ?_⟩
  have hl : i < xs.length := by simpa using hi
  rw [List.getElem?_map, List.getElem?_eq_getElem hl] at e
  have e' : g xs[i] = x := Option.some.inj e
  rw [← e', List.getD_eq_getElem?_getD, List.getElem?_eq_getElem hl]
  rfl
theorem r_isiS {K : PySem.W.Frag} {H : Hp} {Q : VK} {z : Str} (q : Q (.bl true) H) : rIsi K [.str z, .ty "str"] H Q := ⟨_, _, .type "str", _, _, rfl, .ty _, .base (.str z), kit_ty (by decide +kernel), q⟩
theorem cutV_take (xs : List V) (n : Nat) : cutV xs none (some (n : Int)) = xs.take n := by
  unfold cutV
  rw [HT.sIx_none, HT.sIx_nat]
  simp only [List.drop_zero, Nat.sub_zero]
  by_cases h : n ≤ xs.length
  · rw [Nat.min_eq_left h]
  · rw [Nat.min_eq_right (by omega), List.take_length, List.take_of_length_le (by omega)]
theorem decI {a b : Int} : decide (V.int a = V.int b) = decide (a = b) := by
  by_cases h : a = b
  · rw [h]; simp
  · rw [decide_eq_false h, decide_eq_false fun z => h (V.int.inj z)]
theorem decS {a b : Str} : decide (V.str a = V.str b) = decide (a = b) := by
  by_cases h : a = b
  · rw [h]; simp
  · rw [decide_eq_false h, decide_eq_false fun z => h (V.str.inj z)]
/-- a list of truths made by a comprehension -/
theorem given_bl {α : Type} (xs : List α) (d : α) (p : α → Bool) : Evl.given xs.length (fun _ => true) (fun i => V.bl (p (xs.getD i d))) = (xs.map p).map V.bl := by
  rw [given_map xs d (fun x => V.bl (p x)), List.map_map]
  rfl
theorem given_int {α : Type} (xs : List α) (d : α) (p : α → Int) : Evl.given xs.length (fun _ => true) (fun i => V.int (p (xs.getD i d))) = (xs.map p).map V.int := by
  rw [given_map xs d (fun x => V.int (p x)), List.map_map]
  rfl
theorem all_id {α : Type} (xs : List α) (p : α → Bool) : (xs.map p).all id = xs.all p := by
  rw [List.all_map]
  rfl
def optV : Option Int → V
  | none => .non
  | some i => .int i
theorem strEq {a b : Str} (h : V.str a = V.str b) : a = b := V.str.inj h
theorem strNe {a b : Str} (h : ¬ V.str a = V.str b) : ¬ a = b := fun z => h (by rw [z])
theorem intEq {a b : Int} (h : V.int a = V.int b) : a = b := V.int.inj h
theorem intNe {a b : Int} (h : ¬ V.int a = V.int b) : ¬ a = b := fun z => h (by rw [z])
theorem r_iteS2 {a b : Str} {A B : Prop} (h1 : a = b → A) (h2 : ¬ a = b → B) : if decide (V.str a = V.str b) = true then A else B := r_ite2 (fun h => h1 (strEq h)) (fun h => h2 (strNe h))
theorem r_iteI2 {a b : Int} {A B : Prop} (h1 : a = b → A) (h2 : ¬ a = b → B) : if decide (V.int a = V.int b) = true then A else B := r_ite2 (fun h => h1 (intEq h)) (fun h => h2 (intNe h))
theorem r_iteB {b : Bool} {A B : Prop} (h1 : b = true → A) (h2 : b = false → B) : if b = true then A else B := by
  cases b
  · exact iteF (h2 rfl)
  · exact iteT (h1 rfl)
theorem r_iteBN {b : Bool} {A B : Prop} (h1 : b = false → A) (h2 : b = true → B) : if (!b) = true then A else B := by
  cases b
  · exact iteT (h1 rfl)
  · exact iteF (h2 rfl)
theorem val_to {Q : VK} {v v' : V} {H : Hp} (z : Q v H) (e : v = v') : Q v' H := e ▸ z
theorem r_isiO {K : PySem.W.Frag} {H : Hp} {Q : VK} {o : Option Int} (q : Q (.bl false) H) : rIsi K [optV o, .ty "bool"] H Q := by
  cases o with
  | none => exact ⟨_, _, .type "NoneType", _, _, rfl, .ty _, .base .non, kit_ty (by decide +kernel), q⟩
  | some i => exact ⟨_, _, .type "int", _, _, rfl, .ty _, .base (.int i), kit_ty (by decide +kernel), q⟩
theorem r_neO {H : Hp} {Q : VK} {o : Option Int} (q : Q (.bl false) H) : rNe (optV o) (optV o) H Q := by
  refine ⟨by cases o <;> rfl, ?_⟩
  rw [decide_eq_true rfl]
  exact q
theorem r_isNone {B : Prop} (q : B) : V.non = V.non ∧ B := ⟨rfl, q⟩
theorem r_neB {H : Hp} {Q : VK} {b : Bool} (q : Q (.bl false) H) : rNe (.bl b) (.bl b) H Q := by
  refine ⟨rfl, ?_⟩
  rw [decide_eq_true rfl]
  exact q
theorem putF_le (f : Str) (v : V) : ∀ fs : List (Str × V), (putF f v fs).length ≤ fs.length + 1
  | [] => Nat.le_refl _
  | (g, x) :: r => by
    unfold putF
    split
    · simp
    · have := putF_le f v r
      simp only [List.length_cons]
      omega
theorem putF_lt {f : Str} {v : V} {fs : List (Str × V)} {n m : Nat} (h : fs.length + (n + 1) < m) : (putF f v fs).length + n < m := by
  have := putF_le f v fs
  omega
theorem putF_lt0 {f : Str} {v : V} {fs : List (Str × V)} {m : Nat} (h : fs.length + 1 < m) : (putF f v fs).length < m := putF_lt (n := 0) h
theorem sz_lit {n : Nat} (h : n ≤ 1000) : n ≤ sizeLine := Nat.le_of_lt (small1000 h)
end KB

/-! KG: own layer: defs called while no repr is under way (A.guards = some []); repr of data. -/
namespace KG
open PySem PySem.Spec PyProof.Rows L2 KB
abbrev Free (A : Around) : Prop := A.guards = some []
theorem free_deeper {A : Around} (g : Free A) (env : Env) : Free (A.deeper env) := g
/-- as FnOk, asked only where no repr is under way -/
structure FnG (P : Program) (w : World) (K : PySem.W.Frag) (mg : Str → Option Value) (base : Heap) (CX : CXT) (k : Nat) (f : Addr) (fd : FuncData) (ps : List Str) (sp : Sp) : Prop where
  size : ∀ xs h Z W, sp xs h Z W → xs.length = ps.length
  go : ∀ (A : Around), Free A → ∀ (out : List Env) (st : Shared) (h : Hp) (ar : Args) (ws : List Value) (xs : List V) (Z : VK) (W : XK), Room k A → Env0 P w K mg base A out st h → BindsTo st fd ar (ps.zip ws) → Vals xs ws → sp xs h Z W →
    codeAny (model P w) A (.call (.ref f) ar) (CR CX out P w h st Z W) st
theorem FnG.of {P : Program} {w : World} {K : PySem.W.Frag} {mg : Str → Option Value} {base : Heap} {CX : CXT} {k : Nat} {f : Addr} {fd : FuncData} {ps : List Str} {sp : Sp} (F : FnOk P w K mg base CX k f fd ps sp) : FnG P w K mg base CX k f fd ps sp :=
  ⟨F.len, fun A _ => F.run A⟩
section
variable {P : Program} {w : World} {K : PySem.W.Frag} {mg : Str → Option Value} {base : Heap} {CX : CXT}
theorem fnG_body {k : Nat} {f : Addr} {nm ql : Str} {pr : Arguments} {bd : List Stmt} {sc : Scope} {v1 v2 v3 v4 cv v5 v6 : Value} {a1 a2 : Option Addr} {slots : Array (Option Value)} {N ps : List Str} {sp : Sp}
    (look : K.lookup f = some ⟨v6, a2, .func (PySem.W.fnOf nm ql pr bd sc v1 v2 v3 v4 a1 cv v5), slots⟩) (code : PySem.W.codeIn K cv ql = true) (S : FnScope N ps sc) (size : ∀ xs h Z W, sp xs h Z W → xs.length = ps.length)
    (body : ∀ (A : Around) (out : List Env) (st : Shared) (h : Hp) (xs : List V) (Z : VK) (W : XK), Room k (A.deeper (envOfC ql sc st.heap.objs.size f cv)) → Free A → sp xs h Z W →
      ∃ t, PSs (cxOf CX P w K mg base N ql sc f cv A out st h W) bd t ∧ t { nx := fun _ h' => Z .non h', rt := Z } (start N xs) h) :
    FnG P w K mg base CX (k + 1) f (PySem.W.fnOf nm ql pr bd sc v1 v2 v3 v4 a1 cv v5) ps sp := by
  refine ⟨size, fun A fr out st h ar ws xs Z W room env bind vals pre => ?_⟩
  have kin : K.In st.heap := env.mod.kin.keeps fun b o q => (env.bs b o q).1
  have nolim : st.heap.NoLimit := env.mod.nolimit.keeps fun b o q => (env.bs b o q).1
  have kinds : ∀ y ∈ ps.zip ws, sc.names.lookup y.1 = some .local ∨ (sc.names.lookup y.1 = some .cell ∧ ((cellsFrom (st.heap.objs.size + 1) sc.names []).lookup y.1).isSome = true) := by
    intro y hy
    obtain ⟨n, v⟩ := y
    cases S.par n (List.of_mem_zip hy).1 with
    | inl z => exact .inl z
    | inr z => exact .inr ⟨z, PySem.W.cellsFrom_some _ _ _ (.inl z)⟩
  refine codeAny_call_function room.depth (kin _ _ look) rfl S.co S.gen rfl (PySem.W.codeRec_of kin code) (bind _ _ _ _ ?_)
  refine wpAny_newFunctionEnv_cells S.kind kinds fun en he st1 inc => ?_
  subst he
  refine ⟨nolim.keeps inc.toInCall.keep, codeAny_func ?_⟩
  obtain ⟨t, drv, rdg⟩ := body A out st h xs Z W (room.deeper _) fr pre
  have inv : Inv (cxOf CX P w K mg base N ql sc f cv A out st h W) [] (start N xs) h st1 := inv_start S room.hd env (size _ _ _ _ pre) vals inc
  refine wpAny_mono (drv.run [] st1 (start N xs) h _ inv rdg) (fun flow st2 res => ?_) fun _ _ z => z
  cases flow with
  | ret u => exact let ⟨v, _, h2, J, rel, z⟩ := res; ⟨v, h2, J.os, J.bare, J.base, J.hok, rel, z⟩
  | next => exact let ⟨_, h2, J, z⟩ := res; ⟨.non, h2, J.os, J.bare, J.base, J.hok, rfl, z⟩
  | brk => exact (let ⟨_, _, _, z⟩ := res; z : False).elim
  | cont => exact (let ⟨_, _, _, z⟩ := res; z : False).elim
/-- the rule for a def of the text, nothing raised out of it -/
theorem fun_okG {x ql : Str} {stm : Stmt} {f : Addr} {fd : FuncData} {N ps : List Str} {k : Nat} {sp : Sp} (F : Fun K x ql stm f fd) (S : FnScope N ps (defScope stm)) (size : ∀ xs h Z W, sp xs h Z W → xs.length = ps.length)
    (body : ∀ (cv : Value) (A : Around) (out : List Env) (st : Shared) (h : Hp) (xs : List V) (Z : VK) (W : XK), Room k (A.deeper (envOfC ql (defScope stm) st.heap.objs.size f cv)) → Free A → sp xs h Z W →
      ∃ t, PSs (cxOf CX0 P w K mg base N ql (defScope stm) f cv A out st h W).nox (defBody stm) t ∧ t { nx := fun _ h' => Z .non h', rt := Z } (start N xs) h) : FnG P w K mg base CX0 (k + 1) f fd ps sp := by
  obtain ⟨c1, c2, c3, c4, c5, c6, cv, c8, c9, rfl, look, code⟩ := F.ex
  refine fnG_body look code S size fun A out st h xs Z W room fr pre => ?_
  obtain ⟨t, drv, rdg⟩ := body cv A out st h xs Z W room fr pre
  exact ⟨t, drv.nox, rdg⟩
end
/-! ### calls -/
section
variable {X : Cx} {CX : CXT}
theorem runG {k : Nat} {f : Addr} {fd : FuncData} {ps : List Str} {sp : Sp} {E : XK} {dv : List V} {dw : List Value} {pins : List (Addr × Obj)} {σ : L2.St} {h : Hp} {st : Shared} {Z : VK} {ws : List Value} {xs : List V} (F : FnG X.prog X.w X.K X.mg X.base CX k f fd ps sp) (fr : Free X.A) (room : Room k X.A)
    (bind : Binds X.K fd ps dw) (dr : Vals dv dw) (pass : Passes CX X E) (inv : Inv X pins σ h st) (rel : Vals xs ws) (pre : sp (xs ++ dv) h Z E) : wpAny (model X.prog X.w) X.A (call (.ref f) ws) (EP X pins σ Z) X.xe st := by
  have rel2 := rel.append dr
  have size : (ws ++ dw).length = ps.length := rel2.length.symm.trans (F.size _ _ _ _ pre)
  refine wpAny_call (codeAny_mono (F.go X.A fr X.stack st h ⟨ws, []⟩ _ _ Z E room inv.env0 (bind st ws inv.kIn size) rel2 pre) fun res st2 z => ?_)
  match res, z with
  | .error e, z => exact pass pins σ h st e st2 inv z
  | .ok (.ret u), z => exact inv.after z
  | .ok .next, z => exact z.elim
  | .ok .brk, z => exact z.elim
  | .ok .cont, z => exact z.elim
structure CalleeG (P : Program) (w : World) (K : PySem.W.Frag) (mg : Str → Option Value) (base : Heap) (CX : CXT) (k : Nat) (x : Str) (ps : List Str) (sp : Sp) : Prop where
  ex : ∃ (f : Addr) (fd : FuncData), FnG P w K mg base CX k f fd ps sp ∧ mg x = some (.ref f) ∧ PySem.W.keepIn K (.ref f) = true ∧ Binds K fd ps []
theorem pe_callG {k : Nat} {x : Str} {ps : List Str} {sp : Sp} {E : XK} {e : Expr} {es : List Expr} {p pos : Pos} {t : TA} (c : CalleeG X.prog X.w X.K X.mg X.base CX k x ps sp) (fr : Free X.A) (room : Room k X.A) (gl : Gl X x) (pass : Passes CX X E) (ha : PA X (e :: es) t)
    (d1 : (x == ("__debug__" : Str)) = false := by decide) (d2 : starEach (e :: es) X.env = (false, eval e X.env) :: starEach es X.env := by rfl) (d3 : (backTo pos (starEach es X.env)).any (·.1) = false := by rfl) :
    PE X (.Call (.Name x p) (e :: es) [] pos) (tCall sp [] E t) := by
  obtain ⟨f, fd, F, look, keep, bind⟩ := c.ex
  refine ⟨fun pins st σ h Z inv pre => wpAny_Call_Name_kw (ld_glob inv gl look ?_ d1)⟩
  refine PySem.W.callWith_K (h₀ := X.base) inv.ok.mod.kin keep (thn (ha.run pos pins st σ h _ inv pre) fun ws st1 res => ?_) d2 d3
  obtain ⟨xs, h1, inv1, rel, z⟩ := res
  exact ⟨inv1.kIn, runG F fr room bind .nil pass inv1 rel z⟩
end
/-! ### repr of data -/
section
variable {P : Program} {w : World} {A : Around} {E : Value → Shared → Prop} {s : Shared} {Z : Value → Shared → Prop}
theorem repr_slot {v : Value} {T id : String} (hu : A.units + 2 < cLine) (ty : s.TypeIs v T) (slot : SlotG T "__repr__" id)
    (h : wpAny (model P w) A.in1 (callSpecialIfBound? v (Str.ofString "__repr__")) (fun r st => ∃ (y : Str) (u : Tok), r = some (.str y u) ∧ Z (.str y u) st) E s) : wpAny (model P w) A (call (.builtin "repr") [v]) Z E s := by
  refine (Calls.call_function_entry F.kind_repr F.plain_repr F.entry_repr (F.args_repr1 _) ?_); unfold Builtin.«repr»
  refine (wpAny_bind (m := oneArg "repr" _) (wpAny_pure ?_))
  refine (wpAny_bind (wpAny_cRoomFor (show A.units + 1 < cLine by omega) ?_))
  refine (wpAny_bind (wpAny_specialOf (name := Str.ofString "__repr__") ty slot.lookup ?_))
  refine (wpAny_bind (m := callSpecialIfBound? v (Str.ofString "__repr__")) (wpAny_mono h (fun r st z => ?_) fun _ _ z => z))
  obtain ⟨y, u, rfl, z⟩ := z
  refine (wpAny_bind (wpAny_isInstance (T := "str") (b := true) rfl isSubtype_str_str ?_))
  exact (wpAny_pure ⟨.str y u, rfl, z⟩)
theorem repr_data {v : Value} {d : PyData} {as : List Addr} (r : Reads s.heap v d as) (ok : d.showable = true) (nod : d.hasDict = false) (sz : d.shown.length ≤ sizeLine) (fr : Free A) (hu : A.units + d.depth + 3 < cLine)
    (q : ∀ h' u tk, (∀ b o, s.heap.get? b = some o → h'.get? b = some o) → Z (.str d.shown u) { s with heap := h', toks := tk }) : wpAny (model P w) A (call (.builtin "repr") [v]) Z E s := by
  have nosys : d.hasDict = true → sysModules ∉ as := fun z => by rw [nod] at z; cases z
  cases r with
  | none =>
    simp only [PyData.shown] at q
    exact PySem.P.repr_of_none (q s.heap _ _ fun _ _ e => e)
  | bool b =>
    simp only [PyData.shown] at q
    exact PySem.P.repr_of_bool (q s.heap _ _ fun _ _ e => e)
  | int i t =>
    simp only [PyData.shown] at q
    exact PySem.P.repr_of_int (by simpa [PyData.showable] using ok) (q s.heap _ _ fun _ _ e => e)
  | str x t =>
    simp only [PyData.shown] at q sz
    exact PySem.P.repr_of_str (q s.heap _ _ fun _ _ e => e) sz
  | @list a o vs n xs as1 h1 h2 h3 h4 =>
    have sz' : (listText (PyData.shownAll xs)).length ≤ sizeLine := by simpa only [PyData.shown] using sz
    have ok' : PyData.showableAll xs = true := by simpa [PyData.showable] using ok
    have whole : Reads s.heap (.ref a) (.list xs) _ := .list h1 h2 h3 h4
    obtain ⟨bs, lim, kids⟩ := ReprAllK.of_readsAll (prog := P) (w := w) h4 ok' (fun z m => nosys (by simpa [PyData.hasDict] using z) (List.mem_cons_of_mem _ m)) (fun t ht => Nat.le_trans (listText_mem_le ht) sz')
    have off : a ∉ bs := not_mem_of_deeper whole (by simp only [PyData.depth]; omega) lim
    simp only [PyData.depth] at hu
    simp only [PyData.shown] at q
    have ty : s.TypeIs (.ref a) "list" := ⟨_, h1, h2⟩
    refine repr_slot (by omega) ty F.slot_list_repr.toG ?_
    obtain ⟨l⟩ := vs
    cases l with
    | nil =>
      have h4' : ReadsAll s.heap [] xs _ := h4
      cases h4'
      simp only [PyData.shownAll, listText_nil] at q
      refine (wpAny_callSpecialIfBound?_slot (name := Str.ofString "__repr__") ty F.slot_list_repr (call_list_repr_empty ty h1 h3 ?_))
      exact ⟨_, _, rfl, q s.heap _ _ fun _ _ e => e⟩
    | cons x l =>
      refine (wpAny_callSpecialIfBound?_slot (name := Str.ofString "__repr__") ty F.slot_list_repr (call_list_reprK h1 h2 h3 off (by simpa using kids.length_eq) (fun i y e => kids.item i y (by simpa using e)) fr (fun b _ => Clear.nil b) (show A.units + 1 + _ < cLine by omega) (fun _ _ e => e) (fun h' u tk kp => ?_) sz'))
      exact ⟨_, _, rfl, q h' u tk kp⟩
  | @tuple a o vs n xs as1 h1 h2 h3 h4 =>
    have sz' : (tupleText (PyData.shownAll xs)).length ≤ sizeLine := by simpa only [PyData.shown] using sz
    have ok' : PyData.showableAll xs = true := by simpa [PyData.showable] using ok
    have whole : Reads s.heap (.ref a) (.tuple xs) _ := .tuple h1 h2 h3 h4
    obtain ⟨bs, lim, kids⟩ := ReprAllK.of_readsAll (prog := P) (w := w) h4 ok' (fun z m => nosys (by simpa [PyData.hasDict] using z) m) (fun t ht => Nat.le_trans (tupleText_mem_le ht) sz')
    have off : a ∉ bs := not_mem_of_deeper whole (by simp only [PyData.depth]; omega) lim
    simp only [PyData.depth] at hu
    simp only [PyData.shown] at q
    have ty : s.TypeIs (.ref a) "tuple" := ⟨_, h1, h2⟩
    refine repr_slot (by omega) ty F.slot_tuple_repr ?_
    refine (wpAny_callSpecialIfBound?_slotG (name := Str.ofString "__repr__") ty F.slot_tuple_repr (call_tuple_reprK h1 h2 h3 off kids fr (fun b _ => Clear.nil b) (show A.units + 1 + _ < cLine by omega) (fun _ _ e => e) (fun h' u tk kp => ?_) sz'))
    exact ⟨_, _, rfl, q h' u tk kp⟩
  | dict => simp [PyData.hasDict] at nod
end
section
variable {X : Cx}
theorem vals_one {x : V} {us : List Value} (r : Vals [x] us) : ∃ u, us = [u] ∧ RelV x u := by
  cases r with
  | cons h t => cases t; exact ⟨_, rfl, h⟩
def rRepr (K : PySem.W.Frag) : List V → Hp → VK → Prop := fun xs H Q => ∃ (v : V) (d : PyData), xs = [v] ∧ Dp K H v d ∧ d.showable = true ∧ d.hasDict = false ∧ d.depth ≤ 60 ∧ d.shown.length ≤ sizeLine ∧ Q (.str d.shown) H
theorem call_reprD {k : Nat} (fr : Free X.A) (room : Room k X.A) : CallR X (.builtin "repr") (rRepr X.K) := by
  intro pins st σ h xs us Z inv rel pre
  obtain ⟨v, d, rfl, dp, ok, nod, deep, sz, z⟩ := pre
  obtain ⟨u, rfl, rv⟩ := vals_one rel
  obtain ⟨as, rd⟩ := Dp.reads inv d v u dp rv
  refine repr_data rd ok nod sz fr (by have := room.un; omega) fun h' t tk kp => ?_
  exact ⟨.str d.shown, h, inv.kept kp, ⟨t, rfl⟩, z⟩
end
/-! ### the law's end -/
theorem law_G {P : Program} {w : World} {K : PySem.W.Frag} {mg bm : Str → Option Value} {k : Nat} {fa a : Addr} {fd : FuncData} {x : Str} {sp : Sp} {st : Shared} {us : List Value} {ns : List Int}
    (kin : K.In st.heap) (gl : st.heap.Ns mainGlobals mg) (bl : st.heap.Ns builtinsNs bm) (bb : ∀ y : Str, y ≠ "__name__" → bm y = bootBuiltins y) (nolim : st.heap.NoLimit) (nogen : st.gens = #[])
    (at_ : st.heap.get? a = some { cls := .type "list", data := .seq us.toArray }) (allInt : IntsAre us ns) (few : ns.length ≤ sizeLine) (room : Room k callerA)
    (F : ∀ base : Heap, K.In base → base.Ns mainGlobals mg → FnG P w K mg base CX0 k fa fd [x] sp) (bind : ∀ (s : Shared) (u : Value), BindsTo s fd ⟨[u], []⟩ [(x, u)])
    (pre : ∀ H : Hp, SqL K H a (ns.map V.int) → sp [.ref a] H (fun v _ => v = .bl true) fun _ _ _ => False) :
    codeAny (model P w) callerA (.call (.ref fa) ⟨[.ref a], []⟩) (fun r s2 => r = .ok (.ret (.bool true)) ∧ OldK st.heap s2.heap ∧ s2.os = st.os ∧ AllBare s2.gens) st := by
  have main : ∀ H : Hp, (∀ b, H b = none ∨ ∃ o ys, H b = some (.frz o (.lst ys))) → SqL K H a (ns.map V.int) → HOk P w H st.heap → (∀ b, H b ≠ none → b = a) → (H a ≠ none → K.lookup a = none) →
      codeAny (model P w) callerA (.call (.ref fa) ⟨[.ref a], []⟩) (fun r s2 => r = .ok (.ret (.bool true)) ∧ OldK st.heap s2.heap ∧ s2.os = st.os ∧ AllBare s2.gens) st := by
    intro H only sq hok isA noK
    have free_of : ∀ {b : Addr} {o : Obj}, st.heap.get? b = some o → (∀ ys m, o.data ≠ .seq ys m) → H b = none := by
      intro b o e nd
      cases q : H b with
      | none => rfl
      | some z =>
        have eb := isA b (by rw [q]; simp)
        rw [eb, at_] at e
        exact absurd (congrArg Obj.data (Option.some.inj e)).symm (nd _ _)
    have kb : K.In (hidT st.heap H) := by
      intro b o e
      refine hidT_get (kin b o e) ?_
      cases q : H b with
      | none => rfl
      | some z =>
        have eb := isA b (by rw [q]; simp)
        rw [eb] at e q
        rw [noK (by rw [q]; simp)] at e
        cases e
    have ns_of : ∀ {b : Addr} {m : Str → Option Value}, st.heap.Ns b m → (hidT st.heap H).Ns b m := by
      intro b m h
      obtain ⟨o, es, ep, e, d, r⟩ := h
      exact ⟨o, es, ep, hidT_get e (free_of e (fun ys n z => by rw [d] at z; cases z)), d, r⟩
    have hm : Mod K mg (hidT st.heap H) := ⟨kb, ns_of gl, ⟨bm, ns_of bl, bb⟩, by obtain ⟨mc, z1, z2⟩ := nolim; exact ⟨mc, ns_of z1, z2⟩⟩
    have env : Env0 P w K mg (hidT st.heap H) callerA [] st H := ⟨rfl, hm, fun b o e => of_hidT e, Nat.le_of_eq (hidT_size _ _), trivial, fun b z => (List.not_mem_nil z).elim, hok, .of_eq nogen⟩
    refine codeAny_mono ((F _ kb (ns_of gl)).go callerA rfl [] st H ⟨[.ref a], []⟩ [.ref a] [.ref a] _ _ room env (bind st (.ref a)) (.cons rfl .nil) (pre H sq)) fun res s2 z => ?_
    match res, z with
    | .error e, z => exact z.elim
    | .ok .next, z => exact z.elim
    | .ok .brk, z => exact z.elim
    | .ok .cont, z => exact z.elim
    | .ok (.ret u), z =>
      obtain ⟨v, H2, z1, z2, un, hok2, rel, rfl⟩ := z
      obtain rfl : u = Value.bool true := rel
      refine ⟨rfl, OldK.of_keep fun b o e => ?_, z1, z2⟩
      cases q : H b with
      | none => exact un.keep b o e q (fun y => List.not_mem_nil y) (fun y => List.not_mem_nil y)
      | some y =>
        rcases only b with y1 | ⟨o1, ys, y1⟩
        · rw [q] at y1; cases y1
        · have y2 := (hok b _ y1).1
          have y3 := (hok2 b _ (un.frzs b o1 _ y1)).1
          rw [e] at y2
          rw [Option.some.inj y2]
          exact y3
  have vals := vals_ints allInt
  have lens := allInt.length
  cases look : K.lookup a with
  | some o =>
    have e := kin a o look
    rw [at_] at e
    obtain rfl := Option.some.inj e
    exact main (fun _ => none) (fun _ => .inl rfl) (.inr ⟨_, us.toArray, _, look, rfl, rfl, rfl, by rw [List.size_toArray, lens]; exact few, by simpa using vals⟩) (fun _ _ z => nomatch z) (fun _ z => (z rfl).elim) (fun z => (z rfl).elim)
  | none =>
    refine main (upd (fun _ => none) a (.frz { cls := .type "list", data := .seq us.toArray } (.lst (ns.map V.int)))) (fun b => ?_) (.inl (.inr ⟨_, upd_same⟩)) (fun b y z => ?_) (fun b z => ?_) fun _ => look
    · by_cases eb : b = a
      · rw [eb, upd_same]; exact .inr ⟨_, _, rfl⟩
      · rw [upd_ne eb]; exact .inl rfl
    · by_cases eb : b = a
      · subst eb
        rw [upd_same] at z
        obtain rfl := Option.some.inj z
        exact ⟨at_, by rw [List.length_map]; exact few, us, _, vals, at_⟩
      · rw [upd_ne eb] at z; cases z
    · by_cases eb : b = a
      · exact eb
      · exact absurd (upd_ne eb) z
/-- the goal that the head leaves, from the law's own promise -/
theorem walkG {l : PySem.W.OpenLaw} {n k : Nat} {q : Program} {loose : List Str} {XP : (Str → Option Value) → Heap → Prop} {YP : World → Heap → Prop} {d : DefRec} {K : Params → PySem.W.Frag} {sp : World → Sp} {x : Str}
    (hn : l.most = some n) (n2 : n ≤ sizeLine) (nodef : d.params.defaults = []) (room : Room k callerA) (hY : ∀ (w : World) (h : Heap), YP w h → (K w.params).In h)
    (F : ∀ (w : World) (mg : Str → Option Value) (fa : Addr) (h : Heap), (K w.params).In h → h.Ns mainGlobals mg → mg d.name = some (.ref fa) →
      ∃ fd : FuncData, (∀ (s : Shared) (u : Value), BindsTo s fd ⟨[u], []⟩ [(x, u)]) ∧ ∀ base : Heap, (K w.params).In base → base.Ns mainGlobals mg → FnG l.prog w (K w.params) mg base CX0 k fa fd [x] (sp w))
    (pre : ∀ (w : World) (H : Hp) (a : Addr) (ns : List Int), ns.length ≤ n → SqL (K w.params) H a (ns.map V.int) → sp w [.ref a] H (fun v _ => v = .bl true) fun _ _ _ => False) :
    PySem.W.WalkO q loose XP YP l.row.toRowW d [] (fun f vs => PySem.call f vs) := by
  refine Att.attach_call hn nodef fun w s0 st mg bm fa o pm cd doc a us ns G Y ho hd hcd hmg hobj allInt size nogen => ?_
  obtain ⟨fd, bind, hF⟩ := F w mg fa _ (hY w _ Y) G.T.g hmg
  exact law_G (hY w _ Y) G.T.g G.T.b G.T.builtins G.T.nolimit nogen hobj allInt (Nat.le_trans size n2) room hF bind fun H sq => pre w H a ns size sq
end KG

/-! KO: own objects: methods called by keywords, own ==, != by own ==, str by own __str__. -/
namespace KO
open PySem PySem.Spec PyProof.Rows L2 KB
section
variable {X : Cx}
/-- a def run in another Around, nothing raised out of it -/
theorem run0 {A' : Around} {k : Nat} {f : Addr} {fd : FuncData} {ps : List Str} {sp : Sp} {pins : List (Addr × Obj)} {σ : L2.St} {h : Hp} {st : Shared} {Z : VK} {ws : List Value} {xs : List V} {E' : Value → Shared → Prop} (F : FnOk X.prog X.w X.K X.mg X.base CX0 k f fd ps sp) (room : Room k A')
    (env : Env0 X.prog X.w X.K X.mg X.base A' X.stack st h) (bind : Binds X.K fd ps []) (inv : Inv X pins σ h st) (rel : Vals xs ws) (pre : sp xs h Z E0) : wpAny (model X.prog X.w) A' (call (.ref f) ws) (EP X pins σ Z) E' st := by
  have size : (ws ++ []).length = ps.length := by rw [List.append_nil, ← rel.length]; exact F.len _ _ _ _ pre
  have bd := bind st ws inv.kIn size
  rw [List.append_nil] at bd
  refine wpAny_call (codeAny_mono (F.run A' X.stack st h ⟨ws, []⟩ _ _ Z E0 room env bd rel pre) fun res st2 z => ?_)
  match res, z with
  | .error e, z => exact z.elim
  | .ok (.ret u), z => exact inv.after z
  | .ok .next, z => exact z.elim
  | .ok .brk, z => exact z.elim
  | .ok .cont, z => exact z.elim
theorem inst_of {pins : List (Addr × Obj)} {σ : L2.St} {h : Hp} {st : Shared} {a C dx : Addr} {fs : List (Str × V)} (inv : Inv X pins σ h st) (e : h a = some (.ins C dx fs)) : ∃ od, PySem.W.InstAt st.heap a (PySem.W.instObj C dx) C (some od) := by
  obtain ⟨mA, O, _⟩ := ins_get inv.hok e
  obtain ⟨od, J, _⟩ := O.look
  exact ⟨od, J⟩
/-! ### own == -/
def rEqOwn (K : PySem.W.Frag) (C : Addr) (sp : Sp) : R2 := fun x y H Q => ∃ a dx fs b C' dy gs, x = .ref a ∧ y = .ref b ∧ H a = some (.ins C dx fs) ∧ H b = some (.ins C' dy gs) ∧ PySem.W.notFirst K C (.ref C') = true ∧ sp [x, y] H Q E0
theorem op_eqOwn {C g : Addr} {fd : FuncData} {ps : List Str} {sp : Sp} {n : Nat} (hs : PySem.W.findIn X.K (.ref C) "__eq__" = some (some (.ref g))) (hf : PySem.W.isFn X.K (.ref g) = true) (F : FnOk X.prog X.w X.K X.mg X.base CX0 n g fd ps sp) (bind : Binds X.K fd ps [])
    (room : Room n X.A) : OpR X (compareOp .Eq) (rEqOwn X.K C sp) := by
  intro pins st σ h x y v u Z inv rx ry pre
  obtain ⟨a, dx, fs, b, C', dy, gs, rfl, rfl, ha, hb, nf, z⟩ := pre
  obtain rfl : v = Value.ref a := rx
  obtain rfl : u = Value.ref b := ry
  obtain ⟨od, J⟩ := inst_of inv ha
  obtain ⟨od', J'⟩ := inst_of inv hb
  obtain ⟨m, hF⟩ := inv.fr
  rw [show compareOp .Eq (.ref a) (.ref b) = richCompare .Eq (.ref a) (.ref b) from rfl]
  refine PySem.W.cmp_K (op := .Eq) (tb := .ref C') room.units0 hF inv.ok.mod.kin J J'.type nf hs hf ?_
  refine wpAny_mono (run0 (E' := X.xe) (xs := [.ref a, .ref b]) F room inv.env0 bind inv (.cons rfl (.cons rfl .nil)) z) (fun w s2 r => ?_) fun _ _ z => z
  obtain ⟨z', h2, inv2, rz, qz⟩ := r
  exact SlX.cmpback rz ⟨z', h2, inv2, rz, qz⟩
/-! ### != by own == -/
/-- what the text's class must be for it -/
structure NeCls (K : PySem.W.Frag) (C g : Addr) : Prop where
  ex : ∃ (nm q : Str) (N : Addr) (bs : List Value) (hd : Bool) (sn : List Str) (sub : List Value) (ab : Bool) (col : Option Bool) (dd : Option Addr) (k0 k1 k2 k3 k5 : Option Value) (nid : String),
    K.lookup C = some (excClassObj nm q C N bs [.type "object"] hd sn sub ab col dd k0 k1 k2 k3 k5 nid) ∧ PySem.W.nsOkIn K N = true ∧ PySem.W.nsIn K N "__eq__" = some (some (.ref g)) ∧ PySem.W.nsIn K N "__ne__" = some none
  fn : ∃ o : Obj, K.lookup g = some o ∧ o.cls = .type "function"
theorem ns_val {K : PySem.W.Frag} {h : Heap} {N : Addr} {m : Str → Option Value} {x : Str} {v : Value} (kin : K.In h) (G : h.Ns N m) (e : PySem.W.nsIn K N x = some (some v)) : m x = some v := by
  obtain ⟨o, es, ep, e1, e2, _, e3⟩ := G
  unfold PySem.W.nsIn at e
  split at e
  · rename_i q
    have z := kin _ _ q
    rw [e1] at z
    cases z
    cases e2
    split at e
    · rename_i w
      rw [← e3]
      unfold nsFind findBy
      rw [← Array.find?_toList, w]
      simpa using e
    · split at e <;> cases e
  · cases e
theorem NeCls.at {K : PySem.W.Frag} {C g a dx : Addr} {h : Heap} (c : NeCls K C g) (kin : K.In h) (ha : h.get? a = some (PySem.W.instObj C dx)) : h.OwnEqNoNe a C g "object" [.type "object"] := by
  obtain ⟨nm, q, N, bs, hd, sn, sub, ab, col, dd, k0, k1, k2, k3, k5, nid, e1, e2, e3, e4⟩ := c.ex
  obtain ⟨o, e5, e6⟩ := c.fn
  have hN : h.Ns N (h.nsMap N) := .of_isNs (PySem.W.isNs_of_in kin e2)
  exact ⟨_, o, nm, q, N, bs, hd, sn, sub, ab, col, dd, k0, k1, k2, k3, k5, nid, h.nsMap N, _, ha, rfl, kin _ _ e1, hN, ns_val kin hN e3, kin _ _ e5, e6, F.cmp_object.mro, F.cmp_object.eq.lookup, PySem.W.ns_none_of kin hN e4⟩
def rNeOwn (C : Addr) (sp : Sp) : R2 := fun x y H Q => ∃ a dx fs b dy gs, x = .ref a ∧ y = .ref b ∧ H a = some (.ins C dx fs) ∧ H b = some (.ins C dy gs) ∧ sp [x, y] H (fun v H' => ∃ c, v = .bl c ∧ Q (.bl (!c)) H') E0
theorem op_neOwn {C g : Addr} {fd : FuncData} {ps : List Str} {sp : Sp} {n : Nat} (c : NeCls X.K C g) (F : FnOk X.prog X.w X.K X.mg X.base CX0 n g fd ps sp) (bind : Binds X.K fd ps []) (room : Room (n + 1) X.A) : OpR X (compareOp .NotEq) (rNeOwn C sp) := by
  intro pins st σ h x y v u Z inv rx ry pre
  obtain ⟨a, dx, fs, b, dy, gs, rfl, rfl, ha, hb, z⟩ := pre
  obtain rfl : v = Value.ref a := rx
  obtain rfl : u = Value.ref b := ry
  obtain ⟨_, _, _, ga, _⟩ := inv.hok a _ ha
  obtain ⟨_, _, _, gb, _⟩ := inv.hok b _ hb
  have un := room.un
  refine compareOp_ne_ownEq (h := st.heap) (g := st.gens) (d := st.drawn) (t := st.toks) (os := st.os) PySem.F.cmp_object (c.at inv.kIn ga) gb rfl (by omega) ?_
  refine wpAny_mono (run0 (E' := X.xe) (xs := [.ref a, .ref b]) F room.in1 inv.env0.in1 bind inv (.cons rfl (.cons rfl .nil)) z) (fun w s2 r => ?_) fun _ _ z => z
  obtain ⟨v', h2, inv2, rz, cc, rfl, q2⟩ := r
  obtain rfl : w = Value.bool cc := rz
  exact ⟨cc, rfl, ⟨.bl (!cc), h2, inv2, rfl, q2⟩⟩
/-! ### str(o) by own __str__ -/
def rStrOwn (C : Addr) (sp : Sp) : List V → Hp → VK → Prop := fun xs H Q => ∃ a dx fs, xs = [.ref a] ∧ H a = some (.ins C dx fs) ∧ sp [.ref a] H (fun v H' => ∃ t, v = .str t ∧ Q (.str t) H') E0
theorem call_strOwn {C g : Addr} {fd : FuncData} {ps : List Str} {sp : Sp} {n : Nat} (hs : PySem.W.findIn X.K (.ref C) "__str__" = some (some (.ref g))) (hf : PySem.W.isFn X.K (.ref g) = true) (F : FnOk X.prog X.w X.K X.mg X.base CX0 n g fd ps sp) (bind : Binds X.K fd ps [])
    (room : Room (n + 2) X.A) : CallR X (.type "str") (rStrOwn C sp) := by
  intro pins st σ h xs us Z inv rel pre
  obtain ⟨a, dx, fs, rfl, ha, z⟩ := pre
  obtain ⟨u, rfl, ru⟩ : ∃ u, us = [u] ∧ RelV (.ref a) u := by
    cases rel with
    | cons e t => cases t; exact ⟨_, rfl, e⟩
  obtain rfl : u = Value.ref a := ru
  obtain ⟨od, J⟩ := inst_of inv ha
  have un := room.un
  refine PySem.W.kso_call (show X.A.units + 1 + 1 < cLine by omega) inv.kIn J hs hf ?_
  refine wpAny_mono (run0 (E' := X.xe) (xs := [.ref a]) F room.in1.in1 inv.env0.in1.in1 bind inv (.cons rfl .nil) z) (fun w s2 r => ?_) fun _ _ z => z
  obtain ⟨v', h2, inv2, rz, t, rfl, q2⟩ := r
  obtain ⟨tk, rfl⟩ : ∃ tk, w = Value.str t tk := rz
  exact ⟨.str t, h2, inv2, ⟨tk, rfl⟩, q2⟩
/-! ### o.m(.., k = v, ..) -/
structure CalleeMK (P : Program) (w : World) (K : PySem.W.Frag) (mg : Str → Option Value) (base : Heap) (k : Nat) (C : Addr) (m : Str) (ps : List Str) (sp : Sp) (n : Nat) (ks : List Str) (gV : List V → List V → List V) : Prop where
  ex : ∃ (f : Addr) (fd : FuncData) (g : List Value → List Value → List Value), FnOk P w K mg base CX0 k f fd ps sp ∧ Meth K C m f ∧ KBn K fd ps (n + 1) ks g gV
  cl : Cls K C
def tMethK0 (C : Addr) (m : Str) (n : Nat) (sp : Sp) (gV : List V → List V → List V) (ta : TE) (tk : TA) : TE := fun σ H Q => ta σ H fun x H1 => ∃ a dx fs, x = .ref a ∧ H1 a = some (.ins C dx fs) ∧ fs.lookup m = none ∧ tk σ H1 fun zs H2 => zs.length = n ∧ sp (gV [.ref a] zs) H2 Q E0
theorem pe_methK0 {pl : Sem Bool} {k : Nat} {C : Addr} {m : Str} {ps ks : List Str} {sp : Sp} {gV : List V → List V → List V} {o : Expr} {kws : List Keyword} {apos pos : Pos} {ta : TE} {tk : TA} (c : CalleeMK X.prog X.w X.K X.mg X.base k C m ps sp 0 ks gV) (ho : PE X o ta) (room : Room k X.A) (hkw : PK X kws tk)
    (d1 : (backToKw pos (keywordEach kws X.env)).all (·.1.isSome) = true := by rfl) (d2 : (backToKw pos (keywordEach kws X.env)).filterMap (·.1) = ks := by rfl) (d3 : ((backTo pos (starEach [] X.env)).any (·.1) || (backToKw pos (keywordEach kws X.env)).any (·.1.isNone)) = false := by rfl)
    (d4 : eval (.Call (.Attribute o m apos) [] kws pos) X.env = (do
      let ov ← eval o X.env
      standAt apos.atName
      let (f, first) ← holding [ov] (getMethod ov m pl)
      callWith pos f first (backTo pos (starEach [] X.env)) (backToKw pos (keywordEach kws X.env))) := by rfl) :
    PE X (.Call (.Attribute o m apos) [] kws pos) (tMethK0 C m ks.length sp gV ta tk) := by
  obtain ⟨f, fd, g, F, hm, hb⟩ := c.ex
  refine ⟨fun pins st σ h Z inv pre => PySem.W.methodCall_KW (pl := pl) (thn (ho.run pins st σ h _ inv pre) fun u s1 r => ?_) d4⟩
  obtain ⟨x, h1, inv1, rx, a, dx, fs, rfl, ea, no, z⟩ := r
  obtain rfl : u = Value.ref a := rx
  refine getmeth_ok inv1 ea c.cl hm no (PySem.W.callWith_KW0 (first := [.ref a]) (h₀ := X.base) inv.ok.mod.kin hm.kp d1 (thn (hkw.run pos pins s1 σ h1 _ inv1 z) fun ws s2 r => ?_) d3)
  obtain ⟨zs, h2, inv2, rel, l2, z2⟩ := r
  refine ⟨inv2.kIn, ?_⟩
  rw [d2]
  exact run_fnN (us := [.ref a]) (vs := [.ref a]) F room hb pass0 inv2 (.cons rfl .nil) rel rfl l2 z2
theorem r_methK0 {σ : L2.St} {H : Hp} {Q : VK} {C : Addr} {m : Str} {n : Nat} {sp : Sp} {gV : List V → List V → List V} {ta : TE} {tk : TA}
    (q : ta σ H fun x H1 => ∃ a dx fs, x = .ref a ∧ H1 a = some (.ins C dx fs) ∧ fs.lookup m = none ∧ tk σ H1 fun zs H2 => zs.length = n ∧ sp (gV [.ref a] zs) H2 Q E0) : tMethK0 C m n sp gV ta tk σ H Q := q
/-! ### an item of a dict of the text -/
theorem ix_kd {d : Addr} {es : Array DictEntry} {n : Nat} (D : KDict X.K X.w d es n) : IxR X (fun x y H Q => ∃ (z : Str) (u0 : Value) (v0 : V), x = .ref d ∧ y = .str z ∧ PySem.W.nsIn X.K d z = some (some u0) ∧ RelV v0 u0 ∧ Q v0 H) := by
  intro value slice pins st σ h x y v u Z inv rx ry pre hs
  have pre' := pre
  obtain ⟨z, u0, v0, rfl, rfl, e, r, q⟩ := pre'
  obtain rfl : v = Value.ref d := rx
  have ty : st.TypeIs (.ref d) "dict" := ⟨_, inv.kIn _ _ D.at_, rfl⟩
  exact tail_any ty PySem.F.slot_dict_getitem.lookup (op_item_kd D pins st σ h (.ref d) (.str z) _ u Z inv rfl ry pre) hs
theorem r_joined {σ : L2.St} {H : Hp} {te : TE} {ts : List TE} {acc : Str} {QJ : Str → Hp → Prop} (q : te σ H fun x H1 => ∃ y : Str, x = .str y ∧ (acc ++ y).length ≤ sizeLine ∧ tJs ts (acc ++ y) σ H1 QJ) : tJs (te :: ts) acc σ H QJ := q
theorem r_joined0 {σ : L2.St} {H : Hp} {acc : Str} {QJ : Str → Hp → Prop} (q : QJ acc H) : tJs [] acc σ H QJ := q
theorem r_fmt {σ : L2.St} {H : Hp} {te : TE} {Q : VK} (q : te σ H fun x H1 => (∃ y : Str, x = .str y ∧ y.length ≤ sizeLine ∧ Q (.str y) H1) ∨ ∃ i : Int, x = .int i ∧ i.natAbs.log2 < 1920 ∧ Q (.str (toString i)) H1) : tFmt te σ H Q := q
theorem r_fmtS {H : Hp} {Q : VK} {z : Str} {B : Prop} (h : z.length ≤ sizeLine) (q : Q (.str z) H) : (∃ y : Str, V.str z = .str y ∧ y.length ≤ sizeLine ∧ Q (.str y) H) ∨ B := .inl ⟨z, rfl, h, q⟩
/-- C(k = v, ..) -/
structure CalleeIK (P : Program) (w : World) (K : PySem.W.Frag) (mg : Str → Option Value) (base : Heap) (CX : CXT) (k : Nat) (C : Addr) (x : Str) (ps : List Str) (sp : Sp) (ks : List Str) (gV : List V → List V → List V) : Prop where
  ex : ∃ (f : Addr) (fd : FuncData) (g : List Value → List Value → List Value), FnOk P w K mg base CX k f fd ps sp ∧ Mk K C f ∧ mg x = some (.ref C) ∧ KBn K fd ps 1 ks g gV
theorem pe_makeKC {CX : CXT} {k : Nat} {C : Addr} {x : Str} {ps ks : List Str} {sp : Sp} {gV : List V → List V → List V} {E : XK} {kws : List Keyword} {p pos : Pos} {tk : TA} (c : CalleeIK X.prog X.w X.K X.mg X.base CX k C x ps sp ks gV) (room : Room (k + 1) X.A) (gl : Gl X x) (pass : Passes CX X E) (hkw : PK X kws tk)
    (d1 : (backToKw pos (keywordEach kws X.env)).all (·.1.isSome) = true := by rfl) (d2 : (backToKw pos (keywordEach kws X.env)).filterMap (·.1) = ks := by rfl) (d3 : (x == ("__debug__" : Str)) = false := by decide)
    (d4 : ((backTo pos (starEach [] X.env)).any (·.1) || (backToKw pos (keywordEach kws X.env)).any (·.1.isNone)) = false := by rfl) :
    PE X (.Call (.Name x p) [] kws pos) (tMakeK C 0 ks.length sp gV E tNil tk) := by
  obtain ⟨f, fd, g, F, M, hm, hb⟩ := c.ex
  exact pe_makeK0 M F room gl hm hb pass hkw d1 d2 d3 d4
theorem r_makeK {σ : L2.St} {H : Hp} {Q : VK} {C : Addr} {n m : Nat} {sp : Sp} {gV : List V → List V → List V} {E : XK} {t tk : TA} (q : t σ H fun vs H1 => tk σ H1 fun zs H2 => vs.length = n ∧ zs.length = m ∧ ∀ x dx, H2 x = none → H2 dx = none → dx ≠ x →
    sp (gV (.ref x :: vs) zs) (upd (upd H2 dx (.own x)) x (.ins C dx [])) (fun v H3 => v = .non ∧ Q (.ref x) H3) E) : tMakeK C n m sp gV E t tk σ H Q := q
/-- a special method of the text's class; the class for != -/
structure OwnM (P : Program) (w : World) (K : PySem.W.Frag) (mg : Str → Option Value) (base : Heap) (k : Nat) (C : Addr) (m : Str) (ps : List Str) (sp : Sp) : Prop where
  ex : ∃ (g : Addr) (fd : FuncData), PySem.W.findIn K (.ref C) m = some (some (.ref g)) ∧ PySem.W.isFn K (.ref g) = true ∧ FnOk P w K mg base CX0 k g fd ps sp ∧ Binds K fd ps []
structure OwnNe (P : Program) (w : World) (K : PySem.W.Frag) (mg : Str → Option Value) (base : Heap) (k : Nat) (C : Addr) (ps : List Str) (sp : Sp) : Prop where
  ex : ∃ (g : Addr) (fd : FuncData), NeCls K C g ∧ FnOk P w K mg base CX0 k g fd ps sp ∧ Binds K fd ps []
theorem call_strO {C : Addr} {ps : List Str} {sp : Sp} {n : Nat} (c : OwnM X.prog X.w X.K X.mg X.base n C "__str__" ps sp) (room : Room (n + 2) X.A) : CallR X (.type "str") (rStrOwn C sp) := by
  obtain ⟨g, fd, h1, h2, F, b⟩ := c.ex
  exact call_strOwn h1 h2 F b room
theorem op_eqO {C : Addr} {ps : List Str} {sp : Sp} {n : Nat} (c : OwnM X.prog X.w X.K X.mg X.base n C "__eq__" ps sp) (room : Room n X.A) : OpR X (compareOp .Eq) (rEqOwn X.K C sp) := by
  obtain ⟨g, fd, h1, h2, F, b⟩ := c.ex
  exact op_eqOwn h1 h2 F b room
theorem op_neO {C : Addr} {ps : List Str} {sp : Sp} {n : Nat} (c : OwnNe X.prog X.w X.K X.mg X.base n C ps sp) (room : Room (n + 1) X.A) : OpR X (compareOp .NotEq) (rNeOwn C sp) := by
  obtain ⟨g, fd, h1, F, b⟩ := c.ex
  exact op_neOwn h1 F b room
end
end KO

/-! KX: own error classes over ValueError whose __init__ says super().__init__(text) and sets one field. -/
namespace KX
open PySem PySem.Spec PyProof.Rows L2 KB
/-- the frame of such an __init__ -/
def supCx (CXx : CXT) (P : Program) (w : World) (K : PySem.W.Frag) (mg : Str → Option Value) (base : Heap) (N : List Str) (ql : Str) (sc : Scope) (f cda cc : Addr) (A : Around) (out : List Env) (st : Shared) (h : Hp) (W : XK) : Cx where
  prog := P
  w := w
  K := K
  mg := mg
  base := base
  A := A.deeper (PySem.W.ksEnv ql sc st.heap.objs.size f (.ref cda) cc)
  N := N
  s_0 := st
  H_0 := h
  env := PySem.W.ksEnv ql sc st.heap.objs.size f (.ref cda) cc
  outer := out
  stack := PySem.W.ksEnv ql sc st.heap.objs.size f (.ref cda) cc :: out
  ex := []
  fn := fun _ => false
  calm := true
  pn := []
  xe := fun e s' => wpAny (model P w) (A.deeper (PySem.W.ksEnv ql sc st.heap.objs.size f (.ref cda) cc)) (leaving (PySem.W.ksEnv ql sc st.heap.objs.size f (.ref cda) cc) e) (fun _ s'' => CXx out h st W e s'') (fun e' s'' => CXx out h st W e' s'') s'
theorem cls_only {y : Str} {cc c : Addr} (e : ([(("__class__" : Str), cc)] : List (Str × Addr)).lookup y = some c) : y = "__class__" ∧ c = cc := by
  simp only [List.lookup] at e
  split at e
  · rename_i z
    exact ⟨by simpa using z, (Option.some.inj e).symm⟩
  · cases e
theorem inv_sup {CXx : CXT} {P : Program} {w : World} {K : PySem.W.Frag} {mg : Str → Option Value} {base : Heap} {vn ql : Str} {sc : Scope} {f cda cc : Addr} {A : Around} {out : List Env} {st : Shared} {h : Hp} {W : XK} {u1 u2 : Value} {v1 v2 : V} {h1 : Heap} {tk : Nat} {cl : Value} {cld : Option Addr} {csl : Array (Option Value)} {cv : Option Value}
    (e0 : Env0 P w K mg base A out st h) (hd : A.handled = none) (kind : sc.kind = .function) (nocell : ∀ y ∈ sc.names, y.2 ≠ .cell) (nofree : ∀ y, sc.names.lookup y = some .free → y = "__class__") (l1 : sc.names.lookup ("self" : Str) = some .local) (l2 : sc.names.lookup vn = some .local) (nv : vn ≠ "self")
    (hc : K.lookup cc = some ⟨cl, cld, .cell cv, csl⟩) (hns : h1.Ns st.heap.objs.size (fun y => ([(("self" : Str), u1), (vn, u2)] : List (Str × Value)).reverse.lookup y)) (kp : ∀ b o, st.heap.get? b = some o → h1.get? b = some o) (r1 : RelV v1 u1) (r2 : RelV v2 u2) :
    Inv (supCx CXx P w K mg base ["self", vn] ql sc f cda cc A out st h W) [] [some v1, some v2] h { st with heap := h1, toks := tk } := by
  have noA : ∀ b : Addr, b ∉ (supCx CXx P w K mg base ["self", vn] ql sc f cda cc A out st h W).ex := fun b z => absurd (show b ∈ ([] : List Addr) from z) (by simp)
  have ccb := e0.bs _ _ (e0.mod.kin _ _ hc)
  refine ⟨⟨e0.mod, kind, rfl, rfl, Nat.le_refl _, fun y z c a b => (cls_only a).1.trans (cls_only b).1.symm, fun y hy => ?_, fun y c z _ => ?_, fun _ => hd, Around.frames_deeper e0.frames, .inr ⟨rfl, rfl⟩, fun b z => absurd z (noA b), e0.bs, e0.bsz, fun b _ _ => noA b, fun b z => absurd z (noA b), e0.funs, e0.frf⟩,
    rfl, e0.bare, Un.kept kp, ⟨_, hns, fun i y v a b c => ?_⟩, fun y c e => ?_, e0.hok.fresh (Nat.le_refl _), fun y c e => ?_, fun p hp => absurd (show p ∈ ([] : List (Addr × Obj)) from hp) (by simp), e0.hok.kept kp, rfl⟩
  · have hy : sc.names.lookup y = some .cell ∨ sc.names.lookup y = some .free := hy
    rcases hy with hy | hy
    · exact absurd rfl (nocell _ (PySem.mem_of_lookup hy))
    · rw [nofree y hy]
      exact ⟨cc, rfl⟩
  · have z : false = true := z
    cases z
  · match i, a, b with
    | 0, a, b =>
      obtain rfl : ("self" : Str) = y := Option.some.inj a
      obtain rfl : v1 = v := Option.some.inj (Option.some.inj b)
      refine ⟨u1, r1, .inl ⟨l1, ?_⟩⟩
      have nv' : ¬ (("self" : Str) == vn) = true := by simpa using fun z : ("self" : Str) = vn => nv z.symm
      simp [List.lookup, nv']
    | 1, a, b =>
      obtain rfl : vn = y := Option.some.inj a
      obtain rfl : v2 = v := Option.some.inj (Option.some.inj b)
      exact ⟨u2, r2, .inl ⟨l2, by simp [List.lookup]⟩⟩
    | i + 2, a, b => cases a
  · obtain ⟨rfl, rfl⟩ := cls_only e
    exact ⟨cv, _, kp _ _ ccb.1, rfl⟩
  · obtain ⟨rfl, rfl⟩ := cls_only e
    exact ccb.2
section
variable {prog : Program} {w : World} {A : Around} {E : Value → Shared → Prop} {h : Heap} {g : Array GenState} {d : Drawn} {t : Nat} {os : OsState}
variable {nm q : Str} {C N : Addr} {bs bm : List Value} {hdct : Bool} {sn : List Str} {sub : List Value} {ab : Bool} {col : Option Bool} {dd : Option Addr} {k0 k1 k2 k3 k5 : Option Value}
theorem call_mw {u e t0 : Addr} {rest : List Value} {Q : Value → Shared → Prop}
    (hC : h.get? C = some (excClassObj nm q C N bs bm hdct sn sub ab col dd k0 k1 k2 k3 k5 "ValueError.__new__")) (he : h.get? e = some (HandSPX.excO C t0)) (hu : h.get? u = some (PySem.W.kxs_mw "ValueError.__init__" e)) (hrest : rest.length ≤ sizeLine)
    (hq : ∀ h' t1, (∀ b o, b ≠ e → h.get? b = some o → h'.get? b = some o) → h'.get? e = some (HandSPX.excO C t1) → Q .none ⟨h', g, d, t, os⟩) :
    wpAny (model prog w) A (call (.ref u) rest) Q E ⟨h, g, d, t, os⟩ := by
  refine (wpAny_call (codeAny_of_tree ?_)); show wpAny _ A.in1 (callAny (.ref u) ⟨rest, []⟩) _ _ _; simp only [callAny]
  refine (wpAny_bind (wpAny_load hu ?_))
  simp only [PySem.W.kxs_mw, show (Value.type "method-wrapper" == Value.type "method" || Value.type "method-wrapper" == Value.type "builtin_function_or_method" || Value.type "method-wrapper" == Value.type "method-wrapper") = true by decide, if_true]
  refine (W.KFB.if_so (by decide) ?_)
  refine (wpAny_bind (ESX.check_bound F.excBase_ValueError hC he rfl ?_))
  refine (wpAny_bind (wpAny_pure (wpAny_pure ?_)))
  refine (⟨Code.quiet_builtin _ (by decide +kernel), codeAny_builtin F.excBase_ValueError.initEntry ?_⟩)
  rw [Around.under_plainId F.excBase_ValueError.init.plain _]; wp_walk
  refine hq _ h.objs.size (fun b o n e1 => ?_) ?_
  · exact (Heap.get?_update_other _ _ (Ne.symm n)).trans (Heap.get?_push_of_some _ e1)
  · exact Heap.get?_update_self _ (Heap.get?_push_of_some _ he) rfl
end
/-- what the text says of such an __init__ of the class at C -/
structure SupFn (K : PySem.W.Frag) (P : Program) (f : Addr) (fd : FuncData) (C : Addr) (vn fld : Str) : Prop where
  ex : ∃ (ql : Str) (pr : Arguments) (sc : Scope) (dV kV doc pm ct oc ccl cl : Value) (an od cdd cld : Option Addr) (osl ccs csl : Array (Option Value)) (cda cc : Addr) (vs : Array Value) (file : Str) (tf : Tok) (p0 p1 p2 p3 p4 p5 q1 q2 q3 q4 : Pos) (msg : Str) (j : Nat) (ar : Arg) (pl : Sem Bool),
    fd = PySem.W.ksFn "__init__" ql pr [.Expr (.Call (.Attribute (.Call (.Name "super" p0) [] [] p1) "__init__" p2) [.Constant (.str msg) j p3] [] p4) p5, .Assign [.Attribute (.Name "self" q1) fld q2] (.Name vn q3) q4] sc dV kV doc pm an (.ref cda) ct cc ∧
    K.lookup f = some ⟨oc, od, .func fd, osl⟩ ∧ PySem.W.codeIn K (.ref cda) ql = true ∧ K.lookup cda = some ⟨ccl, cdd, .fields vs, ccs⟩ ∧ vs[2]? = some (.str file tf) ∧ ((P.main.file : Str) == file) = true ∧
    K.lookup cc = some ⟨cl, cld, .cell (some (.ref C)), csl⟩ ∧ (pr.posonlyargs ++ pr.args).head? = some ar ∧ ar.arg = "self" ∧
    sc.kind = .function ∧ sc.isCoroutine = false ∧ sc.isGenerator = false ∧ (∀ y ∈ sc.names, y.2 ≠ .cell) ∧ (∀ y, sc.names.lookup y = some .free → y = "__class__") ∧ sc.names.lookup ("super" : Str) = some .globalImplicit ∧ sc.names.lookup ("__class__" : Str) = some .free ∧
    sc.names.lookup ("self" : Str) = some .local ∧ sc.names.lookup vn = some .local ∧
    (∀ en : Env, eval (.Call (.Attribute (.Call (.Name "super" p0) [] [] p1) "__init__" p2) [.Constant (.str msg) j p3] [] p4) en = (do
      let ov ← attributeBase (.Call (.Name "super" p0) [] [] p1) "__init__" en (eval (.Call (.Name "super" p0) [] [] p1) en)
      standAt p2.atName
      let (g, first) ← holding [ov] (getMethod ov "__init__" pl)
      callWith p4 g first (backTo p4 (starEach [.Constant (.str msg) j p3] en)) []))
  top : (P.main.scope.names.lookup ("super" : Str)).isSome = false
  nv : vn ≠ "self" ∧ (vn == ("__debug__" : Str)) = false ∧ (vn == ("__classdict__" : Str)) = false
  opq : PySem.W.nsIn K cStatics "thirdparty.any" = some none
  sub : PySem.W.mroIn K C (.ref C) = some true
  ve : PySem.W.mroIn K C (.type "ValueError") = some true
  sup : PySem.W.ks_superIn K C C "__init__" = some (some (.builtin "ValueError.__init__"))
  nof : PySem.W.findIn K (.ref C) fld = some none
def spXI (C : Addr) (fld : Str) : Sp := fun vs H Q _ => ∃ (a : Addr) (v : V), vs = [.ref a, v] ∧ H a = some (exo a C none) ∧ ∀ dx, H dx = none → dx ≠ a → Q .non (upd (upd H dx (exd dx [(fld, v)])) a (exo a C (some dx)))
theorem sup_ok {P : Program} {w : World} {K : PySem.W.Frag} {mg : Str → Option Value} {base : Heap} {k : Nat} {f C : Addr} {fd : FuncData} {vn fld : Str} (S : SupFn K P f fd C vn fld) (T : OexC K C) (hm : mg "super" = none) (hboot : bootBuiltins "super" = some (.type "super")) : FnOk P w K mg base CX0 (k + 1) f fd ["self", vn] (spXI C fld) := by
  refine ⟨fun xs h Z W z => ?_, fun A out st h ar0 ws xs Z W room env bind vals pre => ?_⟩
  · obtain ⟨a, v, rfl, _⟩ := z
    rfl
  obtain ⟨a, v, rfl, ha, q⟩ := pre
  obtain ⟨u1, u2, rfl, r1, r2⟩ := vals2 vals
  obtain ⟨ql, pr, sc, dV, kV, doc, pm, ct, oc, ccl, cl, an, od, cdd, cld, osl, ccs, csl, cda, cc, vs, file, tf, p0, p1, p2, p3, p4, p5, q1, q2, q3, q4, msg, j, ar, pl, rfl, lf, cdf, lcd, hvs, hfile, lcc, hp, har, kind, nco, ngen, nocell, nofree, ks, kc, kself, kvn, hev⟩ := S.ex
  have kin : K.In st.heap := env.mod.kin.keeps fun b o e => (env.bs b o e).1
  have nolim : st.heap.NoLimit := env.mod.nolimit.keeps fun b o e => (env.bs b o e).1
  refine ks_codeAny_call_defAt (binds := [("self", u1), (vn, u2)]) room.depth (kin _ _ lf) rfl nolim (PySem.W.codeRec_of kin cdf) rfl bind nocell (fun y hy => ?_) (fun h1 hns kp => ?_) nco ngen kind
  · simp only [List.mem_cons, List.not_mem_nil, or_false] at hy
    rcases hy with rfl | rfl
    · exact kself
    · exact kvn
  obtain rfl : u1 = Value.ref a := r1
  have I : Inv (supCx CX0 P w K mg base ["self", vn] ql sc f cda cc A out st h W) [] [some (.ref a), some v] h { st with heap := h1, toks := st.toks + 2 } := inv_sup env room.hd kind nocell nofree kself kvn S.nv.1 lcc hns kp rfl r2
  have hi : interactive (PySem.W.ksEnv ql sc st.heap.objs.size f (.ref cda) cc) = false := by
    unfold interactive
    simp [kind]
  refine ks_wpAt_execs_cons (ks_wpAt_Expr_any (env := PySem.W.ksEnv ql sc st.heap.objs.size f (.ref cda) cc) ?_ hi)
  refine ks_wpAt_MethodCall (pl := pl) (env := PySem.W.ksEnv ql sc st.heap.objs.size f (.ref cda) cc) ?_ (hev _)
  have bk := I.bk
  have kin1 : K.In h1 := I.kIn
  obtain ⟨t1, ga⟩ := exo_at I.hok ha
  obtain ⟨nm, qn, N, bs, bm, sn, sub, ab, col, dd, k0, k1, k2, k3, k5, hC, hbm⟩ := T.cls
  have hcl : PySem.W.clsIn K C = some { name := nm, bases := bs, mro := .ref C :: bm, ns := N, qualname := qn, hasDict := true, slotNames := sn, subclasses := sub, abstract := ab, collection := col, hasDel := false } := by unfold PySem.W.clsIn; rw [hC] <;> rfl
  obtain ⟨mb, b1, b2⟩ := env.mod.blt
  have kb : ∀ b o, base.get? b = some o → h1.get? b = some o := fun b o e => kp b o (env.bs b o e).1
  refine ks_wpAt_super_base (env := PySem.W.ksEnv ql sc st.heap.objs.size f (.ref cda) cc) ks kc (by decide) rfl (kin1 _ _ lf) rfl hp rfl (kin1 _ _ lcd) rfl hvs hfile S.top ?_
  refine PySem.W.ks_loadName_global kind ks (Calls.loadGlobal_builtin (env := PySem.W.ksEnv ql sc st.heap.objs.size f (.ref cda) cc) (env.mod.glob.keeps kb) hm (b1.keeps kb) ((b2 "super" (by decide)).trans hboot) ⟨rfl, ?_⟩)
  refine wpAny_loadName_free kind kc rfl ⟨_, kin1 _ _ lcc, rfl⟩ ?_
  rw [har]
  refine wpAny_loadName_local kind kself hns (v := .ref a) ?_ ?_
  · have nv' : ¬ (("self" : Str) == vn) = true := by simpa using fun z : ("self" : Str) = vn => S.nv.1 z.symm
    simp [List.lookup, nv']
  refine ks_wpAny_isType_cls (kin1 _ _ hC) rfl ⟨rfl, ?_⟩
  refine ks_wpAny_call_super (kin1 _ _ hC) rfl ga rfl (fun c z => by cases z) (PySem.W.looks_mroIn kin1 S.sub) (fun h2 e2 kp2 => ?_)
  have kin2 : K.In h2 := kin1.keeps kp2
  have J2 : PySem.W.InstAt h2 a _ C none := ⟨kp2 _ _ ga, rfl, rfl, trivial⟩
  have hsup : PySem.W.alongIn K "__init__" (((Value.ref C :: bm).dropWhile (· != .ref C)).drop 1) = some (some (.builtin "ValueError.__init__")) := by
    have z := S.sup
    unfold PySem.W.ks_superIn at z
    rw [hcl] at z
    exact z
  refine PySem.W.kxs_getMethod PySem.W.kxs_ValueError e2 (PySem.W.looks_opaque kin2 S.opq) (l₀ := Value.ref C :: bm) (fun A Q E s k q => wpAny_bind ((PySem.W.looks_clsIn kin2 hcl) A _ E s k (wpAny_pure q))) rfl kin2 hsup (J2.type.andThen (PySem.W.looks_mroIn kin2 S.ve)) (PySem.W.ks_ne kin2 J2 hcl) (by decide) ?_
  have gu : (h2.push (PySem.W.kxs_mw "ValueError.__init__" a)).get? h2.objs.size = some (PySem.W.kxs_mw "ValueError.__init__" a) := Heap.get?_push_at rfl rfl
  have kp3 : ∀ b o, h1.get? b = some o → (h2.push (PySem.W.kxs_mw "ValueError.__init__" a)).get? b = some o := fun b o e => Heap.get?_push_of_some _ (kp2 _ _ e)
  refine PySem.W.kxs_callWith (i := "ValueError.__init__") (x := a) rfl ?_
  refine Calls.evalArgs_plain (x := eval (.Constant (.str msg) j p3) (PySem.W.ksEnv ql sc st.heap.objs.size f (.ref cda) cc)) (rest := []) ?_
  refine Calls.spliced_cons (Calls.Constant_str (Calls.spliced_nil ?_))
  refine ⟨gu, ?_⟩
  refine call_mw (kp3 _ _ (kin1 _ _ hC)) (kp3 _ _ ga) gu (show 1 ≤ sizeLine by decide) (fun h4 t4 kp4 ga4 => ?_)
  have J0 := (I.kept (t' := 0) kp3).write (t' := st.toks + 2 + 1 + 1) (x := a) (e := a) (o := exo a C none) (by rw [ha]; exact True.intro) (.inl rfl) kp4 ⟨_, ga4⟩ (exo_ok ga4)
  have eu : upd h a (exo a C none) = h := by
    funext b
    by_cases hb : b = a
    · rw [hb, upd_same, ha]
    · rw [upd_ne hb]
  rw [eu] at J0
  have ps : PSs (supCx CX0 P w K mg base ["self", vn] ql sc f cda cc A out st h W) [.Assign [.Attribute (.Name "self" q1) fld q2] (.Name vn q3) q4] _ := pss_one (ps_ost (pv 0 rfl (.inl kself)) (pv 1 rfl (.inl kvn) S.nv.2.1 S.nv.2.2))
  refine wpAt_of_wpAny (wpAny_mono (ps.run [] _ [some (.ref a), some v] h { nx := fun _ h' => Z .non h', rt := Z } J0 ?_) (fun flow s2 res => ?_) fun _ _ z => z)
  · refine ⟨v, rfl, .ref a, rfl, a, C, rfl, T, S.nof, .inl ⟨ha, fun dx ndx nda => ?_⟩⟩
    exact q dx ndx nda
  · cases flow with
    | ret u => exact let ⟨v, _, h2, J, rel, z⟩ := res; ⟨v, h2, J.os, J.bare, J.base, J.hok, rel, z⟩
    | next => exact let ⟨_, h2, J, z⟩ := res; ⟨.non, h2, J.os, J.bare, J.base, J.hok, rfl, z⟩
    | brk => exact (let ⟨_, _, _, z⟩ := res; z : False).elim
    | cont => exact (let ⟨_, _, _, z⟩ := res; z : False).elim
/-! ### an exception kept behind its suite -/
/-- at a: an exception of the class cls, its dict at d -/
def exh (a : Addr) (cls : Value) (d : Option Addr) : HO := .ext fun h => ∃ (o : Obj) (vs : Array Value), h.get? a = some o ∧ Zc cls d o ∧ o.data = .fields vs
theorem exh_at {P : Program} {w : World} {H : Hp} {h : Heap} {a : Addr} {cls : Value} {d : Option Addr} (ok : HOk P w H h) (e : H a = some (exh a cls d)) : ∃ (o : Obj) (vs : Array Value), h.get? a = some o ∧ Zc cls d o ∧ o.data = .fields vs := by
  have z := ok a _ e
  exact z.1
theorem exh_ok {P : Program} {w : World} {H : Hp} {h : Heap} {a : Addr} {cls : Value} {d : Option Addr} {o : Obj} {vs : Array Value} (e : h.get? a = some o) (z : Zc cls d o) (hd : o.data = .fields vs) : ObjOk P w H h a (exh a cls d) :=
  ⟨⟨o, vs, e, z, hd⟩, ⟨o, e⟩, fun h1 h2 ⟨o1, vs1, e1, z1, d1⟩ k => ⟨o1, vs1, k _ e1, z1, d1⟩⟩
/-- an object that was not there at the def's start is followed from now on -/
theorem track {X : Cx} {pins : List (Addr × Obj)} {σ : L2.St} {H : Hp} {s : Shared} {a : Addr} {o : Obj} {vs : Array Value} {cls : Value} {d : Option Addr} (I : Inv X ((a, o) :: pins) σ H s) (z : Zc cls d o) (hd : o.data = .fields vs) (new : X.s_0.heap.get? a = none)
    (nop : ∀ p ∈ X.pn ++ pins, p.1 ≠ a) : Inv X pins σ (upd H a (exh a cls d)) s := by
  obtain ⟨ea, na, nl, nf, _⟩ := I.pin (a, o) (List.mem_append_right _ List.mem_cons_self)
  refine ⟨I.ok, I.os, I.bare, ⟨I.base.keep, I.base.slot, fun b ob e n x => ?_, I.base.there, fun b xs e => ?_, fun b ob u e => ?_, fun b ps e => ?_⟩, I.loc, I.cell, ?_, fun y c e => ?_, fun p hp => ?_, fun b u e => ?_, I.len⟩
  · rw [upd_ne (fun z => by rw [z, new] at e; cases e)]
    exact I.base.free b ob e n x
  · have z := I.base.tups b xs e
    rw [upd_ne (ne_of_none z na)]
    exact z
  · have z := I.base.frzs b ob u e
    rw [upd_ne (ne_of_none z na)]
    exact z
  · obtain ⟨m, z⟩ := I.base.tbls b ps e
    exact ⟨m, by rw [upd_ne (ne_of_none z na)]; exact z⟩
  · rw [upd_ne (Ne.symm nl)]
    exact I.free
  · obtain ⟨v, oc, ec, dc⟩ := I.cell y c e
    rw [upd_ne (fun z => by rw [z, ea] at ec; cases ec; rw [hd] at dc; cases dc)]
    exact I.freeC y c e
  · have hp' : p ∈ X.pn ++ ((a, o) :: pins) := by
      rcases List.mem_append.mp hp with z | z
      · exact List.mem_append_left _ z
      · exact List.mem_append_right _ (List.mem_cons_of_mem _ z)
    obtain ⟨g1, g2, g3, g4, g5⟩ := I.pin p hp'
    exact ⟨g1, by rw [upd_ne (nop p hp)]; exact g2, g3, g4, g5⟩
  · by_cases hb : b = a
    · subst hb
      rw [upd_same] at e
      cases e
      exact exh_ok ea z hd
    · rw [upd_ne hb] at e
      exact (I.hok b u e).stay (fun c v _ k => k) (fun c k => by rw [upd_ne (ne_of_none k na)]; exact k) fun c xs k => by rw [upd_ne (ne_of_none k na)]; exact k
/-- what 'except x as n: ..' wishes, n's object followed behind the suite -/
def wKeep (K : PySem.W.Frag) (c : Value) (i : Nat) (ts : Addr → Value → Option Addr → TS) (Wout : WX) (D : Ends) : WX := fun cls d σ H =>
  ∃ yes, PySem.W.exmOne K cls c = some yes ∧ (yes = true → ∀ a, H a = none → ts a cls d { nx := fun σ' H' => D.nx (σ'.set i none) (upd H' a (exh a cls d)), rt := D.rt, bk := fun _ _ => False, ct := fun _ _ => False } (σ.set i (some (.ref a))) H) ∧ (yes = false → Wout cls d σ H)
section
variable {X : Cx} {x n : Str} {c : Value} {i : Nat} {body suite : List Stmt} {b₀ : Stmt} {np pos pos' : Pos} {tb : WX → TS} {ts : Addr → Value → Option Addr → TS} {Wout : WX}
theorem ps_try_keep (hst : X.stack = X.env :: X.outer) (hfm : X.env.frame = some X.env.locals) (nd : X.N.Nodup) (hix : X.N[i]? = some n) (loc : X.env.kindOf n = some .local) (nam : Names X x c) (tks : Takes X Wout) (hex : X.ex = [])
    (bodyOk : ∀ (W : WX) (pn : List (Addr × Obj)) (xe : Value → Shared → Prop), Takes (X.tr pn xe) W → PassesOwn (model X.prog X.w) X.A X.env xe → PSs (X.tr pn xe) body (tb W))
    (suiteOk : ∀ (a : Addr) (oe : Obj) (cls : Value) (d : Option Addr) (pn : List (Addr × Obj)), Zc cls d oe → (∃ vs, oe.data = .fields vs) → PSs (X.suite a ((a, oe) :: pn)) (b₀ :: suite) (ts a cls d)) :
    PS X (.Try body [.ExceptHandler (some (.Name x np)) (some n) (b₀ :: suite) pos'] [] [] pos) (fun D σ H => tb (wKeep X.K c i ts Wout D) D σ H) := by
  refine ⟨fun pins st σ h D inv rdg => ?_⟩
  have okX := inv.ok
  have fr := okX.frames; rw [hst] at fr
  refine (wpAny_Try_except ?_)
  refine wpAny_mono ((bodyOk (wKeep X.K c i ts Wout D) (X.pn ++ pins) (fun e t1 => wpAny (model X.prog X.w) X.A (noteFrame e X.env) (fun _ t2 => wpAny (model X.prog X.w) X.A (setFlight e none) (fun _ t3 =>
    wpAny (model X.prog X.w) X.A (handleBy e X.env [.ExceptHandler (some (.Name x np)) (some n) (b₀ :: suite) pos']) (SP X pins D) X.xe t3) X.xe t2) X.xe t1) (fun u st' xx => ?_) PassesOwn.looking).run [] st σ h D (inv.toTry _) rdg) (fun flow t1 res => ?_) (fun _ _ z => z)
  · obtain ⟨a, G, tI, pins', σ1, h1, cls, d, rfl, K1, ground, up, sky, na, eos, ags, yes, q1, qy, qn⟩ := xx
    have I1 : Inv X pins σ1 h1 tI := K1.ofTry okX
    have sky1 : Sky G (X.env :: X.outer) a (Zc cls d) X.env.locals st'.heap := hst ▸ sky
    show wpAny (model X.prog X.w) X.A (noteFrame (.ref a) X.env) _ _ _
    refine Sky.land Zc.steady fr hfm sky1 fun hp3 fly3 up3 => ?_
    have I3 : Inv X pins σ1 h1 { st' with heap := hp3 } := I1.landed ground fly3.1 (up.trans up3) eos ags
    obtain ⟨o3, vs3, g3, z3, d3⟩ := fly3.there
    have nfr : a ∉ frs (X.env :: X.outer) := fun m => by
      obtain ⟨_, o', e', no⟩ := fly3.2.2.1.mem m
      rw [g3] at e'
      cases e'
      exact no _ d3
    have nl : a ≠ X.env.locals := fun z => nfr (List.mem_filterMap.mpr ⟨X.env, List.mem_cons_self, by rw [hfm, z]⟩)
    have nf : a ∉ X.fs := fun m => by
      obtain ⟨e, he, e2⟩ := List.mem_filterMap.mp m
      exact nfr (List.mem_filterMap.mpr ⟨e, List.mem_cons_of_mem _ he, e2⟩)
    have freshI : tI.heap.get? a = none := by
      cases e : tI.heap.get? a with
      | none => rfl
      | some o =>
        have := ground a o e (by rw [hst]; exact nfr)
        rw [fly3.2.1] at this
        cases this
    have fresh0 : X.s_0.heap.get? a = none := by
      cases e : X.s_0.heap.get? a with
      | none => rfl
      | some o =>
        obtain ⟨o', e'⟩ := I1.base.there a o e (by rw [hex]; exact List.not_mem_nil)
        rw [freshI] at e'
        cases e'
    have nop : ∀ p ∈ X.pn ++ pins, p.1 ≠ a := fun p hp z => by
      have := (I1.pin p hp).1
      rw [z, freshI] at this
      cases this
    have S3 := I3.suite g3 d3 na nl nf
    refine wpAny_handleBy_cons (codeAny_handlers_test ?_) (by intro z; cases z)
    have ty3 : PySem.W.Looks (model X.prog X.w) hp3 (typeOf (.ref a)) cls := fun A Q E s k z => wpAny_typeOf_ref (k _ _ g3) (by rw [z3.1]; exact z)
    have mt3 := PySem.W.exm_one (M := model X.prog X.w) (I3.kIn) ty3 q1
    have named : ∀ {Q : Value → Shared → Prop} {E : Value → Shared → Prop}, Q c { st' with heap := hp3 } → wpAny (model X.prog X.w) (X.A.mark (some (.ref a))) (eval (.Name x np) X.env) Q E { st' with heap := hp3 } := fun {Q E} z => by
      obtain ⟨n1, n2, n3 | ⟨n3, n4, n5⟩⟩ := nam
      · exact ld_glob (X := X.suite a ((a, o3) :: (X.pn ++ pins))) S3 n1 n3 z n2
      · exact ld_blt (X := X.suite a ((a, o3) :: (X.pn ++ pins))) S3 n1 n3 n4 z n5 n2
    refine named (mt3.here ?_)
    cases yes with
    | true =>
      refine (codeAny_handlers_suite_as ?_)
      refine HandSPX.lands_againZ fly3 fun hp4 fly4 up4 => ?_
      have I4 : Inv X pins σ1 h1 { st' with heap := hp4 } := I1.landed ground fly4.1 ((up.trans up3).trans up4) eos ags
      obtain ⟨o4, vs4, g4, z4, d4⟩ := fly4.there
      have S4 := I4.suite g4 d4 na nl nf
      refine store_ok (X := X.suite a ((a, o4) :: (X.pn ++ pins))) (v := .ref a) S4 nd hix (.inl loc) rfl (fun t5 S5 => ?_) (.inr loc)
      refine wpAny_mono ((suiteOk a o4 cls d (X.pn ++ pins) z4 ⟨_, d4⟩).run [] t5 _ h1 _ S5 (qy rfl a na)) (fun flow t6 res => ?_) (fun _ _ z => z.elim)
      have back : ∀ {σ6 : L2.St} {h6 : Hp}, Inv (X.suite a ((a, o4) :: (X.pn ++ pins))) [] σ6 h6 t6 → Inv X ((a, o4) :: pins) σ6 h6 t6 := fun {σ6 h6} S6 =>
        (S6.unsuite okX : Inv X pins σ6 h6 t6).pins_of fun p hp => by
          rcases List.mem_cons.mp hp with z | z
          · rw [z]; exact S6.pin (a, o4) (List.mem_append_left _ List.mem_cons_self)
          · exact S6.pin p (List.mem_append_left _ (List.mem_cons_of_mem _ (List.mem_append_right _ z)))
      cases flow with
      | next =>
        obtain ⟨σ6, h6, S6, q6⟩ := res
        exact gone_ok (back S6) nd hix loc fun t7 J7 => ⟨_, _, track J7 z4 d4 fresh0 nop, q6⟩
      | brk => exact (let ⟨_, _, _, z⟩ := res; z : False).elim
      | cont => exact (let ⟨_, _, _, z⟩ := res; z : False).elim
      | ret u =>
        obtain ⟨v6, σ6, h6, S6, r6, q6⟩ := res
        exact gone_ok (S6.unsuite okX) nd hix loc fun t7 J7 => ⟨_, _, _, J7, r6, q6⟩
    | false =>
      show wpAny _ X.A (handleBy (.ref a) X.env []) _ _ _
      refine (wpAny_handleBy_nil ?_)
      obtain ⟨j1, j2, j3, oe, vs, T, oT, ts', he, hz, hd, hv1, hr⟩ := id fly3
      unfold PySem.passOn
      refine (wpAny_bind (wpAny_field he hd hv1 ?_)); rw [if_neg (show ¬ ((Value.ref T == Value.none) = true) from by simp)]
      have last : wpAny (model X.prog X.w) X.A (setFlight (.ref a) X.env.frame) (fun _ t4 => wpAny (model X.prog X.w) X.A (throw (.ref a) : Sem Flow) (SP X pins D) X.xe t4) X.xe { st' with heap := hp3 } := by
        rw [hfm]
        refine HandSPX.setFlight_upZ fly3 fun hp4 held4 up4 => wpAny_throw (tks _ _ ?_)
        exact ⟨a, G, tI, pins, σ1, h1, cls, d, rfl, I1, ground, (up.trans up3).trans up4, .inr (.inr (by rw [hst]; exact held4)), na, eos, ags, qn rfl⟩
      first | exact wpAny_bind (wpAny_pure (wpAny_bind last)) | exact wpAny_bind last
  · cases flow with
    | next => exact let ⟨σ2, h2, J, q⟩ := res; wpAny_execs_nil ⟨σ2, h2, J.ofTry okX, q⟩
    | brk => exact let ⟨σ2, h2, J, q⟩ := res; ⟨σ2, h2, J.ofTry okX, q⟩
    | cont => exact let ⟨σ2, h2, J, q⟩ := res; ⟨σ2, h2, J.ofTry okX, q⟩
    | ret u => exact let ⟨v, σ2, h2, J, r, q⟩ := res; ⟨v, σ2, h2, J.ofTry okX, r, q⟩
end
/-! ### what is asked of a kept exception -/
def tXh (K : PySem.W.Frag) (f : Str) (te : TE) : TE := fun σ H Q => te σ H fun x H1 => ∃ (a C dd : Addr) (fs : List (Str × V)) (v : V), x = .ref a ∧ H1 a = some (exh a (.ref C) (some dd)) ∧ H1 dd = some (.xd fs) ∧ XfC K C ∧ PySem.W.findIn K (.ref C) f = some none ∧ fs.lookup f = some v ∧ Q v H1
theorem pe_xh {X : Cx} {e : Expr} {te : TE} {pos : Pos} {n : Str} (he : PE X e te) (hb : attributeBase e n X.env (eval e X.env) = eval e X.env := by rfl) : PE X (.Attribute e n pos) (tXh X.K n te) := by
  refine ⟨fun pins st σ h Q inv rdg => attr_of hb (thn (he.run pins st σ h _ inv rdg) fun u s1 res => ?_)⟩
  obtain ⟨x, h1, I1, rx, a, C, dd, fs, v, rfl, ea, ed, T, no, look, q⟩ := res
  obtain rfl : u = Value.ref a := rx
  obtain ⟨o, vs, g, z, hd⟩ := exh_at I1.hok ea
  obtain ⟨mA, ns, rel⟩ := (I1.hok dd _ ed : ObjOk X.prog X.w h1 s1.heap dd (.xd fs))
  obtain ⟨od, ho, hl⟩ := lookIn_ns ns
  obtain ⟨u, hu, ru⟩ := RelO.some_of (v := v) (o := mA n) (look ▸ rel n)
  have J : PySem.W.InstAt s1.heap a o C (some od) := ⟨g, z.1, by unfold PySem.W.notCls; rw [hd] <;> rfl, z.2.symm ▸ ho⟩
  exact HandSPX.exc_get I1.kIn J T.ga T.gg T.exC (PySem.W.findObj_own T.hdC no rfl (by rw [hl, hu])) (handed_of ru) ⟨v, h1, I1.tok _, ru, q⟩
/-- isinstance(y, c), y a kept exception with a dict -/
def rIsH (K : PySem.W.Frag) : List V → Hp → VK → Prop := fun xs H Q => ∃ (a C dd : Addr) (fs : List (Str × V)) (c : V) (u : Value) (b : Bool), xs = [.ref a, c] ∧ H a = some (exh a (.ref C) (some dd)) ∧ H dd = some (.xd fs) ∧ ExcC K C ∧ ClsV c u ∧ PySem.W.kitOne K (.ref C) u = some b ∧ Q (.bl b) H
theorem call_isH {X : Cx} : CallR X (.builtin "isinstance") (rIsH X.K) := by
  intro pins st σ h xs us Q inv rel pre
  obtain ⟨a, C, dd, fs, c, u, b, rfl, ea, ed, T, k, e, q⟩ := pre
  obtain ⟨w1, w2, rfl, r1, r2⟩ := vals2 rel
  obtain rfl : w1 = Value.ref a := r1
  obtain rfl := k.eq r2
  obtain ⟨o, vs, g, z, hd⟩ := exh_at inv.hok ea
  obtain ⟨mA, ns, rl⟩ := (inv.hok dd _ ed : ObjOk X.prog X.w h st.heap dd (.xd fs))
  obtain ⟨od, ho, hl⟩ := lookIn_ns ns
  have J : PySem.W.InstAt st.heap a o C (some od) := ⟨g, z.1, by unfold PySem.W.notCls; rw [hd] <;> rfl, z.2.symm ▸ ho⟩
  have hcl : (PySem.W.clsIn X.K C).isSome = true := by
    have z := T.hd
    unfold PySem.W.hasDictIn at z
    cases e : PySem.W.clsIn X.K C with
    | none => rw [e] at z; cases z
    | some _ => rfl
  exact PySem.W.kia_one (PySem.W.kitx_exc hcl T.hg T.hk T.hs T.ha T.hn T.ht T.hm) inv.kIn J e (fun z => nomatch z) fun tk => ⟨.bl b, h, inv.tok tk, rfl, q⟩
/-! ### raise C(e) -/
structure ErrMk (P : Program) (w : World) (K : PySem.W.Frag) (mg : Str → Option Value) (base : Heap) (C : Addr) (x fld : Str) : Prop where
  ex : ∃ (fI : Addr) (fd : FuncData) (vn : Str), OexC K C ∧ PySem.W.findIn K (.ref C) "__init__" = some (some (.ref fI)) ∧ PySem.W.typeIn K (.ref fI) = some (.type "function") ∧ FnOk P w K mg base CX0 1 fI fd ["self", vn] (spXI C fld) ∧ Binds K fd ["self", vn] [] ∧ mg x = some (.ref C)
theorem pmkC {X : Cx} {C : Addr} {x fld : Str} {e : Expr} {es : List Expr} {p pos : Pos} {ta : TA} (c : ErrMk X.prog X.w X.K X.mg X.base C x fld) (room : Room 2 X.A) (gl : Gl X x) (ha : PA X (e :: es) ta)
    (d1 : (x == ("__debug__" : Str)) = false := by decide) (d2 : starEach (e :: es) X.env = (false, eval e X.env) :: starEach es X.env := by rfl) (d3 : (backTo pos (starEach es X.env)).any (·.1) = false := by rfl) :
    PMk X (.Call (.Name x p) (e :: es) [] pos) (tMkO C (spXI C fld) [] ta) := by
  obtain ⟨fI, fd, vn, T, i1, i2, F, b, hm⟩ := c.ex
  exact pmk_oex T i1 i2 F room b .nil pass0 gl hm ha d1 d2 d3
theorem r_raiseO {σ : L2.St} {H : Hp} {te : TE} {C : Addr} {fld : Str} {W : XK} (q : te σ H fun v H1 => ∀ (d : Addr) (H' : Hp), Same H1 H' → H' d = some (.xd [(fld, v)]) → W (.ref C) (some d) H') (mono : ∀ (Q1 Q2 : VK), (∀ v H1, Q1 v H1 → Q2 v H1) → te σ H Q1 → te σ H Q2) :
    tMkO C (spXI C fld) [] (tCons te tNil) σ H W := by
  refine mono _ _ (fun v H1 g => ?_) q
  refine ⟨(show 1 ≤ 1000 by decide), fun a na => ⟨a, v, rfl, upd_same, fun dx ndx nda => ?_⟩⟩
  have n1 : H1 dx = none := by
    rw [upd_ne nda] at ndx
    exact ndx
  refine ⟨rfl, dx, [(fld, v)], upd_same, by rw [upd_ne nda]; exact upd_same, n1, g dx _ (fun b o e => ?_) upd_same⟩
  have b1 := ne_of_none e n1
  have b2 := ne_of_none e na
  rw [upd_ne b1, del_ne b2, upd_ne b2, upd_ne b1, upd_ne b2]
  exact e
theorem mono_var {i : Nat} {σ : L2.St} {H : Hp} (Q1 Q2 : VK) (h : ∀ v H1, Q1 v H1 → Q2 v H1) : tVar i σ H Q1 → tVar i σ H Q2 := fun ⟨v, e, q⟩ => ⟨v, e, h _ _ q⟩
end KX

/-! KY: values of many kinds: none, truths, numbers, texts, tuples, lists and dicts of such; repr of a pair, in, isinstance. -/
namespace KY
open PySem PySem.Spec PyProof.Rows L2 KB KG
inductive Sc where
  | non | bl (b : Bool) | int (i : Int) | str (x : Str)
  deriving DecidableEq
def Sc.v : Sc → V
  | .non => .non
  | .bl b => .bl b
  | .int i => .int i
  | .str x => .str x
def Sc.d : Sc → PyData
  | .non => .none
  | .bl b => .bool b
  | .int i => .int i
  | .str x => .str x
inductive Dt where
  | sc (s : Sc) | tup (l : List Sc) | lst (l : List Sc) | dct (l : List (Key × Sc))
def keyD : Key → PyData
  | .inl i => .int i
  | .inr x => .str x
def Dt.d : Dt → PyData
  | .sc s => s.d
  | .tup l => .tuple (l.map Sc.d)
  | .lst l => .list (l.map Sc.d)
  | .dct l => .dict (l.map fun p => (keyD p.1, p.2.d))
def OdAt (H : Hp) (v : V) : Dt → Prop
  | .sc s => v = s.v
  | .tup l => ∃ a, v = .ref a ∧ H a = some (.tup (l.map Sc.v))
  | .lst l => ∃ a, v = .ref a ∧ H a = some (.lst (l.map Sc.v))
  | .dct l => ∃ a, v = .ref a ∧ H a = some (.dK (l.map fun p => (p.1, p.2.v)))
theorem OdAt.to {H H' : Hp} {v : V} {t : Dt} (h : OdAt H v t) (k : ∀ a o, v = .ref a → H a = some o → H' a = some o) : OdAt H' v t := by
  cases t with
  | sc s => exact h
  | tup l => obtain ⟨a, e, g⟩ := h; exact ⟨a, e, k a _ e g⟩
  | lst l => obtain ⟨a, e, g⟩ := h; exact ⟨a, e, k a _ e g⟩
  | dct l => obtain ⟨a, e, g⟩ := h; exact ⟨a, e, k a _ e g⟩
theorem OdAt.same {H H' : Hp} {v : V} {t : Dt} (h : OdAt H v t) (s : Same H H') : OdAt H' v t := h.to fun a o _ e => s a o e
/-- it is no object of a class -/
theorem OdAt.notIns {H : Hp} {t : Dt} {a C dx : Addr} {fs : List (Str × V)} (h : OdAt H (.ref a) t) : H a ≠ some (.ins C dx fs) := by
  intro z
  cases t with
  | sc s => cases s <;> cases (show V.ref a = _ from h)
  | tup l => obtain ⟨b, e, g⟩ := h; cases e; rw [z] at g; cases g
  | lst l => obtain ⟨b, e, g⟩ := h; cases e; rw [z] at g; cases g
  | dct l => obtain ⟨b, e, g⟩ := h; cases e; rw [z] at g; cases g
section
variable {X : Cx} {pins : List (Addr × Obj)} {σ : L2.St} {H : Hp} {st : Shared}
theorem sc_reads {h : Heap} {u : Value} : ∀ s : Sc, RelV s.v u → Reads h u s.d []
  | .non, r => by cases (show u = Value.none from r); exact .none
  | .bl b, r => by cases (show u = Value.bool b from r); exact .bool b
  | .int i, r => by obtain ⟨t, rfl⟩ := (show ∃ t, u = Value.int i t from r); exact .int i t
  | .str x, r => by obtain ⟨t, rfl⟩ := (show ∃ t, u = Value.str x t from r); exact .str x t
theorem scs_reads {h : Heap} : ∀ (l : List Sc) (us : List Value), Vals (l.map Sc.v) us → ReadsAll h us (l.map Sc.d) []
  | [], us, r => by cases r; exact .nil
  | s :: l, us, r => by
    cases r with
    | cons r1 r2 => exact .cons (sc_reads s r1) (scs_reads l _ r2)
theorem dict_reads {P : Program} {w : World} {h : Heap} : ∀ (l : List (Key × Sc)) (vs : List (Key × Value)) (es : List DictEntry), KV (l.map fun p => (p.1, p.2.v)) vs → Pairs (mixKind P w) es vs →
    ReadsAll h (es.map (·.key)) ((l.map fun p => (keyD p.1, p.2.d)).map (·.1)) [] ∧ ReadsAll h (es.map (·.val)) ((l.map fun p => (keyD p.1, p.2.d)).map (·.2)) []
  | [], vs, es, k, p => by
    cases k
    cases p
    exact ⟨.nil, .nil⟩
  | (ky, s) :: l, vs, es, k, p => by
    cases k with
    | cons k1 k2 =>
      cases p with
      | cons p1 p2 p3 =>
        rename_i e es
        obtain ⟨g1, g2⟩ := dict_reads l _ _ k2 p3
        have r2 := k1.2
        rw [← p2] at r2
        refine ⟨?_, .cons (sc_reads s r2) g2⟩
        have e1 := k1.1
        have hk : keyIs ky e.key = true := by
          have z := p1
          rw [← e1] at z
          exact z
        have hr : Reads h e.key (keyD ky) [] := by
          rcases keyIs_shape hk with ⟨i, t, rfl, q⟩ | ⟨x, t, rfl, q⟩
          · rw [q]
            exact .int i t
          · rw [q]
            exact .str x t
        exact .cons hr g1
theorem noD_sc : ∀ s : Sc, s.d.hasDict = false
  | .non => rfl
  | .bl _ => rfl
  | .int _ => rfl
  | .str _ => rfl
theorem noD_scs : ∀ l : List Sc, PyData.hasDictAll (l.map Sc.d) = false
  | [] => by simp only [List.map_nil, PyData.hasDictAll]
  | s :: l => by simp only [List.map_cons, PyData.hasDictAll, noD_sc s, noD_scs l, Bool.or_false]
theorem od_reads {v : V} {u : Value} {t : Dt} (inv : Inv X pins σ H st) (o : OdAt H v t) (r : RelV v u) : ∃ as, Reads st.heap u t.d as ∧ (t.d.hasDict = true → sysModules ∉ as) := by
  cases t with
  | sc s =>
    obtain rfl : v = s.v := o
    exact ⟨_, sc_reads s r, fun _ => List.not_mem_nil⟩
  | tup l =>
    obtain ⟨a, rfl, e⟩ := o
    obtain rfl : u = Value.ref a := r
    obtain ⟨its, rv, ⟨ob, ho, hc, n, hd⟩, _⟩ := inv.tuple (SqT.of e)
    exact ⟨_, .tuple ho hc hd (scs_reads l _ rv), fun _ => List.not_mem_nil⟩
  | lst l =>
    obtain ⟨a, rfl, e⟩ := o
    obtain rfl : u = Value.ref a := r
    obtain ⟨its, rv, ⟨ob, n, ho, hc, _, hd⟩, _⟩ := inv.list (SqL.of e)
    refine ⟨_, .list ho hc hd (scs_reads l _ rv), fun z => ?_⟩
    simp only [Dt.d, PyData.hasDict, noD_scs l] at z
    cases z
  | dct l =>
    obtain ⟨a, rfl, e⟩ := o
    obtain rfl : u = Value.ref a := r
    obtain ⟨_, ns, vs, kv, ob, es, ep, ho, hex, hd, _, prs, _⟩ := dk_of inv.hok e
    obtain ⟨g1, g2⟩ := dict_reads (h := st.heap) l _ _ kv prs
    refine ⟨_, .dict ho hex.1 hd g1 g2, fun _ m => ?_⟩
    have m' : sysModules ∈ [a] := m
    rw [List.mem_singleton] at m'
    rw [← m'] at ns
    simp at ns
end
/-! ### repr of [tag, v] -/
section
variable {P : Program} {w : World} {A : Around} {E : Value → Shared → Prop} {s : Shared} {Z : Value → Shared → Prop}
theorem repr_items {a : Addr} {xs : List PyData} {o : Obj} {vs : Array Value} {n : Nat} {as1 : List Addr} (h1 : s.heap.get? a = some o) (h2 : o.cls = .type "list") (h3 : o.data = .seq vs n) (h4 : ReadsAll s.heap vs.toList xs as1) (ne : vs.toList ≠ []) (ok : PyData.showableAll xs = true) (nosys : PyData.hasDictAll xs = true → sysModules ∉ as1)
    (sz : (PyData.list xs).shown.length ≤ sizeLine) (fr : Free A) (hu : A.units + (PyData.list xs).depth + 3 < cLine)
    (q : ∀ h' u tk, (∀ b o, s.heap.get? b = some o → h'.get? b = some o) → Z (.str (PyData.list xs).shown u) { s with heap := h', toks := tk }) : wpAny (model P w) A (call (.builtin "repr") [.ref a]) Z E s := by
  have sz' : (listText (PyData.shownAll xs)).length ≤ sizeLine := by simpa only [PyData.shown] using sz
  have whole : Reads s.heap (.ref a) (.list xs) _ := .list h1 h2 h3 h4
  obtain ⟨bs, lim, kids⟩ := ReprAllK.of_readsAll (prog := P) (w := w) h4 ok nosys (fun t ht => Nat.le_trans (listText_mem_le ht) sz')
  have off : a ∉ bs := not_mem_of_deeper whole (by simp only [PyData.depth]; omega) lim
  simp only [PyData.depth] at hu
  simp only [PyData.shown] at q
  have ty : s.TypeIs (.ref a) "list" := ⟨_, h1, h2⟩
  refine repr_slot (by omega) ty F.slot_list_repr.toG ?_
  obtain ⟨l⟩ := vs
  cases l with
  | nil => exact absurd rfl ne
  | cons x l =>
    refine (wpAny_callSpecialIfBound?_slot (name := Str.ofString "__repr__") ty F.slot_list_repr (call_list_reprK h1 h2 h3 off (by simpa using kids.length_eq) (fun i y e => kids.item i y (by simpa using e)) fr (fun b _ => Clear.nil b) (show A.units + 1 + _ < cLine by omega) (fun _ _ e => e) (fun h' u tk kp => ?_) sz'))
    exact ⟨_, _, rfl, q h' u tk kp⟩
end
/-- the pair [tag, v] as data -/
def pairD (tag : Str) (t : Dt) : PyData := .list [.str tag, t.d]
structure Fit (tag : Str) (t : Dt) : Prop where
  ok : PyData.showable t.d = true
  deep : (pairD tag t).depth ≤ 60
  sz : (pairD tag t).shown.length ≤ sizeLine
section
variable {X : Cx}
def rReprT : List V → Hp → VK → Prop := fun xs H Q => ∃ (p : Addr) (tag : Str) (v : V) (t : Dt), xs = [.ref p] ∧ H p = some (.lst [.str tag, v]) ∧ OdAt H v t ∧ Fit tag t ∧ Q (.str (pairD tag t).shown) H
theorem call_reprT {k : Nat} (fr : Free X.A) (room : Room k X.A) : CallR X (.builtin "repr") rReprT := by
  intro pins st σ h xs us Z inv rel pre
  obtain ⟨p, tag, v, t, rfl, hp, od, fit, z⟩ := pre
  obtain ⟨u, rfl, rv⟩ := vals_one rel
  obtain rfl : u = Value.ref p := rv
  obtain ⟨its, rl, ⟨ob, n, ho, hc, _, hd⟩, _⟩ := inv.list (SqL.of hp)
  cases rl with
  | cons r1 rl =>
    cases rl with
    | cons r2 rl =>
      cases rl
      obtain ⟨tk, rfl⟩ := (show ∃ tk, _ = Value.str tag tk from r1)
      obtain ⟨as, rd, ns⟩ := od_reads inv od r2
      refine repr_items (xs := [.str tag, t.d]) ho hc hd (.cons (.str tag tk) (.cons rd .nil)) (by simp) ?_ (fun y m => ?_) fit.sz fr (by have := room.un; have := fit.deep; unfold pairD at this; omega) fun h' t1 tk' kp => ?_
      · simp only [PyData.showableAll, PyData.showable, fit.ok, Bool.and_true, Bool.true_and]
      · simp only [PyData.hasDictAll, PyData.hasDict, Bool.or_false, Bool.false_or] at y
        exact ns y (by simpa using m)
      · exact ⟨.str (pairD tag t).shown, h, inv.kept kp, ⟨t1, rfl⟩, z⟩
end
/-! ### a text beside a dict -/
section
open PySem.SeqAt PySem.MeetsSeq PySem.AutoSeq1
theorem str_eq_no_dict (b : Str) (u : Tok) (l : Addr) (c : Value) (es : Array DictEntry) (n : Nat) (dd : Option Addr) (sl : Array (Option Value)) :
    Meets (Builtin.«str.__eq__» ⟨[.str b u, .ref l], []⟩) (fun _ R s => s.heap.get? l = some { cls := c, dict := dd, data := .dict es n, slots := sl } ∧ R (.ok (.ret .notImplemented)) s) :=
  .of_wp fun prog w A R s h => by obtain ⟨hp, g, d, tk, os⟩ := s; obtain ⟨hl, h⟩ := h; wp_walk using wpAny_loadPart' hl, wpAny_load hl; exact ⟨_, rfl, h⟩
theorem dict_eq_no_str (l : Addr) (es : Array DictEntry) (n : Nat) (dd : Option Addr) (sl : Array (Option Value)) (b : Str) (u : Tok) :
    Meets (Builtin.«dict.__eq__» ⟨[.ref l, .str b u], []⟩) (fun _ R s => s.heap.get? l = some { cls := .type "dict", dict := dd, data := .dict es n, slots := sl } ∧ R (.ok (.ret .notImplemented)) s) :=
  .of_wp fun prog w A R s h => by obtain ⟨hp, g, d, tk, os⟩ := s; obtain ⟨hl, h⟩ := h; have f1 := F.sub_str_dict; wp_walk using wpAny_loadPart' hl; exact ⟨_, rfl, h⟩
variable {A : Around} {s : Shared}
theorem eqAt_str_dict {l : Addr} {es : Array DictEntry} {n : Nat} {ob : Obj} (b : Str) (u : Tok) (ho : s.heap.get? l = some ob) (hc : ob.cls = .type "dict") (hd : ob.data = .dict es n) (hu : A.units < cLine) : EqAt A s (.str b u) (.ref l) false := fun prog w E Q h => by
  obtain ⟨cls, dd, data, sl⟩ := ob
  simp only at hc hd
  subst hc hd
  unfold eqBool
  refine wpAny_holding ?_
  refine wpAny_ite_split (fun hab => absurd (eq_of_beq hab) nofun) (fun _ => ?_)
  refine wpAny_bind ?_
  exact rc_eq_decline_or (k := false) (typeIs_str s b u) ⟨_, ho, rfl⟩ (by decide) F.sub_dict_str F.slot_str_eq F.slot_dict_eq_refl
    (fun _ hq => call_meets F.slot_str_eq (typeIs_str s b u) F.entry_str_eq (F.args_str_eq_2 _ _) (str_eq_no_dict b u l (.type "dict") es n dd sl) ⟨ho, hq⟩)
    (fun _ hq => call_meets F.slot_dict_eq_refl ⟨_, ho, rfl⟩ F.entry_dict_eq (F.args_dict_eq_2 _ _) (dict_eq_no_str l es n dd sl b u) ⟨ho, hq⟩)
    (fun _ hq => wpAny_of_eq (rfl : isSame (.str b u) (.ref l) = pure false) hq) (.inr hu) (wpAny_truthy_bool h)
end
/-! ### v in a tuple of texts -/
def Dt.isIn (zs : List Str) : Dt → Bool
  | .sc (.str x) => decide (x ∈ zs)
  | _ => false
theorem strs_of : ∀ (zs : List Str) (us : List Value), Vals (zs.map V.str) us → ∀ u ∈ us, ∃ z tk, u = Value.str z tk
  | [], us, r => by cases r; exact fun u m => absurd m List.not_mem_nil
  | z :: zs, us, r => by
    cases r with
    | cons r1 r2 =>
      intro u m
      rcases List.mem_cons.mp m with rfl | m
      · obtain ⟨t, e⟩ := r1
        exact ⟨z, t, e⟩
      · exact strs_of zs _ r2 u m
theorem inV_no {x : V} (h : ∀ y, eqV (.str y) x = false) : ∀ zs : List Str, inV x (zs.map V.str) = false
  | [] => rfl
  | z :: zs => by
    have := inV_no h zs
    unfold inV at this ⊢
    rw [List.map_cons, List.any_cons, h z, this]
    rfl
section
variable {X : Cx}
def rNotInO (K : PySem.W.Frag) : R2 := fun x y H Q => ∃ (p : Addr) (zs : List Str) (t : Dt), y = .ref p ∧ SqT K H p (zs.map V.str) ∧ OdAt H x t ∧ Q (.bl (!t.isIn zs)) H
theorem op_notInO {k : Nat} (room : Room k X.A) : OpR X (compareOp .NotIn) (rNotInO X.K) := by
  intro pins st σ h x y v u Z inv rx ry pre
  obtain ⟨p, zs, t, rfl, sq, od, z⟩ := pre
  have un := room.un
  have flat : ∀ sc : Sc, x = sc.v → inV x (zs.map V.str) = (Dt.sc sc).isIn zs → t = .sc sc → wpAny (model X.prog X.w) X.A (compareOp .NotIn v u) (EP X pins σ Z) X.xe st := by
    intro sc e1 e2 e3
    subst e3
    refine op_notIn_seq pins st σ h x (.ref p) v u Z inv rx ry ⟨p, _, rfl, .inr sq, ?_, KB.flat_strs zs, ?_⟩
    · rw [e1]
      cases sc <;> rfl
    · show Z (.bl (!inV x (zs.map V.str))) h
      rw [e2]
      exact z
  have far : t.isIn zs = false → (∀ b tk A', A'.units ≤ X.A.units + 1 → SeqAt.EqAt A' st (.str b tk) v false) → wpAny (model X.prog X.w) X.A (compareOp .NotIn v u) (EP X pins σ Z) X.xe st := by
    intro e1 e2
    obtain rfl : u = Value.ref p := ry
    obtain ⟨its, r, pl, hz⟩ := inv.tuple sq
    refine SeqAt.notIn_tupleAt (fun _ => false) pl (fun w hw => ?_) ⟨.bl true, h, inv, ?_, ?_⟩
    · obtain ⟨b, tk, rfl⟩ := strs_of zs its r w (by simpa using hw)
      exact e2 b tk _ (Nat.le_refl _)
    · show Value.bool _ = Value.bool true
      simp
    · rw [e1] at z
      exact z
  cases t with
  | sc s =>
    have e : x = s.v := od
    refine flat s e ?_ rfl
    rw [e]
    cases s with
    | non => exact inV_no (fun _ => rfl) zs
    | bl b => exact inV_no (fun _ => rfl) zs
    | int i => exact inV_no (fun _ => rfl) zs
    | str x => exact inV_strs zs
  | tup l =>
    obtain ⟨a, rfl, e⟩ := od
    obtain rfl : v = Value.ref a := rx
    obtain ⟨its, rv, tp, _⟩ := inv.tuple (SqT.of e)
    exact far rfl fun b tk A' hA => SeqAt.EqAt.str_tuple b tk tp (by omega)
  | lst l =>
    obtain ⟨a, rfl, e⟩ := od
    obtain rfl : v = Value.ref a := rx
    obtain ⟨its, rv, tp, _⟩ := inv.list (SqL.of e)
    exact far rfl fun b tk A' hA => SeqAt.EqAt.str_list b tk tp.isList (by omega)
  | dct l =>
    obtain ⟨a, rfl, e⟩ := od
    obtain rfl : v = Value.ref a := rx
    obtain ⟨_, ns, vs, kv, ob, es, ep, ho, hex, hd, _, prs, _⟩ := dk_of inv.hok e
    exact far rfl fun b tk A' hA => eqAt_str_dict b tk ho hex.1 hd (by omega)
end
/-! ### its type -/
def Dt.ty : Dt → String
  | .sc .non => "NoneType"
  | .sc (.bl _) => "bool"
  | .sc (.int _) => "int"
  | .sc (.str _) => "str"
  | .tup _ => "tuple"
  | .lst _ => "list"
  | .dct _ => "dict"
theorem OdAt.tyX {K : PySem.W.Frag} {H : Hp} {v : V} {t : Dt} (h : OdAt H v t) : TyX K H v (.type t.ty) := by
  cases t with
  | sc s =>
    obtain rfl : v = s.v := h
    cases s with
    | non => exact .base .non
    | bl b => exact .base (.bl b)
    | int i => exact .base (.int i)
    | str x => exact .base (.str x)
  | tup l => obtain ⟨a, rfl, e⟩ := h; exact .base (.tup e)
  | lst l => obtain ⟨a, rfl, e⟩ := h; exact .base (.lst e)
  | dct l => obtain ⟨a, rfl, e⟩ := h; exact .base (.dK e)
def Dt.isStr : Dt → Bool
  | .sc (.str _) => true
  | _ => false
theorem r_isStr {K : PySem.W.Frag} {H : Hp} {Q : VK} {v : V} {t : Dt} (h : OdAt H v t) (q : Q (.bl t.isStr) H) : rIsi K [v, .ty "str"] H Q := by
  refine ⟨v, .ty "str", _, .type "str", t.isStr, rfl, .ty _, h.tyX, ?_, q⟩
  have h1 : kitB "NoneType" "str" = some false ∧ kitB "bool" "str" = some false ∧ kitB "int" "str" = some false ∧ kitB "str" "str" = some true ∧ kitB "tuple" "str" = some false ∧ kitB "list" "str" = some false ∧ kitB "dict" "str" = some false := by decide +kernel
  cases t with
  | sc s =>
    cases s with
    | non => exact kit_ty h1.1
    | bl b => exact kit_ty h1.2.1
    | int i => exact kit_ty h1.2.2.1
    | str x => exact kit_ty h1.2.2.2.1
  | tup l => exact kit_ty h1.2.2.2.2.1
  | lst l => exact kit_ty h1.2.2.2.2.2.1
  | dct l => exact kit_ty h1.2.2.2.2.2.2
/-! ### list.count of truths -/
section
variable {X : Cx}
def rCntB (K : PySem.W.Frag) : V → List V → Hp → VK → Prop := fun x xs H Q => ∃ (p : Addr) (bs : List Bool) (b : Bool), x = .ref p ∧ xs = [.bl b] ∧ SqL K H p (bs.map V.bl) ∧ Q (.int (bs.count b : Nat)) H
theorem bls_of : ∀ (bs : List Bool) (us : List Value), Vals (bs.map V.bl) us → us = bs.map Value.bool
  | [], us, r => by cases r; rfl
  | b :: bs, us, r => by
    cases r with
    | cons r1 r2 =>
      rw [bls_of bs _ r2, show _ = Value.bool b from r1]
      rfl
theorem mt_countB : MtR X "list.count" (rCntB X.K) := by
  intro pins s σ H x xs v us Q I rx rxs h
  obtain ⟨p, bs, b, rfl, rfl, hs, q⟩ := h
  cases rx
  obtain ⟨u, rfl, ru⟩ := rxs.one
  obtain rfl : u = Value.bool b := ru
  obtain ⟨its, rv, ⟨⟨cls, dd, data, sl⟩, n, ho, hc, hdn, hd⟩, hlen⟩ := I.list hs
  simp only at hc hd
  subst hc hd
  have hi := bls_of bs its rv
  subst hi
  refine call_meets PySem.F.slot_list_count ⟨_, ho, rfl⟩ PySem.F.entry_list_count (PySem.F.args_list_count_2 _ _)
    (SeqAt.list_countAt p (bs.map Value.bool).toArray n dd sl (.bool b) (fun y => match y with | .bool c => c == b | _ => false)) ⟨ho, fun y hy => ?_, ?_⟩
  · have hy' : y ∈ bs.map Value.bool := by simpa using hy
    obtain ⟨c, _, rfl⟩ := List.mem_map.mp hy'
    exact SeqAt.EqAt.bool_bool c b
  · have ec : (bs.map Value.bool).toArray.toList.countP (fun y => match y with | .bool c => c == b | _ => false) = bs.count b := by
      show (bs.map Value.bool).countP _ = _
      rw [List.countP_map]
      rfl
    refine ⟨.int (bs.count b : Nat), H, I.tok _, ⟨s.toks, ?_⟩, q⟩
    show Value.int ((_ : Nat) : Int) s.toks = Value.int ((bs.count b : Nat) : Int) s.toks
    rw [ec]
end
end KY

/-! KL: lambdas handed to a def that asks them; the law's end with tables of code objects, no repr under way; own == beside other types. -/
namespace KL
open PySem PySem.Spec PyProof.Rows L2 KB KG LamX
/-! ### the law's end -/
section
variable {P : Program} {w : World} {K : PySem.W.Frag} {mg bm : Str → Option Value} {k : Nat} {fa a : Addr} {cs : List (Addr × Addr)} {fd : FuncData} {x : Str} {sp : Sp} {st : Shared} {us : List Value} {ns : List Int}
def TabIs (cs : List (Addr × Addr)) (b : Addr) : Prop := ∃ p ∈ cs, p.2 = b
theorem law_GT (kin : K.In st.heap) (gl : st.heap.Ns mainGlobals mg) (bl : st.heap.Ns builtinsNs bm) (bb : ∀ y : Str, y ≠ "__name__" → bm y = bootBuiltins y) (nolim : st.heap.NoLimit) (nogen : st.gens = #[])
    (empty : ∀ p ∈ cs, st.heap.get? p.2 = some (PySem.W.tabObj #[])) (off : ∀ p ∈ cs, K.lookup p.2 = none) (codes : ∀ p ∈ cs, PySem.W.CodeHd st.heap p.1 p.2)
    (bmain : ∃ (m : Addr) (ob : Obj), mg "__builtins__" = some (.ref m) ∧ m ≠ builtinsNs ∧ st.heap.get? m = some ob ∧ ob.cls = .type "module" ∧ ob.dict = some builtinsNs ∧ ob.data = .plain)
    (at_ : st.heap.get? a = some { cls := .type "list", data := .seq us.toArray }) (allInt : IntsAre us ns) (few : ns.length ≤ sizeLine) (room : Room k callerA)
    (F : ∀ base : Heap, K.In base → base.Ns mainGlobals mg → (∀ p ∈ cs, TabB base mg p.1 p.2) → FnG P w K mg base CX0 k fa fd [x] sp) (bind : ∀ (s : Shared) (u : Value), BindsTo s fd ⟨[u], []⟩ [(x, u)])
    (pre : ∀ H : Hp, (∀ p ∈ cs, H p.2 = some (.tbl #[])) → SqL K H a (ns.map V.int) → sp [.ref a] H (fun v _ => v = .bl true) fun _ _ _ => False) :
    codeAny (model P w) callerA (.call (.ref fa) ⟨[.ref a], []⟩) (fun r s2 => r = .ok (.ret (.bool true)) ∧ OldK st.heap s2.heap ∧ s2.os = st.os ∧ AllBare s2.gens) st := by
  classical
  have isT : ∀ {b : Addr}, TabIs cs b → st.heap.get? b = some (PySem.W.tabObj #[]) := fun {b} ⟨p, hp, e⟩ => e ▸ empty p hp
  have aT : ¬ TabIs cs a := fun z => by
    have y := isT z
    rw [at_] at y
    have y2 : Data.seq us.toArray _ = Data.fields #[] := congrArg Obj.data (Option.some.inj y)
    cases y2
  have main : ∀ H : Hp, (∀ b, TabIs cs b → H b = some (.tbl #[])) → (∀ b, H b = none ∨ TabIs cs b ∨ ∃ o ys, H b = some (.frz o (.lst ys))) → SqL K H a (ns.map V.int) → HOk P w H st.heap → (∀ b, H b ≠ none → b = a ∨ TabIs cs b) → (H a ≠ none → K.lookup a = none) →
      codeAny (model P w) callerA (.call (.ref fa) ⟨[.ref a], []⟩) (fun r s2 => r = .ok (.ret (.bool true)) ∧ OldK st.heap s2.heap ∧ s2.os = st.os ∧ AllBare s2.gens) st := by
    intro H tabs only sq hok isA noK
    have free_of : ∀ {b : Addr} {o : Obj}, st.heap.get? b = some o → (∀ ys m, o.data ≠ .seq ys m) → o.data ≠ .fields #[] → H b = none := by
      intro b o e nd nf
      cases q : H b with
      | none => rfl
      | some z =>
        rcases isA b (by rw [q]; simp) with eb | eb
        · rw [eb, at_] at e
          exact absurd (congrArg Obj.data (Option.some.inj e)).symm (nd _ _)
        · rw [isT eb] at e
          exact absurd (congrArg Obj.data (Option.some.inj e)).symm nf
    have kb : K.In (hidT st.heap H) := by
      intro b o e
      refine hidT_get (kin b o e) ?_
      cases q : H b with
      | none => rfl
      | some z =>
        rcases isA b (by rw [q]; simp) with eb | ⟨p, hp, eb⟩
        · rw [eb] at e q
          rw [noK (by rw [q]; simp)] at e
          cases e
        · rw [← eb, off p hp] at e
          cases e
    have ns_of : ∀ {b : Addr} {m : Str → Option Value}, st.heap.Ns b m → (hidT st.heap H).Ns b m := by
      intro b m h
      obtain ⟨o, es, ep, e, d, r⟩ := h
      exact ⟨o, es, ep, hidT_get e (free_of e (fun ys n z => by rw [d] at z; cases z) (fun z => by rw [d] at z; cases z)), d, r⟩
    have hm : Mod K mg (hidT st.heap H) := ⟨kb, ns_of gl, ⟨bm, ns_of bl, bb⟩, by obtain ⟨mc, z1, z2⟩ := nolim; exact ⟨mc, ns_of z1, z2⟩⟩
    have tb : ∀ p ∈ cs, TabB (hidT st.heap H) mg p.1 p.2 := by
      intro p hp
      have hTp := empty p hp
      refine ⟨?_, ?_, fun z => ?_⟩
      · obtain ⟨o, ws, file, tf, flags, tg, inF, text, tt, e1, r1, r2, r3, rest⟩ := codes p hp
        refine ⟨o, ws, file, tf, flags, tg, inF, text, tt, hidT_get e1 (free_of e1 (fun ys n z => by rw [r2] at z; cases z) (fun z => ?_)), r1, r2, r3, rest⟩
        rw [r2] at z
        cases z
        simp at r3
      · obtain ⟨m, ob, b1, b2, b3, b4, b5, b6⟩ := bmain
        refine ⟨m, ob, b1, b2, fun q => ?_, fun q => ?_, hidT_get b3 (free_of b3 (fun ys n z => by rw [b6] at z; cases z) (fun z => by rw [b6] at z; cases z)), b4, b5, b6⟩
        · obtain ⟨o, es, ep, e, hd, _⟩ := gl
          rw [q, e] at b3
          cases b3
          rw [hd] at b6
          cases b6
        · rw [q, hTp] at b3
          cases b3
          cases b6
      · obtain ⟨o, es, ep, e, hd, _⟩ := gl
        rw [z, hTp] at e
        cases e
        cases hd
    have env : Env0 P w K mg (hidT st.heap H) callerA [] st H := ⟨rfl, hm, fun b o e => of_hidT e, Nat.le_of_eq (hidT_size _ _), trivial, fun b z => (List.not_mem_nil z).elim, hok, .of_eq nogen⟩
    refine codeAny_mono ((F _ kb (ns_of gl) tb).go callerA rfl [] st H ⟨[.ref a], []⟩ [.ref a] [.ref a] _ _ room env (bind st (.ref a)) (.cons rfl .nil) (pre H (fun p hp => tabs _ ⟨p, hp, rfl⟩) sq)) fun res s2 z => ?_
    match res, z with
    | .error e, z => exact z.elim
    | .ok .next, z => exact z.elim
    | .ok .brk, z => exact z.elim
    | .ok .cont, z => exact z.elim
    | .ok (.ret u), z =>
      obtain ⟨v, H2, z1, z2, un, hok2, rel, rfl⟩ := z
      obtain rfl : u = Value.bool true := rel
      have stay : ∀ b o, ¬ TabIs cs b → st.heap.get? b = some o → s2.heap.get? b = some o := by
        intro b o nb e
        cases q : H b with
        | none => exact un.keep b o e q (fun y => List.not_mem_nil y) (fun y => List.not_mem_nil y)
        | some y =>
          rcases only b with y1 | y1 | ⟨o1, ys, y1⟩
          · rw [q] at y1; cases y1
          · exact absurd y1 nb
          · have y2 := (hok b _ y1).1
            have y3 := (hok2 b _ (un.frzs b o1 _ y1)).1
            rw [e] at y2
            rw [Option.some.inj y2]
            exact y3
      have grown : ∀ p ∈ cs, ∃ more : Array Value, s2.heap.get? p.2 = some { cls := .none, data := .fields more } := by
        intro p hp
        obtain ⟨more, y⟩ := un.tbls p.2 #[] (tabs _ ⟨p, hp, rfl⟩)
        exact ⟨_, hok2 p.2 _ y⟩
      refine ⟨rfl, ⟨fun b o e => ?_, fun b o e => ?_⟩, z1, z2⟩
      · by_cases hb : TabIs cs b
        · obtain ⟨p, hp, rfl⟩ := hb
          obtain ⟨more, g⟩ := grown p hp
          rw [empty p hp] at e
          cases e
          exact .inr (.inl ⟨((codes p hp).tab (empty p hp)).isCodeTable, rfl, #[], more, rfl, by rw [Array.empty_append]; exact g⟩)
        · exact .inl (stay b o hb e)
      · by_cases hb : TabIs cs b
        · obtain ⟨p, hp, rfl⟩ := hb
          obtain ⟨more, g⟩ := grown p hp
          exact ⟨_, g⟩
        · exact ⟨o, stay b o hb e⟩
  have vals := vals_ints allInt
  have lens := allInt.length
  cases look : K.lookup a with
  | some o =>
    have e := kin a o look
    rw [at_] at e
    obtain rfl := Option.some.inj e
    refine main (fun b => if TabIs cs b then some (.tbl #[]) else none) (fun b hb => if_pos hb) (fun b => ?_) (.inr ⟨_, us.toArray, _, look, rfl, rfl, rfl, by rw [List.size_toArray, lens]; exact few, by simpa using vals⟩) (fun b u z => ?_) (fun b z => ?_) (fun z => absurd (if_neg aT) z)
    · by_cases hb : TabIs cs b
      · exact .inr (.inl hb)
      · exact .inl (if_neg hb)
    · by_cases hb : TabIs cs b
      · have y := (if_pos hb).symm.trans z
        cases y
        exact isT hb
      · have y := (if_neg hb).symm.trans z
        cases y
    · by_cases hb : TabIs cs b
      · exact .inr hb
      · exact absurd (if_neg hb) z
  | none =>
    refine main (upd (fun b => if TabIs cs b then some (.tbl #[]) else none) a (.frz { cls := .type "list", data := .seq us.toArray } (.lst (ns.map V.int)))) (fun b hb => ?_) (fun b => ?_) (.inl (.inr ⟨_, upd_same⟩)) (fun b y z => ?_) (fun b z => ?_) fun _ => look
    · rw [upd_ne (show b ≠ a from fun z => aT (by rw [← z]; exact hb))]
      exact if_pos hb
    · by_cases eb : b = a
      · rw [eb, upd_same]; exact .inr (.inr ⟨_, _, rfl⟩)
      · rw [upd_ne eb]
        by_cases hb : TabIs cs b
        · exact .inr (.inl hb)
        · exact .inl (if_neg hb)
    · by_cases eb : b = a
      · subst eb
        rw [upd_same] at z
        obtain rfl := Option.some.inj z
        exact ⟨at_, by rw [List.length_map]; exact few, us, _, vals, at_⟩
      · rw [upd_ne eb] at z
        by_cases hb : TabIs cs b
        · have y := (if_pos hb).symm.trans z
          cases y
          exact isT hb
        · have y := (if_neg hb).symm.trans z
          cases y
    · by_cases eb : b = a
      · exact .inl eb
      · by_cases hb : TabIs cs b
        · exact .inr hb
        · exact absurd ((upd_ne eb).trans (if_neg hb)) z
end
/-- the goal that the head leaves, from the law's own promise; names: the defs whose tables are wanted -/
theorem walkGT {l : PySem.W.OpenLaw} {n k : Nat} {q : Program} {loose : List Str} {XP : (Str → Option Value) → Heap → Prop} {YP : World → Heap → Prop} {d : DefRec} {K : Params → PySem.W.Frag} {sp : World → List (Addr × Addr) → Sp} {x : Str} {names : List Str}
    (hn : l.most = some n) (n2 : n ≤ sizeLine) (nodef : d.params.defaults = []) (room : Room k callerA) (recs : (names.all fun y => (recsOf q).any fun e => e.name == y) = true) (hY : ∀ (w : World) (h : Heap), YP w h → (K w.params).In h)
    (F : ∀ (w : World) (mg : Str → Option Value) (fa : Addr) (h : Heap), (K w.params).In h → h.Ns mainGlobals mg → mg d.name = some (.ref fa) →
      ∃ (fd : FuncData) (cs : List (Addr × Addr)), cs.length = names.length ∧ (∀ p ∈ names.zip cs, PySem.W.tabIn (K w.params) p.1 = some p.2) ∧ (∀ p ∈ cs, (K w.params).lookup p.2 = none) ∧ (∀ (s : Shared) (u : Value), BindsTo s fd ⟨[u], []⟩ [(x, u)]) ∧
        ∀ base : Heap, (K w.params).In base → base.Ns mainGlobals mg → (∀ p ∈ cs, TabB base mg p.1 p.2) → FnG l.prog w (K w.params) mg base CX0 k fa fd [x] (sp w cs))
    (pre : ∀ (w : World) (H : Hp) (a : Addr) (cs : List (Addr × Addr)) (ns : List Int), ns.length ≤ n → (∀ p ∈ cs, H p.2 = some (.tbl #[])) → SqL (K w.params) H a (ns.map V.int) → sp w cs [.ref a] H (fun v _ => v = .bl true) fun _ _ _ => False) :
    PySem.W.WalkO q loose XP YP l.row.toRowW d [] (fun f vs => PySem.call f vs) := by
  refine Att.attach_callB hn nodef fun w s0 st mg bm fa o pm cd doc a us ns G Y ho hd hcd hmg hobj allInt size _ nogen => ?_
  have kin := hY w _ Y
  obtain ⟨fd, cs, len, tabs, off, bind, hF⟩ := F w mg fa _ kin G.T.g hmg
  have each : ∀ p ∈ cs, PySem.W.CodeHd st.heap p.1 p.2 ∧ st.heap.get? p.2 = some (PySem.W.tabObj #[]) := by
    intro p hp
    obtain ⟨i, hi, e⟩ := List.getElem_of_mem hp
    have hi2 : i < names.length := by omega
    have m : (names[i], p) ∈ names.zip cs := by
      rw [← e]
      have hz : i < (names.zip cs).length := by rw [List.length_zip]; omega
      have := List.getElem_mem hz
      rwa [List.getElem_zip] at this
    have t := tabs _ m
    have r := List.all_eq_true.mp recs names[i] (List.getElem_mem hi2)
    have s : ((recsOf q).find? fun e => e.name == names[i]).isSome = true := by
      rw [List.find?_isSome]
      obtain ⟨y, y1, y2⟩ := List.any_eq_true.mp r
      exact ⟨y, y1, y2⟩
    obtain ⟨dL, hL⟩ := Option.isSome_iff_exists.mp s
    exact PySem.W.tab_of G.T kin hL t
  exact law_GT kin G.T.g G.T.b G.T.builtins G.T.nolimit nogen (fun p hp => (each p hp).2) off (fun p hp => (each p hp).1) G.T.bmain hobj allInt (Nat.le_trans size n2) room hF bind fun H hH sq => pre w H a cs ns size hH sq
/-! ### tables kept -/
theorem tabs_to {T : List (Addr × Str)} {H H' : Hp} (t : Tabs T H) (k : ∀ b o, H b = some o → (∀ xs, o ≠ .lst xs) → H' b = some o) : Tabs T H' := by
  intro p hp
  obtain ⟨ps, h1, h2, h3⟩ := t p hp
  refine ⟨ps, k _ _ h1 (fun xs z => by cases z), h2, fun pos cv hc => ?_⟩
  obtain ⟨c, e1, e2⟩ := h3 pos cv hc
  exact ⟨c, e1, k _ _ e2 (fun xs z => by unfold CodeO at z; cases z)⟩
theorem tabs_same {T : List (Addr × Str)} {H H' : Hp} (t : Tabs T H) (s : Same H H') : Tabs T H' := tabs_to t fun b o e _ => s b o e
/-- an exception taken knows how many names there are -/
theorem takes_len {X : Cx} {W : WX} (tk : Takes X W) : Takes X (fun cls d σ H => σ.length = X.N.length → W cls d σ H) := fun u s' ⟨a, B, sI, pins, σ, H, cls, d, e, I, nb, up, sky, na, os, ag, w⟩ =>
  tk u s' ⟨a, B, sI, pins, σ, H, cls, d, e, I, nb, up, sky, na, os, ag, w I.len⟩
/-- what the lambda's body lets out -/
theorem lam_takes {X : Cx} {A : Around} {outer : List Env} {s : Shared} {H : Hp} {E : XK} {scope : Scope} {f c' : Addr} : Takes (lamCx X A outer s H E scope f c') (fun cls d _ H' => E cls d H') := takes_of rfl rfl rfl rfl
theorem lam_pass {X : Cx} {A : Around} {outer : List Env} {s : Shared} {H : Hp} {E : XK} {scope : Scope} {f c' : Addr} : Passes (L2.CX X.prog X.w) (lamCx X A outer s H E scope f c') E := passes_call lam_takes fun _ _ _ _ h => h
/-- what a def that may raise lets out -/
theorem def_takes {P : Program} {w : World} {K : PySem.W.Frag} {mg : Str → Option Value} {base : Heap} {N : List Str} {ql : Str} {sc : Scope} {f : Addr} {cv : Value} {A : Around} {out : List Env} {st : Shared} {h : Hp} {E : XK} : Takes (cxOf (L2.CX P w) P w K mg base N ql sc f cv A out st h E) (fun cls d _ H' => E cls d H') := takes_of rfl rfl rfl rfl
/-! ### own == beside a value of another type -/
section
variable {X : Cx}
def rEqOth (K : PySem.W.Frag) (C : Addr) (sp : Sp) : R2 := fun x y H Q => ∃ (a dx : Addr) (fs : List (Str × V)) (T : String), x = .ref a ∧ H a = some (.ins C dx fs) ∧ TyB K H y T ∧ (T = "str" ∨ T = "list" ∨ T = "tuple") ∧ PySem.W.notFirst K C (.type T) = true ∧ sp [x, y] H Q E0
theorem ty_looks {M : Model} {s : Shared} {u : Value} {T : String} (h : s.TypeIs u T) (hT : T = "str" ∨ T = "list" ∨ T = "tuple") (hu : (∃ z t, u = .str z t) ∨ ∃ b, u = .ref b) : PySem.W.Looks M s.heap (typeOf u) (.type T) := by
  rcases hu with ⟨z, t, rfl⟩ | ⟨b, rfl⟩
  · intro A Q E s' k q
    have e : typeOf (.str z t) = pure (.type "str") := rfl
    have e2 : typeOf (.str z t) = pure (.type T) := h
    rw [e2]
    exact wpAny_pure q
  · obtain ⟨o, g, c⟩ := h
    exact fun A Q E s' k q => wpAny_typeOf_ref (k _ _ g) (by rw [c]; exact q)
theorem op_eqOth {C : Addr} {ps : List Str} {sp : Sp} {n : Nat} (c : KO.OwnM X.prog X.w X.K X.mg X.base n C "__eq__" ps sp) (room : Room n X.A) : OpR X (compareOp .Eq) (rEqOth X.K C sp) := by
  obtain ⟨g, fd, hs, hf, F, bind⟩ := c.ex
  intro pins st σ h x y v u Z inv rx ry pre
  obtain ⟨a, dx, fs, T, rfl, ha, ty, hT, nf, z⟩ := pre
  obtain rfl : v = Value.ref a := rx
  obtain ⟨od, J⟩ := KO.inst_of inv ha
  obtain ⟨m, hF⟩ := inv.fr
  have hu : (∃ z t, u = .str z t) ∨ ∃ b, u = .ref b := by
    cases ty with
    | str x => obtain ⟨t, rfl⟩ := (show ∃ t, u = Value.str x t from ry); exact .inl ⟨_, _, rfl⟩
    | @lst b => exact .inr ⟨b, ry⟩
    | @tup b => exact .inr ⟨b, ry⟩
    | non => exact absurd hT (by decide)
    | bl => exact absurd hT (by decide)
    | int => exact absurd hT (by decide)
    | byt => exact absurd hT (by decide)
    | dK => exact absurd hT (by decide)
  have lk := ty_looks (M := model X.prog X.w) (ty.is inv ry) hT hu
  rw [show compareOp .Eq (.ref a) u = richCompare .Eq (.ref a) u from rfl]
  refine PySem.W.cmp_K (op := .Eq) (tb := .type T) room.units0 hF inv.ok.mod.kin J lk nf hs hf ?_
  refine wpAny_mono (KO.run0 (E' := X.xe) (xs := [.ref a, y]) F room inv.env0 bind inv (.cons rfl (.cons ry .nil)) z) (fun w s2 r => ?_) fun _ _ z => z
  obtain ⟨z', h2, inv2, rz, qz⟩ := r
  exact SlX.cmpback rz ⟨z', h2, inv2, rz, qz⟩
end
end KL

/-! KC: own objects called, shown by repr, compared with data of any type; classes made with defaults. -/
namespace KC
open PySem PySem.Spec PyProof.Rows L2 KB KG KO
theorem cx_KX {CX : CXT} {P : Program} {w : World} {K : PySem.W.Frag} {mg : Str → Option Value} {base : Heap} {N : List Str} {qual : Str} {sc : Scope} {f : Addr} {cd : Value} {A : Around} {outer : List Env} {s : Shared} {H : Hp} {E : XK} : (cxOf CX P w K mg base N qual sc f cd A outer s H E).K = K := rfl
/-! ### b(e, ..), b an own object -/
section
variable {M : Model} {A : Around} {E : Value → Shared → Prop} {s : Shared} {C dx x : Addr} {pos : Pos} {Q : Value → Shared → Prop}
theorem callWith_own {args : List (Bool × Sem Value)} {kws : List (Option Str × Sem Value)} (plain : (args.any (·.1) || kws.any (·.1.isNone)) = false)
    (h : wpAny M A (evalArgs (.ref x) true args kws) (fun a t => (∃ od, PySem.W.InstAt t.heap x (PySem.W.instObj C dx) C od) ∧ wpAny M A (call (.ref x) a.pos a.kw) Q E t) E s) : wpAny M A (callWith pos (.ref x) [] args kws) Q E s := by
  unfold callWith
  refine wpAny_bind (wpAny_holding (wpAny_mono h (fun a t g => wpAny_bind (wpAny_standAt ?_)) fun _ _ y => y))
  obtain ⟨od, J⟩ := g.1
  have L := PySem.W.kco_keeper (M := M) J rfl
  simp only [plain]
  refine wpAny_bind (L.here ?_)
  have tail : ∀ {m : Sem Value}, wpAny M A m Q E t → wpAny M A (m >>= fun r => holding [r] point >>= fun _ => pure r) Q E t :=
    fun hm => wpAny_bind (wpAny_mono hm (fun r u hr => wpAny_bind (wpAny_holding (wpAny_point (wpAny_pure hr)))) fun _ _ y => y)
  exact tail (wpAny_operateT g.2)
end
section
variable {X : Cx}
structure OwnC (P : Program) (w : World) (K : PySem.W.Frag) (mg : Str → Option Value) (base : Heap) (CX : CXT) (k : Nat) (C : Addr) (ps : List Str) (sp : Sp) : Prop where
  ex : ∃ (g : Addr) (fd : FuncData), PySem.W.findIn K (.ref C) "__call__" = some (some (.ref g)) ∧ PySem.W.isFn K (.ref g) = true ∧ PySem.W.fnIn K g = true ∧ FnOk P w K mg base CX k g fd ps sp ∧ Binds K fd ps []
def tCallO (C : Addr) (sp : Sp) (E : XK) (tf : TE) (t : TA) : TE := fun σ H Q => tf σ H fun x H1 => ∃ (a dx : Addr) (fs : List (Str × V)), x = .ref a ∧ H1 a = some (.ins C dx fs) ∧ t σ H1 fun vs H2 => H2 a = some (.ins C dx fs) ∧ sp (x :: vs) H2 Q E
theorem pe_callO {CX : CXT} {k : Nat} {C : Addr} {x : Str} {ps : List Str} {sp : Sp} {E : XK} {e : Expr} {es : List Expr} {p pos : Pos} {tf : TE} {t : TA} (c : OwnC X.prog X.w X.K X.mg X.base CX k C ps sp) (room : Room k X.A) (pass : Passes CX X E) (hf : PE X (.Name x p) tf) (ha : PA X (e :: es) t)
    (d2 : starEach (e :: es) X.env = (false, eval e X.env) :: starEach es X.env := by rfl) (d3 : (backTo pos (starEach es X.env)).any (·.1) = false := by rfl) :
    PE X (.Call (.Name x p) (e :: es) [] pos) (tCallO C sp E tf t) := by
  obtain ⟨g, fd, hs, hfn, hfi, F, bind⟩ := c.ex
  refine ⟨fun pins st σ h Z inv pre => wpAny_Call_Name_kw (thn (hf.run pins st σ h _ inv pre) fun u s1 r => ?_)⟩
  obtain ⟨v, h1, inv1, rv, a, dx, fs, rfl, ea, z⟩ := r
  obtain rfl : u = Value.ref a := rv
  refine callWith_own (C := C) (dx := dx) (by rw [d2]; show ((false || (backTo pos (starEach es X.env)).any (·.1)) || false) = false; rw [d3]; rfl) ?_
  have main := thn (Q' := fun (ws : List Value) (s2 : Shared) => (∃ od, PySem.W.InstAt s2.heap a (PySem.W.instObj C dx) C od) ∧ wpAny (model X.prog X.w) X.A (call (.ref a) ws) (EP X pins σ Z) X.xe s2) (ha.run pos pins s1 σ h1 _ inv1 z) fun ws s2 r => ?_
  · rw [d2] at main ⊢
    exact Calls.evalArgs_plain main
  · obtain ⟨xs, h2, inv2, rel, ea2, z2⟩ := r
    obtain ⟨od, J⟩ := inst_of inv2 ea2
    refine ⟨⟨_, J⟩, ?_⟩
    have rel2 : Vals (V.ref a :: xs) (Value.ref a :: ws) := .cons rfl rel
    have size : ((Value.ref a :: ws) ++ []).length = ps.length := by rw [List.append_nil, ← rel2.length]; exact F.len _ _ _ _ z2
    have bd := bind s2 (Value.ref a :: ws) inv2.kIn size
    rw [List.append_nil] at bd
    refine wpAny_call (codeAny_mono (PySem.W.kco_code inv2.kIn J rfl hs hfn hfi (F.run X.A X.stack s2 h2 ⟨Value.ref a :: ws, []⟩ _ _ Z E room inv2.env0 bd rel2 z2)) fun res s3 y => ?_)
    match res, y with
    | .error e, y => exact pass pins σ h2 s2 e s3 inv2 y
    | .ok (.ret u), y => exact inv2.after y
    | .ok .next, y => exact y.elim
    | .ok .brk, y => exact y.elim
    | .ok .cont, y => exact y.elim
/-! ### repr(o) by own __repr__ -/
def rReprOwn (C : Addr) (sp : Sp) : List V → Hp → VK → Prop := fun xs H Q => ∃ a dx fs, xs = [.ref a] ∧ H a = some (.ins C dx fs) ∧ sp [.ref a] H (fun v H' => ∃ t, v = .str t ∧ Q (.str t) H') E0
theorem call_reprO {C : Addr} {ps : List Str} {sp : Sp} {n : Nat} (c : OwnM X.prog X.w X.K X.mg X.base n C "__repr__" ps sp) (room : Room (n + 1) X.A) : CallR X (.builtin "repr") (rReprOwn C sp) := by
  obtain ⟨g, fd, hs, hf, F, bind⟩ := c.ex
  intro pins st σ h xs us Z inv rel pre
  obtain ⟨a, dx, fs, rfl, ha, z⟩ := pre
  obtain ⟨u, rfl, ru⟩ := vals_one rel
  obtain rfl : u = Value.ref a := ru
  obtain ⟨od, J⟩ := inst_of inv ha
  obtain ⟨m, hF⟩ := inv.fr
  have un := room.un
  refine PySem.W.repr_K (show X.A.units + 1 < cLine by omega) hF inv.ok.mod.kin J hs hf ?_
  refine wpAny_mono (run0 (E' := X.xe) (xs := [.ref a]) F room.in1 inv.env0.in1 bind inv (.cons rfl .nil) z) (fun w s2 r => ?_) fun _ _ z => z
  obtain ⟨v', h2, inv2, rz, t, rfl, q2⟩ := r
  obtain ⟨tk, rfl⟩ : ∃ tk, w = Value.str t tk := rz
  exact ⟨.str t, h2, inv2, ⟨tk, rfl⟩, q2⟩
/-! ### own == beside data -/
def rEqAny (K : PySem.W.Frag) (C : Addr) (sp : Sp) : R2 := fun x y H Q => ∃ (a dx : Addr) (fs : List (Str × V)) (T : String), x = .ref a ∧ H a = some (.ins C dx fs) ∧ TyB K H y T ∧ T ≠ "bytes" ∧ PySem.W.notFirst K C (.type T) = true ∧ sp [x, y] H Q E0
theorem op_eqAny {C : Addr} {ps : List Str} {sp : Sp} {n : Nat} (c : OwnM X.prog X.w X.K X.mg X.base n C "__eq__" ps sp) (room : Room n X.A) : OpR X (compareOp .Eq) (rEqAny X.K C sp) := by
  obtain ⟨g, fd, hs, hf, F, bind⟩ := c.ex
  intro pins st σ h x y v u Z inv rx ry pre
  obtain ⟨a, dx, fs, T, rfl, ha, ty, hT, nf, z⟩ := pre
  obtain rfl : v = Value.ref a := rx
  obtain ⟨od, J⟩ := inst_of inv ha
  obtain ⟨m, hF⟩ := inv.fr
  have lk : PySem.W.Looks (model X.prog X.w) st.heap (typeOf u) (.type T) := by
    have ti := ty.is inv ry
    have flat : typeOf u = pure (.type T) → PySem.W.Looks (model X.prog X.w) st.heap (typeOf u) (.type T) := fun e A Q E s' k q => by rw [e]; exact wpAny_pure q
    have far : ∀ b, u = .ref b → PySem.W.Looks (model X.prog X.w) st.heap (typeOf u) (.type T) := by
      intro b e
      subst e
      obtain ⟨o, g1, g2⟩ := ti
      exact fun A Q E s' k q => wpAny_typeOf_ref (k _ _ g1) (by rw [g2]; exact q)
    cases ty with
    | non => cases (show u = Value.none from ry); exact flat ti
    | bl b => cases (show u = Value.bool b from ry); exact flat ti
    | int i => obtain ⟨t, rfl⟩ := (show ∃ t, u = Value.int i t from ry); exact flat ti
    | str x => obtain ⟨t, rfl⟩ := (show ∃ t, u = Value.str x t from ry); exact flat ti
    | byt b => exact absurd rfl hT
    | @lst b => exact far b ry
    | @tup b => exact far b ry
    | @dK b => exact far b ry
  rw [show compareOp .Eq (.ref a) u = richCompare .Eq (.ref a) u from rfl]
  refine PySem.W.cmp_K (op := .Eq) (tb := .type T) room.units0 hF inv.ok.mod.kin J lk nf hs hf ?_
  refine wpAny_mono (run0 (E' := X.xe) (xs := [.ref a, y]) F room inv.env0 bind inv (.cons rfl (.cons ry .nil)) z) (fun w s2 r => ?_) fun _ _ z => z
  obtain ⟨z', h2, inv2, rz, qz⟩ := r
  exact SlX.cmpback rz ⟨z', h2, inv2, rz, qz⟩
/-! ### C(e, ..) with defaults -/
structure CalleeID (P : Program) (w : World) (K : PySem.W.Frag) (mg : Str → Option Value) (base : Heap) (CX : CXT) (k : Nat) (C : Addr) (x : Str) (ps : List Str) (sp : Sp) (dvs : List V) : Prop where
  ex : ∃ (f : Addr) (fd : FuncData) (ds : List Value), FnOk P w K mg base CX k f fd ps sp ∧ Mk K C f ∧ mg x = some (.ref C) ∧ Binds K fd ps ds ∧ Vals dvs ds
theorem pe_makeD {CX : CXT} {k : Nat} {C : Addr} {x : Str} {ps : List Str} {sp : Sp} {dvs : List V} {E : XK} {e : Expr} {es : List Expr} {p pos : Pos} {t : TA} (c : CalleeID X.prog X.w X.K X.mg X.base CX k C x ps sp dvs) (room : Room (k + 1) X.A) (gl : Gl X x) (pass : Passes CX X E) (ha : PA X (e :: es) t)
    (d1 : (x == ("__debug__" : Str)) = false := by decide) (d2 : starEach (e :: es) X.env = (false, eval e X.env) :: starEach es X.env := by rfl) (d3 : (backTo pos (starEach es X.env)).any (·.1) = false := by rfl) :
    PE X (.Call (.Name x p) (e :: es) [] pos) (tMake C sp dvs E t) := by
  obtain ⟨f, fd, ds, F, M, hm, hb, hd⟩ := c.ex
  exact pe_make M F room gl hm hb hd pass ha d1 d2 d3
/-! ### f(k = v, ..) -/
theorem pe_callK0 {CX : CXT} {k : Nat} {x : Str} {ps ks : List Str} {sp : Sp} {gV : List V → List V → List V} {E : XK} {kws : List Keyword} {p pos : Pos} {tk : TA} (c : CalleeKw X.prog X.w X.K X.mg X.base CX k x ps sp 0 ks gV) (room : Room k X.A) (gl : Gl X x) (pass : Passes CX X E) (hkw : PK X kws tk)
    (d1 : (backToKw pos (keywordEach kws X.env)).all (·.1.isSome) = true := by rfl) (d2 : (backToKw pos (keywordEach kws X.env)).filterMap (·.1) = ks := by rfl) (d3 : (x == ("__debug__" : Str)) = false := by decide)
    (d4 : ((backTo pos (starEach [] X.env)).any (·.1) || (backToKw pos (keywordEach kws X.env)).any (·.1.isNone)) = false := by rfl) :
    PE X (.Call (.Name x p) [] kws pos) (fun σ H Q => tk σ H fun zs H2 => zs.length = ks.length ∧ sp (gV [] zs) H2 Q E) := by
  obtain ⟨f, fd, g, F, hm, hk, hb⟩ := c.ex
  refine ⟨fun pins st σ h Z inv pre => wpAny_Call_Name_kw (ld_glob inv gl hm ?_ d3)⟩
  refine PySem.W.callWith_KW0 (first := []) (h₀ := X.base) inv.ok.mod.kin hk d1 (thn (hkw.run pos pins st σ h _ inv pre) fun ws s2 r => ?_) d4
  obtain ⟨zs, h2, inv2, rel, l2, z2⟩ := r
  refine ⟨inv2.kIn, ?_⟩
  rw [d2]
  exact run_fnN (us := []) (vs := []) F room hb pass inv2 .nil rel rfl l2 z2
end
theorem r_callO {σ : L2.St} {H : Hp} {Q : VK} {C : Addr} {sp : Sp} {E : XK} {tf : TE} {t : TA} (q : tf σ H fun x H1 => ∃ (a dx : Addr) (fs : List (Str × V)), x = .ref a ∧ H1 a = some (.ins C dx fs) ∧ t σ H1 fun vs H2 => H2 a = some (.ins C dx fs) ∧ sp (x :: vs) H2 Q E) : tCallO C sp E tf t σ H Q := q
theorem r_chain {σ : L2.St} {H : Hp} {Q : VK} {r r' : R2} {ta tb tc : TE} (q : ta σ H fun x H1 => tb σ H1 fun y H2 => r x y H2 fun z H3 => ∃ k, z = .bl k ∧ if k = true then tc σ H3 fun w' H4 => r' y w' H4 Q else Q (.bl false) H3) : tChain r r' ta tb tc σ H Q := q
end KC
/-! ### own object op number -/
namespace KC
open PySem PySem.Spec PyProof.Rows L2 KB KG KO
section
variable {X : Cx}
structure OwnB (P : Program) (w : World) (K : PySem.W.Frag) (mg : Str → Option Value) (base : Heap) (CX : CXT) (k : Nat) (C : Addr) (op : Operator) (ps : List Str) (sp : Sp) : Prop where
  ex : ∃ (g : Addr) (fd : FuncData) (rc fo ro : Option Value), PySem.W.selfFirst K C = true ∧ PySem.W.findIn K (.ref C) (PySem.dunder op.info.2) = some (some (.ref g)) ∧ PySem.W.isFn K (.ref g) = true ∧ PySem.W.findIn K (.ref C) (dunderR op.info.2) = some rc ∧ (rc = none ∨ ∃ g : Addr, rc = some (.ref g)) ∧
    PySem.W.findIn K (.type "int") (PySem.dunder op.info.2) = some fo ∧ PySem.W.findIn K (.type "int") (dunderR op.info.2) = some ro ∧ PySem.W.subIn K (.type "int") (.ref C) = some false ∧ FnOk P w K mg base CX k g fd ps sp ∧ Binds K fd ps []
def rBinO (C : Addr) (sp : Sp) (E : XK) : R2 := fun x y H Q => ∃ (a dx : Addr) (fs : List (Str × V)) (i : Int), x = .ref a ∧ H a = some (.ins C dx fs) ∧ y = .int i ∧ sp [x, y] H Q E
theorem op_bin {CX : CXT} {E : XK} {C : Addr} {op : Operator} {ps : List Str} {sp : Sp} {n : Nat} (c : OwnB X.prog X.w X.K X.mg X.base CX n C op ps sp) (room : Room n X.A) (pass : Passes CX X E) : OpR X (binaryOp op) (rBinO C sp E) := by
  obtain ⟨g, fd, rc, fo, ro, c1, c2, c3, c4, c5, c6, c7, c8, F, bind⟩ := c.ex
  intro pins st σ h x y v u Z inv rx ry pre
  obtain ⟨a, dx, fs, i, rfl, ha, rfl, z⟩ := pre
  obtain rfl : v = Value.ref a := rx
  obtain ⟨tk, rfl⟩ := (show ∃ t, u = Value.int i t from ry)
  obtain ⟨od, J⟩ := inst_of inv ha
  obtain ⟨m, hF⟩ := inv.fr
  refine PySem.W.ksp_binT (T := "int") hF inv.ok.mod.kin J rfl c1 c2 c3 c4 c5 c6 c7 c8 ?_
  refine wpAny_mono (run_fn (us := [.ref a, .int i tk]) (vs := [.ref a, .int i]) F room bind .nil pass inv (.cons rfl (.cons ⟨tk, rfl⟩ .nil)) z) (fun w s2 r => ?_) fun _ _ z => z
  obtain ⟨z', h2, inv2, rz, qz⟩ := r
  exact SlX.cmpback rz ⟨z', h2, inv2, rz, qz⟩
end
end KC

/-! KBL: blends: the mathematics (natural numbers, bit by bit). -/
namespace KBL
/-- the word moved by s -/
def shN (w v : Nat) (s : Int) : Nat := if s < 0 then v / 2 ^ (0 - s).toNat else v * 2 ^ s.toNat % 2 ^ w
theorem bit_sh {w v : Nat} {s : Int} (hv : v < 2 ^ w) (p : Nat) : (shN w v s).testBit p = (decide (p < w) && (decide (s ≤ (p : Int)) && v.testBit ((p : Int) - s).toNat)) := by
  unfold shN
  by_cases h : s < 0
  · rw [if_pos h, Nat.testBit_div_two_pow, show p + (0 - s).toNat = ((p : Int) - s).toNat by omega, decide_eq_true (show s ≤ (p : Int) by omega), Bool.true_and]
    by_cases hp : p < w
    · rw [decide_eq_true hp, Bool.true_and]
    · rw [decide_eq_false hp, Bool.false_and]
      exact Nat.testBit_lt_two_pow (Nat.lt_of_lt_of_le hv (Nat.pow_le_pow_right (by decide) (by omega)))
  · rw [if_neg h, Nat.testBit_mod_two_pow, Nat.testBit_mul_two_pow]
    by_cases hs : s ≤ (p : Int)
    · rw [decide_eq_true (show s.toNat ≤ p by omega), decide_eq_true hs, show p - s.toNat = ((p : Int) - s).toNat by omega]
    · rw [decide_eq_false (show ¬ s.toNat ≤ p by omega), decide_eq_false hs]
      simp
theorem sh_lt {w v : Nat} {s : Int} (hv : v < 2 ^ w) : shN w v s < 2 ^ w := by
  unfold shN
  split
  · exact Nat.lt_of_le_of_lt (Nat.div_le_self _ _) hv
  · exact Nat.mod_lt _ (Nat.two_pow_pos w)
def onesN (w : Nat) : Nat := 2 ^ w - 1
theorem ones_lt (w : Nat) : onesN w < 2 ^ w := by
  have := Nat.two_pow_pos w
  unfold onesN
  omega
def keepN (w : Nat) (s : Int) (k : Nat) : Nat := shN w (onesN w) s &&& k
def shiftN (w : Nat) (s : Int) (k : Nat) : Int := if keepN w s k = 0 then 0 else s
/-- the place p has a source -/
def src (w : Nat) (s : Int) (k p : Nat) : Bool := decide (p < w) && (decide (s ≤ (p : Int)) && (decide ((p : Int) - s < w) && k.testBit p))
theorem bit_keep (w : Nat) (s : Int) (k p : Nat) : (keepN w s k).testBit p = src w s k p := by
  unfold keepN src
  rw [Nat.testBit_and, bit_sh (ones_lt w)]
  unfold onesN
  rw [Nat.testBit_two_pow_sub_one]
  by_cases h : s ≤ (p : Int)
  · rw [decide_eq_true h, show decide (((p : Int) - s).toNat < w) = decide ((p : Int) - s < w) from by
      by_cases q : (p : Int) - s < w
      · rw [decide_eq_true q, decide_eq_true (by omega)]
      · rw [decide_eq_false q, decide_eq_false (by omega)]]
    simp only [Bool.true_and, Bool.and_assoc]
  · rw [decide_eq_false h]
    simp
theorem keep_lt (w : Nat) (s : Int) (k : Nat) : keepN w s k < 2 ^ w := by
  unfold keepN
  rw [Nat.and_comm]
  exact Nat.and_lt_two_pow _ (sh_lt (ones_lt w))
/-- what a blend makes of a word -/
def ap (w : Nat) (s : Int) (k f v : Nat) : Nat := f ^^^ (keepN w s k &&& shN w v s)
theorem ap_lt {w : Nat} {s : Int} {k f v : Nat} (hf : f < 2 ^ w) (hv : v < 2 ^ w) : ap w s k f v < 2 ^ w := Nat.xor_lt_two_pow hf (Nat.and_lt_two_pow _ (sh_lt hv))
theorem bit_ap {w : Nat} {s : Int} {k f v : Nat} (hv : v < 2 ^ w) (p : Nat) : (ap w s k f v).testBit p = (f.testBit p ^^ (src w s k p && v.testBit ((p : Int) - s).toNat)) := by
  unfold ap
  rw [Nat.testBit_xor, Nat.testBit_and, bit_keep, bit_sh hv]
  unfold src
  by_cases h1 : p < w <;> by_cases h2 : s ≤ (p : Int) <;> by_cases h3 : (p : Int) - s < w <;> simp [h1, h2, h3]
/-- the same by the numbers that are kept -/
theorem ap_norm (w : Nat) (s : Int) (k f v : Nat) : f ^^^ (keepN w s k &&& shN w v (shiftN w s k)) = ap w s k f v := by
  unfold ap shiftN
  by_cases h : keepN w s k = 0
  · rw [if_pos h, h, Nat.zero_and, Nat.zero_and]
  · rw [if_neg h]
theorem ap_zero (w : Nat) (s : Int) (k f : Nat) : ap w s k f 0 = f := by
  refine Nat.eq_of_testBit_eq fun p => ?_
  rw [bit_ap (Nat.two_pow_pos w), Nat.zero_testBit, Bool.and_false, Bool.xor_false]
theorem two_lt {j w : Nat} (h : j < w) : 2 ^ j < 2 ^ w := Nat.pow_lt_pow_right (by decide) h
theorem bit_two {w : Nat} {s : Int} {k f j : Nat} (h : j < w) (p : Nat) : (ap w s k f (2 ^ j)).testBit p = (f.testBit p ^^ (src w s k p && decide ((p : Int) - s = j))) := by
  rw [bit_ap (two_lt h), Nat.testBit_two_pow]
  unfold src
  by_cases h2 : s ≤ (p : Int)
  · have e : decide (j = ((p : Int) - s).toNat) = decide ((p : Int) - s = j) := by
      by_cases q : (p : Int) - s = j
      · rw [decide_eq_true q, decide_eq_true (by omega)]
      · rw [decide_eq_false q, decide_eq_false (by omega)]
    rw [e]
  · simp [h2]
theorem src_of {w : Nat} {s : Int} {k p : Nat} (h : src w s k p = true) : p < w ∧ s ≤ (p : Int) ∧ (p : Int) - s < w := by
  unfold src at h
  simp only [Bool.and_eq_true, decide_eq_true_eq] at h
  exact ⟨h.1, h.2.1, h.2.2.1⟩
/-- where two agree at the single bits below n, a source of the one is that of the other -/
theorem src_same {w n : Nat} {s s' : Int} {k k' f f' : Nat} (hf : f = f') (h : ∀ j, j < n → ap w s k f (2 ^ j) = ap w s' k' f' (2 ^ j)) (hn : n ≤ w) {p : Nat} (hp : src w s k p = true) (hj : (p : Int) - s < n) : src w s' k' p = true ∧ (p : Int) - s' = (p : Int) - s := by
  obtain ⟨h1, h2, h3⟩ := src_of hp
  obtain ⟨j, ej⟩ : ∃ j : Nat, (p : Int) - s = j := ⟨((p : Int) - s).toNat, by omega⟩
  have hjn : j < n := by omega
  have e := congrArg (fun x => Nat.testBit x p) (h j hjn)
  simp only [bit_two (show j < w by omega), hp, hf] at e
  rw [decide_eq_true ej] at e
  cases hq : src w s' k' p with
  | false => rw [hq] at e; simp at e
  | true =>
    rw [hq] at e
    by_cases z : (p : Int) - s' = j
    · exact ⟨rfl, by omega⟩
    · rw [decide_eq_false z] at e
      simp at e
theorem bits_below {v n i : Nat} (hv : v < 2 ^ n) (h : v.testBit i = true) : i < n := by
  rcases Nat.lt_or_ge i n with z | z
  · exact z
  · rw [Nat.testBit_lt_two_pow (Nat.lt_of_lt_of_le hv (Nat.pow_le_pow_right (by decide) z))] at h
    cases h
/-- .. then they agree at all words below 2 ^ n -/
theorem agree {w n : Nat} {s s' : Int} {k k' f f' : Nat} (hf : f = f') (h : ∀ j, j < n → ap w s k f (2 ^ j) = ap w s' k' f' (2 ^ j)) (hn : n ≤ w) {v : Nat} (hv : v < 2 ^ n) : ap w s k f v = ap w s' k' f' v := by
  have hvw : v < 2 ^ w := Nat.lt_of_lt_of_le hv (Nat.pow_le_pow_right (by decide) hn)
  have one : ∀ {s s' : Int} {k k' f f' : Nat}, f = f' → (∀ j, j < n → ap w s k f (2 ^ j) = ap w s' k' f' (2 ^ j)) → ∀ p, (src w s k p && v.testBit ((p : Int) - s).toNat) = true → (src w s' k' p && v.testBit ((p : Int) - s').toNat) = true := by
    intro s s' k k' f f' hf h p hp
    obtain ⟨h1, h2⟩ := Bool.and_eq_true_iff.mp hp
    have h3 := bits_below hv h2
    obtain ⟨g1, g2⟩ := src_same hf h hn h1 (by have := (src_of h1).2.1; omega)
    rw [g1, g2, h2]
    rfl
  refine Nat.eq_of_testBit_eq fun p => ?_
  rw [bit_ap hvw, bit_ap hvw, hf]
  congr 1
  cases e : (src w s k p && v.testBit ((p : Int) - s).toNat) with
  | true => exact (one hf h p e).symm
  | false =>
    cases e' : (src w s' k' p && v.testBit ((p : Int) - s').toNat) with
    | false => rfl
    | true =>
      have := one hf.symm (fun j hj => (h j hj).symm) p e'
      rw [e] at this
      cases this
/-- equal at 0 and at the single bits: the numbers are equal -/
theorem norm_eq {w : Nat} {s s' : Int} {k k' f f' : Nat} (hf : f = f') (h : ∀ j, j < w → ap w s k f (2 ^ j) = ap w s' k' f' (2 ^ j)) : keepN w s k = keepN w s' k' ∧ shiftN w s k = shiftN w s' k' := by
  have up : ∀ {p}, src w s k p = true → src w s' k' p = true ∧ (p : Int) - s' = (p : Int) - s := fun {p} hp => src_same hf h (Nat.le_refl _) hp (src_of hp).2.2
  have dn : ∀ {p}, src w s' k' p = true → src w s k p = true ∧ (p : Int) - s = (p : Int) - s' := fun {p} hp => src_same hf.symm (fun j hj => (h j hj).symm) (Nat.le_refl _) hp (src_of hp).2.2
  have ek : keepN w s k = keepN w s' k' := by
    refine Nat.eq_of_testBit_eq fun p => ?_
    rw [bit_keep, bit_keep]
    cases e : src w s k p with
    | true => exact (up e).1.symm
    | false =>
      cases e' : src w s' k' p with
      | false => rfl
      | true => have := (dn e').1; rw [e] at this; cases this
  refine ⟨ek, ?_⟩
  unfold shiftN
  rw [← ek]
  by_cases z : keepN w s k = 0
  · rw [if_pos z, if_pos z]
  · rw [if_neg z, if_neg z]
    have : ∃ p, (keepN w s k).testBit p = true := by
      rcases Classical.em (∃ p, (keepN w s k).testBit p = true) with g | g
      · exact g
      · refine absurd (Nat.eq_of_testBit_eq fun p => ?_) z
        rw [Nat.zero_testBit]
        cases e : (keepN w s k).testBit p with
        | false => rfl
        | true => exact absurd ⟨p, e⟩ g
    obtain ⟨p, hp⟩ := this
    rw [bit_keep] at hp
    have := (up hp).2
    omega
theorem norm_ap {w : Nat} {s s' : Int} {k k' f f' : Nat} (hk : keepN w s k = keepN w s' k') (hs : shiftN w s k = shiftN w s' k') (hf : f = f') (v : Nat) : ap w s k f v = ap w s' k' f' v := by
  rw [← ap_norm w s k f v, ← ap_norm w s' k' f' v, hk, hs, hf]
/-! ### where two part -/
def parts (F G : Nat → Nat) (v : Nat) : Bool := decide (F v ≠ G v)
def bits (w : Nat) : List Nat := (List.range w).map (2 ^ ·)
/-- the least word of 0 and the single bits at which F and G part -/
def parting (w : Nat) (F G : Nat → Nat) : Option Nat := (0 :: bits w).find? (parts F G)
theorem parting_none {w : Nat} {F G : Nat → Nat} : parting w F G = none ↔ F 0 = G 0 ∧ ∀ j, j < w → F (2 ^ j) = G (2 ^ j) := by
  unfold parting bits parts
  rw [List.find?_eq_none]
  constructor
  · intro h
    refine ⟨?_, fun j hj => ?_⟩
    · have := h 0 (List.mem_cons_self ..)
      simpa using this
    · have := h (2 ^ j) (List.mem_cons_of_mem _ (List.mem_map.mpr ⟨j, List.mem_range.mpr hj, rfl⟩))
      simpa using this
  · rintro ⟨h0, h⟩ x hx
    rcases List.mem_cons.mp hx with rfl | hx
    · simp [h0]
    · obtain ⟨j, hj, rfl⟩ := List.mem_map.mp hx
      simp [h j (List.mem_range.mp hj)]
theorem find_range {q : Nat → Bool} : ∀ (n : Nat) (m : Nat), m < n → q m = true → (∀ i, i < m → q i = false) → (List.range n).find? q = some m := by
  intro n m hm h1 h2
  induction n with
  | zero => omega
  | succ n ih =>
    rw [List.range_succ, List.find?_append]
    by_cases e : m < n
    · rw [ih e]
      rfl
    · have e' : m = n := by omega
      subst e'
      have no : (List.range m).find? q = none := by
        rw [List.find?_eq_none]
        intro x hx
        rw [h2 x (List.mem_range.mp hx)]
        decide
      rw [no]
      simp [List.find?, h1]
theorem parting_some {w : Nat} {F G : Nat → Nat} {d : Nat} (h : parting w F G = some d) : F d ≠ G d ∧ (d = 0 ∨ ∃ j, j < w ∧ d = 2 ^ j ∧ F 0 = G 0 ∧ ∀ i, i < j → F (2 ^ i) = G (2 ^ i)) := by
  have hp : parts F G d = true := List.find?_some h
  refine ⟨by simpa [parts] using hp, ?_⟩
  unfold parting at h
  rw [List.find?_cons] at h
  cases e : parts F G 0 with
  | true => rw [e] at h; exact .inl (Option.some.inj h).symm
  | false =>
    rw [e] at h
    have h0 : F 0 = G 0 := by simpa [parts] using e
    have h' : (bits w).find? (parts F G) = some d := h
    unfold bits at h'
    rw [List.find?_map] at h'
    cases e2 : (List.range w).find? (parts F G ∘ fun x => 2 ^ x) with
    | none => rw [e2] at h'; cases h'
    | some j =>
      rw [e2] at h'
      have hd : 2 ^ j = d := Option.some.inj h'
      obtain ⟨as, bs, e3, e4⟩ := List.find?_eq_some_iff_append.mp e2 |>.2
      refine .inr ⟨j, List.mem_range.mp (List.mem_of_find?_eq_some e2), hd.symm, h0, fun i hi => ?_⟩
      have : i ∈ as := by
        have hl : as.length = j := by
          have := congrArg (fun l => l[as.length]?) e3
          simp at this
          have h5 : as.length < w := by
            have := congrArg List.length e3
            simp at this
            omega
          simp [h5] at this
          exact this
        have hi2 : i < as.length := by omega
        have q := congrArg (fun l => l[i]?) e3
        have hiw : i < w := by
          have := congrArg List.length e3
          simp at this
          omega
        rw [show (as ++ j :: bs)[i]? = as[i]? from List.getElem?_append_left hi2, List.getElem?_range hiw] at q
        exact List.mem_of_getElem? q.symm
      have := e4 i this
      simpa [parts] using this
/-- two blends: all words below the parting word agree -/
theorem below {w : Nat} {s s' : Int} {k k' f f' d v : Nat} (h : parting w (ap w s k f) (ap w s' k' f') = some d) (hv : v < d) : ap w s k f v = ap w s' k' f' v := by
  rcases (parting_some h).2 with rfl | ⟨j, hj, rfl, h0, h1⟩
  · omega
  · rw [ap_zero, ap_zero] at h0
    exact agree h0 h1 (Nat.le_of_lt hj) hv
/-- found among all words -/
theorem parting_all {w : Nat} {s s' : Int} {k k' f f' : Nat} : (List.range (2 ^ w)).find? (parts (ap w s k f) (ap w s' k' f')) = parting w (ap w s k f) (ap w s' k' f') := by
  cases e : parting w (ap w s k f) (ap w s' k' f') with
  | none =>
    obtain ⟨h0, h1⟩ := parting_none.mp e
    rw [ap_zero, ap_zero] at h0
    rw [List.find?_eq_none]
    intro x hx
    simp [parts, agree h0 h1 (Nat.le_refl w) (List.mem_range.mp hx)]
  | some d =>
    have hd := parting_some e
    have dl : d < 2 ^ w := by
      rcases hd.2 with rfl | ⟨j, hj, rfl, _⟩
      · exact Nat.two_pow_pos w
      · exact two_lt hj
    refine find_range _ d dl (by simpa [parts] using hd.1) fun i hi => ?_
    simp [parts, below e hi]
/-- the numbers are equal just where there is no such word -/
theorem same_iff {w : Nat} {s s' : Int} {k k' f f' : Nat} : parting w (ap w s k f) (ap w s' k' f') = none ↔ (shiftN w s k = shiftN w s' k' ∧ keepN w s k = keepN w s' k' ∧ f = f') := by
  rw [parting_none, ap_zero, ap_zero]
  constructor
  · rintro ⟨h0, h1⟩
    obtain ⟨g1, g2⟩ := norm_eq h0 h1
    exact ⟨g2, g1, h0⟩
  · rintro ⟨h1, h2, h3⟩
    exact ⟨h3, fun j _ => norm_ap h2 h1 h3 _⟩
end KBL
/-! ### numbers of the model -/
namespace KBL
open PySem
theorem bAnd (a b : Nat) : Builtin.bitAnd (a : Int) (b : Int) = ((a &&& b : Nat) : Int) := by
  rw [PyProof.Rows.bitAnd_pp (by omega) (by omega)]
  rfl
theorem xor_and_add (a : Nat) : ∀ b : Nat, (a ^^^ b) + 2 * (a &&& b) = a + b := by
  induction a using Nat.strongRecOn with
  | _ a ih =>
    intro b
    by_cases h : a = 0
    · subst h; simp
    · have e := ih (a / 2) (by omega) (b / 2)
      have x1 := Nat.xor_mod_two_pow (a := a) (b := b) (n := 1)
      have x2 := Nat.and_mod_two_pow (a := a) (b := b) (n := 1)
      have x3 := Nat.xor_div_two_pow (a := a) (b := b) (n := 1)
      have x4 := Nat.and_div_two_pow (a := a) (b := b) (n := 1)
      simp only [Nat.pow_one] at x1 x2 x3 x4
      have da := Nat.div_add_mod a 2
      have db := Nat.div_add_mod b 2
      have dx := Nat.div_add_mod (a ^^^ b) 2
      have dy := Nat.div_add_mod (a &&& b) 2
      rw [x1, x3] at dx
      rw [x2, x4] at dy
      rcases Nat.mod_two_eq_zero_or_one a with ha | ha <;> rcases Nat.mod_two_eq_zero_or_one b with hb | hb <;> rw [ha, hb] at dx dy <;> rw [ha] at da <;> rw [hb] at db <;> simp at dx dy <;> omega
theorem bXor (a b : Nat) : Builtin.bitXor (a : Int) (b : Int) = ((a ^^^ b : Nat) : Int) := by
  rw [PyProof.Rows.bitXor_and, bAnd]
  have := xor_and_add a b
  omega
theorem ofShr (v : Nat) (j : Int) : (v : Int) / 2 ^ j.toNat = ((v / 2 ^ j.toNat : Nat) : Int) := by
  rw [Int.natCast_ediv, Int.natCast_pow]
  rfl
theorem ofShl (v : Nat) (j : Int) : (v : Int) * 2 ^ j.toNat = ((v * 2 ^ j.toNat : Nat) : Int) := by
  rw [Int.natCast_mul, Int.natCast_pow]
  rfl
theorem shl_and (w v : Nat) (j : Int) : Builtin.bitAnd ((v : Int) * 2 ^ j.toNat) ((onesN w : Nat) : Int) = ((v * 2 ^ j.toNat % 2 ^ w : Nat) : Int) := by
  rw [ofShl, bAnd]
  unfold onesN
  rw [Nat.and_two_pow_sub_one_eq_mod]
end KBL
/-! ### texts of numbers -/
namespace KBL
open PySem
def dg (i : Int) : List Nat := (Str.ofString (toString i)).cps.toList
theorem dg_is (i : Int) : dg i = (toString i).toList.map Char.toNat := PyProof.Rows.signs_ofString _
theorem map_char : ∀ {a b : List Char}, a.map Char.toNat = b.map Char.toNat → a = b
  | [], [], _ => rfl
  | [], _ :: _, h => by cases h
  | _ :: _, [], h => by cases h
  | x :: a, y :: b, h => by
    rw [List.map_cons, List.map_cons] at h
    injection h with h1 h2
    have e : x = y := Char.toNat_inj.mp h1
    rw [e, map_char h2]
theorem dg_inj {i j : Int} (h : dg i = dg j) : i = j := by
  rw [dg_is, dg_is] at h
  have e := map_char h
  rw [String.toList_inj] at e
  rw [Int.toString_eq_repr, Int.toString_eq_repr] at e
  exact Int.repr_inj.mp e
theorem nat_no (n : Nat) : ∀ c ∈ (Nat.repr n).toList, c.toNat ≠ 44 := by
  intro c hc
  rw [Nat.toList_repr] at hc
  have h := Nat.isDigit_of_mem_toDigits (by decide) (by decide) hc
  simp only [Char.isDigit, Bool.and_eq_true, decide_eq_true_eq] at h
  have h2 : 48 ≤ c.val.toNat := by simpa using UInt32.le_iff_toNat_le.mp h.1
  have e : c.val.toNat = c.toNat := rfl
  omega
theorem dg_no (i : Int) : 44 ∉ dg i := by
  rw [dg_is]
  intro hc
  obtain ⟨c, hc, e⟩ := List.mem_map.mp hc
  rw [Int.toString_eq_repr, Int.repr_eq_if] at hc
  split at hc
  · exact nat_no _ c hc e
  · rw [String.toList_append, List.mem_append] at hc
    rcases hc with hc | hc
    · have : c = '-' := by simpa using hc
      subst this
      exact absurd e (by decide)
    · exact nat_no _ c hc e
theorem cut44 : ∀ {a b x y : List Nat}, 44 ∉ a → 44 ∉ b → a ++ 44 :: x = b ++ 44 :: y → a = b ∧ x = y
  | [], [], _, _, _, _, h => by
    injection h with _ h
    exact ⟨rfl, h⟩
  | [], c :: b, _, _, _, hb, h => by
    injection h with h1 _
    exact absurd (by rw [← h1]; exact List.mem_cons_self ..) hb
  | c :: a, [], _, _, ha, _, h => by
    injection h with h1 _
    exact absurd (by rw [h1]; exact List.mem_cons_self ..) ha
  | c :: a, d :: b, x, y, ha, hb, h => by
    injection h with h1 h2
    obtain ⟨g1, g2⟩ := cut44 (fun z => ha (List.mem_cons_of_mem _ z)) (fun z => hb (List.mem_cons_of_mem _ z)) h2
    exact ⟨by rw [h1, g1], g2⟩
def bText (w s k f : Int) : Str := Str.empty ++ "Blend(" ++ toString w ++ ", " ++ toString s ++ ", " ++ toString k ++ ", " ++ toString f ++ ")"
theorem bText_list (w s k f : Int) : (bText w s k f).cps.toList = [66, 108, 101, 110, 100, 40] ++ (dg w ++ 44 :: (32 :: dg s ++ 44 :: (32 :: dg k ++ 44 :: (32 :: dg f ++ [41])))) := by
  unfold bText dg
  simp only [Str.cps_append, Array.toList_append, List.append_assoc]
  rfl
theorem no32 {l : List Nat} (h : 44 ∉ l) : 44 ∉ (32 :: l) := fun z => (List.mem_cons.mp z).elim (fun e => by cases e) h
theorem bText_inj {w s k f w' s' k' f' : Int} (h : bText w s k f = bText w' s' k' f') : w = w' ∧ s = s' ∧ k = k' ∧ f = f' := by
  have e := congrArg (fun x : Str => x.cps.toList) h
  simp only [bText_list] at e
  have e := List.append_cancel_left e
  obtain ⟨e1, e⟩ := cut44 (dg_no w) (dg_no w') e
  obtain ⟨e2, e⟩ := cut44 (a := 32 :: dg s) (b := 32 :: dg s') (no32 (dg_no s)) (no32 (dg_no s')) e
  obtain ⟨e3, e⟩ := cut44 (a := 32 :: dg k) (b := 32 :: dg k') (no32 (dg_no k)) (no32 (dg_no k')) e
  have e4 := List.append_cancel_right e
  injection e2 with _ e2
  injection e3 with _ e3
  injection e4 with _ e4
  exact ⟨dg_inj e1, dg_inj e2, dg_inj e3, dg_inj e4⟩
theorem num_len {i : Int} (h : i.natAbs.log2 < 1920) : (Str.ofString (toString i)).length ≤ 1921 := PyProof.Rows.int_text_len_1921 h
end KBL
namespace KBL
open PySem
def b2n (b : Bool) : Nat := if b then 1 else 0
theorem bit_one (n p : Nat) : Builtin.bitAnd ((n : Int) / 2 ^ p) 1 = ((b2n (n.testBit p) : Nat) : Int) := by
  rw [show ((n : Int) / 2 ^ p) = ((n / 2 ^ p : Nat) : Int) by rw [Int.natCast_ediv, Int.natCast_pow]; rfl]
  rw [show (1 : Int) = ((1 : Nat) : Int) from rfl, bAnd, Nat.and_one_is_mod, Nat.testBit_eq_decide_div_mod_eq]
  unfold b2n
  have := Nat.mod_two_eq_zero_or_one (n / 2 ^ p)
  rcases this with h | h <;> rw [h] <;> rfl
theorem b2n_one (b : Bool) : (((b2n b : Nat) : Int) = 1) ↔ b = true := by
  cases b <;> decide
theorem b2n_xor (a b : Bool) : Builtin.bitXor ((b2n a : Nat) : Int) ((b2n b : Nat) : Int) = ((b2n (a ^^ b) : Nat) : Int) := by
  rw [bXor]
  cases a <;> cases b <;> rfl
theorem mod_next (x i : Nat) : x % 2 ^ (i + 1) = x % 2 ^ i + b2n (x.testBit i) * 2 ^ i := by
  rw [Nat.mod_pow_succ, Nat.testBit_eq_decide_div_mod_eq]
  unfold b2n
  have := Nat.mod_two_eq_zero_or_one (x / 2 ^ i)
  rcases this with h | h <;> rw [h] <;> simp
end KBL

/-! KD: comprehensions whose elements are made. -/
namespace KD
open PySem PySem.Spec PyProof.Rows L2 KB KG KO
/-- all but lists is kept -/
def SameN (H H' : Hp) : Prop := ∀ a o, H a = some o → (∀ xs, o ≠ .lst xs) → H' a = some o
theorem SameN.of {H H' : Hp} (s : Same H H') : SameN H H' := fun a o e _ => s a o e
theorem SameN.trans {H H' H2 : Hp} (s : SameN H H') (t : SameN H' H2) : SameN H H2 := fun a o e n => t a o (s a o e n) n
theorem SameN.tup {H H' : Hp} {a : Addr} {xs : List V} (s : SameN H H') (h : H a = some (.tup xs)) : H' a = some (.tup xs) := s a _ h (fun _ z => by cases z)
theorem SameN.ins {H H' : Hp} {a C dx : Addr} {fs : List (Str × V)} (s : SameN H H') (h : H a = some (.ins C dx fs)) : H' a = some (.ins C dx fs) := s a _ h (fun _ z => by cases z)
/-- a comprehension without a test; R i v H: what the i-th element is -/
theorem lc_made {J : It} {n : Nat} {G : Hp → Prop} {Y : Nat → Hp → V → Hp → Prop} (wk : Walk J n G Y) {g : TG} {tt : TT} {te : TE} {vs : List Nat} {σ : L2.St} {H1 : Hp} {Q : VK} (R : Nat → V → Hp → Prop) (hn : n ≤ 10000)
    (up : ∀ i v H H', R i v H → SameN H H' → R i v H') (hG : ∀ H', Same H1 H' → G H')
    (hs : ∀ i x H H' (N : V → Hp → Prop) (B : Hp → Prop), i < n → Same H1 H → Y i H x H' → (∀ v H2, Same H H2 → R i v H2 → N v H2) → g x (wipe σ vs) H' fun σ2 H2 => wipe σ2 vs = wipe σ vs ∧ tt σ2 H2 fun b H3 => if b = true then te σ2 H3 N else B H3)
    (hd : ∀ D H' (ys : List V), H1 D = none → Same H1 H' → H' D = some (.lst ys) → ys.length = n → (∀ i v, ys[i]? = some v → R i v H') → Q (.ref D) H') :
    LcW J g tt te vs σ H1 Q := by
  intro D hD
  refine lc_it wk (Qd := fun H => Q (.ref D) H) (fun i H => Same H1 H ∧ ∃ ys : List V, H D = some (.lst ys) ∧ ys.length = i ∧ ∀ j v, ys[j]? = some v → R j v H) ⟨same_new hD, [], upd_same, rfl, fun j v e => by simp at e⟩ (fun i H _ p => hG H p.1) (fun i x H H' hi p y => ?_) (fun H p => ?_)
  · obtain ⟨sm, ys, hy, hl, hR⟩ := p
    refine hs i x H H' _ _ hi sm y (fun v H2 s2 r => ?_)
    have kp : ∀ zs, SameN H2 (upd H2 D (.lst zs)) := fun zs a o e no => by
      rw [upd_ne (fun z => no ys (by rw [z, s2 _ _ hy] at e; exact (Option.some.inj e).symm))]
      exact e
    refine ⟨ys, s2 _ _ hy, small1000' (by omega), same_mut (sm.trans s2) hD, ys ++ [v], upd_same, by simp [hl], fun j w e => ?_⟩
    by_cases hj : j < ys.length
    · rw [List.getElem?_append_left hj] at e
      exact up _ _ _ _ (hR j w e) ((SameN.of s2).trans (kp _))
    · rw [List.getElem?_append_right (by omega)] at e
      have h0 : j - ys.length = 0 := by
        cases z : j - ys.length with
        | zero => rfl
        | succ m => rw [z] at e; simp at e
      rw [h0] at e
      have ew : v = w := Option.some.inj e
      subst ew
      have ej : j = i := by omega
      subst ej
      exact up _ _ _ _ r (kp _)
  · obtain ⟨sm, ys, hy, hl, hR⟩ := p
    exact hd D H ys hD sm hy hl hR
/-- a comprehension whose test is never true -/
theorem lc_none {J : It} {n : Nat} {G : Hp → Prop} {Y : Nat → Hp → V → Hp → Prop} (wk : Walk J n G Y) {g : TG} {tt : TT} {te : TE} {vs : List Nat} {σ : L2.St} {H1 : Hp} {Q : VK}
    (hG : ∀ H', Same H1 H' → G H')
    (hs : ∀ i x H H' (B : Hp → Prop) (N : V → Hp → Prop), i < n → Same H1 H → Y i H x H' → (∀ H2, Same H H2 → B H2) → g x (wipe σ vs) H' fun σ2 H2 => wipe σ2 vs = wipe σ vs ∧ tt σ2 H2 fun b H3 => if b = true then te σ2 H3 N else B H3)
    (hd : ∀ D H', H1 D = none → Same H1 H' → H' D = some (.lst []) → Q (.ref D) H') :
    LcW J g tt te vs σ H1 Q := by
  intro D hD
  refine lc_it wk (Qd := fun H => Q (.ref D) H) (fun i H => Same H1 H ∧ H D = some (.lst [])) ⟨same_new hD, upd_same⟩ (fun i H _ p => hG H p.1) (fun i x H H' hi p y => ?_) (fun H p => hd D H hD p.1 p.2)
  exact hs i x H H' _ _ hi p.1 y (fun H2 s2 => ⟨p.1.trans s2, s2 _ _ p.2⟩)
theorem r_yes {σ : L2.St} {H : Hp} {QT : Bool → Hp → Prop} (q : QT true H) : tYes σ H QT := q
/-! ### what repr shows -/
open KY
theorem fit_int {tag : Str} (ht : (reprText tag).length ≤ 100) {i : Int} (h : i.natAbs.log2 < 1920) : Fit tag (.sc (.int i)) := by
  have l := KBL.num_len h
  have sl2 : 10000 ≤ sizeLine := by decide
  refine ⟨?_, ?_, ?_⟩
  · simp only [Dt.d, Sc.d, PyData.showable]
    exact decide_eq_true h
  · simp [KY.pairD, PyData.depth, PyData.depthAll, Dt.d, Sc.d]
  · simp only [KY.pairD, PyData.shown, PyData.shownAll, Dt.d, Sc.d, listText, textFrom, Str.length_append]
    have c1 : (Str.ofString "[").length = 1 := by decide +kernel
    have c2 : (Str.ofString "]").length = 1 := by decide +kernel
    have c3 : (Str.ofString (if 0 > 0 then ", " else "")).length = 0 := by decide +kernel
    have c4 : (Str.ofString (if 0 + 1 > 0 then ", " else "")).length = 2 := by decide +kernel
    omega
def fitB (tag : Str) (t : Dt) : Bool := PyData.showable t.d && decide ((KY.pairD tag t).depth ≤ 60) && decide ((KY.pairD tag t).shown.length ≤ 1000)
theorem fit_of {tag : Str} {t : Dt} (h : fitB tag t = true) : Fit tag t := by
  unfold fitB at h
  simp only [Bool.and_eq_true, decide_eq_true_eq] at h
  exact ⟨h.1.1, h.1.2, Nat.le_trans h.2 (by decide)⟩
theorem strOk_of (s : String) : PyData.strOk (Str.ofString s) = true := by
  unfold PyData.strOk
  rw [Str.ofString_eq_toList]
  rw [List.all_toArray, List.all_eq_true]
  intro x hx
  obtain ⟨c, _, rfl⟩ := List.mem_map.mp hx
  have h := c.valid
  have e : c.toNat = c.val.toNat := rfl
  refine decide_eq_true ?_
  rw [e]
  rcases h with h | h
  · have : c.val.toNat < 0xd800 := h
    omega
  · have : c.val.toNat < 0x110000 := h.2
    omega
theorem strOk_app (a b : Str) : PyData.strOk (a ++ b) = (PyData.strOk a && PyData.strOk b) := by
  unfold PyData.strOk
  show (a.cps ++ b.cps).all _ = _
  rw [Array.all_append]
theorem ok_intText {tag : Str} (ht : PyData.strOk (reprText tag) = true) (i : Int) : PyData.strOk (KY.pairD tag (.sc (.int i))).shown = true := by
  simp only [KY.pairD, PyData.shown, PyData.shownAll, Dt.d, Sc.d, listText, textFrom, strOk_app, strOk_of, ht, Bool.and_self]
/-! ### f(k = v, ..), its reading named -/
section
variable {X : Cx}
def tCK (ks : List Str) (sp : Sp) (gV : List V → List V → List V) (E : XK) (tk : TA) : TE := fun σ H Q => tk σ H fun zs H2 => zs.length = ks.length ∧ sp (gV [] zs) H2 Q E
theorem pe_callK {CX : CXT} {k : Nat} {x : Str} {ps ks : List Str} {sp : Sp} {gV : List V → List V → List V} {E : XK} {kws : List Keyword} {p pos : Pos} {tk : TA} (c : CalleeKw X.prog X.w X.K X.mg X.base CX k x ps sp 0 ks gV) (room : Room k X.A) (gl : Gl X x) (pass : Passes CX X E) (hkw : PK X kws tk)
    (d1 : (backToKw pos (keywordEach kws X.env)).all (·.1.isSome) = true := by rfl) (d2 : (backToKw pos (keywordEach kws X.env)).filterMap (·.1) = ks := by rfl) (d3 : (x == ("__debug__" : Str)) = false := by decide)
    (d4 : ((backTo pos (starEach [] X.env)).any (·.1) || (backToKw pos (keywordEach kws X.env)).any (·.1.isNone)) = false := by rfl) :
    PE X (.Call (.Name x p) [] kws pos) (tCK ks sp gV E tk) := KC.pe_callK0 c room gl pass hkw d1 d2 d3 d4
theorem r_ck {σ : L2.St} {H : Hp} {Q : VK} {ks : List Str} {sp : Sp} {gV : List V → List V → List V} {E : XK} {tk : TA} (q : tk σ H fun zs H2 => zs.length = ks.length ∧ sp (gV [] zs) H2 Q E) : tCK ks sp gV E tk σ H Q := q
end
end KD

/-! KR: own object beside data of any type under &, |, ^, <<, >>, on either side. -/
namespace KR
open PySem PySem.Spec PyProof.Rows L2 KB KG KO KY
section
variable {prog : Program} {w : World} {A : Around} {E : Value → Shared → Prop} {s : Shared} {K : PySem.W.Frag} {x C L g g2 : Addr} {hb : Heap} {m : Str → Option Value} {ox : Obj} {od : Option Obj} {T : String}
open PySem.W in
/-- o op v -/
theorem bin_left {op : Operator} {v : Value} {fo ro rc : Option Value} {Z : Value → Shared → Prop} (F : Fr hb L s.heap m) (X0 : K.In hb) (I : InstAt s.heap x ox C od) (lv : Looks (model prog w) s.heap (typeOf v) (.type T)) (c1 : selfFirst K C = true)
    (c2 : findIn K (.ref C) (PySem.dunder op.info.2) = some (some (.ref g))) (c3 : isFn K (.ref g) = true) (c4 : findIn K (.ref C) (dunderR op.info.2) = some rc) (c5 : rc = none ∨ ∃ z : Addr, rc = some (.ref z))
    (c6 : findIn K (.type T) (PySem.dunder op.info.2) = some fo) (c7 : findIn K (.type T) (dunderR op.info.2) = some ro) (c8 : subIn K (.type T) (.ref C) = some false)
    (go : wpAny (model prog w) A (call (.ref g) [.ref x, v]) (PySem.W.CmpBack Z) E s) : wpAny (model prog w) A (binaryOp op (.ref x) v) Z E s := by
  have XK := X0.keeps F.keep
  obtain ⟨cd, rest, hcd, hmro⟩ := ksp_first c1
  rcases oi : op.info with ⟨sy, n1⟩
  rw [oi] at c2 c4 c6 c7
  dsimp only at c2 c4 c6 c7
  have once := ksp_try XK I c2 c3 go
  obtain ⟨sh, sg, sd, stk, sos⟩ := s
  have k1 : Looks (model prog w) sh (typeOf (.ref x)) (.ref C) := I.type
  have k2 : Looks (model prog w) sh (typeOf v) (.type T) := lv
  have k3 : Looks (model prog w) sh (fillsNumberSlot (.ref C) n1) true := fills_K XK hcd hmro c2
  have k4 : Looks (model prog w) sh (fillsNumberSlot (.type T) n1) _ := ksp_fillsT XK c6 c7
  have k5 : Looks (model prog w) sh (isSubtype (.type T) (.ref C)) false := looks_subIn XK c8
  have k6 : Looks (model prog w) sh (numberSlotInPython (.ref C) n1) true := ksp_inPy XK c2 c4 c5
  have k7 : Looks (model prog w) sh (numberSlotInPython (.type T) n1) false := Looks.of_pure rfl
  have k8 : Looks (model prog w) sh (typeLookup (.type T) (dunderR n1)) ro := looks_findIn XK c7
  revert k4
  generalize ((fo.isSome && !isSeqSlot fo) || (ro.isSome && !isSeqSlot ro)) = rt
  intro k4
  have nq : (Value.ref C == Value.type T) = false := Bool.eq_false_iff.mpr fun q => by cases beq_iff_eq.mp q
  simp only [binaryOp, oi]
  refine wpAny_holding (wpAny_bind ?_)
  unfold binaryOp1
  refine wpAny_bind (k1.at (wpAny_bind (k2.at (wpAny_bind (k3.at ?_)))))
  simp only [nq, Bool.false_eq_true, if_false]
  cases rt
  all_goals
    ksp_lk
    refine wpAny_mono once (fun r s' y => ?_) fun _ _ e => e
    obtain ⟨v', rfl, hq⟩ := y
    ksp_lk
    exact hq
open PySem.W in
/-- v op o -/
theorem bin_right {op : Operator} {v : Value} {fo ro : Option Value} {fl : Bool} {Z : Value → Shared → Prop} (F : Fr hb L s.heap m) (X0 : K.In hb) (I : InstAt s.heap x ox C od) (lv : Looks (model prog w) s.heap (typeOf v) (.type T)) (c1 : selfFirst K C = true)
    (c2 : findIn K (.ref C) (PySem.dunder op.info.2) = some (some (.ref g2))) (c3 : isFn K (.ref g) = true) (c4 : findIn K (.ref C) (dunderR op.info.2) = some (some (.ref g)))
    (c6 : findIn K (.type T) (PySem.dunder op.info.2) = some fo) (c7 : findIn K (.type T) (dunderR op.info.2) = some ro) (c9 : ((fo.isSome && !isSeqSlot fo) || (ro.isSome && !isSeqSlot ro)) = fl) (c8 : fl = true → subIn K (.ref C) (.type T) = some false)
    (no : fl = true → Looks (model prog w) s.heap (tryMethod v (PySem.dunder op.info.2) (.ref x)) none)
    (go : wpAny (model prog w) A (call (.ref g) [.ref x, v]) (PySem.W.CmpBack Z) E s) : wpAny (model prog w) A (binaryOp op v (.ref x)) Z E s := by
  have XK := X0.keeps F.keep
  obtain ⟨cd, rest, hcd, hmro⟩ := ksp_first c1
  rcases oi : op.info with ⟨sy, n1⟩
  rw [oi] at c2 c4 c6 c7 no
  dsimp only at c2 c4 c6 c7 no
  have once := ksp_try XK I c4 c3 go
  obtain ⟨sh, sg, sd, stk, sos⟩ := s
  have k1 : Looks (model prog w) sh (typeOf (.ref x)) (.ref C) := I.type
  have k2 : Looks (model prog w) sh (typeOf v) (.type T) := lv
  have k3 : Looks (model prog w) sh (fillsNumberSlot (.ref C) n1) true := fills_K XK hcd hmro c2
  have k4 : Looks (model prog w) sh (fillsNumberSlot (.type T) n1) fl := c9 ▸ ksp_fillsT XK c6 c7
  have k7 : Looks (model prog w) sh (numberSlotInPython (.type T) n1) false := Looks.of_pure rfl
  have nq : (Value.type T == Value.ref C) = false := Bool.eq_false_iff.mpr fun q => by cases beq_iff_eq.mp q
  simp only [binaryOp, oi]
  refine wpAny_holding (wpAny_bind ?_)
  unfold binaryOp1
  refine wpAny_bind (k2.at (wpAny_bind (k1.at (wpAny_bind (k4.at ?_)))))
  simp only [nq, Bool.false_eq_true, if_false]
  cases fl with
  | false =>
    ksp_lk
    refine wpAny_mono once (fun r s' y => ?_) fun _ _ e => e
    obtain ⟨v', rfl, hq⟩ := y
    ksp_lk
    exact hq
  | true =>
    have k5 : Looks (model prog w) sh (isSubtype (.ref C) (.type T)) false := looks_subIn XK (c8 rfl)
    have k9 := no rfl
    ksp_lk
    refine Looks.at k9 ?_
    ksp_lk
    refine wpAny_mono once (fun r s' y => ?_) fun _ _ e => e
    obtain ⟨v', rfl, hq⟩ := y
    ksp_lk
    exact hq
end
section
variable {X : Cx} {pins : List (Addr × Obj)} {σ : L2.St} {H : Hp} {st : Shared}
theorem od_type {v : V} {u : Value} {t : Dt} (inv : Inv X pins σ H st) (o : OdAt H v t) (r : RelV v u) : st.TypeIs u t.ty := by
  cases t with
  | sc s =>
    obtain rfl : v = s.v := o
    cases s with
    | non => cases (show u = Value.none from r); exact rfl
    | bl b => cases (show u = Value.bool b from r); exact rfl
    | int i => obtain ⟨t, rfl⟩ := (show ∃ t, u = Value.int i t from r); exact rfl
    | str x => obtain ⟨t, rfl⟩ := (show ∃ t, u = Value.str x t from r); exact rfl
  | tup l =>
    obtain ⟨a, rfl, e⟩ := o
    obtain rfl : u = Value.ref a := r
    obtain ⟨its, rv, ⟨ob, ho, hc, n, hd⟩, _⟩ := inv.tuple (SqT.of e)
    exact ⟨_, ho, hc⟩
  | lst l =>
    obtain ⟨a, rfl, e⟩ := o
    obtain rfl : u = Value.ref a := r
    obtain ⟨its, rv, ⟨ob, n, ho, hc, _, hd⟩, _⟩ := inv.list (SqL.of e)
    exact ⟨_, ho, hc⟩
  | dct l =>
    obtain ⟨a, rfl, e⟩ := o
    obtain rfl : u = Value.ref a := r
    obtain ⟨_, ns, vs, kv, ob, es, ep, ho, hex, hd, _, prs, _⟩ := dk_of inv.hok e
    exact ⟨_, ho, hex.1⟩
theorem type_looks {M : Model} {s : Shared} {u : Value} {T : String} (h : s.TypeIs u T) : PySem.W.Looks M s.heap (typeOf u) (.type T) := by
  intro A Q E s' k q
  refine wpAny_typeOf (T := T) ?_ q
  cases u with
  | ref b =>
    obtain ⟨o, e, c⟩ := h
    exact ⟨o, k _ _ e, c⟩
  | _ => exact h
end
section
variable {M : Model} {s : Shared} {x C dx : Addr}
open PySem.SeqAt PySem.MeetsSeq PySem.AutoSeq1
theorem int_and_no (i : Int) (t : Tok) : Meets (Builtin.«int.__and__» ⟨[.int i t, .ref x], []⟩) (fun _ R s => s.heap.get? x = some (PySem.W.instObj C dx) ∧ R (.ok (.ret .notImplemented)) s) :=
  .of_wp fun prog w A R s h => by obtain ⟨hp, g, d, tk, os⟩ := s; obtain ⟨hl, h⟩ := h; wp_walk using wpAny_loadPart' hl, wpAny_load hl; exact ⟨_, rfl, h⟩
theorem int_or_no (i : Int) (t : Tok) : Meets (Builtin.«int.__or__» ⟨[.int i t, .ref x], []⟩) (fun _ R s => s.heap.get? x = some (PySem.W.instObj C dx) ∧ R (.ok (.ret .notImplemented)) s) :=
  .of_wp fun prog w A R s h => by obtain ⟨hp, g, d, tk, os⟩ := s; obtain ⟨hl, h⟩ := h; wp_walk using wpAny_loadPart' hl, wpAny_load hl; exact ⟨_, rfl, h⟩
theorem int_xor_no (i : Int) (t : Tok) : Meets (Builtin.«int.__xor__» ⟨[.int i t, .ref x], []⟩) (fun _ R s => s.heap.get? x = some (PySem.W.instObj C dx) ∧ R (.ok (.ret .notImplemented)) s) :=
  .of_wp fun prog w A R s h => by obtain ⟨hp, g, d, tk, os⟩ := s; obtain ⟨hl, h⟩ := h; wp_walk using wpAny_loadPart' hl, wpAny_load hl; exact ⟨_, rfl, h⟩
theorem bool_and_no (b : Bool) : Meets (Builtin.«bool.__and__» ⟨[.bool b, .ref x], []⟩) (fun _ R s => s.heap.get? x = some (PySem.W.instObj C dx) ∧ R (.ok (.ret .notImplemented)) s) :=
  .of_wp fun prog w A R s h => by obtain ⟨hp, g, d, tk, os⟩ := s; obtain ⟨hl, h⟩ := h; wp_walk using wpAny_loadPart' hl, wpAny_load hl; exact ⟨_, rfl, h⟩
theorem bool_or_no (b : Bool) : Meets (Builtin.«bool.__or__» ⟨[.bool b, .ref x], []⟩) (fun _ R s => s.heap.get? x = some (PySem.W.instObj C dx) ∧ R (.ok (.ret .notImplemented)) s) :=
  .of_wp fun prog w A R s h => by obtain ⟨hp, g, d, tk, os⟩ := s; obtain ⟨hl, h⟩ := h; wp_walk using wpAny_loadPart' hl, wpAny_load hl; exact ⟨_, rfl, h⟩
theorem bool_xor_no (b : Bool) : Meets (Builtin.«bool.__xor__» ⟨[.bool b, .ref x], []⟩) (fun _ R s => s.heap.get? x = some (PySem.W.instObj C dx) ∧ R (.ok (.ret .notImplemented)) s) :=
  .of_wp fun prog w A R s h => by obtain ⟨hp, g, d, tk, os⟩ := s; obtain ⟨hl, h⟩ := h; wp_walk using wpAny_loadPart' hl, wpAny_load hl; exact ⟨_, rfl, h⟩
end
section
variable {prog : Program} {w : World} {M : Model} {s : Shared} {x l C dx : Addr}
open PySem.SeqAt PySem.MeetsSeq PySem.AutoSeq1
theorem dict_or_no (es : Array DictEntry) (n : Nat) (dd : Option Addr) (sl : Array (Option Value)) : MeetsIn prog w (Builtin.«dict.__or__» ⟨[.ref l, .ref x], []⟩) (fun _ R s => s.heap.get? l = some { cls := .type "dict", dict := dd, data := .dict es n, slots := sl } ∧ s.heap.get? x = some (PySem.W.instObj C dx) ∧ PySem.W.Looks (model prog w) s.heap (isSubtype (.ref C) (.type "dict")) false ∧ R (.ok (.ret .notImplemented)) s) :=
  .of_wp fun A R s h => by
    obtain ⟨hp, g, d, tk, os⟩ := s
    obtain ⟨hl, hx, hs, h⟩ := h
    have f1 : isSubtype (.type "dict") (.type "dict") = pure true := by rw [isSubtype_type]; kernel_rfl
    wp_walk using wpAny_loadPart' hl, wpAny_load hl, wpAny_loadPart' hx, wpAny_load hx, hs.here
    exact ⟨_, rfl, h⟩
end
section
variable {prog : Program} {w : World} {A : Around} {E : Value → Shared → Prop} {s : Shared} {x C dx : Addr} {Q : Option Value → Shared → Prop}
theorem try_no {u : Value} {nm T id : String} (slot : Slot T (PySem.dunder nm) id) (ty : s.TypeIs u T) (c : ∀ Z : Value → Shared → Prop, Z .notImplemented s → wpAny (model prog w) A (call (.builtin id) [u, .ref x]) Z E s) (q : Q none s) : wpAny (model prog w) A (tryMethod u (PySem.dunder nm) (.ref x)) Q E s :=
  wpAny_tryMethod_declines (T := T) (name := PySem.dunder nm) (id := id) ty slot (c _ ⟨rfl, q⟩)
theorem try_int {i : Int} {t : Tok} {nm : String} (hn : nm = "and" ∨ nm = "or" ∨ nm = "xor") (h : s.heap.get? x = some (PySem.W.instObj C dx)) (q : Q none s) : wpAny (model prog w) A (tryMethod (.int i t) (PySem.dunder nm) (.ref x)) Q E s := by
  rcases hn with rfl | rfl | rfl
  · exact try_no (nm := "and") (T := "int") (id := "int.__and__") F.slot_int_and (typeIs_int s i t) (fun Z z => call_meets F.slot_int_and (typeIs_int s i t) F.entry_int_and (F.args_int_and_2 _ _) (int_and_no i t) ⟨h, z⟩) q
  · exact try_no (nm := "or") (T := "int") (id := "int.__or__") F.slot_int_or (typeIs_int s i t) (fun Z z => call_meets F.slot_int_or (typeIs_int s i t) F.entry_int_or (F.args_int_or_2 _ _) (int_or_no i t) ⟨h, z⟩) q
  · exact try_no (nm := "xor") (T := "int") (id := "int.__xor__") F.slot_int_xor (typeIs_int s i t) (fun Z z => call_meets F.slot_int_xor (typeIs_int s i t) F.entry_int_xor (F.args_int_xor_2 _ _) (int_xor_no i t) ⟨h, z⟩) q
theorem try_bool {b : Bool} {nm : String} (hn : nm = "and" ∨ nm = "or" ∨ nm = "xor") (h : s.heap.get? x = some (PySem.W.instObj C dx)) (q : Q none s) : wpAny (model prog w) A (tryMethod (.bool b) (PySem.dunder nm) (.ref x)) Q E s := by
  have ty : s.TypeIs (.bool b) "bool" := rfl
  rcases hn with rfl | rfl | rfl
  · exact try_no (nm := "and") (T := "bool") (id := "bool.__and__") F.slot_bool_and ty (fun Z z => call_meets F.slot_bool_and ty F.entry_bool_and (F.args_bool_and_2 _ _) (bool_and_no b) ⟨h, z⟩) q
  · exact try_no (nm := "or") (T := "bool") (id := "bool.__or__") F.slot_bool_or ty (fun Z z => call_meets F.slot_bool_or ty F.entry_bool_or (F.args_bool_or_2 _ _) (bool_or_no b) ⟨h, z⟩) q
  · exact try_no (nm := "xor") (T := "bool") (id := "bool.__xor__") F.slot_bool_xor ty (fun Z z => call_meets F.slot_bool_xor ty F.entry_bool_xor (F.args_bool_xor_2 _ _) (bool_xor_no b) ⟨h, z⟩) q
theorem try_dict {l : Addr} {es : Array DictEntry} {n : Nat} {dd : Option Addr} {sl : Array (Option Value)} (hl : s.heap.get? l = some { cls := .type "dict", dict := dd, data := .dict es n, slots := sl }) (h : s.heap.get? x = some (PySem.W.instObj C dx)) (ls : PySem.W.Looks (model prog w) s.heap (isSubtype (.ref C) (.type "dict")) false) (q : Q none s) :
    wpAny (model prog w) A (tryMethod (.ref l) (PySem.dunder "or") (.ref x)) Q E s := by
  have ty : s.TypeIs (.ref l) "dict" := ⟨_, hl, rfl⟩
  exact try_no (nm := "or") (T := "dict") (id := "dict.__or__") F.slot_dict_or ty (fun Z z => call_meetsIn F.slot_dict_or ty F.entry_dict_or (F.args_dict_or_2 _ _) (dict_or_no es n dd sl) ⟨hl, h, ls, z⟩) q
end
/-! ### the rules -/
theorem ty_in (t : Dt) : t.ty ∈ ["NoneType", "bool", "int", "str", "tuple", "list", "dict"] := by
  cases t with
  | sc s => cases s <;> simp [Dt.ty]
  | tup => simp [Dt.ty]
  | lst => simp [Dt.ty]
  | dct => simp [Dt.ty]
theorem find_ty (K : PySem.W.Frag) {T : String} (h : T ∈ ["NoneType", "bool", "int", "str", "tuple", "list", "dict"]) (n : Str) (hn : n ∈ (["__and__", "__rand__", "__or__", "__ror__", "__xor__", "__rxor__", "__lshift__", "__rlshift__", "__rshift__", "__rrshift__"] : List Str)) : ∃ r, PySem.W.findIn K (.type T) n = some r := by
  have z : ∀ T ∈ ["NoneType", "bool", "int", "str", "tuple", "list", "dict"], ∀ n ∈ (["__and__", "__rand__", "__or__", "__ror__", "__xor__", "__rxor__", "__lshift__", "__rlshift__", "__rshift__", "__rrshift__"] : List Str), (PySem.fastLookup T n).isSome = true := by decide +kernel
  exact Option.isSome_iff_exists.mp (z T h n hn)
theorem sub_ty (K : PySem.W.Frag) {T : String} (h : T ∈ ["NoneType", "bool", "int", "str", "tuple", "list", "dict"]) (C : Addr) : PySem.W.subIn K (.type T) (.ref C) = some false := by
  simp only [List.mem_cons, List.not_mem_nil, or_false] at h
  rcases h with rfl | rfl | rfl | rfl | rfl | rfl | rfl <;> rfl
section
variable {X : Cx}
def ops3 : List Operator := [.BitAnd, .BitOr, .BitXor]
def ops5 : List Operator := [.BitAnd, .BitOr, .BitXor, .LShift, .RShift]
structure OwnBD (P : Program) (w : World) (K : PySem.W.Frag) (mg : Str → Option Value) (base : Heap) (CX : CXT) (k : Nat) (C : Addr) (op : Operator) (ps : List Str) (sp : Sp) : Prop where
  ex : ∃ (g : Addr) (fd : FuncData) (rc : Option Value), op ∈ ops5 ∧ PySem.W.selfFirst K C = true ∧ PySem.W.findIn K (.ref C) (PySem.dunder op.info.2) = some (some (.ref g)) ∧ PySem.W.isFn K (.ref g) = true ∧ PySem.W.findIn K (.ref C) (dunderR op.info.2) = some rc ∧ (rc = none ∨ ∃ g : Addr, rc = some (.ref g)) ∧ FnOk P w K mg base CX k g fd ps sp ∧ Binds K fd ps []
structure OwnBR (P : Program) (w : World) (K : PySem.W.Frag) (mg : Str → Option Value) (base : Heap) (CX : CXT) (k : Nat) (C : Addr) (op : Operator) (ps : List Str) (sp : Sp) : Prop where
  ex : ∃ (g g2 : Addr) (fd : FuncData), op ∈ ops3 ∧ PySem.W.selfFirst K C = true ∧ PySem.W.findIn K (.ref C) (PySem.dunder op.info.2) = some (some (.ref g2)) ∧ PySem.W.isFn K (.ref g) = true ∧ PySem.W.findIn K (.ref C) (dunderR op.info.2) = some (some (.ref g)) ∧
    PySem.W.subIn K (.ref C) (.type "int") = some false ∧ PySem.W.subIn K (.ref C) (.type "bool") = some false ∧ PySem.W.subIn K (.ref C) (.type "dict") = some false ∧ FnOk P w K mg base CX k g fd ps sp ∧ Binds K fd ps []
theorem find5 (K : PySem.W.Frag) {T : String} (h : T ∈ ["NoneType", "bool", "int", "str", "tuple", "list", "dict"]) {op : Operator} (ho : op ∈ ops5) : (∃ r, PySem.W.findIn K (.type T) (PySem.dunder op.info.2) = some r) ∧ ∃ r, PySem.W.findIn K (.type T) (dunderR op.info.2) = some r := by
  have m : ∀ op ∈ ops5, PySem.dunder op.info.2 ∈ (["__and__", "__rand__", "__or__", "__ror__", "__xor__", "__rxor__", "__lshift__", "__rlshift__", "__rshift__", "__rrshift__"] : List Str) ∧ dunderR op.info.2 ∈ (["__and__", "__rand__", "__or__", "__ror__", "__xor__", "__rxor__", "__lshift__", "__rlshift__", "__rshift__", "__rrshift__"] : List Str) := by
    intro op ho
    simp only [ops5, List.mem_cons, List.not_mem_nil, or_false] at ho
    rcases ho with rfl | rfl | rfl | rfl | rfl <;> decide +kernel
  exact ⟨find_ty K h _ (m op ho).1, find_ty K h _ (m op ho).2⟩
def rBinD (C : Addr) (sp : Sp) (E : XK) : R2 := fun x y H Q => ∃ (a dx : Addr) (fs : List (Str × V)) (t : Dt), x = .ref a ∧ H a = some (.ins C dx fs) ∧ OdAt H y t ∧ sp [x, y] H Q E
def rBinR (C : Addr) (sp : Sp) (E : XK) : R2 := fun x y H Q => ∃ (a dx : Addr) (fs : List (Str × V)) (t : Dt), y = .ref a ∧ H a = some (.ins C dx fs) ∧ OdAt H x t ∧ sp [y, x] H Q E
theorem op_binD {CX : CXT} {E : XK} {C : Addr} {op : Operator} {ps : List Str} {sp : Sp} {n : Nat} (c : OwnBD X.prog X.w X.K X.mg X.base CX n C op ps sp) (room : Room n X.A) (pass : Passes CX X E) : OpR X (binaryOp op) (rBinD C sp E) := by
  obtain ⟨g, fd, rc, ho, c1, c2, c3, c4, c5, F, bind⟩ := c.ex
  intro pins st σ h x y v u Z inv rx ry pre
  obtain ⟨a, dx, fs, t, rfl, ha, od, z⟩ := pre
  obtain rfl : v = Value.ref a := rx
  obtain ⟨oo, J⟩ := inst_of inv ha
  obtain ⟨m, hF⟩ := inv.fr
  obtain ⟨⟨fo, e1⟩, ro, e2⟩ := find5 X.K (ty_in t) ho
  refine bin_left hF inv.ok.mod.kin J (type_looks (od_type inv od ry)) c1 c2 c3 c4 c5 e1 e2 (sub_ty X.K (ty_in t) C) ?_
  refine wpAny_mono (run_fn (us := [.ref a, u]) (vs := [.ref a, y]) F room bind .nil pass inv (.cons rfl (.cons ry .nil)) z) (fun w s2 r => ?_) fun _ _ z => z
  obtain ⟨z', h2, inv2, rz, qz⟩ := r
  exact SlX.cmpback rz ⟨z', h2, inv2, rz, qz⟩
theorem on3 {op : Operator} (ho : op ∈ ops3) : op.info.2 = "and" ∨ op.info.2 = "or" ∨ op.info.2 = "xor" := by
  simp only [ops3, List.mem_cons, List.not_mem_nil, or_false] at ho
  rcases ho with rfl | rfl | rfl
  · exact .inl rfl
  · exact .inr (.inl rfl)
  · exact .inr (.inr rfl)
/-- the three operations, by types of data that know none of them, or decline -/
theorem declines {P : Program} {w : World} {pins : List (Addr × Obj)} {σ : L2.St} {H : Hp} {st : Shared} {K : PySem.W.Frag} {v : V} {u : Value} {t : Dt} {a C dx : Addr} {oo : Option Obj} {op : Operator} {fo ro : Option Value} (ho : op ∈ ops3) (inv : Inv X pins σ H st) (XK : K.In st.heap) (od : OdAt H v t) (r : RelV v u) (J : PySem.W.InstAt st.heap a (PySem.W.instObj C dx) C oo)
    (s3 : PySem.W.subIn K (.ref C) (.type "dict") = some false)
    (e1 : PySem.W.findIn K (.type t.ty) (PySem.dunder op.info.2) = some fo) (e2 : PySem.W.findIn K (.type t.ty) (dunderR op.info.2) = some ro) (fl : ((fo.isSome && !isSeqSlot fo) || (ro.isSome && !isSeqSlot ro)) = true) :
    (t.ty = "int" ∨ t.ty = "bool" ∨ t.ty = "dict") ∧ PySem.W.Looks (model P w) st.heap (tryMethod u (PySem.dunder op.info.2) (.ref a)) none := by
  have hx : st.heap.get? a = some (PySem.W.instObj C dx) := J.at_
  have none4 : ∀ T ∈ ["NoneType", "str", "tuple", "list"], ∀ n ∈ (["__and__", "__rand__", "__or__", "__ror__", "__xor__", "__rxor__"] : List Str), (PySem.fastLookup T n).map Option.isNone = some true := by decide +kernel
  have noneD : ∀ n ∈ (["__and__", "__rand__", "__xor__", "__rxor__"] : List Str), (PySem.fastLookup "dict" n).map Option.isNone = some true := by decide +kernel
  have d1 : PySem.dunder Operator.BitAnd.info.2 = "__and__" ∧ dunderR Operator.BitAnd.info.2 = "__rand__" := by decide +kernel
  have d2 : PySem.dunder Operator.BitOr.info.2 = "__or__" ∧ dunderR Operator.BitOr.info.2 = "__ror__" := by decide +kernel
  have d3 : PySem.dunder Operator.BitXor.info.2 = "__xor__" ∧ dunderR Operator.BitXor.info.2 = "__rxor__" := by decide +kernel
  have lk : ∀ (T : String) (n : Str) (r : Option Value), PySem.W.findIn K (.type T) n = some r → PySem.fastLookup T n = some r := fun _ _ _ e => e
  replace e1 := lk _ _ _ e1
  replace e2 := lk _ _ _ e2
  have clash : ∀ (T : String) (n1 n2 : Str), (PySem.fastLookup T n1).map Option.isNone = some true → (PySem.fastLookup T n2).map Option.isNone = some true → PySem.fastLookup T n1 = some fo → PySem.fastLookup T n2 = some ro → False := by
    intro T n1 n2 y1 y2 z1 z2
    rw [z1] at y1
    rw [z2] at y2
    cases fo with
    | some _ => cases y1
    | none =>
      cases ro with
      | some _ => cases y2
      | none => cases fl
  have four : t.ty ∈ ["NoneType", "str", "tuple", "list"] → False := by
    intro ht
    simp only [ops3, List.mem_cons, List.not_mem_nil, or_false] at ho
    rcases ho with rfl | rfl | rfl
    · rw [d1.1] at e1
      rw [d1.2] at e2
      exact clash _ _ _ (none4 _ ht "__and__" (by simp)) (none4 _ ht "__rand__" (by simp)) e1 e2
    · rw [d2.1] at e1
      rw [d2.2] at e2
      exact clash _ _ _ (none4 _ ht "__or__" (by simp)) (none4 _ ht "__ror__" (by simp)) e1 e2
    · rw [d3.1] at e1
      rw [d3.2] at e2
      exact clash _ _ _ (none4 _ ht "__xor__" (by simp)) (none4 _ ht "__rxor__" (by simp)) e1 e2
  cases t with
  | sc sc0 =>
    obtain rfl : v = sc0.v := od
    cases sc0 with
    | non => exact (four (by simp [Dt.ty])).elim
    | str => exact (four (by simp [Dt.ty])).elim
    | int i =>
      obtain ⟨tk, rfl⟩ := (show ∃ t, u = Value.int i t from r)
      refine ⟨.inl rfl, fun A Q E s' k q => ?_⟩
      exact try_int (C := C) (dx := dx) (on3 ho) (k _ _ hx) q
    | bl b =>
      obtain rfl := (show u = Value.bool b from r)
      refine ⟨.inr (.inl rfl), fun A Q E s' k q => ?_⟩
      exact try_bool (C := C) (dx := dx) (on3 ho) (k _ _ hx) q
  | tup l => exact (four (by simp [Dt.ty])).elim
  | lst l => exact (four (by simp [Dt.ty])).elim
  | dct l =>
    obtain ⟨b, rfl, e⟩ := od
    obtain rfl : u = Value.ref b := r
    obtain ⟨_, ns, vs, kv, ob, es, ep, hb, hex, hd, _, prs, _⟩ := dk_of inv.hok e
    refine ⟨.inr (.inr rfl), fun A Q E s' k q => ?_⟩
    simp only [ops3, List.mem_cons, List.not_mem_nil, or_false] at ho
    rcases ho with rfl | rfl | rfl
    · rw [d1.1] at e1
      rw [d1.2] at e2
      exact (clash "dict" _ _ (noneD "__and__" (by simp)) (noneD "__rand__" (by simp)) e1 e2).elim
    · obtain ⟨cls, dd, data, sl⟩ := ob
      have hc := hex.1
      simp only at hc hd
      subst hc hd
      exact try_dict (C := C) (dx := dx) (k _ _ hb) (k _ _ hx) ((PySem.W.looks_subIn XK s3).keeps k) q
    · rw [d3.1] at e1
      rw [d3.2] at e2
      exact (clash "dict" _ _ (noneD "__xor__" (by simp)) (noneD "__rxor__" (by simp)) e1 e2).elim
theorem op_binR {CX : CXT} {E : XK} {C : Addr} {op : Operator} {ps : List Str} {sp : Sp} {n : Nat} (c : OwnBR X.prog X.w X.K X.mg X.base CX n C op ps sp) (room : Room n X.A) (pass : Passes CX X E) : OpR X (binaryOp op) (rBinR C sp E) := by
  obtain ⟨g, g2, fd, ho, c1, c2, c3, c4, s1, s2, s3, F, bind⟩ := c.ex
  intro pins st σ h x y v u Z inv rx ry pre
  obtain ⟨a, dx, fs, t, rfl, ha, od, z⟩ := pre
  obtain rfl : u = Value.ref a := ry
  obtain ⟨oo, J⟩ := inst_of inv ha
  obtain ⟨m, hF⟩ := inv.fr
  have ho5 : op ∈ ops5 := by
    simp only [ops3, ops5, List.mem_cons, List.not_mem_nil, or_false] at ho ⊢
    rcases ho with h | h | h <;> simp [h]
  obtain ⟨⟨fo, e1⟩, ro, e2⟩ := find5 X.K (ty_in t) ho5
  have dc := declines (P := X.prog) (w := X.w) ho inv inv.kIn od rx J s3 e1 e2
  refine bin_right hF inv.ok.mod.kin J (type_looks (od_type inv od rx)) c1 c2 c3 c4 e1 e2 rfl (fun y => ?_) (fun y => (dc y).2) ?_
  · rcases (dc y).1 with e | e | e <;> rw [e] <;> assumption
  refine wpAny_mono (run_fn (us := [.ref a, v]) (vs := [.ref a, x]) F room bind .nil pass inv (.cons rfl (.cons rx .nil)) z) (fun w s2 r => ?_) fun _ _ z => z
  obtain ⟨z', h2, inv2, rz, qz⟩ := r
  exact SlX.cmpback rz ⟨z', h2, inv2, rz, qz⟩
end
end KR

/-! KP: repr of a list of scalars and of own objects that have a __repr__ of their own. -/
namespace KP
open PySem PySem.Spec PyProof.Rows L2 KB KG KO KY
section
variable {prog : Program} {w : World} {A : Around} {E : Value → Shared → Prop} {s : Shared} {K : PySem.W.Frag} {x C L f : Addr} {hb : Heap} {m : Str → Option Value} {ox : Obj} {od : Option Obj}
open PySem.W in
theorem boundBy_K {M : Model} {last : Value → List Value → Sem Value} {name : Str} {Z : Option Value → Shared → Prop} (XK : K.In s.heap) (J : InstAt s.heap x ox C od) (c1 : findIn K (.ref C) name = some (some (.ref f))) (c2 : isFn K (.ref f) = true)
    (go : wpAny M A (last (.ref f) [.ref x]) (fun v => Z (some v)) E s) : wpAny M A (callSpecialIfBoundBy? last (.ref x) name) Z E s := by
  simp only [callSpecialIfBoundBy?, bindSpecialIfBound?]
  refine wpAny_holding (wpAny_bind (wpAny_bind (wpAny_bind (J.type.here ((looks_findIn XK c1).here ?_)))))
  refine wpAny_bind (wpAny_askSetting (wpAny_ite ?_))
  have last1 : wpAny M A (last (.ref f) [.ref x] >>= fun v => pure (some v)) Z E s := wpAny_bind (wpAny_mono go (fun _ _ y => wpAny_pure y) fun _ _ y => y)
  split
  · exact wpAny_bind ((bind_fn XK _ (beq_iff_eq.mp c2)).here (wpAny_pure (by exact last1)))
  · exact wpAny_tryCatch (wpAny_bind ((bind_fn XK _ (beq_iff_eq.mp c2)).here (wpAny_pure (by exact last1))))
open PySem.W in
theorem reprUnder_K {b : Nat} {Z : Str → Shared → Prop} (hz : b ≤ sizeLine) (hu : A.units < cLine) (XK : K.In s.heap) (J : InstAt s.heap x ox C od) (c1 : findIn K (.ref C) "__repr__" = some (some (.ref f))) (c2 : isFn K (.ref f) = true)
    (go : wpAny (model prog w) A (call (.ref f) [.ref x]) (fun v s' => ∃ t u, v = .str t u ∧ Z t s') E s) : wpAny (model prog w) A (pyReprUnder b (.ref x)) Z E s := by
  refine wpAny_pyReprUnder_ref hz ?_
  unfold pyReprObjUnder pyReprObjBy
  refine wpAny_bind (wpAny_cRoomFor hu ?_)
  refine wpAny_bind (wpAny_bind (J.type.here ((looks_findIn XK c1).here ?_)))
  show wpAny _ _ (if (some (Value.ref f)).isNone = true then _ else _) _ _ _
  rw [if_neg (by simp)]
  refine wpAny_bind (m := callSpecialIfBoundBy? _ (.ref x) (Str.ofString "__repr__")) (boundBy_K XK J c1 c2 ?_)
  refine wpAny_mono go (fun v s' y => ?_) fun _ _ y => y
  obtain ⟨t, u, rfl, q⟩ := y
  exact wpAny_bind (wpAny_isInstance (T := "str") (b := true) rfl isSubtype_str_str (wpAny_pure ⟨_, _, rfl, q⟩))
end
/-- an item and its text -/
def ItOk (P : Program) (w : World) (C : Addr) (sp : Sp) (H : Hp) (v : V) (t : Str) : Prop :=
  (∀ u, RelV v u → ReprIs P w u t) ∨ ∃ (a dx : Addr) (fs : List (Str × V)), v = .ref a ∧ H a = some (.ins C dx fs) ∧ ∀ H', Same H H' → ∀ Q : VK, Q (.str t) H' → sp [.ref a] H' Q E0
section
variable {X : Cx}
theorem frames_loop (A : Around) (args : Args) : (A.under (.builtin "list.__repr__.loop" args)).frames = A.frames ∧ (A.under (.builtin "list.__repr__.loop" args)).handled = A.handled ∧ (A.under (.builtin "list.__repr__.loop" args)).depth ≤ A.depth + 1 := by
  refine ⟨?_, ?_, ?_⟩ <;> first | rfl | simp [Around.under, Code.weight, Code.isCreation, Code.isGuard, Code.isCaller, Code.frames, Code.isFrame, guardIds]
theorem strs_done : ∀ (ts : List Str) (us : List Value), Vals (ts.map V.str) us → ∃ dn : List (Str × Tok), us = strValues dn ∧ dn.map (·.1) = ts
  | [], us, r => by cases r; exact ⟨[], rfl, rfl⟩
  | t :: ts, us, r => by
    cases r with
    | cons r1 r2 =>
      obtain ⟨tk, rfl⟩ := r1
      obtain ⟨dn, rfl, e⟩ := strs_done ts _ r2
      exact ⟨(t, tk) :: dn, rfl, by rw [List.map_cons, e]⟩
theorem vals_at : ∀ {xs : List V} {us : List Value}, Vals xs us → ∀ (i : Nat) (v : V), xs[i]? = some v → ∃ u, us[i]? = some u ∧ RelV v u
  | _, _, .nil, i, v, e => by simp at e
  | _, _, .cons r1 r2, 0, v, e => ⟨_, rfl, by cases e; exact r1⟩
  | _, _, .cons r1 r2, i + 1, v, e => vals_at r2 i v e
theorem loop {C : Addr} {sp : Sp} {ps : List Str} {n : Nat} (c : OwnM X.prog X.w X.K X.mg X.base n C "__repr__" ps sp) {A : Around} (hfr : A.frames = X.A.frames) (hh : A.handled = none) (hd : A.depth + 1 + 3 * n + 5 < recursionLimit) (hu : A.units + 1 + 16 * n + 200 < cLine)
    {p P : Addr} {vs : List V} {ts : List Str} {H0 : Hp} (len : ts.length = vs.length) (sz : (listText ts).length ≤ sizeLine) (its : ∀ (i : Nat) (v : V) (t : Str), vs[i]? = some v → ts[i]? = some t → ItOk X.prog X.w C sp H0 v t) (nP : H0 P = none) (hp : H0 p = some (.lst vs)) {pins : List (Addr × Obj)} {σ : L2.St} {R : Result → Shared → Prop}
    (last : ∀ H' s' u, Same H0 H' → Inv X pins σ H' s' → R (.ok (.ret (.str (listText ts) u))) s') :
    ∀ (k i : Nat) (s : Shared) (H : Hp), vs.length - i = k → i ≤ vs.length → Same H0 H → Inv X pins σ H s → H P = some (.lst ((ts.take i).map V.str)) →
      codeAny (model X.prog X.w) A (.builtin "list.__repr__.loop" ⟨[.ref p, rawInt i, .ref P, rawInt ((piled (ts.take i) : Nat) : Int)], []⟩) R s := by
  obtain ⟨g, fd, hs, hf, F, bind⟩ := c.ex
  have tl := textFrom_len ts 0 "["
  have sl : (listText ts).length = (textFrom 0 "[" ts).length + 1 := by
    show (textFrom 0 "[" ts ++ "]").length = _
    rw [strLen_append]; rfl
  have s2 : ∀ t ∈ ts, t.length ≤ sizeLine := fun t ht => by
    have := tl.2.1 t ht
    omega
  have pl := piled_le_listText ts
  intro k
  induction k with
  | zero =>
    intro i s H hk hi sm inv eP
    have hin : i = vs.length := by omega
    obtain ⟨us, rv, ⟨ob, nb, ho, hc, _, hdt⟩, _⟩ := inv.list (SqL.of (sm _ _ hp))
    obtain ⟨z2, us2, n2, r2, l2, e2⟩ := inv.lstM eP
    have lu := rv.length
    refine codeAny_builtin PySem.F.entry_list_repr_loop ?_
    show wpAny _ _ (Builtin.«list.__repr__.loop» ⟨[.ref p, .int i 0, .ref P, .int ((piled (ts.take i) : Nat) : Int) 0], []⟩) _ _ s
    rw [repr_loop_tree]
    refine wpAny_bind (wpAny_listItems ho hdt ?_)
    have hno : us.toArray[(i : Int).toNat]? = none := by simp [hin, lu]
    simp only [hno]
    unfold reprEnd
    refine wpAny_bind (wpAny_listItems e2 rfl ?_)
    rw [hin, ← len, List.take_length] at r2
    obtain ⟨dn, rfl, ed⟩ := strs_done ts us2 r2
    rw [repr_fold, ed]
    refine wpAny_bind (wpAny_pure ?_)
    refine wpAny_bind (wpAny_mkStr (wpAny_pure ?_) sz)
    exact last H _ _ sm (inv.tok _)
  | succ k ih =>
    intro i s H hk hi sm inv eP
    have hlt : i < vs.length := by omega
    obtain ⟨us, rv, ⟨ob, nb, ho, hc, _, hdt⟩, _⟩ := inv.list (SqL.of (sm _ _ hp))
    have lu := rv.length
    have ev : vs[i]? = some vs[i] := List.getElem?_eq_getElem hlt
    have et : ts[i]? = some (ts[i]'(by omega)) := List.getElem?_eq_getElem (by omega)
    obtain ⟨u, eu, ru⟩ := vals_at rv i _ ev
    have it := its i _ _ ev et
    generalize ts[i]'(by omega) = t at et it
    generalize vs[i] = v at ev ru it
    have p1 := piled_take_succ et
    have p2 := piled_take_le ts (i + 1)
    refine codeAny_builtin PySem.F.entry_list_repr_loop ?_
    show wpAny _ _ (Builtin.«list.__repr__.loop» ⟨[.ref p, .int i 0, .ref P, .int ((piled (ts.take i) : Nat) : Int) 0], []⟩) _ _ s
    rw [repr_loop_tree]
    refine wpAny_bind (wpAny_listItems ho hdt ?_)
    have hso : us.toArray[(i : Int).toNat]? = some u := by simpa using eu
    simp only [hso]
    rw [Int.toNat_natCast]
    have rest : ∀ s', Inv X pins σ H s' → wpAny (model X.prog X.w) (A.under (.builtin "list.__repr__.loop" ⟨[.ref p, rawInt i, .ref P, rawInt ((piled (ts.take i) : Nat) : Int)], []⟩)) (do
        let r ← mkStr t
        Builtin.List.listUpdate (.ref P) (·.push r)
        again (.builtin "list.__repr__.loop" ⟨[.ref p, rawInt (i + 1), .ref P, rawInt ((piled (ts.take i) + (t.length + 2) : Nat) : Int)], []⟩))
        (fun fin s' => match fin with | .done f => R (.ok f) s' | .again c' => c'.quiet = true ∧ codeAny (model X.prog X.w) A c' R s') (fun e s' => R (.error e) s') s' := by
      intro s' inv'
      obtain ⟨z2, us2, n2, r2, l2, e2⟩ := inv'.lstM eP
      have l3 := r2.length
      have l4 : ((ts.take i).map V.str).length ≤ i := by simp; omega
      have l5 : i < sizeLine := by
        have := tl.1
        rw [if_neg (Nat.lt_irrefl 0)] at this
        omega
      refine wpAny_bind (wpAny_mkStr ?_ (s2 t (List.mem_of_getElem? et)))
      refine wpAny_bind ?_
      show wpAny _ _ (updateSeq P _) _ _ _
      refine wpAny_updateSeq e2 rfl (wpAny_pure ⟨PySem.F.quiet_list_repr_loop _, ?_⟩) (by rw [List.size_toArray]; omega)
      have a1 : ((i : Int) + 1) = ((i + 1 : Nat) : Int) := by omega
      have a2 : piled (ts.take i) + (t.length + 2) = piled (ts.take (i + 1)) := by omega
      rw [a1, a2]
      refine ih (i + 1) _ (upd H P (.lst ((ts.take (i + 1)).map V.str))) (by omega) hlt (same_mut sm nP) ?_ upd_same
      refine inv'.lset (its' := us2 ++ [.str t s'.toks]) eP e2 (by simp) ?_ (by simp; omega)
      rw [List.take_add_one, et, List.map_append]
      exact r2.append (.cons ⟨_, rfl⟩ .nil)
    rcases it with it | ⟨a, dx, fs, rfl, ha, it⟩
    · refine wpAny_bind (wpAny_holding (it u ru (piled (ts.take i) + 1) (by omega) _ _ _ _ fun tk => ?_))
      exact rest _ (inv.tok _)
    · obtain rfl : u = Value.ref a := ru
      obtain ⟨oo, J⟩ := inst_of inv (sm _ _ ha)
      have fl := frames_loop A ⟨[.ref p, rawInt i, .ref P, rawInt ((piled (ts.take i) : Nat) : Int)], []⟩
      have ul := units_under_list_loop A ⟨[.ref p, rawInt i, .ref P, rawInt ((piled (ts.take i) : Nat) : Int)], []⟩
      refine wpAny_bind (wpAny_holding (reprUnder_K (by omega) (by rw [ul]; omega) inv.kIn J hs hf ?_))
      have e0 := inv.env0
      refine wpAny_mono (run0 (E' := fun e s' => R (.error e) s') (xs := [.ref a]) F ⟨by rw [fl.2.1]; exact hh, by have := fl.2.2; omega, by rw [ul]; omega⟩ ⟨by rw [fl.1, hfr]; exact e0.frames, e0.mod, e0.bs, e0.bsz, e0.funs, e0.frf, e0.hok, e0.bare⟩ bind inv (.cons rfl .nil) (it H sm (fun v' H' => v' = .str t ∧ H' = H) ⟨rfl, rfl⟩)) (fun v' st y => ?_) fun _ _ y => y
      obtain ⟨w', H', inv2, rw', e1, e2⟩ := y
      subst e1 e2
      obtain ⟨tk, rfl⟩ := (show ∃ tk, v' = Value.str t tk from rw')
      exact ⟨t, tk, rfl, rest _ inv2⟩
def rReprL (P : Program) (w : World) (C : Addr) (sp : Sp) : List V → Hp → VK → Prop := fun xs H Q => ∃ (p : Addr) (vs : List V) (ts : List Str), xs = [.ref p] ∧ H p = some (.lst vs) ∧ vs ≠ [] ∧ ts.length = vs.length ∧ (listText ts).length ≤ sizeLine ∧
  (∀ (i : Nat) (v : V) (t : Str), vs[i]? = some v → ts[i]? = some t → ItOk P w C sp H v t) ∧ ∀ H', Same H H' → Q (.str (listText ts)) H'
theorem call_reprL {C : Addr} {sp : Sp} {ps : List Str} {n : Nat} (c : OwnM X.prog X.w X.K X.mg X.base n C "__repr__" ps sp) (fr : Free X.A) (room : Room (n + 1) X.A) : CallR X (.builtin "repr") (rReprL X.prog X.w C sp) := by
  intro pins st σ h xs us Z inv rel pre
  obtain ⟨p, vs, ts, rfl, hp, ne, len, sz, its, z⟩ := pre
  obtain ⟨u, rfl, rv⟩ := vals_one rel
  obtain rfl : u = Value.ref p := rv
  obtain ⟨us, rl, ⟨ob, nb, ho, hc, hsl, hd⟩, _⟩ := inv.list (SqL.of hp)
  have ty : st.TypeIs (.ref p) "list" := ⟨_, ho, hc⟩
  have un := room.un
  have dp := room.dp
  refine KG.repr_slot (by omega) ty PySem.F.slot_list_repr.toG ?_
  refine wpAny_callSpecialIfBound?_slot (name := Str.ofString "__repr__") ty PySem.F.slot_list_repr ?_
  cases us with
  | nil =>
    cases rl
    exact absurd rfl ne
  | cons u1 us =>
    refine wpAny_call (codeAny_call_builtin PySem.F.slot_list_repr.plain PySem.F.entry_list_repr (PySem.F.slot_list_repr.check _ _ _ _ _ _ _ _ ty (PySem.F.args_list_repr_1 _) ?_))
    refine wpAny_list_repr_head (A := X.A.in1.in1) (g := []) fr (fun v rest kw m => absurd m List.not_mem_nil) ho hd ?_
    refine wpAny_bind (m := newList []) (wpAny_newObj_type ?_)
    refine wpAny_pure ⟨PySem.F.quiet_list_repr_loop _, ?_⟩
    have fresh : h st.heap.objs.size = none := inv.hok.fresh (Nat.le_refl _)
    refine loop c (A := X.A.in1) (pins := pins) (σ := σ) rfl room.hd (show X.A.depth + 1 + 3 * n + 5 < _ by omega) (show X.A.units + 1 + 1 + 16 * n + 200 < _ by omega) (P := st.heap.objs.size) len sz its fresh hp (fun H' s' u sm inv' => ?_) _ 0 _ (upd h st.heap.objs.size (.lst [])) rfl (Nat.zero_le _) (same_new fresh) ?_ upd_same
    · exact ⟨_, _, rfl, .str (listText ts), H', inv', ⟨u, rfl⟩, z H' sm⟩
    · exact inv.lnew (its := []) .nil (Nat.zero_le _)
/-- one of two ways -/
theorem call_or {f : Value} {r1 r2 : List V → Hp → VK → Prop} (c1 : CallR X f r1) (c2 : CallR X f r2) : CallR X f (fun xs H Q => r1 xs H Q ∨ r2 xs H Q) := by
  intro pins st σ h xs us Z inv rel pre
  rcases pre with pre | pre
  · exact c1 pins st σ h xs us Z inv rel pre
  · exact c2 pins st σ h xs us Z inv rel pre
end
end KP
/-! ### classmethods; cls(..) -/
namespace KP
open PySem PySem.Spec PyProof.Rows L2 KB KG KO KY
section
variable {X : Cx}
structure CalleeC (P : Program) (w : World) (K : PySem.W.Frag) (mg : Str → Option Value) (base : Heap) (CX : CXT) (k : Nat) (C : Addr) (m : Str) (sp : Sp) : Prop where
  ex : ∃ (mc : Value) (p g : Addr), ClX.CRead K C mc ∧ ClX.CMet K C mc m p g ∧ FnR P w K mg base CX k g sp
theorem pe_cmethC {pl : Sem Bool} {CX : CXT} {k : Nat} {C : Addr} {m : Str} {sp : Sp} {E : XK} {o e : Expr} {es : List Expr} {apos pos : Pos} {ta : TE} {t : TA} (c : CalleeC X.prog X.w X.K X.mg X.base CX k C m sp) (ho : PE X o ta) (room : Room k X.A) (pass : Passes CX X E) (ha : PA X (e :: es) t)
    (d1 : starEach (e :: es) X.env = (false, eval e X.env) :: starEach es X.env := by rfl) (d2 : (backTo pos (starEach es X.env)).any (·.1) = false := by rfl)
    (d3 : eval (.Call (.Attribute o m apos) (e :: es) [] pos) X.env = (do
      let ov ← eval o X.env
      standAt apos.atName
      let (f, first) ← holding [ov] (getMethod ov m pl)
      callWith pos f first (backTo pos (starEach (e :: es) X.env)) (backToKw pos (keywordEach [] X.env))) := by rfl) :
    PE X (.Call (.Attribute o m apos) (e :: es) [] pos) (ClX.tCMeth C sp E ta t) := by
  obtain ⟨mc, p, g, r, cm, F⟩ := c.ex
  exact ClX.pe_cmeth ho r cm F room pass ha d1 d2 d3
def tMakeL (C : Addr) (sp : Sp) (E : XK) (tf : TE) (t : TA) : TE := fun σ H Q => tf σ H fun v H1 => v = .ref C ∧ tMake C sp [] E t σ H1 Q
theorem pe_makeL {CX : CXT} {k : Nat} {C : Addr} {x y : Str} {ps : List Str} {sp : Sp} {E : XK} {e : Expr} {es : List Expr} {p pos : Pos} {tf : TE} {t : TA} (c : CalleeI X.prog X.w X.K X.mg X.base CX k C y ps sp) (room : Room (k + 1) X.A) (pass : Passes CX X E) (hn : PE X (.Name x p) tf) (ha : PA X (e :: es) t)
    (d1 : starEach (e :: es) X.env = (false, eval e X.env) :: starEach es X.env := by rfl) (d2 : (backTo pos (starEach es X.env)).any (·.1) = false := by rfl) :
    PE X (.Call (.Name x p) (e :: es) [] pos) (tMakeL C sp E tf t) := by
  obtain ⟨f, fd, F, M, hm, hb⟩ := c.ex
  refine ⟨fun pins s σ H Q I h => wpAny_Call_Name_kw (thn (hn.run pins s σ H _ I h) fun u s1 r => ?_)⟩
  obtain ⟨v, H1, I1, rv, rfl, z⟩ := r
  obtain rfl : u = Value.ref C := rv
  refine PySem.W.callWith_K (h₀ := X.base) I1.ok.mod.kin M.kp (thn (ha.run pos pins s1 σ H1 _ I1 z) fun us s2 y => ?_) d1 d2
  obtain ⟨vs, H2, I2, r2, q2⟩ := y
  exact ⟨I2.kIn, run_make M F room hb .nil pass I2 r2 q2⟩
end
theorem r_cmeth {σ : L2.St} {H : Hp} {Q : VK} {C : Addr} {sp : Sp} {E : XK} {ta : TE} {t : TA} (q : ta σ H fun x H1 => x = .ref C ∧ t σ H1 fun vs H2 => sp (.ref C :: vs) H2 Q E) : ClX.tCMeth C sp E ta t σ H Q := q
theorem r_makeL {σ : L2.St} {H : Hp} {Q : VK} {C : Addr} {sp : Sp} {E : XK} {tf : TE} {t : TA} (q : tf σ H fun v H1 => v = .ref C ∧ tMake C sp [] E t σ H1 Q) : tMakeL C sp E tf t σ H Q := q
end KP

/-! KS: lists of texts compared; small helpers. -/
namespace KS
open PySem PySem.Spec PyProof.Rows L2 KB KG KO KY
theorem dp_strs {K : PySem.W.Frag} {H : Hp} : ∀ zs : List Str, DpAll K H (zs.map V.str) (zs.map PyData.str)
  | [] => .nil
  | z :: r => .cons (.str z) (dp_strs r)
theorem lay_strs : ∀ zs : List Str, (∀ z ∈ zs, PyData.strOk z = true) → PyData.canLayAll0 (zs.map PyData.str) = true
  | [], _ => rfl
  | n :: r, h => by
    show (PyData.canLay0 (.str n) && PyData.canLayAll0 (r.map PyData.str)) = true
    rw [lay_strs r fun z m => h z (List.mem_cons_of_mem _ m)]
    simp [PyData.canLay0, h n (List.mem_cons_self ..)]
theorem depth_strs : ∀ zs : List Str, PyData.depthAll (zs.map PyData.str) = 0
  | [] => rfl
  | n :: r => by
    show max (PyData.depth (.str n)) (PyData.depthAll (r.map PyData.str)) = 0
    rw [depth_strs r]; rfl
theorem shaped_strs {zs : List Str} (h : ∀ z ∈ zs, PyData.strOk z = true) : SeqAt.shaped (.list (zs.map PyData.str)) = true := by
  show (PyData.canLayAll0 (zs.map PyData.str) && decide (PyData.depthAll (zs.map PyData.str) + 1 ≤ 64)) = true
  rw [lay_strs zs h, depth_strs]; rfl
theorem eqv_strs : ∀ ns ms : List Str, PyData.eqvAll (ns.map PyData.str) (ms.map PyData.str) = decide (ns = ms)
  | [], [] => rfl
  | [], _ :: _ => rfl
  | _ :: _, [] => rfl
  | n :: r, m :: q => by
    show (PyData.eqv (.str n) (.str m) && PyData.eqvAll (r.map PyData.str) (q.map PyData.str)) = decide (n :: r = m :: q)
    rw [eqv_strs r q]
    have e : PyData.eqv (.str n) (.str m) = decide (n = m) := by
      simp only [PyData.eqv]
      by_cases h : n = m <;> simp [h]
    rw [e]
    by_cases h1 : n = m <;> by_cases h2 : r = q <;> simp [h1, h2]
theorem r_eqStrs {K : PySem.W.Frag} {H : Hp} {Q : VK} {a b : Addr} {ns ms : List Str} (h : SqL K H a (ns.map V.str)) (h' : SqL K H b (ms.map V.str)) (o1 : ∀ z ∈ ns, PyData.strOk z = true) (o2 : ∀ z ∈ ms, PyData.strOk z = true) (q : Q (.bl (decide (ns = ms))) H) : rEqD K (.ref a) (.ref b) H Q :=
  ⟨_, _, .lst h (dp_strs ns), .lst h' (dp_strs ms), shaped_strs o1, shaped_strs o2, (show Q (.bl (PyData.eqvAll (ns.map PyData.str) (ms.map PyData.str))) H by rw [eqv_strs]; exact q)⟩
theorem r_neStrs {K : PySem.W.Frag} {H : Hp} {Q : VK} {a b : Addr} {ns ms : List Str} (h : SqL K H a (ns.map V.str)) (h' : SqL K H b (ms.map V.str)) (o1 : ∀ z ∈ ns, PyData.strOk z = true) (o2 : ∀ z ∈ ms, PyData.strOk z = true) (q : Q (.bl (!decide (ns = ms))) H) : rNeD K (.ref a) (.ref b) H Q :=
  ⟨_, _, .lst h (dp_strs ns), .lst h' (dp_strs ms), shaped_strs o1, shaped_strs o2, (show Q (.bl (!PyData.eqvAll (ns.map PyData.str) (ms.map PyData.str))) H by rw [eqv_strs]; exact q)⟩
theorem r_sls {H : Hp} {Q : VK} {z : Str} {lo hi : Option Int} (h : z.length ≤ sizeLine) (q : Q (.str (cutS z lo hi)) H) : rSlS (.str z) lo hi H Q := ⟨z, rfl, h, q⟩
theorem rep_map {n : Nat} (z : Str) : (List.replicate ((n : Nat) : Int).toNat [V.str z]).flatten = (List.replicate n z).map V.str := by
  rw [Int.toNat_natCast]
  induction n with
  | zero => rfl
  | succ n ih => rw [List.replicate_succ, List.flatten_cons, ih, List.replicate_succ]; rfl
theorem all_rep {zs : List Str} {z : Str} (h : ∀ y ∈ zs, y = z) : zs = List.replicate zs.length z := List.eq_replicate_of_mem h
/-! ### repr of a value of a kind -/
section
variable {X : Cx}
def rReprOd : List V → Hp → VK → Prop := fun xs H Q => ∃ (v : V) (t : Dt), xs = [v] ∧ OdAt H v t ∧ t.d.showable = true ∧ t.d.depth ≤ 60 ∧ t.d.shown.length ≤ sizeLine ∧ Q (.str t.d.shown) H
theorem call_reprOd {k : Nat} (fr : Free X.A) (room : Room k X.A) : CallR X (.builtin "repr") rReprOd := by
  intro pins st σ h xs us Z inv rel pre
  obtain ⟨v, t, rfl, od, ok, deep, sz, z⟩ := pre
  obtain ⟨u, rfl, rv⟩ := vals_one rel
  obtain ⟨as, rd, ns⟩ := od_reads inv od rv
  by_cases nod : t.d.hasDict = false
  · exact KG.repr_data rd ok nod sz fr (by have := room.un; omega) fun h' t1 tk kp => ⟨.str t.d.shown, h, inv.kept kp, ⟨t1, rfl⟩, z⟩
  · cases t with
    | dct l =>
      obtain ⟨a, rfl, e⟩ := id od
      obtain rfl : u = Value.ref a := rv
      exact repr_of_reads' rd ok ns fr (by have := room.un; omega) (fun _ _ e => e) (fun h' t1 tk kp => ⟨.str _, h, inv.kept kp, ⟨t1, rfl⟩, z⟩) sz
    | sc s => exact absurd (noD_sc s) nod
    | tup l => exact absurd (show PyData.hasDictAll _ = false from noD_scs l) nod
    | lst l => exact absurd (show PyData.hasDictAll _ = false from noD_scs l) nod
end
end KS

/-! KT: sets of ints made of lists; enumerate over texts and tuples; keywords at own objects and classmethods. -/
namespace KT
open PySem PySem.Spec PyProof.Rows L2 KB KG KO KY
/-! ### set(l) of a list of ints -/
def freshSet (w : World) : Obj := { cls := .type "set", dict := none, data := .set #[] 0 (.fresh 0 0 (!w.params.followText "set-order")) }
section
variable {P : Program} {w : World} {A : Around} {E : Value → Shared → Prop} {s : Shared}
theorem set_ofL {l : Addr} {items : Array Value} (ns : List Int) {Z : Value → Shared → Prop} (calm : A.handled = none) (isL : s.heap.IsList l items) (allI : IntsAre items.toList ns) (few : ns.length + 1 < scanBound)
    (fin : ∀ (h' : Heap) (tk c : Nat), SetR w h' s.heap.objs.size (fun j => decide (j ∈ ns)) c → c ≤ ns.length → (∀ b o, s.heap.get? b = some o → h'.get? b = some o) → Z (.ref s.heap.objs.size) { s with heap := h', toks := tk }) :
    wpAny (model P w) A (call (.type "set") [.ref l]) Z E s := by
  have size : items.size = ns.length := (Array.length_toList ▸ allI.length : items.size = ns.length)
  obtain ⟨c0, tl0, mro0⟩ := F.called_set.mro
  have made0 := F.called_set.made
  have sub0 := F.called_set.sub
  refine wpAny_call (codeAny_of_tree ?_)
  show wpAny _ _ (callAny (.type "set") _) _ _ _
  refine wpAny_pure ⟨Code.quiet_builtin _ (by decide +kernel), codeAny_builtin F.entry_type_call ?_⟩
  rw [Around.under_plain (weight_type_call_type "set" [.ref l] []) rfl]
  have nt0 := F.called_set.notType
  have cc0 := F.called_set.canCreate
  have tc0 := F.typeCall_set_1 (.ref l)
  repeat (any_goals (first | assumption | wp_step))
  refine codeAny_mono (code_set_led1 (.ref l) (E := E) (Q₁ := fun ob s1 => ob = .ref s.heap.objs.size ∧ s1 = { s with heap := s.heap.push (freshSet w) }) ⟨rfl, rfl⟩) fun res s1 hres => ?_
  match res, hres with
  | .error e, hres => exact hres
  | .ok .next, hres => exact hres.elim
  | .ok .brk, hres => exact hres.elim
  | .ok .cont, hres => exact hres.elim
  | .ok (.ret ob), hres =>
    obtain ⟨rfl, rfl⟩ := hres
    have atS : (s.heap.push (freshSet w)).get? s.heap.objs.size = some (freshSet w) := Heap.get?_push_size _ rfl
    have tyS : Shared.TypeIs { s with heap := s.heap.push (freshSet w) } (.ref s.heap.objs.size) "set" := ⟨_, atS, rfl⟩
    have li0 := F.called_set.init.lookup
    have bi0 := F.called_set.init.bind (.ref s.heap.objs.size)
    repeat (any_goals (first | assumption | wp_step))
    refine codeAny_mono (codeAny_call_builtin (R := wants (fun u s2 => u = .none ∧ ∃ h' tk c, s2 = { s with heap := h', toks := tk } ∧ SetR w h' s.heap.objs.size (fun j => decide (j ∈ ns)) c ∧ c ≤ ns.length ∧ ∀ b o, s.heap.get? b = some o → h'.get? b = some o) E) F.called_set.init.plain F.entry_set_init (check_set_init_1 tyS ?_)) fun res2 s2 hres2 => ?_
    · obtain ⟨⟨lc, ld, lda, lsl⟩, lat, lcl, ln, ldd⟩ := isL
      simp only at lcl ldd
      subst lcl ldd
      have lat2 : (s.heap.push (freshSet w)).get? l = some { cls := .type "list", dict := ld, data := .seq items ln, slots := lsl } := Heap.get?_push_of_some _ lat
      have sls := F.sub_list_set
      have slf := F.sub_list_frozenset
      have lnd : (Value.type "list" == Value.type "dict") = false := by decide
      have isL2 : (s.heap.push (freshSet w)).IsList l items := ⟨_, lat2, rfl, ln, rfl⟩
      unfold Builtin.«set.__init__» noKeywords Builtin.Frozenset.updateFrom
      generalize hPI : pyIter = PI
      wp_walk
      subst hPI
      refine wpAny_pyIter_list isL2 ?_
      refine wpAny_bind (wpAny_runValue ?_)
      have lt0 : l < s.heap.objs.size := Heap.lt_size lat
      have calm3 : A.in1.in1.in1.handled = none := by simp [calm]
      have sz1 : (s.heap.push (freshSet w)).objs.size = s.heap.objs.size + 1 := Heap.size_push ..
      have ne1 : l ≠ (s.heap.push (freshSet w)).objs.size := by rw [sz1]; exact Nat.ne_of_lt (Nat.lt_succ_of_lt lt0)
      have off1 : s.heap.objs.size ∉ [(s.heap.push (freshSet w)).objs.size, l] := by
        rw [sz1]
        simp only [List.mem_cons, List.not_mem_nil, or_false, not_or]
        exact ⟨Nat.ne_of_lt (Nat.lt_succ_self _), Nat.ne_of_gt lt0⟩
      have vals1 : ∀ (i : Nat) (v : Value), items[i]? = some v → ∃ k t, ns[i]? = some k ∧ v = .int k t := fun i v hv => by
        have hi : i < ns.length := size ▸ (Array.getElem?_eq_some_iff.mp hv).1
        obtain ⟨t, e⟩ := PyProof.Rows.IntsAre.int_at allI i v ((Array.getElem?_toList ..).trans hv)
        refine ⟨ns[i], t, List.getElem?_eq_getElem hi, e.trans ?_⟩
        rw [List.getD_eq_getElem?_getD, List.getElem?_eq_getElem hi]
        rfl
      refine set_update_ints ((Walks.list calm3 _ l ne1 items).toS) s.heap.objs.size off1 ns size few vals1 (items.size - 0) 0 _ (by omega) (Nat.zero_le _) ⟨⟨_, Heap.get?_push_size _ rfl, rfl, rfl⟩, isL2.at fun o e => Heap.get?_push_of_some _ e⟩ ?S0 ?SR
      case S0 => exact ⟨0, Nat.le_refl 0, setR_new_at (Heap.get?_push_of_some _ atS)⟩
      case SR =>
        intro s3 c3 mv le3 R3
        obtain ⟨h3, g3, d3, tk3, os3⟩ := s3
        obtain rfl : g3 = s.gens := mv.gens
        obtain rfl : d3 = s.drawn := mv.drawn
        obtain rfl : os3 = s.os := mv.os
        show wpAny _ _ _ _ _ _
        refine wpAny_pure ?_
        show wpAny _ _ (ret Value.none) _ _ _
        refine wpAny_pure ⟨rfl, h3, tk3, c3, rfl, R3, size ▸ le3, fun b o e => ?_⟩
        have lb : b < s.heap.objs.size := Heap.lt_size e
        refine mv.heap b o ?_ (Heap.get?_push_of_some _ (Heap.get?_push_of_some _ e))
        simp only [List.mem_cons, List.not_mem_nil, or_false, not_or]
        exact ⟨Nat.ne_of_lt lb, fun z => absurd (z.trans sz1) (Nat.ne_of_lt (Nat.lt_succ_of_lt lb))⟩
    · match res2, hres2 with
      | .error e, hres2 => exact hres2
      | .ok .next, hres2 => exact hres2.elim
      | .ok .brk, hres2 => exact hres2.elim
      | .ok .cont, hres2 => exact hres2.elim
      | .ok (.ret u), hres2 =>
        obtain ⟨rfl, h3, tk3, c3, rfl, R3, le3, kp3⟩ := hres2
        repeat (any_goals (first | assumption | wp_step))
        exact fin _ _ _ R3 le3 kp3
end
section
variable {X : Cx}
def rSetOfI (K : PySem.W.Frag) (w : World) : List V → Hp → VK → Prop := fun xs H Q => ∃ (l : Addr) (ns : List Int), xs = [.ref l] ∧ (SqL K H l (ns.map V.int) ∨ SqT K H l (ns.map V.int)) ∧ ns.length ≤ 1000 ∧ ∀ p n, H p = none → n ≤ ns.length → Q (.ref p) (upd H p (SetO w p (fun j => decide (j ∈ ns)) n))
theorem cr_setOfI (calm : X.calm = true) : CallR X (.type "set") (rSetOfI X.K X.w) := by
  intro pins st σ h xs us Z inv rel pre
  obtain ⟨l, ns, rfl, sq, few, q⟩ := pre
  obtain ⟨u, rfl, rv⟩ := vals_one rel
  obtain rfl : u = Value.ref l := rv
  have hd := inv.ok.hd calm
  have fin : ∀ (h' : Heap) (tk c : Nat), SetR X.w h' st.heap.objs.size (fun j => decide (j ∈ ns)) c → c ≤ ns.length → (∀ b o, st.heap.get? b = some o → h'.get? b = some o) → EP X pins σ Z (.ref st.heap.objs.size) { st with heap := h', toks := tk } := fun h' tk c R le kp =>
    ⟨.ref _, upd h st.heap.objs.size (SetO X.w st.heap.objs.size (fun j => decide (j ∈ ns)) c), inv.laid (t' := tk) kp (Nat.le_refl _) (setO_new R), rfl, q _ c (inv.hok.fresh (Nat.le_refl _)) le⟩
  rcases sq with sq | sq
  · obtain ⟨its, r, pl, _⟩ := inv.list sq
    exact set_ofL ns hd pl.isList (by simpa using RZ.intsAre_vals r) (by unfold scanBound; omega) fin
  · obtain ⟨its, r, pt, _⟩ := inv.tuple sq
    exact call_set_tupI ns hd (show st.heap.IsTuple l its.toArray from pt) (by simpa using RZ.intsAre_vals r) (by unfold scanBound; omega) fin
/-- the ints of a list, each once, ascending -/
theorem sorted_unique {a b : List Int} (ha : a.Pairwise (· < ·)) (hb : b.Pairwise (· < ·)) (h : ∀ k, k ∈ a ↔ k ∈ b) : a = b := by
  induction a generalizing b with
  | nil =>
    cases b with
    | nil => rfl
    | cons y b => exact absurd ((h y).mpr (List.mem_cons_self ..)) List.not_mem_nil
  | cons x a ih =>
    cases b with
    | nil => exact absurd ((h x).mp (List.mem_cons_self ..)) List.not_mem_nil
    | cons y b =>
      have hx := List.pairwise_cons.mp ha
      have hy := List.pairwise_cons.mp hb
      have e : x = y := by
        rcases List.mem_cons.mp ((h x).mp (List.mem_cons_self ..)) with e | m
        · exact e
        · rcases List.mem_cons.mp ((h y).mpr (List.mem_cons_self ..)) with e | m2
          · exact e.symm
          · have := hy.1 x m; have := hx.1 y m2; omega
      subst e
      congr 1
      refine ih hx.2 hy.2 fun k => ?_
      constructor
      · intro m
        rcases List.mem_cons.mp ((h k).mp (List.mem_cons_of_mem _ m)) with e | m2
        · have := hx.1 k m; omega
        · exact m2
      · intro m
        rcases List.mem_cons.mp ((h k).mpr (List.mem_cons_of_mem _ m)) with e | m2
        · have := hy.1 k m; omega
        · exact m2
end
/-! ### enumerate over a text, over a tuple -/
def ItES (z : Str) : It := ⟨fun i _ => i < z.cps.size, fun i H v H' => ∃ T c, v = .ref T ∧ H T = none ∧ H' = upd H T (.tup [.int (i : Nat), .str ⟨#[c]⟩]) ∧ z.cps[i]? = some c, fun i _ => i = z.cps.size⟩
def ItET (K : PySem.W.Frag) (a : Addr) : It :=
  ⟨fun i H => ∃ (xs : List V) (x : V), SqT K H a xs ∧ xs[i]? = some x, fun i H v H' => ∃ T x, v = .ref T ∧ H T = none ∧ H' = upd H T (.tup [.int (i : Nat), x]) ∧ ∀ xs, SqT K H a xs → xs[i]? = some x, fun i H => ∃ xs : List V, SqT K H a xs ∧ xs.length = i⟩
section
variable {P : Program} {w : World} {K : PySem.W.Frag}
theorem two_obj {h : Heap} {e it : Addr} {oe oi : Obj} (h1 : h.get? e = some oe) (h2 : h.get? it = some oi) (n1 : ∀ v, oe.data ≠ .cell v) (n2 : ∀ v, oi.data ≠ .cell v) : ∀ b ∈ [e, it], ∃ o, h.get? b = some o ∧ ∀ v, o.data ≠ .cell v := fun b hb => by
  rcases List.mem_cons.mp hb with rfl | hb
  · exact ⟨_, h1, n1⟩
  · rw [List.mem_singleton.mp hb]; exact ⟨_, h2, n2⟩
/-- a new pair has come -/
theorem pair_new {X : Cx} {pins : List (Addr × Obj)} {σ : L2.St} {H : Hp} {s : Shared} {e it : Addr} {x : V} {u : Value} {i tk : Nat} {h1 h2 : Heap} (I : Inv X pins σ H s) (fp : ∀ b ∈ [e, it], FpOk X pins H b) (le : e < s.heap.objs.size) (li : it < s.heap.objs.size) (ru : RelV x u)
    (pr : h1.get? s.heap.objs.size = some { cls := .type "tuple", data := .seq #[.int i tk, u] }) (kp : ∀ b o, b ≠ e → b ≠ it → s.heap.get? b = some o → h1.get? b = some o) (sb : Heap.SameBut e h1 h2) :
    Inv X pins σ (upd H s.heap.objs.size (.tup [.int (i : Nat), x])) { s with heap := h2, toks := tk + 1 } ∧ H s.heap.objs.size = none ∧ ∀ b ∈ [e, it], upd H s.heap.objs.size (.tup [.int (i : Nat), x]) b = none := by
  have pr2 := (sb.2 _ (Nat.ne_of_gt le)).trans pr
  have ok : ObjOk X.prog X.w (upd H s.heap.objs.size (.tup [.int (i : Nat), x])) h2 s.heap.objs.size (.tup [.int (i : Nat), x]) := ⟨(by show 2 ≤ sizeLine; decide), [.int i tk, u], .cons ⟨_, rfl⟩ (.cons ru .nil), ⟨_, pr2, rfl, _, rfl⟩⟩
  refine ⟨I.turnedNew (ch := [e, it]) (fun b ob hb q => (sb.2 b (fun z => hb (by simp [z]))).trans (kp b ob (fun z => hb (by simp [z])) (fun z => hb (by simp [z])) q)) fp (Nat.le_refl _) ok, I.hok.fresh (Nat.le_refl _), fun b hb => ?_⟩
  have lb : b < s.heap.objs.size := by
    rcases List.mem_cons.mp hb with rfl | hb
    · exact le
    · rw [List.mem_singleton.mp hb]; exact li
  rw [upd_ne (Nat.ne_of_lt lb)]
  exact (fp b hb).1
theorem turn_enumS {elts : List Expr} {kk : Nat} {tpos : Pos} (z : Str) (t : Tok) (e it : Addr) :
    Turn P w K (.Tuple elts kk tpos) (ItES z) [e, it] e (fun i h => (∃ old, IsEnum h e it ((i : Nat) : Int) old) ∧ h.IsStrIter it (strIterType z) z t i ∧ e ≠ it) where
  mem := List.mem_cons_self
  obj := fun i h st => by
    obtain ⟨⟨old, he⟩, ⟨o, ho, _, hd⟩, _⟩ := st
    exact two_obj he ho (fun v q => nomatch q) (fun v q => by rw [hd] at q; cases q)
  keep := fun i h h' st k => by
    obtain ⟨⟨old, he⟩, ⟨o, ho, r⟩, ne⟩ := st
    exact ⟨⟨old, k e (by simp) _ he⟩, ⟨o, k it (by simp) o ho, r⟩, ne⟩
  item := by
    intro X e1 e2 e3 calm i pins s σ H E I fp st go
    subst e1 e2 e3
    obtain ⟨⟨old, he⟩, hit, ne⟩ := st
    have li : it < s.heap.objs.size := by obtain ⟨_, q, _⟩ := hit; exact Heap.lt_size q
    have hd : X.A.in1.handled = none := I.ok.hd calm
    refine wpAny_pyNext_enum_itemD (Draws.text hd it z t) he hit go ne (by simpa using ne) fun x h1 tk hx out hit1 pr _ kp => ?_
    obtain ⟨c, u, hc, rfl⟩ := hx
    refine ⟨_, rfl, wpAny_letOwnedTupleGo_enum (s := { s with heap := h1, toks := tk + 1 }) out fun h2 he2 sb => ?_⟩
    obtain ⟨I2, fr, no⟩ := pair_new (x := .str ⟨#[c]⟩) I fp (Heap.lt_size he) li ⟨u, rfl⟩ pr kp sb
    refine ⟨.ref s.heap.objs.size, _, I2, rfl, ⟨_, c, rfl, fr, rfl, hc⟩, ⟨⟨_, he2⟩, ?_, ne⟩, no⟩
    obtain ⟨o, ho, r⟩ := hit1
    exact ⟨o, (sb.2 it (Ne.symm ne)).trans ho, r⟩
  done := by
    intro X e1 e2 e3 calm i pins s σ H E I fp st stop
    subst e1 e2 e3
    obtain ⟨⟨old, he⟩, hit, ne⟩ := st
    obtain ⟨f0, f1, f2, f3, f4, f5⟩ := fp it (by simp)
    have hd : X.A.in1.handled = none := I.ok.hd calm
    refine wpAny_pyNext_enum_endD (Draws.text hd it z t) he (stop ▸ hit) fun h' eb => ⟨rfl, I.turned (t' := s.toks) (fun b o hb q => eb b o hb q) f0 f1 f3 f4 f5⟩
  self := fun A i s Q E st h => by
    obtain ⟨⟨_, he⟩, _⟩ := st
    exact wpAny_pyIter_enum he h
theorem turn_enumT {elts : List Expr} {kk : Nat} {tpos : Pos} (a e it : Addr) :
    Turn P w K (.Tuple elts kk tpos) (ItET K a) [e, it] e (fun i h => (∃ old, IsEnum h e it ((i : Nat) : Int) old) ∧ h.IsTupleIter it a i ∧ e ≠ it ∧ e ≠ a ∧ a ≠ it) where
  mem := List.mem_cons_self
  obj := fun i h st => by
    obtain ⟨⟨old, he⟩, ⟨o, ho, _, hd⟩, _⟩ := st
    exact two_obj he ho (fun v q => nomatch q) (fun v q => by rw [hd] at q; cases q)
  keep := fun i h h' st k => by
    obtain ⟨⟨old, he⟩, ⟨o, ho, r⟩, ne⟩ := st
    exact ⟨⟨old, k e (by simp) _ he⟩, ⟨o, k it (by simp) o ho, r⟩, ne⟩
  item := by
    intro X e1 e2 e3 calm i pins s σ H E I fp st go
    subst e1 e2 e3
    obtain ⟨⟨old, he⟩, hit, ne, nea, nai⟩ := st
    obtain ⟨xs, x, sq, hx⟩ := go
    obtain ⟨its, rv, pt, _⟩ := I.tuple sq
    obtain ⟨u, hu, ru⟩ := rv.get hx
    have li : it < s.heap.objs.size := by obtain ⟨_, q, _⟩ := hit; exact Heap.lt_size q
    have hd : X.A.in1.handled = none := I.ok.hd calm
    have lt : i < its.toArray.size := by
      rw [List.size_toArray]
      exact (List.getElem?_eq_some_iff.mp hu).1
    refine wpAny_pyNext_enum_itemD (Draws.tuple hd it a nai its.toArray) he ⟨hit, (show s.heap.IsTuple a its.toArray from pt)⟩ lt ne (by simp [ne, nea]) fun y h1 tk hy out hit1 pr _ kp => ?_
    obtain rfl : y = u := by
      have hy' : its.toArray[i]? = some y := hy
      rw [List.getElem?_toArray, hu] at hy'
      exact (Option.some.inj hy').symm
    refine ⟨_, rfl, wpAny_letOwnedTupleGo_enum (s := { s with heap := h1, toks := tk + 1 }) out fun h2 he2 sb => ?_⟩
    obtain ⟨I2, fr, no⟩ := pair_new (x := x) I fp (Heap.lt_size he) li ru pr kp sb
    refine ⟨.ref s.heap.objs.size, _, I2, rfl, ⟨_, x, rfl, fr, rfl, fun ys hy2 => ?_⟩, ⟨⟨_, he2⟩, ?_, ne, nea, nai⟩, no⟩
    · rw [I.tuple_inj hy2 sq]; exact hx
    · obtain ⟨o, ho, r⟩ := hit1.1
      exact ⟨o, (sb.2 it (Ne.symm ne)).trans ho, r⟩
  done := by
    intro X e1 e2 e3 calm i pins s σ H E I fp st stop
    subst e1 e2 e3
    obtain ⟨⟨old, he⟩, hit, ne, nea, nai⟩ := st
    obtain ⟨xs, sq, hl⟩ := stop
    obtain ⟨its, rv, pt, _⟩ := I.tuple sq
    obtain ⟨f0, f1, f2, f3, f4, f5⟩ := fp it (by simp)
    have hd : X.A.in1.handled = none := I.ok.hd calm
    have sz : its.toArray.size = i := by rw [List.size_toArray, ← rv.length, hl]
    refine wpAny_pyNext_enum_endD (Draws.tuple hd it a nai its.toArray) he ⟨sz ▸ hit, (show s.heap.IsTuple a its.toArray from pt)⟩ fun h' eb => ⟨rfl, I.turned (t' := s.toks) (fun b o hb q => eb b o hb q) f0 f1 f3 f4 f5⟩
  self := fun A i s Q E st h => by
    obtain ⟨⟨_, he⟩, _⟩ := st
    exact wpAny_pyIter_enum he h
end
section
abbrev iterT (l : Addr) : Obj := { cls := .type "tuple_iterator", data := .fields #[.ref l, .int 0 0] }
abbrev enumO (n : Addr) : Obj := { cls := .type "enumerate", data := .fields #[.none, .bool false, .ref n, rawInt 0, .none, .none] }
open AutoSeq1 (wpAny_loadPart') in
theorem enum_newT (l : Addr) (items : Array Value) (n : Nat) (dct : Option Addr) (sl : Array (Option Value)) :
    Meets (Builtin.«enumerate.__new__» ⟨[.type "enumerate", .ref l], []⟩) (fun _ R s => s.heap.get? l = some { cls := .type "tuple", dict := dct, data := .seq items n, slots := sl } ∧
      R (.ok (.ret (.ref (s.heap.push (iterT l)).objs.size))) { s with heap := (s.heap.push (iterT l)).push (enumO s.heap.objs.size) }) :=
  .of_wp fun prog w A R s pre => by
    obtain ⟨hp, g, d, tk, os⟩ := s
    obtain ⟨at0, fin⟩ := pre
    have sub0 := sub_enumerate
    have isT : Heap.IsTuple (Shared.heap ⟨hp, g, d, tk, os⟩) l items := ⟨_, at0, rfl, n, rfl⟩
    wp_walk using wpAny_loadPart' at0
    refine wpAny_stack_any fun stk => wpAny_pure ?_
    split
    · rename_i cl _ _ _ _ _
      cases (cl == Value.type "enumerate")
      · wp_walk using wpAny_loadPart' at0, wpAny_pyIter_tuple isT
        exact ⟨_, rfl, fin⟩
      · wp_walk using wpAny_loadPart' at0, wpAny_pyIter_tuple isT
        exact ⟨_, rfl, fin⟩
    · wp_walk using wpAny_loadPart' at0, wpAny_pyIter_tuple isT
      exact ⟨_, rfl, fin⟩
theorem enum_tuple {prog : Program} {w : World} {A : Around} {E : Value → Shared → Prop} {s : Shared} {l : Addr} {items : Array Value} {Z : Value → Shared → Prop} (isT : s.heap.IsTuple l items)
    (fin : ∀ h', IsEnum h' (s.heap.objs.size + 1) s.heap.objs.size 0 .none → h'.IsTupleIter s.heap.objs.size l 0 → (∀ b o, s.heap.get? b = some o → h'.get? b = some o) → Z (.ref (s.heap.objs.size + 1)) { s with heap := h' }) :
    wpAny (model prog w) A (call (.type "enumerate") [.ref l]) Z E s := by
  obtain ⟨⟨oc, od, oda, osl⟩, at0, oc1, n, od1⟩ := isT
  simp only at oc1 od1
  subst oc1 od1
  refine callType_new F.called_enumerate (by decide) (F.typeCall_enumerate_1 _) (F.newCall_enumerate_1 _) (fun ob => F.args_object_init_2 ob _) F.entry_enumerate_new (enum_newT l items n od osl) ⟨at0, ?_⟩
  have sz : (s.heap.push (iterT l)).objs.size = s.heap.objs.size + 1 := Heap.size_push ..
  show _ ∧ _
  rw [sz]
  have en : IsEnum ((s.heap.push (iterT l)).push (enumO s.heap.objs.size)) (s.heap.objs.size + 1) s.heap.objs.size 0 .none := by
    have z := Heap.get?_push_size (s.heap.push (iterT l)) (o := enumO s.heap.objs.size) rfl
    rw [sz] at z
    exact z
  exact ⟨⟨_, en, rfl⟩, fin _ en ⟨_, Heap.get?_push_of_some _ (Heap.get?_push_size _ rfl), rfl, rfl⟩ fun b o x => Heap.get?_push_of_some _ (Heap.get?_push_of_some _ x)⟩
end
section
variable {X : Cx} {e : Expr} {ta : TA} {p pos tpos : Pos} {elts : List Expr} {kk : Nat}
def iEnumS (ta : TA) : TI := fun σ H R => ta σ H fun vs H1 => ∃ z, vs = [.str z] ∧ R (ItES z) H1
def iEnumT (K : PySem.W.Frag) (ta : TA) : TI := fun σ H R => ta σ H fun vs H1 => ∃ a xs, vs = [.ref a] ∧ SqT K H1 a xs ∧ R (ItET K a) H1
theorem two_new {pins : List (Addr × Obj)} {σ : L2.St} {H : Hp} {s : Shared} (I : Inv X pins σ H s) : ∀ b ∈ [s.heap.objs.size + 1, s.heap.objs.size], FpOk X pins H b := fun b hb => by
  have le : s.heap.objs.size ≤ b := by
    rcases List.mem_cons.mp hb with rfl | hb
    · exact Nat.le_add_right _ _
    · rw [List.mem_singleton.mp hb]; exact Nat.le_refl _
  exact I.fpOk le (I.hok.fresh le)
theorem pi_enumS (hg : Gl X "enumerate") (hm : X.mg "enumerate" = none) (ha : PA X [e] ta) (hs : starEach [e] X.env = [(false, eval e X.env)] := by rfl) : PI X (.Tuple elts kk tpos) (.Call (.Name "enumerate" p) [e] [] pos) (iEnumS ta) := by
  refine ⟨fun pins s σ H R I h => ?_⟩
  refine Call_ (ld_blt I hg hm boot_enumerate (PyProof.Rows.callWith_type1 (thn (ha.run pos pins s σ H _ I h) fun us s1 res => ?_) hs rfl))
  obtain ⟨vs, H1, I1, r1, z, rfl, q⟩ := res
  obtain ⟨u, rfl, ru⟩ := vals_one r1
  obtain ⟨t, rfl⟩ := (show ∃ t, u = Value.str z t from ru)
  refine call_enumerate_str fun h' en hit _ kp => wpAny_pyIter_enum en ?_
  exact ⟨s1.heap.objs.size + 1, [s1.heap.objs.size + 1, s1.heap.objs.size], _, _, H1, rfl, I1.kept (t' := s1.toks) kp, turn_enumS z t (s1.heap.objs.size + 1) s1.heap.objs.size, ⟨⟨.none, en⟩, hit, Nat.succ_ne_self _⟩, two_new I1, q⟩
theorem pi_enumT (hg : Gl X "enumerate") (hm : X.mg "enumerate" = none) (ha : PA X [e] ta) (hs : starEach [e] X.env = [(false, eval e X.env)] := by rfl) : PI X (.Tuple elts kk tpos) (.Call (.Name "enumerate" p) [e] [] pos) (iEnumT X.K ta) := by
  refine ⟨fun pins s σ H R I h => ?_⟩
  refine Call_ (ld_blt I hg hm boot_enumerate (PyProof.Rows.callWith_type1 (thn (ha.run pos pins s σ H _ I h) fun us s1 res => ?_) hs rfl))
  obtain ⟨vs, H1, I1, r1, a, xs, rfl, sq, q⟩ := res
  obtain ⟨u, rfl, ru⟩ := vals_one r1
  obtain rfl : u = Value.ref a := ru
  obtain ⟨its, rv, pt, _⟩ := I1.tuple sq
  have isT : s1.heap.IsTuple a its.toArray := pt
  have la : a < s1.heap.objs.size := by obtain ⟨o, ho, _⟩ := isT; exact Heap.lt_size ho
  refine enum_tuple isT fun h' en hit kp => wpAny_pyIter_enum en ?_
  exact ⟨s1.heap.objs.size + 1, [s1.heap.objs.size + 1, s1.heap.objs.size], _, _, H1, rfl, I1.kept (t' := s1.toks) kp, turn_enumT a (s1.heap.objs.size + 1) s1.heap.objs.size, ⟨⟨.none, en⟩, hit, Nat.succ_ne_self _, Nat.ne_of_gt (Nat.lt_succ_of_lt la), Nat.ne_of_lt la⟩, two_new I1, q⟩
end
/-! ### walks -/
theorem walk_enumS {z : Str} : Walk (ItES z) z.cps.size (fun _ => True) (fun i H v H' => ∃ T c, v = .ref T ∧ H T = none ∧ H' = upd H T (.tup [.int (i : Nat), .str ⟨#[c]⟩]) ∧ z.cps[i]? = some c) := ⟨fun _ _ hi _ => hi, fun _ _ => rfl, fun _ _ _ _ _ _ y => y⟩
theorem walk_enumT {K : PySem.W.Frag} {a : Addr} {xs : List V} : Walk (ItET K a) xs.length (fun H => SqT K H a xs) (fun i H v H' => ∃ T x, v = .ref T ∧ H T = none ∧ H' = upd H T (.tup [.int (i : Nat), x]) ∧ xs[i]? = some x) :=
  ⟨fun i _ hi q => ⟨xs, xs[i], q, by simp [hi]⟩, fun _ q => ⟨xs, q, rfl⟩, fun _ _ _ _ _ q y => by obtain ⟨T, x, h1, h2, h3, h4⟩ := y; exact ⟨T, x, h1, h2, h3, h4 xs q⟩⟩
/-- a loop of a generator, by the walk -/
theorem gforW {J : It} {n : Nat} {G : Hp → Prop} {Y : Nat → Hp → V → Hp → Prop} (wk : Walk J n G Y) {g : TG} {tb : TGn} {D : GEnds} {ys : List V} {σ : L2.St} {H : Hp} (Pv : Nat → List V → L2.St → Hp → Prop) (h0 : Pv 0 ys σ H) (hG : ∀ i ys σ H, i ≤ n → Pv i ys σ H → G H)
    (hs : ∀ i x ys σ H H', i < n → Pv i ys σ H → Y i H x H' → g x σ H' fun σ2 H2 => tb { D with nx := Pv (i + 1), ct := Pv (i + 1), bk := D.nx } ys σ2 H2) (hd : ∀ ys σ H, Pv n ys σ H → D.nx ys σ H) :
    ∃ W : Nat → Nat → List V → L2.St → Hp → Prop, (∃ m, W 0 m ys σ H) ∧ ∀ i m ys σ H, W i m ys σ H → (J.stop i H ∧ D.nx ys σ H) ∨ (J.go i H ∧ ∃ N : List V → L2.St → Hp → Prop, (∀ ys' σ' H', N ys' σ' H' → ∃ m', m' < m ∧ W (i + 1) m' ys' σ' H') ∧ ∀ x H', J.yld i H x H' → g x σ H' fun σ2 H2 => tb { D with nx := N, ct := N, bk := D.nx } ys σ2 H2) := by
  refine ⟨fun i m ys σ H => m = n - i ∧ i ≤ n ∧ Pv i ys σ H, ⟨n, by simp, Nat.zero_le _, h0⟩, ?_⟩
  rintro i m ys σ H ⟨rfl, hi, p⟩
  have q := hG i ys σ H hi p
  by_cases lt : i < n
  · exact .inr ⟨wk.goes i H lt q, Pv (i + 1), fun ys' σ' H' p' => ⟨n - (i + 1), by omega, rfl, lt, p'⟩, fun x H' y => hs i x ys σ H H' lt p (wk.yields i H x H' lt q y)⟩
  · obtain rfl : i = n := by omega
    exact .inl ⟨wk.stops H q, hd ys σ H p⟩
end KT

/-! KGen: if and for within a generator def. -/
namespace KGen
open PySem PySem.Spec PyProof.Rows L2 GenW
section
variable {X : Cx}
/-! ### if -/
def tGIf (tc : TT) (t1 t2 : TGn) : TGn := fun D ys σ H => tc σ H fun b H1 => if b = true then t1 D ys σ H1 else t2 D ys σ H1
theorem gs_if {test : Expr} {b1 b2 : List Stmt} {pos : Pos} {tc : TT} {t1 t2 : TGn} (hc : PT X test tc) (h1 : GSs X b1 t1) (h2 : GSs X b2 t2) : GS X (.If test b1 b2 pos) (tGIf tc t1 t2) := by
  refine ⟨fun A S ip R n ys s₀ c fs K J gd lv s σ H D g hn k hI ht => ?_⟩
  obtain ⟨acc, cc, r, I⟩ := hI
  rw [exec_If]
  refine seg_bind_wrap (wpAny_standAt ?_)
  refine seg_bind_wrap ?_
  rw [g.over]
  refine wpAny_mono (hc.run _ s σ H _ I ht) (fun b s' hb => ?_) fun x s' hx => k.exc n s₀ x s' hx
  obtain ⟨H2, I2, q2⟩ := hb
  cases b with
  | true =>
    rw [if_pos rfl] at q2 ⊢
    exact h1.run A S ip R n ys s₀ c fs K J gd lv s' σ H2 D g hn k ⟨acc, cc, r, I2⟩ q2
  | false =>
    rw [if_neg Bool.false_ne_true] at q2 ⊢
    exact h2.run A S ip R n ys s₀ c fs K J gd lv s' σ H2 D g hn k ⟨acc, cc, r, I2⟩ q2
/-! ### for -/
def tGFor (wi : TI) (g : TG) (tb : TGn) : TGn := fun D ys σ H => wi σ H fun J H1 => ∃ W : Nat → Nat → List V → L2.St → Hp → Prop, (∃ m, W 0 m ys σ H1) ∧ ∀ i m ys σ H, W i m ys σ H →
  (J.stop i H ∧ D.nx ys σ H) ∨ (J.go i H ∧ ∃ N : List V → L2.St → Hp → Prop, (∀ ys' σ' H', N ys' σ' H' → ∃ m', m' < m ∧ W (i + 1) m' ys' σ' H') ∧ ∀ x H', J.yld i H x H' → g x σ H' fun σ2 H2 => tb { D with nx := N, ct := N, bk := D.nx } ys σ2 H2)
/-- what a loop does with an exception -/
abbrev noted (e : Value) (env : Env) : Sem PySem.Fin := (do noteFrame e env; theTreesLotGoes e : Sem Unit).wrap (fun _ => .raise e) .raise id id
abbrev turned (tg : Expr) (it : Value) (body : List Stmt) (env : Env) : Flow → Sem PySem.Fin := fun f => match f with
  | .next | .cont => .pure (.again (.forLoop tg it body [] env))
  | .brk => .pure (.done .next)
  | .ret v => .pure (.done (.ret v))
theorem seg_for_ {prog : Program} {w : World} {A : Around} {R : GenEnd} {Y : Protocol} {n : Nat} {s₀ : Shared} {fs : List Frame} {s : Shared} {env : Env} {tg : Expr} {it : Value} {body : List Stmt}
    (h : wpAny (model prog w) (A.over (.forLoop tg it body [] env) fs) (pyNext it) (fun r s1 => match r with
        | none => Seg (model prog w) A R Y n s₀ (.forLoop tg it body [] env) (.pure (.again (.block [] env))) fs s1
        | some v => wpAny (model prog w) (A.over (.forLoop tg it body [] env) fs) (letOwnedTupleGo tg it v) (fun _ s2 => wpAny (model prog w) (A.over (.forLoop tg it body [] env) fs) (assign tg env v) (fun _ s3 =>
            Seg (model prog w) A R Y n s₀ (.forLoop tg it body [] env) ((execs body env).wrap (turned tg it body env) (fun e => noted e env) id id) fs s3)
            (fun x s' => Seg (model prog w) A R Y n s₀ (.forLoop tg it body [] env) (noted x env) fs s') s2) (fun x s' => Seg (model prog w) A R Y n s₀ (.forLoop tg it body [] env) (noted x env) fs s') s1)
      (fun x s' => Seg (model prog w) A R Y n s₀ (.forLoop tg it body [] env) (noted x env) fs s') s) :
    Seg (model prog w) A R Y n s₀ (.forLoop tg it body [] env) ((model prog w).den (.forLoop tg it body [] env)) fs s := by
  show Seg _ A R Y n s₀ _ ((forTurn tg it body [] env).onRaise (fun x => do noteFrame x env; theTreesLotGoes x)) fs s
  have bad : ∀ (x : Value) (s' : Shared), Seg (model prog w) A R Y n s₀ (.forLoop tg it body [] env) (noted x env) fs s' → Seg (model prog w) A R Y n s₀ (.forLoop tg it body [] env) ((do noteFrame x env; theTreesLotGoes x : Sem Unit).bind fun _ => .raise x) fs s' := fun x s' hx => by
    rw [Sem.bind_eq_wrap]
    exact hx
  unfold forTurn
  rw [Sem.onRaise_eq_wrap]
  refine seg_bind_wrap (wpAny_standAt ?_)
  refine seg_bind_wrap (wpAny_onRaise (wpAny_mono h (fun r s1 h1 => ?_) fun x s' hx => wpAny_standAt (bad x s' hx)))
  cases r with
  | none => exact h1
  | some v =>
    refine seg_bind_wrap (wpAny_mono h1 (fun _ s2 h2 => ?_) fun x s' hx => bad x s' hx)
    refine seg_bind_wrap (wpAny_mono h2 (fun _ s3 h3 => ?_) fun x s' hx => bad x s' hx)
    rw [Sem.bind_eq_wrap', Sem.wrap_wrap]
    rw [Sem.wrap_congr (execs body env) _ _ (K' := turned tg it body env) (H' := fun e => noted e env) (fun f => by cases f <;> rfl) (fun e => by exact Sem.bind_eq_wrap _ _)]
    exact h3
theorem pinsAt_ne {pins : List (Addr × Obj)} {H : Hp} {fp : List Addr} {h : Heap} {S : Addr} {o : Obj} (hf : ∀ b ∈ fp, FpOk X ((S, o) :: pins) H b) : ∀ p ∈ pinsAt fp h, p.1 ≠ S := fun p hp z => by
  obtain ⟨hb, _⟩ := of_pinsAt hp
  exact (hf p.1 hb).2.2.2.2.2 (S, o) (List.mem_append_right _ List.mem_cons_self) z.symm
theorem gs_for {tg iter : Expr} {body : List Stmt} {wi : TI} {g : TG} {tb : TGn} {pos : Pos} (hp : PassesOwn (model X.prog X.w) X.A X.env X.xe) (calm : X.calm = true) (hi : PI X tg iter wi) (hg : PG X tg g) (hb : GSs X body tb)
    (hs : ∀ x, foldedSetIterable iter X.env x = pure x := by intro _; rfl) : GS X (.For tg iter body [] pos) (tGFor wi g tb) := by
  refine ⟨fun A S ip R n ys s₀ c fs K J gd lv s σ H D gc hn k hI ht => ?_⟩
  obtain ⟨acc, cc, r, I⟩ := hI
  rw [exec_For]
  refine seg_bind_wrap (wpAny_standAt ?_)
  refine seg_bind_wrap ?_
  rw [gc.over]
  refine wpAny_mono (hi.run _ s σ H _ I ht) (fun v s1 h1 => ?_) fun x s' hx => k.exc n s₀ x s' hx
  refine seg_bind_wrap (wpAny_of_eq (hs v) ?_)
  refine seg_bind_wrap (wpAny_standAt ?_)
  refine seg_bind_wrap (wpAny_holding ?_)
  rw [gc.over]
  refine wpAny_mono h1 (fun itv s2 h2 => ?_) fun x s' hx => k.exc n s₀ x s' hx
  obtain ⟨it, fp, tn, JJ, H2, rfl, I2, T, st2, f2, W, ⟨m0, w0⟩, turn⟩ := h2
  refine seg_call fun p => ?_
  have gl := fun (kk : Result → Sem PySem.Fin) => gc_loop (k := kk) (c' := .forLoop tg (.ref it) body [] X.env) (l := lv []) (kp := []) (p := p) gc rfl rfl
  have gb := fun (kk : Result → Sem PySem.Fin) => gc_loop (k := kk) (c' := .block [] X.env) (l := lv []) (kp := []) (p := p) gc rfl rfl
  have loop : ∀ (m i n : Nat) (ys : List V) (acc : Array Value) (cc : Nat) (s₀ s : Shared) (σ : L2.St) (H : Hp), Vals ys acc.toList → n + ys.length = sizeLine → W i m ys σ H → Inv X ((S, lstObj acc cc) :: ip) σ H s → tn i s.heap → (∀ b ∈ fp, FpOk X ((S, lstObj acc cc) :: ip) H b) →
      Seg (model X.prog X.w) A R (GY X S) n s₀ (.forLoop tg (.ref it) body [] X.env) ((model X.prog X.w).den (.forLoop tg (.ref it) body [] X.env))
        (.ret (fun r => ((match r with | .ok f => (.pure f : Sem Flow) | .error e => .raise e).onRaise (cameBack X.env)).wrap K J gd lv) none (gd false) (lv []) c p [] :: fs) s := by
    intro m
    induction m using Nat.strongRecOn with
    | ind m ih =>
      intro i n ys acc cc s₀ s σ H r hn w I st f
      have ee : ∀ (n : Nat) (s₀ : Shared) (x : Value) (s' : Shared), X.xe x s' → Seg (model X.prog X.w) A R (GY X S) n s₀ (.forLoop tg (.ref it) body [] X.env) (noted x X.env)
          (.ret (fun r => ((match r with | .ok f => (.pure f : Sem Flow) | .error e => .raise e).onRaise (cameBack X.env)).wrap K J gd lv) none (gd false) (lv []) c p [] :: fs) s' := fun n s₀ x s' hx => by
        refine seg_wrap ?_
        rw [(gl _).over]
        refine wpAny_bind (wpAny_mono (hp x s' hx) (fun _ s'' hcb => wpAny_theTreesLotGoes ?_) fun y s'' hcb => ?_)
        · exact seg_leaf (.error x) (seg_cameBack gc k hcb)
        · exact seg_leaf (.error y) (seg_cameBack gc k hcb)
      refine seg_for_ ?_
      rw [(gl _).over]
      rcases turn i m ys σ H w with ⟨stop, qn⟩ | ⟨go, N, hN, step⟩
      · refine wpAny_mono (T.done X rfl rfl rfl calm i _ s σ H X.xe I f st stop) (fun r' s3 hr => ?_) fun x s' hx => ee n s₀ x s' hx
        obtain ⟨rfl, I3⟩ := hr
        refine seg_again rfl ?_
        show Seg _ _ _ _ _ _ _ (((execs [] X.env).onRaise (fun x => do noteFrame x X.env; theTreesLotGoes x)) >>= fun f => pure (.done f)) _ _
        exact seg_leaf (.ok .next) (k.ok n ys s₀ s3 .next hn ⟨σ, H, ⟨acc, cc, r, I3⟩, qn⟩)
      · refine wpAny_mono (T.item X rfl rfl rfl calm i _ s σ H X.xe I f st go) (fun r' s3 hr => ?_) fun x s' hx => ee n s₀ x s' hx
        obtain ⟨u, rfl, h3⟩ := hr
        refine wpAny_mono h3 (fun _ s5 h5 => ?_) fun x s' hx => ee n s₀ x s' hx
        obtain ⟨x5, H5, I5, r5, y5, st5, fr5⟩ := h5
        have f5 : ∀ b ∈ fp, FpOk X ((S, lstObj acc cc) :: ip) H5 b := fun b hb => ⟨fr5 b hb, (f b hb).2⟩
        have I5' := I5.pinned f5 (T.obj _ _ st5)
        refine wpAny_mono (hg.run _ s5 σ H5 x5 u _ I5' r5 (step x5 H5 y5)) (fun _ s6 h6 => ?_) fun x s' hx => ee n s₀ x s' hx
        obtain ⟨σ6, H6, I6, q6⟩ := h6
        have gp : GC X S (ip ++ pinsAt fp s5.heap) A (.forLoop tg (.ref it) body [] X.env) (.ret (fun r => ((match r with | .ok f => (.pure f : Sem Flow) | .error e => .raise e).onRaise (cameBack X.env)).wrap K J gd lv) none (gd false) (lv []) c p [] :: fs) id :=
          { gl _ with ip := fun p hp => (List.mem_append.mp hp).elim (gc.ip p) (pinsAt_ne f5 p) }
        refine hb.run A S (ip ++ pinsAt fp s5.heap) R n ys s₀ _ _ _ _ id id s6 σ6 H6 { D with nx := N, ct := N, bk := D.nx } gp hn ⟨fun n' ys' s₀' s7 fl hn' hs' => ?_, fun n' s₀' x s7 hx => ee n' s₀' x s7 hx⟩ ⟨acc, cc, r, I6⟩ q6
        have again : ∀ {σ7 : L2.St} {H7 : Hp}, GI X S (ip ++ pinsAt fp s5.heap) ys' σ7 H7 s7 → N ys' σ7 H7 → Seg (model X.prog X.w) A R (GY X S) n' s₀' (.forLoop tg (.ref it) body [] X.env) (.pure (.again (.forLoop tg (.ref it) body [] X.env)))
            (.ret (fun r => ((match r with | .ok f => (.pure f : Sem Flow) | .error e => .raise e).onRaise (cameBack X.env)).wrap K J gd lv) none (gd false) (lv []) c p [] :: fs) s7 := fun {σ7 H7} G7 n7 => by
          obtain ⟨acc7, cc7, r7, I7⟩ := G7
          obtain ⟨m', hm, w7⟩ := hN ys' σ7 H7 n7
          have at7 : ∀ b ∈ fp, ∀ o, s5.heap.get? b = some o → s7.heap.get? b = some o ∧ H7 b = none := fun b hb o e => by
            have z := I7.pin (b, o) (List.mem_append_right _ (List.mem_cons_of_mem _ (List.mem_append_right _ (mem_pinsAt hb e))))
            exact ⟨z.1, z.2.1⟩
          refine seg_again rfl (ih m' hm (i + 1) n' ys' acc7 cc7 s₀' s7 σ7 H7 r7 hn' w7 (I7.pins_of fun q hq => I7.pin q (List.mem_append_right _ ?_)) (T.keep _ _ _ st5 fun b hb o e => (at7 b hb o e).1) fun b hb => ?_)
          · rcases List.mem_cons.mp hq with rfl | hq
            · exact List.mem_cons_self
            · exact List.mem_cons_of_mem _ (List.mem_append_left _ hq)
          · obtain ⟨o, e, _⟩ := T.obj _ _ st5 b hb
            obtain ⟨z1, z2, z3, z4, z5, z6⟩ := f b hb
            refine ⟨(at7 b hb o e).2, z2, z3, z4, z5, fun q hq => ?_⟩
            rcases List.mem_append.mp hq with hq | hq
            · exact z6 q (List.mem_append_left _ hq)
            · rcases List.mem_cons.mp hq with rfl | hq
              · exact z6 (S, lstObj acc cc) (List.mem_append_right _ List.mem_cons_self)
              · exact z6 q (List.mem_append_right _ (List.mem_cons_of_mem _ hq))
        have drop : ∀ {σ7 : L2.St} {H7 : Hp}, GI X S (ip ++ pinsAt fp s5.heap) ys' σ7 H7 s7 → GI X S ip ys' σ7 H7 s7 := fun {σ7 H7} G7 => by
          obtain ⟨acc7, cc7, r7, I7⟩ := G7
          refine ⟨acc7, cc7, r7, I7.pins_of fun q hq => I7.pin q (List.mem_append_right _ ?_)⟩
          rcases List.mem_cons.mp hq with rfl | hq
          · exact List.mem_cons_self
          · exact List.mem_cons_of_mem _ (List.mem_append_left _ hq)
        cases fl with
        | next => obtain ⟨σ7, H7, G7, n7⟩ := hs'; exact again G7 n7
        | cont => obtain ⟨σ7, H7, G7, n7⟩ := hs'; exact again G7 n7
        | brk => obtain ⟨σ7, H7, G7, q7⟩ := hs'; exact seg_leaf (.ok .next) (k.ok n' ys' s₀' s7 .next hn' ⟨σ7, H7, drop G7, q7⟩)
        | ret v => obtain ⟨x7, σ7, H7, G7, r7, q7⟩ := hs'; exact seg_leaf (.ok (.ret v)) (k.ok n' ys' s₀' s7 (.ret v) hn' ⟨x7, σ7, H7, drop G7, r7, q7⟩)
  exact loop m0 0 n ys acc cc s₀ s2 σ H2 r hn w0 I2 st2 f2
end
end KGen

/-! KU: classmethods and own objects called by keywords; list(o.m()) of a generator method. -/
namespace KU
open PySem PySem.Spec PyProof.Rows L2 KB KG KO KY
section
variable {X : Cx}
/-- n: the positional values, the class among them -/
structure CalleeCK (P : Program) (w : World) (K : PySem.W.Frag) (mg : Str → Option Value) (base : Heap) (CX : CXT) (k : Nat) (C : Addr) (m : Str) (ps : List Str) (sp : Sp) (n : Nat) (ks : List Str) (gV : List V → List V → List V) : Prop where
  ex : ∃ (mc : Value) (p g : Addr) (fd : FuncData) (gg : List Value → List Value → List Value), ClX.CRead K C mc ∧ ClX.CMet K C mc m p g ∧ FnOk P w K mg base CX k g fd ps sp ∧ KBn K fd ps n ks gg gV
theorem run_cmK {CX : CXT} {k n : Nat} {g C q : Addr} {fd : FuncData} {ps ks : List Str} {sp : Sp} {gg : List Value → List Value → List Value} {gV : List V → List V → List V} {E : XK} {Z : VK} {pins : List (Addr × Obj)} {σ : L2.St} {H : Hp} {s : Shared} {us ws : List Value} {vs zs : List V}
    (F : FnOk X.prog X.w X.K X.mg X.base CX k g fd ps sp) (room : Room k X.A) (hb : KBn X.K fd ps n ks gg gV) (pass : Passes CX X E) (I : Inv X ((q, PySem.W.methodObj (.ref g) (.ref C)) :: pins) σ H s) (r : Vals vs us) (rz : Vals zs ws) (l1 : vs.length + 1 = n) (l2 : zs.length = ks.length)
    (h : sp (gV (.ref C :: vs) zs) H Z E) : wpAny (model X.prog X.w) X.A (call (.ref q) us (ks.zip ws)) (EP X pins σ Z) X.xe s := by
  have rel : Vals (V.ref C :: vs) (Value.ref C :: us) := .cons rfl r
  have bt := hb.to s (Value.ref C :: us) ws I.kIn (by rw [List.length_cons, ← r.length]; exact l1) (rz.length.symm.trans l2)
  have z : wpAny (model X.prog X.w) X.A (call (.ref q) us (ks.zip ws)) (EP X ((q, PySem.W.methodObj (.ref g) (.ref C)) :: pins) σ Z) X.xe s := by
    refine wpAny_call (PySem.W.method_call (ClX.pin_at I) ?_)
    refine codeAny_mono (F.run X.A X.stack s H ⟨.ref C :: us, ks.zip ws⟩ _ _ Z E room I.env0 bt (hb.rel rel rz) h) fun res s2 y => ?_
    match res, y with
    | .error e, y => exact pass _ σ H s e s2 I y
    | .ok (.ret u), y => exact I.after y
    | .ok .next, y => exact y.elim
    | .ok .brk, y => exact y.elim
    | .ok .cont, y => exact y.elim
  exact thn z fun _ _ y => ClX.unpinE y
def tCMethK (C : Addr) (sp : Sp) (n m : Nat) (gV : List V → List V → List V) (E : XK) (ta : TE) (t tk : TA) : TE := fun σ H Q => ta σ H fun x H1 => x = .ref C ∧ t σ H1 fun vs H2 => tk σ H2 fun zs H3 => (vs.length + 1 = n ∧ zs.length = m) ∧ sp (gV (.ref C :: vs) zs) H3 Q E
/-- C.m(e, .., k = v, ..) -/
theorem pe_cmethK {pl : Sem Bool} {CX : CXT} {k n : Nat} {C : Addr} {m : Str} {ps ks : List Str} {sp : Sp} {gV : List V → List V → List V} {E : XK} {o e : Expr} {es : List Expr} {kws : List Keyword} {apos pos : Pos} {ta : TE} {t tk : TA} (c : CalleeCK X.prog X.w X.K X.mg X.base CX k C m ps sp n ks gV) (ho : PE X o ta) (room : Room k X.A) (pass : Passes CX X E)
    (ha : PA X (e :: es) t) (hkw : PK X kws tk) (d1 : (backToKw pos (keywordEach kws X.env)).all (·.1.isSome) = true := by rfl) (d2 : (backToKw pos (keywordEach kws X.env)).filterMap (·.1) = ks := by rfl) (d3 : ((backTo pos (starEach (e :: es) X.env)).any (·.1) || (backToKw pos (keywordEach kws X.env)).any (·.1.isNone)) = false := by rfl)
    (d5 : starEach (e :: es) X.env = (false, eval e X.env) :: starEach es X.env := by rfl)
    (d4 : eval (.Call (.Attribute o m apos) (e :: es) kws pos) X.env = (do
      let ov ← eval o X.env
      standAt apos.atName
      let (f, first) ← holding [ov] (getMethod ov m pl)
      callWith pos f first (backTo pos (starEach (e :: es) X.env)) (backToKw pos (keywordEach kws X.env))) := by rfl) :
    PE X (.Call (.Attribute o m apos) (e :: es) kws pos) (tCMethK C sp n ks.length gV E ta t tk) := by
  obtain ⟨mc, p, g, fd, gg, r, cm, F, hb⟩ := c.ex
  refine ⟨fun pins s σ H Z I h => PySem.W.methodCall_KW (pl := pl) (thn (ho.run pins s σ H _ I h) fun u s1 res => ?_) d4⟩
  obtain ⟨x, H1, I1, rx, rfl, q⟩ := res
  obtain rfl : u = Value.ref C := rx
  refine ClX.getmethcm_ok I1 r cm fun s2 I2 => ?_
  refine PySem.W.callWith_of d3 (PySem.W.keeps_M (self := .ref C) cm.fi) (evalArgs_kw2 d1 (thn (ha.run pos _ s2 σ H1 _ I2 q) fun us s3 res => ?_) d5)
  obtain ⟨vs, H2, I3, rv, q⟩ := res
  refine thn (hkw.run pos _ s3 σ H2 _ I3 q) fun ws s4 res => ?_
  obtain ⟨zs, H3, I4, rz, l, q⟩ := res
  refine ⟨⟨ClX.pin_at I4, I4.kIn⟩, ?_⟩
  rw [d2]
  exact run_cmK F room hb pass I4 rv rz l.1 l.2 q
/-- C.m(k = v, ..) -/
theorem pe_cmethK0 {pl : Sem Bool} {CX : CXT} {k : Nat} {C : Addr} {m : Str} {ps ks : List Str} {sp : Sp} {gV : List V → List V → List V} {E : XK} {o : Expr} {kws : List Keyword} {apos pos : Pos} {ta : TE} {tk : TA} (c : CalleeCK X.prog X.w X.K X.mg X.base CX k C m ps sp 1 ks gV) (ho : PE X o ta) (room : Room k X.A) (pass : Passes CX X E)
    (hkw : PK X kws tk) (d1 : (backToKw pos (keywordEach kws X.env)).all (·.1.isSome) = true := by rfl) (d2 : (backToKw pos (keywordEach kws X.env)).filterMap (·.1) = ks := by rfl) (d3 : ((backTo pos (starEach [] X.env)).any (·.1) || (backToKw pos (keywordEach kws X.env)).any (·.1.isNone)) = false := by rfl)
    (d4 : eval (.Call (.Attribute o m apos) [] kws pos) X.env = (do
      let ov ← eval o X.env
      standAt apos.atName
      let (f, first) ← holding [ov] (getMethod ov m pl)
      callWith pos f first (backTo pos (starEach [] X.env)) (backToKw pos (keywordEach kws X.env))) := by rfl) :
    PE X (.Call (.Attribute o m apos) [] kws pos) (tCMethK C sp 1 ks.length gV E ta tNil tk) := by
  obtain ⟨mc, p, g, fd, gg, r, cm, F, hb⟩ := c.ex
  refine ⟨fun pins s σ H Z I h => PySem.W.methodCall_KW (pl := pl) (thn (ho.run pins s σ H _ I h) fun u s1 res => ?_) d4⟩
  obtain ⟨x, H1, I1, rx, rfl, q⟩ := res
  obtain rfl : u = Value.ref C := rx
  refine ClX.getmethcm_ok I1 r cm fun s2 I2 => ?_
  refine PySem.W.callWith_of d3 (PySem.W.keeps_M (self := .ref C) cm.fi) (evalArgs_kw2_nil d1 (thn (hkw.run pos _ s2 σ H1 _ I2 q) fun ws s4 res => ?_))
  obtain ⟨zs, H3, I4, rz, l, q⟩ := res
  refine ⟨⟨ClX.pin_at I4, I4.kIn⟩, ?_⟩
  rw [d2]
  exact run_cmK (us := []) (vs := []) F room hb pass I4 .nil rz l.1 l.2 q
theorem r_cmethK {σ : L2.St} {H : Hp} {Q : VK} {C : Addr} {sp : Sp} {n m : Nat} {gV : List V → List V → List V} {E : XK} {ta : TE} {t tk : TA} (q : ta σ H fun x H1 => x = .ref C ∧ t σ H1 fun vs H2 => tk σ H2 fun zs H3 => (vs.length + 1 = n ∧ zs.length = m) ∧ sp (gV (.ref C :: vs) zs) H3 Q E) : tCMethK C sp n m gV E ta t tk σ H Q := q
/-! ### o(k = v) of an own object -/
structure OwnCK (P : Program) (w : World) (K : PySem.W.Frag) (mg : Str → Option Value) (base : Heap) (CX : CXT) (k : Nat) (C : Addr) (ps : List Str) (sp : Sp) (ks : List Str) (gV : List V → List V → List V) : Prop where
  ex : ∃ (g : Addr) (fd : FuncData) (gg : List Value → List Value → List Value), PySem.W.findIn K (.ref C) "__call__" = some (some (.ref g)) ∧ PySem.W.isFn K (.ref g) = true ∧ PySem.W.fnIn K g = true ∧ FnOk P w K mg base CX k g fd ps sp ∧ KBn K fd ps 1 ks gg gV
def tCallOK (C : Addr) (sp : Sp) (m : Nat) (gV : List V → List V → List V) (E : XK) (tf : TE) (tk : TA) : TE := fun σ H Q => tf σ H fun x H1 => ∃ (a dx : Addr) (fs : List (Str × V)), x = .ref a ∧ H1 a = some (.ins C dx fs) ∧ tk σ H1 fun zs H2 => H2 a = some (.ins C dx fs) ∧ zs.length = m ∧ sp (gV [.ref a] zs) H2 Q E
theorem pe_callOK {CX : CXT} {k : Nat} {C : Addr} {x : Str} {ps ks : List Str} {sp : Sp} {gV : List V → List V → List V} {E : XK} {kws : List Keyword} {p pos : Pos} {tf : TE} {tk : TA} (c : OwnCK X.prog X.w X.K X.mg X.base CX k C ps sp ks gV) (room : Room k X.A) (pass : Passes CX X E) (hf : PE X (.Name x p) tf) (hkw : PK X kws tk)
    (d1 : (backToKw pos (keywordEach kws X.env)).all (·.1.isSome) = true := by rfl) (d2 : (backToKw pos (keywordEach kws X.env)).filterMap (·.1) = ks := by rfl) (d3 : ((backTo pos (starEach [] X.env)).any (·.1) || (backToKw pos (keywordEach kws X.env)).any (·.1.isNone)) = false := by rfl) :
    PE X (.Call (.Name x p) [] kws pos) (tCallOK C sp ks.length gV E tf tk) := by
  obtain ⟨g, fd, gg, hs, hfn, hfi, F, hb⟩ := c.ex
  refine ⟨fun pins st σ h Z inv pre => wpAny_Call_Name_kw (thn (hf.run pins st σ h _ inv pre) fun u s1 r => ?_)⟩
  obtain ⟨v, h1, inv1, rv, a, dx, fs, rfl, ea, z⟩ := r
  obtain rfl : u = Value.ref a := rv
  refine KC.callWith_own (C := C) (dx := dx) d3 (evalArgs_kw2_nil d1 (thn (hkw.run pos pins s1 σ h1 _ inv1 z) fun ws s2 r => ?_))
  obtain ⟨zs, h2, inv2, rel, ea2, l, z2⟩ := r
  obtain ⟨od, J⟩ := inst_of inv2 ea2
  refine ⟨⟨_, J⟩, ?_⟩
  rw [d2]
  have bt := hb.to s2 [Value.ref a] ws inv2.kIn rfl (rel.length.symm.trans l)
  refine wpAny_call (codeAny_mono (PySem.W.kco_code inv2.kIn J rfl hs hfn hfi (F.run X.A X.stack s2 h2 ⟨[Value.ref a], ks.zip ws⟩ _ _ Z E room inv2.env0 bt (hb.rel (vs := [.ref a]) (us := [Value.ref a]) (.cons rfl .nil) rel) z2)) fun res s3 y => ?_)
  match res, y with
  | .error e, y => exact pass pins σ h2 s2 e s3 inv2 y
  | .ok (.ret u), y => exact inv2.after y
  | .ok .next, y => exact y.elim
  | .ok .brk, y => exact y.elim
  | .ok .cont, y => exact y.elim
theorem r_callOK {σ : L2.St} {H : Hp} {Q : VK} {C : Addr} {sp : Sp} {m : Nat} {gV : List V → List V → List V} {E : XK} {tf : TE} {tk : TA} (q : tf σ H fun x H1 => ∃ (a dx : Addr) (fs : List (Str × V)), x = .ref a ∧ H1 a = some (.ins C dx fs) ∧ tk σ H1 fun zs H2 => H2 a = some (.ins C dx fs) ∧ zs.length = m ∧ sp (gV [.ref a] zs) H2 Q E) : tCallOK C sp m gV E tf tk σ H Q := q
/-! ### list(o.m()) -/
structure CalleeGM (P : Program) (w : World) (K : PySem.W.Frag) (mg : Str → Option Value) (base : Heap) (k : Nat) (C : Addr) (m : Str) (ps : List Str) (sp : SpG) : Prop where
  ex : ∃ (f : Addr) (fd : FuncData), GFn P w K mg base k f fd ps sp ∧ Meth K C m f ∧ Binds K fd ps []
  cl : Cls K C
theorem noStop0 {K : PySem.W.Frag} : NoStop K E0 := fun _ _ _ h => h.elim
theorem pe_listM {pl : Sem Bool} {k : Nat} {C : Addr} {m : Str} {ps : List Str} {sp : SpG} {o : Expr} {apos pos pos' p : Pos} {ta : TE} (c : CalleeGM X.prog X.w X.K X.mg X.base k C m ps sp) (ho : PE X o ta) (room : Room (k + 3) X.A) (hg : Gl X "list") (hm : X.mg "list" = none)
    (d1 : starEach [.Call (.Attribute o m apos) [] [] pos'] X.env = (false, eval (.Call (.Attribute o m apos) [] [] pos') X.env) :: starEach [] X.env := by rfl)
    (d4 : eval (.Call (.Attribute o m apos) [] [] pos') X.env = (do
      let ov ← eval o X.env
      standAt apos.atName
      let (f, first) ← holding [ov] (getMethod ov m pl)
      callWith pos' f first (backTo pos' (starEach [] X.env)) (backToKw pos' (keywordEach [] X.env))) := by rfl) :
    PE X (.Call (.Name "list" p) [.Call (.Attribute o m apos) [] [] pos'] [] pos) (tListG (tMethG C m sp [] E0 ta tNil)) := by
  obtain ⟨f, fd, F, hme, hb⟩ := c.ex
  exact pe_listG (pgen_meth0 (dvs := []) (ds := []) ho c.cl hme F (room.mono (by omega)) hb .nil d4) passL noStop0 room hg hm (by decide +kernel) (by decide) (by decide) d1
theorem r_listM {σ : L2.St} {H : Hp} {Q : VK} {C : Addr} {m : Str} {sp : SpG} {ta : TE} (q : ta σ H fun x H1 => ∃ a dx fs, x = .ref a ∧ H1 a = some (.ins C dx fs) ∧ fs.lookup m = none ∧ sp [x] H1 (fun out H2 => ∀ p, H2 p = none → Q (.ref p) (upd H2 p (.lst out))) E0) : tListG (tMethG C m sp [] E0 ta tNil) σ H Q := q
end
/-! ### name = {k: v for ..} -/
section
variable {X : Cx}
theorem sw_dict {kx vx : Expr} {gs : List Comprehension} {scope : Scope} {pos py : Pos} {y : Str} {l : Nat} {env : Env} (h1 : env.scope.kind = .function) (h2 : env.scope.names.lookup y = some .local) (h3 : (py.line == pos.line) = true)
    (h4 : (scope.names.any fun (n, k) => n == y && (k == .local || k == .cell)) = false) : swapsWith (.DictComp kx vx gs scope pos) (some (.Name y py)) l env = pure true := by
  have k1 : env.kindOf y = some .local := h2
  have k2 : env.blockKind = .function := by
    unfold Env.blockKind
    rw [h1]
    rfl
  unfold swapsWith
  simp only [k2, k1, h4, Expr.pos, h3]
  rfl
theorem ps_setDc {i : Nat} {y : Str} {py : Pos} {kx vx tg iter : Expr} {ifs : List Expr} {scope : Scope} {own : List (Str × Nat)} {pos spos : Pos} {wi : TI} {g : TG} {tt : TT} {tk tv : TE} (calm : X.calm = true) (nd : X.N.Nodup) (hy : X.N[i]? = some y) (loc : X.env.scope.names.lookup y = some .local)
    (sw : swapsWith (.DictComp kx vx [⟨tg, iter, ifs, 0⟩] scope pos) (some (.Name y py)) spos.line X.env = pure true) (hi : PI X tg iter wi) (ok : BlkOk X.N X.env.scope scope own)
    (hg : ∀ (s : Shared) (H : Hp) (C : Addr) (cl : List (Str × Addr)) (fp : List Addr), PG (X.blk s H scope (compEnvC scope cl C X.env) fp) tg g)
    (ht : ∀ (s : Shared) (H : Hp) (C : Addr) (cl : List (Str × Addr)) (fp : List Addr), PTs (X.blk s H scope (compEnvC scope cl C X.env) fp) ifs tt)
    (hk : ∀ (s : Shared) (H : Hp) (C : Addr) (cl : List (Str × Addr)) (fp : List Addr), PE (X.blk s H scope (compEnvC scope cl C X.env) fp) kx tk)
    (hv : ∀ (s : Shared) (H : Hp) (C : Addr) (cl : List (Str × Addr)) (fp : List Addr), PE (X.blk s H scope (compEnvC scope cl C X.env) fp) vx tv) (hs : ∀ x, foldedSetIterable iter X.env x = pure x := by intro _; rfl) :
    PS X (.Assign [.Name y py] (.DictComp kx vx [⟨tg, iter, ifs, 0⟩] scope pos) spos) (tAsg (tDc wi g tt tk tv (own.map (·.2))) (gName i)) := by
  refine ⟨fun pins s σ H D I h => ?_⟩
  rw [exec_Assign_Name_used _ _ _ _ sw]
  refine wpAny_bind (wpAny_standAt (wpAny_bind ?_))
  show wpAny _ X.A (do let _ ← comprehension (.DictComp kx vx [⟨tg, iter, ifs, 0⟩] scope pos) scope X.env (firstIterPos [⟨tg, iter, ifs, 0⟩] pos) newDict false (eval iter X.env) (some (assign (.Name y py) X.env))) _ _ s
  have h' : tDc wi g tt tk tv (own.map (·.2)) σ H (fun x H1 => gName i x σ H1 D.nx) := h
  refine wpAny_bind (thn (dc_core (Qf := fun _ s' => SP X pins D .next s') calm nd I hi ok hg ht hk hv hs h' fun L C s' m H' I' q ns f => ?_) fun _ s' z => wpAny_pure (wpAny_pure z))
  show wpAny _ _ (assign (.Name y py) X.env (.ref L)) _ _ _
  refine wpAny_assign_Name (store_ok2 (v := V.ref L) I' nd hy (.inl loc) rfl (fun s2 I2 at2 => ?_) (.inr loc))
  obtain ⟨a, sb, ha⟩ := at2
  obtain ⟨f0, f1, f2, f3, f4, f5⟩ := f
  have ne : C ≠ a := by
    rcases ha with z | z
    · exact fun e => f1 (e.trans z)
    · exact fun e => f4 y a z e.symm
  exact ⟨m, ns.sameBut sb ne, fun h3 sb3 => ⟨_, H', I2.turned (t' := s2.toks) (fun b o hb e => (sb3.2 b hb).trans e) f0 f1 f3 f4 f5, q⟩⟩
end
theorem r_enumS {σ : L2.St} {H : Hp} {ta : TA} {R : It → Hp → Prop} (q : ta σ H fun vs H1 => ∃ z, vs = [.str z] ∧ R (KT.ItES z) H1) : KT.iEnumS ta σ H R := q
theorem r_enumT {K : PySem.W.Frag} {σ : L2.St} {H : Hp} {ta : TA} {R : It → Hp → Prop} (q : ta σ H fun vs H1 => ∃ a xs, vs = [.ref a] ∧ SqT K H1 a xs ∧ R (KT.ItET K a) H1) : KT.iEnumT K ta σ H R := q
theorem r_gif {σ : L2.St} {H : Hp} {D : GEnds} {ys : List V} {tc : TT} {t1 t2 : TGn} (q : tc σ H fun b H1 => if b = true then t1 D ys σ H1 else t2 D ys σ H1) : KGen.tGIf tc t1 t2 D ys σ H := q
theorem r_gfor {σ : L2.St} {H : Hp} {D : GEnds} {ys : List V} {wi : TI} {g : TG} {tb : TGn} (q : wi σ H fun J H1 => ∃ W : Nat → Nat → List V → L2.St → Hp → Prop, (∃ m, W 0 m ys σ H1) ∧ ∀ i m ys σ H, W i m ys σ H →
  (J.stop i H ∧ D.nx ys σ H) ∨ (J.go i H ∧ ∃ N : List V → L2.St → Hp → Prop, (∀ ys' σ' H', N ys' σ' H' → ∃ m', m' < m ∧ W (i + 1) m' ys' σ' H') ∧ ∀ x H', J.yld i H x H' → g x σ H' fun σ2 H2 => tb { D with nx := N, ct := N, bk := D.nx } ys σ2 H2)) : KGen.tGFor wi g tb D ys σ H := q
theorem r_gthen {σ : L2.St} {H : Hp} {D : GEnds} {ys : List V} {t u : TGn} (q : t { D with nx := fun ys' σ' H' => u D ys' σ' H' } ys σ H) : tGThen t u D ys σ H := q
theorem r_gyield {σ : L2.St} {H : Hp} {D : GEnds} {ys : List V} {te : TE} (h : ys.length < sizeLine) (q : te σ H fun x H1 => D.nx (ys ++ [x]) σ H1) : tGYield te D ys σ H := ⟨h, q⟩
theorem r_g0 {σ : L2.St} {H : Hp} {D : GEnds} {ys : List V} (q : D.nx ys σ H) : tG0 D ys σ H := q
end KU

/-! KV: data that is small enough to be shown by repr; what of a pen is kept; comprehensions that draw. -/
namespace KV
open PySem PySem.Spec PyProof.Rows L2 KB KG KO
/-- may be shown: at most n signs, at most k deep -/
structure Sm (n k : Nat) (d : PyData) : Prop where
  ok : d.showable = true
  nod : d.hasDict = false
  deep : d.depth ≤ k
  len : d.shown.length ≤ n
theorem Sm.mono {n k n' k' : Nat} {d : PyData} (h : Sm n k d) (a : n ≤ n') (b : k ≤ k') : Sm n' k' d := ⟨h.ok, h.nod, Nat.le_trans h.deep b, Nat.le_trans h.len a⟩
theorem sm_all {n k : Nat} : ∀ xs : List PyData, (∀ x ∈ xs, Sm n k x) → PyData.showableAll xs = true ∧ PyData.hasDictAll xs = false ∧ PyData.depthAll xs ≤ k ∧ ((PyData.shownAll xs).map (·.length)).sum ≤ xs.length * n
  | [], _ => ⟨rfl, rfl, Nat.zero_le _, by simp [PyData.shownAll]⟩
  | x :: xs, h => by
    obtain ⟨a, b, c, d⟩ := sm_all xs fun y m => h y (List.mem_cons_of_mem _ m)
    have z := h x List.mem_cons_self
    refine ⟨by simp only [PyData.showableAll, z.ok, a, Bool.and_self], by simp only [PyData.hasDictAll, z.nod, b, Bool.or_self], ?_, ?_⟩
    · simp only [PyData.depthAll]
      exact Nat.max_le.mpr ⟨z.deep, c⟩
    · simp only [PyData.shownAll, List.map_cons, List.sum_cons, List.length_cons, Nat.succ_mul]
      have := z.len
      omega
theorem Sm.tuple {n k : Nat} {xs : List PyData} (h : ∀ x ∈ xs, Sm n k x) : Sm (xs.length * (n + 2) + 3) (k + 1) (.tuple xs) := by
  obtain ⟨a, b, c, d⟩ := sm_all xs h
  refine ⟨by simpa only [PyData.showable] using a, by simpa only [PyData.hasDict] using b, by simp only [PyData.depth]; omega, ?_⟩
  have l := tupleText_len_le (PyData.shownAll xs)
  rw [PyData.shownAll_length] at l
  simp only [PyData.shown]
  rw [Nat.mul_add]
  omega
theorem Sm.list {n k : Nat} {xs : List PyData} (h : ∀ x ∈ xs, Sm n k x) : Sm (xs.length * (n + 2) + 3) (k + 1) (.list xs) := by
  obtain ⟨a, b, c, d⟩ := sm_all xs h
  refine ⟨by simpa only [PyData.showable] using a, by simpa only [PyData.hasDict] using b, by simp only [PyData.depth]; omega, ?_⟩
  have l := listText_len_le (PyData.shownAll xs)
  rw [PyData.shownAll_length] at l
  simp only [PyData.shown]
  rw [Nat.mul_add]
  omega
theorem Sm.int {i : Int} (h : i.natAbs < 10 ^ 12) : Sm 13 0 (.int i) := by
  refine ⟨?_, rfl, Nat.le_refl _, PyData.shown_int_le h⟩
  simp only [PyData.showable]
  refine decide_eq_true ?_
  by_cases z : i.natAbs = 0
  · rw [z]; decide
  · exact (Nat.log2_lt z).mpr (Nat.lt_of_lt_of_le h (by decide +kernel))
theorem Sm.big {i : Int} (h : i.natAbs.log2 < 1920) : Sm 1921 0 (.int i) := by
  refine ⟨?_, rfl, Nat.le_refl _, KBL.num_len h⟩
  simp only [PyData.showable]
  exact decide_eq_true h
theorem Sm.bool {b : Bool} : Sm 5 0 (.bool b) := by cases b <;> exact ⟨rfl, rfl, Nat.le_refl _, by decide +kernel⟩
theorem Sm.none : Sm 4 0 .none := ⟨rfl, rfl, Nat.le_refl _, by decide +kernel⟩
theorem Sm.str {z : Str} {n : Nat} (h : (reprText z).length ≤ n) : Sm n 0 (.str z) := ⟨rfl, rfl, Nat.le_refl _, h⟩
theorem r_reprS {K : PySem.W.Frag} {H : Hp} {Q : VK} {v : V} {d : PyData} {n k : Nat} (dp : Dp K H v d) (f : Sm n k d) (hk : k ≤ 60) (hn : n ≤ 1000000) (q : Q (.str d.shown) H) : KG.rRepr K [v] H Q :=
  ⟨v, d, rfl, dp, f.ok, f.nod, Nat.le_trans f.deep hk, Nat.le_trans f.len (Nat.le_trans hn (by decide)), q⟩
/-! ### the pen -/
/-- the pen: its cells, the next index, what is left; room for k draws more -/
def PenC (H : Hp) (p c : Addr) (k : Nat) : Prop := ∃ (ns : List Int) (at_ : Nat) (left : Int),
  H p = some (.lst [.ref c, .int at_, .int left]) ∧ H c = some (.lst (ns.map V.int)) ∧ p ≠ c ∧ ns.length ≤ 63 ∧ at_ + k ≤ 100000
def Keep (p : Addr) (H H' : Hp) : Prop := ∀ b o, H b = some o → b ≠ p → H' b = some o
theorem PenC.mono {H : Hp} {p c : Addr} {j k : Nat} (h : PenC H p c k) (e : j ≤ k) : PenC H p c j := by
  obtain ⟨ns, at_, left, h1, h2, h3, h4, h5⟩ := h
  exact ⟨ns, at_, left, h1, h2, h3, h4, by omega⟩
theorem PenC.up {H H' : Hp} {p c : Addr} {k : Nat} (h : PenC H p c k) (s : Same H H') : PenC H' p c k := by
  obtain ⟨ns, at_, left, h1, h2, h3, h4, h5⟩ := h
  exact ⟨ns, at_, left, s _ _ h1, s _ _ h2, h3, h4, h5⟩
theorem PenC.ne {H : Hp} {p c q : Addr} {k : Nat} (h : PenC H p c k) (n : H q = none) : q ≠ p := by
  obtain ⟨ns, at_, left, h1, h2, h3, h4, h5⟩ := h
  exact (ne_of_none h1 n).symm
theorem PenC.nec {H : Hp} {p c q : Addr} {k : Nat} (h : PenC H p c k) (n : H q = none) : q ≠ c := by
  obtain ⟨ns, at_, left, h1, h2, h3, h4, h5⟩ := h
  exact (ne_of_none h2 n).symm
theorem PenC.keep {H H' : Hp} {p c q : Addr} {k : Nat} (h : PenC H p c k) (s : Keep q H H') (n1 : q ≠ p) (n2 : q ≠ c) : PenC H' p c k := by
  obtain ⟨ns, at_, left, h1, h2, h3, h4, h5⟩ := h
  exact ⟨ns, at_, left, s _ _ h1 n1.symm, s _ _ h2 n2.symm, h3, h4, h5⟩
theorem PenC.lst {H : Hp} {p c : Addr} {k : Nat} (h : PenC H p c k) : ∃ xs, H p = some (.lst xs) := by
  obtain ⟨ns, at_, left, h1, _⟩ := h
  exact ⟨_, h1⟩
theorem PenC.not {H : Hp} {p c b : Addr} {k : Nat} {o : HO} (h : PenC H p c k) (e : H b = some o) (n : ∀ xs, o ≠ .lst xs) : b ≠ p := by
  obtain ⟨xs, h1⟩ := h.lst
  intro z
  rw [z, h1] at e
  exact n xs (Option.some.inj e).symm
def spPen (K : PySem.W.Frag) : Sp := fun vs H Q _ => ∃ (a : Addr) (ns : List Int), vs = [.ref a] ∧ SqL K H a (ns.map V.int) ∧ ns.length ≤ 63 ∧
  ∀ H' p c, Same H H' → H p = none → H c = none → PenC H' p c 100000 → Q (.ref p) H'
def spDraw : Sp := fun vs H Q _ => ∃ (p c : Addr) (many : Int) (k : Nat), vs = [.ref p, .int many] ∧ 0 < many ∧ many < 1000000000 ∧ PenC H p c (k + 1) ∧
  ∀ (r : Int) H', 0 ≤ r → r < many → PenC H' p c k → Keep p H H' → Q (.int r) H'
theorem Keep.tr {p : Addr} {H1 H2 H3 : Hp} (a : Keep p H1 H2) (b : Keep p H2 H3) : Keep p H1 H3 := fun x o e n => b x o (a x o e n) n
theorem Keep.same {p : Addr} {H1 H2 : Hp} (a : Same H1 H2) : Keep p H1 H2 := fun x o e n => a x o e
theorem Keep.refl {p : Addr} {H : Hp} : Keep p H H := fun _ _ e _ => e
open KD
/-- a draw keeps all but lists -/
theorem Keep.sn {p c : Addr} {k : Nat} {H H' : Hp} (s : Keep p H H') (pn : PenC H p c k) : SameN H H' := fun a o e n => s a o e (pn.not e n)
theorem SameN.refl {H : Hp} : SameN H H := fun _ _ e _ => e
theorem SameN.lset {H : Hp} {D : Addr} {xs ys : List V} (h : H D = some (.lst xs)) : SameN H (upd H D (.lst ys)) := fun a o e n => by
  rw [upd_ne (fun z => n xs (by rw [z, h] at e; exact (Option.some.inj e).symm))]
  exact e
theorem SameN.seqT {K : PySem.W.Frag} {H H' : Hp} {a : Addr} {xs : List V} (s : SameN H H') (h : SqT K H a xs) : SqT K H' a xs := by
  rcases h with (h | ⟨o, h⟩) | h
  · exact .inl (.inl (s.tup h))
  · exact .inl (.inr ⟨o, s a _ h fun _ z => by cases z⟩)
  · exact .inr h
theorem Keep.mut {p D : Addr} {H1 H : Hp} {o : HO} (s : Keep p H1 H) (hD : H1 D = none) : Keep p H1 (upd H D o) := fun b o e n => by
  rw [upd_ne (ne_of_none e hD)]
  exact s b o e n
theorem PenC.mut {H : Hp} {p c D : Addr} {k : Nat} {o : HO} (h : PenC H p c k) (n1 : D ≠ p) (n2 : D ≠ c) : PenC (upd H D o) p c k := by
  obtain ⟨ns, at_, left, h1, h2, h3, h4, h5⟩ := h
  exact ⟨ns, at_, left, by rw [upd_ne n1.symm]; exact h1, by rw [upd_ne n2.symm]; exact h2, h3, h4, h5⟩
/-- a comprehension that draws: Kr i: the draws that are left ahead of the i-th element -/
theorem lc_pen {J : It} {n : Nat} {G : Hp → Prop} {Y : Nat → Hp → V → Hp → Prop} (wk : Walk J n G Y) {g : TG} {tt : TT} {te : TE} {vs : List Nat} {σ : L2.St} {H1 : Hp} {Q : VK} {pen c : Addr} (R : Nat → V → Hp → Prop) (Kr : Nat → Nat) (hn : n ≤ 10000) (pn : PenC H1 pen c (Kr 0))
    (up : ∀ i v H H', R i v H → SameN H H' → R i v H') (hG : ∀ H', Keep pen H1 H' → G H')
    (hs : ∀ i x H H' (N : V → Hp → Prop) (B : Hp → Prop), i < n → Keep pen H1 H → PenC H pen c (Kr i) → Y i H x H' → (∀ v H2, Keep pen H H2 → PenC H2 pen c (Kr (i + 1)) → R i v H2 → N v H2) → g x (wipe σ vs) H' fun σ2 H2 => wipe σ2 vs = wipe σ vs ∧ tt σ2 H2 fun b H3 => if b = true then te σ2 H3 N else B H3)
    (hd : ∀ D H' (ys : List V), H1 D = none → Keep pen H1 H' → PenC H' pen c (Kr n) → H' D = some (.lst ys) → ys.length = n → (∀ i v, ys[i]? = some v → R i v H') → Q (.ref D) H') :
    LcW J g tt te vs σ H1 Q := by
  intro D hD
  have dp := pn.ne hD
  have dc := pn.nec hD
  refine lc_it wk (Qd := fun H => Q (.ref D) H) (fun i H => Keep pen H1 H ∧ PenC H pen c (Kr i) ∧ ∃ ys : List V, H D = some (.lst ys) ∧ ys.length = i ∧ ∀ j v, ys[j]? = some v → R j v H) ⟨Keep.same (same_new hD), pn.up (same_new hD), [], upd_same, rfl, fun j v e => by simp at e⟩ (fun i H _ p => hG H p.1) (fun i x H H' hi p y => ?_) (fun H p => ?_)
  · obtain ⟨sm, pi, ys, hy, hl, hR⟩ := p
    refine hs i x H H' _ _ hi sm pi y (fun v H2 k2 p2 r => ?_)
    have e2 := k2 _ _ hy dp
    refine ⟨ys, e2, small1000' (by omega), (sm.tr k2).mut hD, p2.mut dp dc, ys ++ [v], upd_same, by simp [hl], fun j w e => ?_⟩
    by_cases hj : j < ys.length
    · rw [List.getElem?_append_left hj] at e
      exact up _ _ _ _ (hR j w e) ((k2.sn pi).trans (SameN.lset e2))
    · rw [List.getElem?_append_right (by omega)] at e
      have h0 : j - ys.length = 0 := by
        cases z : j - ys.length with
        | zero => rfl
        | succ m => rw [z] at e; simp at e
      rw [h0] at e
      have ew : v = w := Option.some.inj e
      subst ew
      have ej : j = i := by omega
      subst ej
      exact up _ _ _ _ r (SameN.lset e2)
  · obtain ⟨sm, pi, ys, hy, hl, hR⟩ := p
    exact hd D H ys hD sm pi hy hl hR
theorem walk_zipT {K : PySem.W.Frag} {a b : Addr} {xs ys : List V} {n : Nat} (hn : n = min xs.length ys.length) : Walk (RZ.ItzT K a b) n (fun H => SqT K H a xs ∧ SqT K H b ys) (YPair (fun i => xs[i]?) (fun i => ys[i]?)) := by
  subst hn
  refine ⟨fun i _ hi q => ?_, fun _ q => ⟨xs, ys, q.1, q.2, by omega⟩, fun i H v H' _ q y => ?_⟩
  · have h1 : i < xs.length := by omega
    have h2 : i < ys.length := by omega
    exact ⟨xs, ys, xs[i], ys[i], q.1, q.2, by simp [h1], by simp [h2]⟩
  · obtain ⟨T, x, z, h1, h2, h3, h4, h5⟩ := y
    exact ⟨T, x, z, h1, h2, h3, h4 xs q.1, h5 ys q.2⟩
/-- f(e, ..) where the keyword-only parameters lack: their defaults -/
theorem kbn_def {K : PySem.W.Frag} {x qual : Str} {params : Arguments} {body : List Stmt} {scope : Scope} {kws : List (Str × V)} {f : Addr} {fd : FuncData} {ps : List Str} (F : FunD K x qual params body scope [] kws f fd) (n : Nat) (hk : kws ≠ []) (hn : n + kws.length = ps.length)
    (h : ∀ (D : Addr) (doc pm : Value) (an : Option Addr) (cdv ct : Value) (us ks : List Value), us.length = n → ks.length = kws.length →
      KwChain D ((kws.map (·.1)).zip ks) (bindArgs (PySem.W.fnOf x qual params body scope .none (.ref D) doc pm an cdv ct) ⟨us, []⟩) (ps.zip (us ++ ks))) : ∃ gg : List Value → List Value → List Value, KBn K fd ps n [] gg (fun vs _ => vs ++ kws.map (·.2)) := by
  obtain ⟨ds, rd, bd⟩ := F.binds0 n hk hn h
  have ld : ds.length = kws.length := by have := rd.length; simpa using this.symm
  refine ⟨fun us _ => us ++ ds, fun s us ws X l1 l2 => ?_, fun r1 _ => r1.append rd⟩
  exact bd s us X (by rw [List.length_append]; omega)
theorem r_zipA {K : PySem.W.Frag} {σ : L2.St} {H : Hp} {ta : TA} {R : It → Hp → Prop} (q : ta σ H fun vs H1 => ∃ a b xs ys, vs = [.ref a, .ref b] ∧ ((SqL K H1 a xs ∧ SqL K H1 b ys ∧ R (Itz K a b) H1) ∨ (SqT K H1 a xs ∧ SqT K H1 b ys ∧ R (RZ.ItzT K a b) H1))) : RZ.iZipA K ta σ H R := q
theorem atI_mem {α : Type} {xs : List α} {r : Int} (h0 : 0 ≤ r) (h1 : r < (xs.length : Int)) : ∃ x ∈ xs, atI xs r = some x := by
  obtain ⟨n, rfl⟩ : ∃ n : Nat, r = (n : Int) := ⟨r.toNat, by omega⟩
  have hl : n < xs.length := by omega
  exact ⟨xs[n], List.getElem_mem hl, atI_nat (by simp [hl])⟩
/-- what all elements are, as one list -/
theorem choose_list {α : Type} {f : α → V} {Pr : Nat → α → Prop} : ∀ (ys : List V), (∀ (i : Nat) (v : V), ys[i]? = some v → ∃ a, Pr i a ∧ v = f a) → ∃ as : List α, ys = as.map f ∧ as.length = ys.length ∧ ∀ (i : Nat) (a : α), as[i]? = some a → Pr i a
  | ys, h => by
    induction ys generalizing Pr with
    | nil => exact ⟨[], rfl, rfl, fun i a e => by simp at e⟩
    | cons y ys ih =>
      obtain ⟨a, pa, rfl⟩ := h 0 y rfl
      obtain ⟨as, rfl, l, q⟩ := ih (Pr := fun i a => Pr (i + 1) a) fun i v e => h (i + 1) v e
      refine ⟨a :: as, rfl, by simp, fun i b e => ?_⟩
      cases i with
      | zero => cases e; exact pa
      | succ i => exact q i b e
def sign (c : Nat) : Str := ⟨#[c]⟩
theorem str_ext {a b : Str} (h : a.cps.toList = b.cps.toList) : a = b := by
  cases a; cases b
  congr 1
  exact Array.toList_inj.mp h
theorem append_toList (a b : Str) : (a ++ b).cps.toList = a.cps.toList ++ b.cps.toList := Array.toList_append
theorem join_signs : ∀ cs : List Nat, (Str.join ⟨#[]⟩ (cs.map sign)).cps.toList = cs
  | [] => rfl
  | [c] => rfl
  | c :: d :: r => by
    show (sign c ++ (⟨#[]⟩ : Str) ++ Str.join ⟨#[]⟩ ((d :: r).map sign)).cps.toList = c :: d :: r
    rw [append_toList, append_toList, join_signs (d :: r)]
    rfl
theorem sum_signs (cs : List Nat) : ((cs.map sign).map (·.length)).sum = cs.length := by
  induction cs with
  | nil => rfl
  | cons c r ih =>
    rw [List.map_cons, List.map_cons, List.sum_cons, ih, List.length_cons]
    show 1 + r.length = _
    omega
end KV

/-! KW: o op= v by an own operator without an in-place form; ~o; a property read. -/
namespace KW
open PySem PySem.Spec PyProof.Rows L2 KB KG KO KY KR
section
variable {prog : Program} {w : World} {A : Around} {E : Value → Shared → Prop} {s : Shared} {K : PySem.W.Frag} {x C L g g2 : Addr} {hb : Heap} {m : Str → Option Value} {ox : Obj} {od : Option Obj} {T : String} {nm : String}
open PySem.W in
theorem fillsI_no {M : Model} {h : Heap} {cd : ClassData} {add : Bool} (X : K.In h) (hc : clsIn K C = some cd) (hm : cd.mro = [.ref C, .type "object"]) (h1 : findIn K (.ref C) (dunderI nm) = some none) (h2 : findIn K (.type "object") (dunderI nm) = some none) : Looks M h (fillsInplaceSlot (.ref C) nm add) false := by
  intro A Q E s k q
  have Lm : Looks M h (mroOf (.ref C)) cd.mro := (looks_clsIn X hc).andThen (f := fun cd => pure cd.mro) .now
  have Lm' := Lm.keeps k
  obtain ⟨hh, g, d, tt, os⟩ := s
  have X' : K.In hh := X.keeps k
  have L1 : Looks M hh (typeLookup (.ref C) (dunderI nm)) none := looks_findIn X' h1
  have L2 : Looks M hh (typeLookup (.type "object") (dunderI nm)) none := looks_findIn X' h2
  unfold fillsInplaceSlot
  refine wpAny_bind (Lm'.at ?_)
  rw [hm, List.anyM_cons]
  refine wpAny_bind ?_
  refine wpAny_bind (L1.at ?_)
  refine wpAny_pure ?_
  simp only [Bool.false_eq_true, if_false]
  rw [List.anyM_cons]
  refine wpAny_bind ?_
  refine wpAny_bind (L2.at ?_)
  refine wpAny_pure ?_
  simp only [Bool.false_eq_true, if_false]
  exact wpAny_pure q
open PySem.W in
/-- o op= v -/
theorem in_left {op : Operator} {v : Value} {fo ro rc : Option Value} {Z : Value → Shared → Prop} (F : Fr hb L s.heap m) (X0 : K.In hb) (I : InstAt s.heap x ox C od) (lv : Looks (model prog w) s.heap (typeOf v) (.type T)) (c1 : ∃ cd, clsIn K C = some cd ∧ cd.mro = [.ref C, .type "object"])
    (c2 : findIn K (.ref C) (PySem.dunder op.info.2) = some (some (.ref g))) (c3 : isFn K (.ref g) = true) (c4 : findIn K (.ref C) (dunderR op.info.2) = some rc) (c5 : rc = none ∨ ∃ z : Addr, rc = some (.ref z))
    (c6 : findIn K (.type T) (PySem.dunder op.info.2) = some fo) (c7 : findIn K (.type T) (dunderR op.info.2) = some ro) (c8 : subIn K (.type T) (.ref C) = some false)
    (c9 : findIn K (.ref C) (dunderI op.info.2) = some none) (c10 : findIn K (.type "object") (dunderI op.info.2) = some none)
    (go : wpAny (model prog w) A (call (.ref g) [.ref x, v]) (PySem.W.CmpBack Z) E s) : wpAny (model prog w) A (inplaceOp op (.ref x) v) Z E s := by
  have XK := X0.keeps F.keep
  obtain ⟨cd, hcd, hmro⟩ := c1
  rcases oi : op.info with ⟨sy, n1⟩
  rw [oi] at c2 c4 c6 c7 c9 c10
  dsimp only at c2 c4 c6 c7 c9 c10
  have once := ksp_try XK I c2 c3 go
  obtain ⟨sh, sg, sd, stk, sos⟩ := s
  have k1 : Looks (model prog w) sh (typeOf (.ref x)) (.ref C) := I.type
  have k2 : Looks (model prog w) sh (typeOf v) (.type T) := lv
  have k0 : Looks (model prog w) sh (fillsInplaceSlot (.ref C) n1 (op == .Add)) false := fillsI_no XK hcd hmro c9 c10
  have k3 : Looks (model prog w) sh (fillsNumberSlot (.ref C) n1) true := fills_K XK hcd hmro c2
  have k4 : Looks (model prog w) sh (fillsNumberSlot (.type T) n1) _ := ksp_fillsT XK c6 c7
  have k5 : Looks (model prog w) sh (isSubtype (.type T) (.ref C)) false := looks_subIn XK c8
  have k6 : Looks (model prog w) sh (numberSlotInPython (.ref C) n1) true := ksp_inPy XK c2 c4 c5
  have k7 : Looks (model prog w) sh (numberSlotInPython (.type T) n1) false := Looks.of_pure rfl
  have k8 : Looks (model prog w) sh (typeLookup (.type T) (dunderR n1)) ro := looks_findIn XK c7
  revert k4
  generalize ((fo.isSome && !isSeqSlot fo) || (ro.isSome && !isSeqSlot ro)) = rt
  intro k4
  have nq : (Value.ref C == Value.type T) = false := Bool.eq_false_iff.mpr fun q => by cases beq_iff_eq.mp q
  unfold inplaceOp
  simp only [oi]
  refine wpAny_holding ?_
  refine wpAny_bind (k1.at ?_)
  refine wpAny_bind (k0.at ?_)
  simp only [Bool.false_eq_true, if_false]
  refine wpAny_bind ?_
  unfold binaryOp1
  refine wpAny_bind (k1.at (wpAny_bind (k2.at (wpAny_bind (k3.at ?_)))))
  simp only [nq, Bool.false_eq_true, if_false]
  cases rt
  all_goals
    ksp_lk
    refine wpAny_mono once (fun r s' y => ?_) fun _ _ e => e
    obtain ⟨v', rfl, hq⟩ := y
    ksp_lk
    exact hq
end
section
variable {X : Cx} {pins : List (Addr × Obj)} {σ : L2.St} {H : Hp} {st : Shared}
structure OwnIn (P : Program) (w : World) (K : PySem.W.Frag) (mg : Str → Option Value) (base : Heap) (CX : CXT) (k : Nat) (C : Addr) (op : Operator) (ps : List Str) (sp : Sp) : Prop where
  ex : ∃ (g : Addr) (fd : FuncData) (rc fo ro : Option Value), (∃ cd, PySem.W.clsIn K C = some cd ∧ cd.mro = [.ref C, .type "object"]) ∧ PySem.W.findIn K (.ref C) (PySem.dunder op.info.2) = some (some (.ref g)) ∧ PySem.W.isFn K (.ref g) = true ∧ PySem.W.findIn K (.ref C) (dunderR op.info.2) = some rc ∧ (rc = none ∨ ∃ g : Addr, rc = some (.ref g)) ∧
    PySem.W.findIn K (.type "int") (PySem.dunder op.info.2) = some fo ∧ PySem.W.findIn K (.type "int") (dunderR op.info.2) = some ro ∧ PySem.W.subIn K (.type "int") (.ref C) = some false ∧ PySem.W.findIn K (.ref C) (dunderI op.info.2) = some none ∧ PySem.W.findIn K (.type "object") (dunderI op.info.2) = some none ∧
    FnOk P w K mg base CX k g fd ps sp ∧ Binds K fd ps []
/-- x op= v, v an int -/
def tipO (C : Addr) (sp : Sp) (E : XK) : TIp := fun x y H Q => ∃ (a dx : Addr) (fs : List (Str × V)) (i : Int), x = .ref a ∧ H a = some (.ins C dx fs) ∧ y = .int i ∧ sp [x, y] H Q E
theorem ip_own {CX : CXT} {E : XK} {C : Addr} {op : Operator} {ps : List Str} {sp : Sp} {n : Nat} (c : OwnIn X.prog X.w X.K X.mg X.base CX n C op ps sp) (room : Room n X.A) (pass : Passes CX X E) : PIp X op (tipO C sp E) := by
  obtain ⟨g, fd, rc, fo, ro, c1, c2, c3, c4, c5, c6, c7, c8, c9, c10, F, bind⟩ := c.ex
  intro pins st σ h x y v u Z inv rx ry pre
  obtain ⟨a, dx, fs, i, rfl, ha, rfl, z⟩ := pre
  obtain rfl : v = Value.ref a := rx
  obtain ⟨tk, rfl⟩ := (show ∃ t, u = Value.int i t from ry)
  obtain ⟨od, J⟩ := inst_of inv ha
  obtain ⟨m, hF⟩ := inv.fr
  refine in_left (T := "int") hF inv.ok.mod.kin J (PySem.W.Looks.of_pure rfl) c1 c2 c3 c4 c5 c6 c7 c8 c9 c10 ?_
  refine wpAny_mono (run_fn (us := [.ref a, .int i tk]) (vs := [.ref a, .int i]) F room bind .nil pass inv (.cons rfl (.cons ⟨tk, rfl⟩ .nil)) z) (fun w s2 r => ?_) fun _ _ z => z
  obtain ⟨z', h2, inv2, rz, qz⟩ := r
  exact SlX.cmpback rz ⟨z', h2, inv2, rz, qz⟩
structure OwnU (P : Program) (w : World) (K : PySem.W.Frag) (mg : Str → Option Value) (base : Heap) (CX : CXT) (k : Nat) (C : Addr) (ps : List Str) (sp : Sp) : Prop where
  ex : ∃ (g : Addr) (fd : FuncData), PySem.W.findIn K (.ref C) "__invert__" = some (some (.ref g)) ∧ PySem.W.isFn K (.ref g) = true ∧ FnOk P w K mg base CX k g fd ps sp ∧ Binds K fd ps []
def rUnO (C : Addr) (sp : Sp) (E : XK) : V → Hp → VK → Prop := fun x H Q => ∃ (a dx : Addr) (fs : List (Str × V)), x = .ref a ∧ H a = some (.ins C dx fs) ∧ sp [x] H Q E
theorem un_invO {CX : CXT} {E : XK} {C : Addr} {ps : List Str} {sp : Sp} {n : Nat} (c : OwnU X.prog X.w X.K X.mg X.base CX n C ps sp) (room : Room n X.A) (pass : Passes CX X E) : UnR X (unaryOp .Invert) (rUnO C sp E) := by
  obtain ⟨g, fd, c1, c2, F, bind⟩ := c.ex
  intro pins st σ h x v Z inv rx pre
  obtain ⟨a, dx, fs, rfl, ha, z⟩ := pre
  obtain rfl : v = Value.ref a := rx
  obtain ⟨od, J⟩ := inst_of inv ha
  obtain ⟨m, hF⟩ := inv.fr
  refine PySem.W.ksp_inv hF inv.ok.mod.kin J c1 c2 ?_
  exact run_fn (us := [.ref a]) (vs := [.ref a]) F room bind .nil pass inv (.cons rfl .nil) z
structure OwnP (P : Program) (w : World) (K : PySem.W.Frag) (mg : Str → Option Value) (base : Heap) (k : Nat) (C : Addr) (f : Str) (ps : List Str) (sp : Sp) : Prop where
  ex : ∃ (p g : Addr) (fd : FuncData), PropOf K C f p g ∧ FnOk P w K mg base CX0 k g fd ps sp ∧ Binds K fd ps []
  cl : Cls K C
theorem pe_propO {C : Addr} {f : Str} {ps : List Str} {sp : Sp} {n : Nat} {e : Expr} {pos : Pos} {ta : TE} (c : OwnP X.prog X.w X.K X.mg X.base n C f ps sp) (he : PE X e ta) (room : Room (n + 1) X.A)
    (hab : attributeBase e f X.env (eval e X.env) = eval e X.env := by rfl) : PE X (.Attribute e f pos) (tProp C sp [] E0 ta) := by
  obtain ⟨p, g, fd, hp, F, hb⟩ := c.ex
  exact pe_prop he c.cl hp F room hb .nil pass0 hab
theorem r_prop {σ : L2.St} {H : Hp} {Q : VK} {C : Addr} {sp : Sp} {E : XK} {ta : TE} (q : ta σ H fun x H1 => ∃ a dx fs, x = .ref a ∧ H1 a = some (.ins C dx fs) ∧ sp [.ref a] H1 Q E) : tProp C sp [] E ta σ H Q := q
end
/-! ### lists of pairs of ints -/
def PairsAt (H : Hp) (ys : List V) (ps : List (Int × Int)) : Prop := ys.length = ps.length ∧ ∀ (i : Nat) (v : V) (p : Int × Int), ys[i]? = some v → ps[i]? = some p → ∃ a, v = .ref a ∧ H a = some (.tup [.int p.1, .int p.2])
theorem PairsAt.sn {H H' : Hp} {ys : List V} {ps : List (Int × Int)} (h : PairsAt H ys ps) (s : KD.SameN H H') : PairsAt H' ys ps := ⟨h.1, fun i v p h1 h2 => by
  obtain ⟨a, e1, e2⟩ := h.2 i v p h1 h2
  exact ⟨a, e1, s.tup e2⟩⟩
theorem PairsAt.up {H H' : Hp} {ys : List V} {ps : List (Int × Int)} (h : PairsAt H ys ps) (s : Same H H') : PairsAt H' ys ps := h.sn (KD.SameN.of s)
theorem PairsAt.nil {H : Hp} : PairsAt H [] [] := ⟨rfl, fun i v p h1 _ => by simp at h1⟩
theorem PairsAt.append {H : Hp} {ys zs : List V} {ps qs : List (Int × Int)} (h : PairsAt H ys ps) (g : PairsAt H zs qs) : PairsAt H (ys ++ zs) (ps ++ qs) := by
  refine ⟨by simp [h.1, g.1], fun i v p h1 h2 => ?_⟩
  by_cases lt : i < ys.length
  · rw [List.getElem?_append_left lt] at h1
    rw [List.getElem?_append_left (by rw [← h.1]; exact lt)] at h2
    exact h.2 i v p h1 h2
  · rw [List.getElem?_append_right (by omega)] at h1
    rw [List.getElem?_append_right (by rw [← h.1]; omega), ← h.1] at h2
    exact g.2 _ v p h1 h2
theorem PairsAt.one {H : Hp} {a : Addr} {p : Int × Int} (e : H a = some (.tup [.int p.1, .int p.2])) : PairsAt H [.ref a] [p] := by
  refine ⟨rfl, fun i v q h1 h2 => ?_⟩
  cases i with
  | zero => cases h1; cases h2; exact ⟨a, rfl, e⟩
  | succ i => simp at h1
theorem PairsAt.snoc {H : Hp} {ys : List V} {ps : List (Int × Int)} {a : Addr} {p : Int × Int} (h : PairsAt H ys ps) (e : H a = some (.tup [.int p.1, .int p.2])) : PairsAt H (ys ++ [.ref a]) (ps ++ [p]) := h.append (.one e)
theorem PairsAt.tail {H : Hp} {y : V} {p : Int × Int} {ys : List V} {ps : List (Int × Int)} (h : PairsAt H (y :: ys) (p :: ps)) : PairsAt H ys ps := ⟨by simpa using h.1, fun i v q h1 h2 => h.2 (i + 1) v q h1 h2⟩
def dPair (p : Int × Int) : PyData := .tuple [.int p.1, .int p.2]
def dPairs (ps : List (Int × Int)) : PyData := .list (ps.map dPair)
theorem PairsAt.dp {K : PySem.W.Frag} {H : Hp} : ∀ {ys : List V} {ps : List (Int × Int)}, PairsAt H ys ps → DpAll K H ys (ps.map dPair)
  | [], [], _ => .nil
  | [], _ :: _, h => by have := h.1; simp at this
  | _ :: _, [], h => by have := h.1; simp at this
  | y :: ys, p :: ps, h => by
    obtain ⟨a, rfl, e⟩ := h.2 0 y p rfl rfl
    exact .cons (.tup (SqT.of e) (.cons (.int _) (.cons (.int _) .nil))) (PairsAt.dp h.tail)
theorem sm_pair {p : Int × Int} (h1 : p.1.natAbs < 10 ^ 12) (h2 : p.2.natAbs < 10 ^ 12) : KV.Sm 33 1 (dPair p) := by
  refine (KV.Sm.tuple (n := 13) (k := 0) (xs := [.int p.1, .int p.2]) fun y my => ?_).mono (by simp) (Nat.le_refl _)
  rcases List.mem_cons.mp my with rfl | my
  · exact KV.Sm.int h1
  · rw [List.mem_singleton.mp my]
    exact KV.Sm.int h2
theorem sm_pairs {ps : List (Int × Int)} (h : ∀ p ∈ ps, p.1.natAbs < 10 ^ 12 ∧ p.2.natAbs < 10 ^ 12) (l : ps.length ≤ 2000) : KV.Sm 70003 2 (dPairs ps) := by
  refine (KV.Sm.list (n := 33) (k := 1) (xs := ps.map dPair) fun x m => ?_).mono (by rw [List.length_map]; omega) (Nat.le_refl _)
  obtain ⟨p, hp, rfl⟩ := List.mem_map.mp m
  exact sm_pair (h p hp).1 (h p hp).2
/-- the pair that a value is -/
noncomputable def pairV (H : Hp) (v : V) : Int × Int := match v with
  | .ref a => match H a with
    | some (.tup [.int i, .int j]) => (i, j)
    | _ => (0, 0)
  | _ => (0, 0)
theorem pairV_at {H : Hp} {a : Addr} {p : Int × Int} (e : H a = some (.tup [.int p.1, .int p.2])) : pairV H (.ref a) = p := by
  simp only [pairV, e]
theorem PairsAt.map {H : Hp} : ∀ {ys : List V} {ps : List (Int × Int)}, PairsAt H ys ps → ys.map (pairV H) = ps ∧ ∀ y ∈ ys, ∃ t, y = .ref t ∧ H t = some (.tup [.int (pairV H y).1, .int (pairV H y).2])
  | [], [], _ => ⟨rfl, fun y m => (List.not_mem_nil m).elim⟩
  | [], _ :: _, h => by have := h.1; simp at this
  | _ :: _, [], h => by have := h.1; simp at this
  | y :: ys, p :: ps, h => by
    obtain ⟨a, rfl, e⟩ := h.2 0 y p rfl rfl
    obtain ⟨m1, m2⟩ := PairsAt.map h.tail
    have e2 := pairV_at e
    refine ⟨by rw [List.map_cons, e2, m1], fun z m => ?_⟩
    rcases List.mem_cons.mp m with rfl | m
    · exact ⟨a, rfl, by rw [e2]; exact e⟩
    · exact m2 z m
/-- sorted(xs) of pairs that ascend already -/
theorem r_sortedUp {K : PySem.W.Frag} {H : Hp} {Q : VK} {a : Addr} {xs : List V} {ps : List (Int × Int)} (sq : SqL K H a xs) (pa : PairsAt H xs ps) (asc : ps.Pairwise fun p q => p.1 < q.1) (q : ∀ p, H p = none → Q (.ref p) (upd H p (.lst xs))) : rSortedPO K [.ref a] H Q := by
  obtain ⟨m1, m2⟩ := pa.map
  refine ⟨a, xs, pairV H, rfl, sq, m2, fun ys p so st np => ?_⟩
  have asc2 : xs.Pairwise fun x y => (pairV H x).1 < (pairV H y).1 := by
    rw [← m1] at asc
    exact (List.pairwise_map (R := fun p q : Int × Int => p.1 < q.1)).mp asc
  have inj : ∀ x ∈ xs, ∀ y ∈ xs, (pairV H x).1 = (pairV H y).1 → x = y := by
    have key : ∀ l : List V, (l.Pairwise fun x y => (pairV H x).1 < (pairV H y).1) → ∀ x ∈ l, ∀ y ∈ l, (pairV H x).1 = (pairV H y).1 → x = y := by
      intro l
      induction l with
      | nil => intro _ x hx; exact (List.not_mem_nil hx).elim
      | cons z l ih =>
        intro pw x hx y hy e
        obtain ⟨p1, p2⟩ := List.pairwise_cons.mp pw
        rcases List.mem_cons.mp hx with rfl | hx2 <;> rcases List.mem_cons.mp hy with rfl | hy2
        · rfl
        · have := p1 y hy2; omega
        · have := p1 x hx2; omega
        · exact ih p2 x hx2 y hy2 e
    exact key xs asc2
  have le_no : ∀ {x y : V}, ltP (pairV H) y x = false → (pairV H x).1 ≤ (pairV H y).1 := fun {x y} h => by
    have z := SrtO.lexB_no.mp h
    omega
  have e : ys = xs := by
    refine List.Perm.eq_of_pairwise (le := fun x y => (pairV H x).1 ≤ (pairV H y).1) (fun x y hx hy h1 h2 => ?_) ?_ ?_ st.perm
    · exact inj x (st.perm.mem_iff.mp hx) y hy (by omega)
    · exact List.Pairwise.imp (fun {x y} h => le_no h) so
    · exact asc2.imp fun h => by omega
  rw [e]
  exact q p np
end KW

/-! KM: what blends do, operation by operation; the normal form read off the columns. -/
namespace KBL
open PySem
theorem ap_made (w : Nat) (s : Int) (m f v : Nat) : f ^^^ (keepN w s m &&& shN w v (shiftN w s m)) = ap w s m f v := ap_norm w s m f v
theorem src_lt {w : Nat} {s : Int} {k p : Nat} (h : w ≤ p) : src w s k p = false := by
  unfold src
  rw [decide_eq_false (by omega)]
  rfl
theorem keepN_idem (w : Nat) (s : Int) (m n : Nat) : keepN w (shiftN w s m) (keepN w s m &&& n) = keepN w s m &&& n := by
  by_cases h : keepN w s m = 0
  · rw [h, Nat.zero_and]
    unfold keepN
    rw [Nat.and_zero]
  · unfold shiftN
    rw [if_neg h]
    refine Nat.eq_of_testBit_eq fun p => ?_
    rw [bit_keep, Nat.testBit_and, bit_keep]
    unfold src
    rw [Nat.testBit_and, bit_keep]
    unfold src
    cases decide (p < w) <;> cases decide (s ≤ (p : Int)) <;> cases decide ((p : Int) - s < w) <;> cases m.testBit p <;> rfl
theorem and_keep (w : Nat) (s : Int) (m : Nat) : keepN w s m &&& onesN w = keepN w s m := by
  refine Nat.eq_of_testBit_eq fun p => ?_
  rw [Nat.testBit_and, show onesN w = 2 ^ w - 1 from rfl, Nat.testBit_two_pow_sub_one]
  by_cases h : p < w
  · rw [decide_eq_true h, Bool.and_true]
  · rw [bit_keep, src_lt (by omega)]
    rfl
theorem keepN_idem0 (w : Nat) (s : Int) (m : Nat) : keepN w (shiftN w s m) (keepN w s m) = keepN w s m := by
  have h := keepN_idem w s m (onesN w)
  rw [and_keep] at h
  exact h
theorem ap_form {w : Nat} {s : Int} {m k' f' v : Nat} (h : keepN w (shiftN w s m) k' = k') : ap w (shiftN w s m) k' f' v = f' ^^^ (k' &&& shN w v (shiftN w s m)) := by
  unfold ap
  rw [h]
theorem bits_ext {a b : Nat} (h : ∀ p, a.testBit p = b.testBit p) : a = b := Nat.eq_of_testBit_eq h
theorem ap_and (w : Nat) (s : Int) (m f n v : Nat) : ap w (shiftN w s m) (keepN w s m &&& n) (f &&& n) v = ap w s m f v &&& n := by
  rw [ap_form (keepN_idem w s m n), ← ap_made]
  refine bits_ext fun p => ?_
  simp only [Nat.testBit_xor, Nat.testBit_and]
  cases f.testBit p <;> cases n.testBit p <;> cases (keepN w s m).testBit p <;> cases (shN w v (shiftN w s m)).testBit p <;> rfl
theorem ap_or {w : Nat} {s : Int} {m f n v : Nat} : ap w (shiftN w s m) (keepN w s m &&& (onesN w ^^^ n)) (f ||| n) v = ap w s m f v ||| n := by
  rw [ap_form (keepN_idem w s m _), ← ap_made]
  refine bits_ext fun p => ?_
  simp only [Nat.testBit_xor, Nat.testBit_and, Nat.testBit_or]
  rw [show onesN w = 2 ^ w - 1 from rfl, Nat.testBit_two_pow_sub_one]
  by_cases h : p < w
  · rw [decide_eq_true h]
    cases f.testBit p <;> cases n.testBit p <;> cases (keepN w s m).testBit p <;> cases (shN w v (shiftN w s m)).testBit p <;> rfl
  · rw [bit_keep, src_lt (by omega)]
    simp
theorem ap_xor (w : Nat) (s : Int) (m f n v : Nat) : ap w (shiftN w s m) (keepN w s m) (f ^^^ n) v = ap w s m f v ^^^ n := by
  rw [ap_form (keepN_idem0 w s m), ← ap_made]
  refine bits_ext fun p => ?_
  simp only [Nat.testBit_xor, Nat.testBit_and]
  cases f.testBit p <;> cases n.testBit p <;> cases (keepN w s m).testBit p <;> cases (shN w v (shiftN w s m)).testBit p <;> rfl
theorem ap_begin {w : Nat} {s : Int} {m f v : Nat} (hv : v < 2 ^ w) : ap w s m f v = (shN w v s &&& m) ^^^ f := by
  refine bits_ext fun p => ?_
  rw [bit_ap hv, Nat.testBit_xor, Nat.testBit_and, bit_sh hv, Bool.xor_comm]
  congr 1
  unfold src
  by_cases h1 : p < w
  · by_cases h2 : s ≤ (p : Int)
    · rw [decide_eq_true h1, decide_eq_true h2]
      by_cases h3 : v.testBit ((p : Int) - s).toNat = true
      · have := bits_below hv h3
        rw [h3, decide_eq_true (show (p : Int) - s < w by omega)]
        cases m.testBit p <;> rfl
      · rw [Bool.eq_false_iff.mpr h3]
        cases m.testBit p <;> simp
    · rw [decide_eq_false h2]
      simp
  · rw [decide_eq_false h1]
    simp
/-- the shift behind a move -/
def movT (w : Nat) (s s' : Int) (k : Nat) : Int := if shN w k s' = 0 then 0 else s + s'
theorem ap_move {w : Nat} {s s' : Int} {m f v : Nat} (hf : f < 2 ^ w) (hv : v < 2 ^ w) : ap w (movT w (shiftN w s m) s' (keepN w s m)) (shN w (keepN w s m) s') (shN w f s') v = shN w (ap w s m f v) s' := by
  have hk := keep_lt w s m
  refine bits_ext fun p => ?_
  rw [bit_ap hv, bit_sh hf, bit_sh (ap_lt hf hv), bit_ap hv]
  by_cases h1 : p < w
  rotate_left
  · rw [src_lt (by omega), decide_eq_false h1]
    rfl
  by_cases h2 : s' ≤ (p : Int)
  rotate_left
  · rw [decide_eq_false h2]
    unfold src
    rw [bit_sh hk, decide_eq_false h2]
    simp
  rw [decide_eq_true h1, decide_eq_true h2, Bool.true_and, Bool.true_and]
  congr 1
  by_cases hz : src w s m ((p : Int) - s').toNat = true
  · have hb : (shN w (keepN w s m) s').testBit p = true := by
      rw [bit_sh hk, decide_eq_true h1, decide_eq_true h2, bit_keep, hz]
      rfl
    have n1 : shN w (keepN w s m) s' ≠ 0 := fun e => by rw [e, Nat.zero_testBit] at hb; cases hb
    have n2 : keepN w s m ≠ 0 := fun e => by
      have := bit_keep w s m ((p : Int) - s').toNat
      rw [hz, e, Nat.zero_testBit] at this
      cases this
    obtain ⟨g1, g2, g3⟩ := src_of hz
    unfold movT shiftN
    rw [if_neg n1, if_neg n2, hz, Bool.true_and]
    have e0 : ((p : Int) - (s + s')).toNat = ((((p : Int) - s').toNat : Int) - s).toNat := by omega
    rw [e0]
    unfold src
    rw [hb, decide_eq_true h1, decide_eq_true (show s + s' ≤ (p : Int) by omega), decide_eq_true (show (p : Int) - (s + s') < w by omega)]
    rfl
  · rw [Bool.eq_false_iff.mpr hz, Bool.false_and]
    have hb : (shN w (keepN w s m) s').testBit p = false := by
      rw [bit_sh hk, decide_eq_true h1, decide_eq_true h2, bit_keep, Bool.eq_false_iff.mpr hz]
      rfl
    unfold src
    rw [hb]
    simp
/-! ### the normal form, column by column -/
theorem column {w : Nat} {s : Int} {m f j : Nat} (hj : j < w) (p : Nat) : (ap w s m f (2 ^ j) ^^^ f).testBit p = (src w s m p && decide ((p : Int) - s = j)) := by
  rw [Nat.testBit_xor, bit_two hj]
  cases f.testBit p <;> cases (src w s m p && decide ((p : Int) - s = j)) <;> rfl
theorem range_next (P : Nat → Bool) (t : Nat) : ∀ n : Nat, (List.range n).filter (fun p => P p && decide (p < t + 1)) = (List.range n).filter (fun p => P p && decide (p < t)) ++ (if t < n ∧ P t = true then [t] else [])
  | 0 => by simp
  | n + 1 => by
    rw [List.range_succ, List.filter_append, List.filter_append, range_next P t n]
    by_cases h1 : t < n
    · have e1 : List.filter (fun p => P p && decide (p < t + 1)) [n] = [] := by
        rw [List.filter_cons, if_neg (by simp; omega)]; rfl
      have e2 : List.filter (fun p => P p && decide (p < t)) [n] = [] := by
        rw [List.filter_cons, if_neg (by simp; omega)]; rfl
      rw [e1, e2, List.append_nil, List.append_nil]
      by_cases h2 : P t = true
      · rw [if_pos ⟨h1, h2⟩, if_pos ⟨by omega, h2⟩]
      · rw [if_neg (fun z => h2 z.2), if_neg (fun z => h2 z.2)]
    · rw [if_neg (fun z => h1 z.1), List.append_nil]
      have e2 : List.filter (fun p => P p && decide (p < t)) [n] = if n < t ∧ P n = true then [n] else [] := by
        rw [List.filter_cons]
        by_cases z : n < t ∧ P n = true
        · rw [if_pos (by simp [z.1, z.2]), if_pos z]; rfl
        · rw [if_neg (by simp; intro a; have : ¬ n < t := fun b => z ⟨b, a⟩; omega), if_neg z]; rfl
      rw [e2]
      by_cases h3 : t = n
      · subst h3
        rw [if_neg (fun z => by omega), List.append_nil]
        congr 1
        rw [List.filter_cons]
        by_cases h4 : P t = true
        · rw [if_pos (by simp [h4]), if_pos ⟨by omega, h4⟩]; rfl
        · rw [if_neg (by simp [h4]), if_neg (fun z => h4 z.2)]; rfl
      · rw [if_neg (show ¬ (t < n + 1 ∧ P t = true) from fun z => by omega), List.append_nil]
        congr 1
        rw [List.filter_cons]
        by_cases h4 : n < t ∧ P n = true
        · rw [if_pos h4, if_pos (by simp [h4.2]; omega)]; rfl
        · rw [if_neg h4, if_neg (by simp; intro a; have : ¬ n < t := fun b => h4 ⟨b, a⟩; omega)]; rfl
/-- the sources, places ascending -/
def srcs (w : Nat) (s : Int) (m : Nat) : List (Int × Int) := ((List.range w).filter (src w s m)).map fun (p : Nat) => ((p : Int), (p : Int) - s)
def srcsTo (w : Nat) (s : Int) (m i : Nat) : List (Int × Int) := ((List.range w).filter fun p => src w s m p && decide ((p : Int) - s < i)).map fun (p : Nat) => ((p : Int), (p : Int) - s)
theorem srcsTo_zero (w : Nat) (s : Int) (m : Nat) : srcsTo w s m 0 = [] := by
  unfold srcsTo
  rw [List.map_eq_nil_iff, List.filter_eq_nil_iff]
  intro p _ h
  simp only [Bool.and_eq_true, decide_eq_true_eq] at h
  have := (src_of h.1)
  omega
theorem srcsTo_all (w : Nat) (s : Int) (m : Nat) : srcsTo w s m w = srcs w s m := by
  unfold srcsTo srcs
  congr 1
  refine List.filter_congr fun p _ => ?_
  by_cases h : src w s m p = true
  · have := src_of h
    rw [h, decide_eq_true (by omega)]
    rfl
  · rw [Bool.eq_false_iff.mpr h]
    rfl
theorem srcsTo_next {w : Nat} {s : Int} {m i p : Nat} (hp : (p : Int) - s = i) (h : src w s m p = true) : srcsTo w s m (i + 1) = srcsTo w s m i ++ [((p : Int), (i : Int))] := by
  have g := src_of h
  have e1 : srcsTo w s m (i + 1) = ((List.range w).filter fun q => src w s m q && decide (q < p + 1)).map fun (q : Nat) => ((q : Int), (q : Int) - s) := by
    unfold srcsTo
    congr 1
    refine List.filter_congr fun q _ => ?_
    congr 1
    exact decide_eq_decide.mpr (by omega)
  have e2 : srcsTo w s m i = ((List.range w).filter fun q => src w s m q && decide (q < p)).map fun (q : Nat) => ((q : Int), (q : Int) - s) := by
    unfold srcsTo
    congr 1
    refine List.filter_congr fun q _ => ?_
    congr 1
    exact decide_eq_decide.mpr (by omega)
  rw [e1, e2, range_next, if_pos ⟨g.1, h⟩, List.map_append, List.map_cons, List.map_nil, hp]
theorem srcsTo_same {w : Nat} {s : Int} {m i : Nat} (h : ∀ p, src w s m p = true → (p : Int) - s ≠ i) : srcsTo w s m (i + 1) = srcsTo w s m i := by
  unfold srcsTo
  congr 1
  refine List.filter_congr fun q _ => ?_
  by_cases z : src w s m q = true
  · have := h q z
    congr 1
    exact decide_eq_decide.mpr (by omega)
  · rw [Bool.eq_false_iff.mpr z]
    rfl
theorem srcs_asc (w : Nat) (s : Int) (m : Nat) : (srcs w s m).Pairwise fun p q => p.1 < q.1 := by
  unfold srcs
  rw [List.pairwise_map]
  refine List.Pairwise.filter _ ?_
  exact (List.pairwise_lt_range).imp fun h => by simpa using h
theorem srcs_len (w : Nat) (s : Int) (m : Nat) : (srcs w s m).length ≤ w := by
  unfold srcs
  rw [List.length_map]
  exact Nat.le_trans (List.length_filter_le _ _) (by simp)
theorem srcs_small {w : Nat} {s : Int} {m : Nat} (hw : w ≤ 32) : ∀ p ∈ srcs w s m, 0 ≤ p.1 ∧ p.1 < w ∧ 0 ≤ p.2 ∧ p.2 < w := by
  intro p hp
  obtain ⟨q, hq, rfl⟩ := List.mem_map.mp hp
  have := src_of (List.mem_filter.mp hq).2
  exact ⟨by omega, by omega, by omega, by omega⟩
/-- what the object yields: by its own keep and shift -/
def srcsK (w : Nat) (s : Int) (k : Nat) : List (Int × Int) := ((List.range w).filter (k.testBit ·)).map fun (p : Nat) => ((p : Int), (p : Int) - s)
theorem srcsK_made (w : Nat) (s : Int) (m : Nat) : srcsK w (shiftN w s m) (keepN w s m) = srcs w s m := by
  unfold srcsK srcs
  by_cases h : keepN w s m = 0
  · have e1 : (List.range w).filter ((keepN w s m).testBit ·) = [] := by
      rw [List.filter_eq_nil_iff]
      intro p _ z
      rw [h, Nat.zero_testBit] at z
      cases z
    have e2 : (List.range w).filter (src w s m) = [] := by
      rw [List.filter_eq_nil_iff]
      intro p _ z
      rw [← bit_keep, h, Nat.zero_testBit] at z
      cases z
    rw [e1, e2]
    rfl
  · unfold shiftN
    rw [if_neg h]
    congr 1
    exact List.filter_congr fun p _ => bit_keep w s m p
end KBL

/-! KN: methods of own classes that say super().m(..) at their own level (in a statement of the body, in an if, in a return). -/
namespace KN
open PySem PySem.Spec PyProof.Rows L2 KB KG KO
/-! ### binding by position -/
theorem lookup_nd {y : Str} {u : Value} : ∀ {l : List (Str × Value)}, (l.map (·.1)).Nodup → (y, u) ∈ l → l.lookup y = some u
  | [], _, m => by cases m
  | (k, v) :: l, nd, m => by
    obtain ⟨h1, h2⟩ := List.nodup_cons.mp nd
    rcases List.mem_cons.mp m with e | m
    · cases e
      simp [List.lookup]
    · have hk : (y == k) = false := by
        refine Bool.eq_false_iff.mpr fun z => h1 ?_
        rw [← beq_iff_eq.mp z]
        exact List.mem_map.mpr ⟨_, m, rfl⟩
      rw [List.lookup, hk]
      exact lookup_nd h2 m
theorem zip_fst : ∀ {ps : List Str} {us : List Value}, ps.length = us.length → (ps.zip us).map (·.1) = ps
  | [], [], _ => rfl
  | [], _ :: _, h => by simp at h
  | _ :: _, [], h => by simp at h
  | p :: ps, u :: us, h => by
    rw [List.zip_cons_cons, List.map_cons, zip_fst (by simpa using h)]
theorem zip_get {ps : List Str} {us : List Value} {i : Nat} {y : Str} {u : Value} (h1 : ps[i]? = some y) (h2 : us[i]? = some u) : (y, u) ∈ ps.zip us := by
  refine List.mem_of_getElem? (i := i) ?_
  rw [List.getElem?_zip_eq_some]
  exact ⟨h1, h2⟩
/-- a scope of such a def -/
structure SScope (N ps : List Str) (sc : Scope) : Prop where
  kind : sc.kind = .function
  co : sc.isCoroutine = false
  gen : sc.isGenerator = false
  nd : N.Nodup
  pre : N.take ps.length = ps
  par : ∀ x ∈ ps, sc.names.lookup x = some .local
  nocell : ∀ y ∈ sc.names, y.2 ≠ .cell
  nofree : ∀ y ∈ sc.names, y.2 = .free → y.1 = "__class__"
  sup : sc.names.lookup ("super" : Str) = some .globalImplicit
  cls : sc.names.lookup ("__class__" : Str) = some .free
theorem SScope.free {N ps : List Str} {sc : Scope} (S : SScope N ps sc) : ∀ y, sc.names.lookup y = some .free → y = "__class__" := fun y e => S.nofree (y, .free) (PySem.mem_of_lookup e) rfl
theorem inv_supN {CXx : CXT} {P : Program} {w : World} {K : PySem.W.Frag} {mg : Str → Option Value} {base : Heap} {N ps : List Str} {ql : Str} {sc : Scope} {f cda cc : Addr} {A : Around} {out : List Env} {st : Shared} {h : Hp} {W : XK} {us : List Value} {vs : List V} {h1 : Heap} {tk : Nat} {cl : Value} {cld : Option Addr} {csl : Array (Option Value)} {cv : Option Value}
    (S : SScope N ps sc) (e0 : Env0 P w K mg base A out st h) (hd : A.handled = none) (hl : vs.length = ps.length)
    (hc : K.lookup cc = some ⟨cl, cld, .cell cv, csl⟩) (hns : h1.Ns st.heap.objs.size (fun y => (ps.zip us).reverse.lookup y)) (kp : ∀ b o, st.heap.get? b = some o → h1.get? b = some o) (r : Vals vs us) :
    Inv (KX.supCx CXx P w K mg base N ql sc f cda cc A out st h W) [] (L2.start N vs) h { st with heap := h1, toks := tk } := by
  have noA : ∀ b : Addr, b ∉ (KX.supCx CXx P w K mg base N ql sc f cda cc A out st h W).ex := fun b z => absurd (show b ∈ ([] : List Addr) from z) (by simp)
  have ccb := e0.bs _ _ (e0.mod.kin _ _ hc)
  have hpl : ps.length ≤ N.length := by have := congrArg List.length S.pre; rw [List.length_take] at this; omega
  refine ⟨⟨e0.mod, S.kind, rfl, rfl, Nat.le_refl _, fun y z c a b => (KX.cls_only a).1.trans (KX.cls_only b).1.symm, fun y hy => ?_, fun y c z _ => ?_, fun _ => hd, Around.frames_deeper e0.frames, .inr ⟨rfl, rfl⟩, fun b z => absurd z (noA b), e0.bs, e0.bsz, fun b _ _ => noA b, fun b z => absurd z (noA b), e0.funs, e0.frf⟩,
    rfl, e0.bare, Un.kept kp, ⟨_, hns, fun i y v a b c => ?_⟩, fun y c e => ?_, e0.hok.fresh (Nat.le_refl _), fun y c e => ?_, fun p hp => absurd (show p ∈ ([] : List (Addr × Obj)) from hp) (by simp), e0.hok.kept kp, ?_⟩
  · have hy : sc.names.lookup y = some .cell ∨ sc.names.lookup y = some .free := hy
    rcases hy with hy | hy
    · exact absurd rfl (S.nocell _ (PySem.mem_of_lookup hy))
    · rw [S.free y hy]
      exact ⟨cc, rfl⟩
  · have z : false = true := z
    cases z
  · have hi : i < vs.length := by
      unfold L2.start at b
      by_cases hi : i < vs.length
      · exact hi
      · rw [List.getElem?_append_right (by simpa using hi)] at b
        rw [List.getElem?_replicate] at b
        split at b <;> cases b
    have ha : vs[i]? = some v := by
      unfold L2.start at b
      rw [List.getElem?_append_left (by simpa using hi), List.getElem?_map] at b
      cases e : vs[i]? with
      | none => rw [e] at b; cases b
      | some a => rw [e] at b; cases b; rfl
    obtain ⟨u, hu, rv⟩ := r.get ha
    have hp : ps[i]? = some y := by
      rw [← S.pre, List.getElem?_take_of_lt (by omega)]; exact a
    have ndP : ps.Nodup := by rw [← S.pre]; exact S.nd.sublist (List.take_sublist _ _)
    refine ⟨u, rv, .inl ⟨S.par y (List.mem_of_getElem? hp), ?_⟩⟩
    refine lookup_nd ?_ (List.mem_reverse.mpr (zip_get hp hu))
    rw [List.map_reverse, zip_fst (by rw [← r.length, hl])]
    exact List.pairwise_reverse.mpr (List.Pairwise.imp Ne.symm ndP)
  · obtain ⟨rfl, rfl⟩ := KX.cls_only e
    exact ⟨cv, _, kp _ _ ccb.1, rfl⟩
  · obtain ⟨rfl, rfl⟩ := KX.cls_only e
    exact ccb.2
  · unfold L2.start
    show _ = N.length
    rw [List.length_append, List.length_map, List.length_replicate]
    omega
/-! ### statements at the def's own level -/
structure PEA (X : Cx) (c : Code) (e : Expr) (t : TE) : Prop where
  run : ∀ (pins : List (Addr × Obj)) (s : Shared) (σ : L2.St) (H : Hp) (Q : VK), Inv X pins σ H s → t σ H Q → _root_.PySem.wpAt (model X.prog X.w) X.A c (eval e X.env) (EP X pins σ Q) X.xe s
structure PSA (X : Cx) (c : Code) (st : Stmt) (t : TS) : Prop where
  run : ∀ (pins : List (Addr × Obj)) (s : Shared) (σ : L2.St) (H : Hp) (D : Ends), Inv X pins σ H s → t D σ H → _root_.PySem.wpAt (model X.prog X.w) X.A c (exec st X.env) (SP X pins D) X.xe s
structure PSsA (X : Cx) (c : Code) (st : List Stmt) (t : TS) : Prop where
  run : ∀ (pins : List (Addr × Obj)) (s : Shared) (σ : L2.St) (H : Hp) (D : Ends), Inv X pins σ H s → t D σ H → _root_.PySem.wpAt (model X.prog X.w) X.A c (execs st X.env) (SP X pins D) X.xe s
section
variable {X : Cx} {c : Code} {st : Stmt} {rest : List Stmt} {t u : TS} {e : Expr} {te : TE} {pos : Pos}
theorem psa_any (h : PS X st t) : PSA X c st t := ⟨fun pins s σ H D I q => wpAt_of_wpAny (h.run pins s σ H D I q)⟩
theorem pssa_any (h : PSs X rest t) : PSsA X c rest t := ⟨fun pins s σ H D I q => wpAt_of_wpAny (h.run pins s σ H D I q)⟩
theorem pssa_cons (a : PSA X c st t) (b : PSsA X c rest u) : PSsA X c (st :: rest) (tSeq t u) := by
  refine ⟨fun pins s σ H D I q => ks_wpAt_execs_cons (PySem.wpAt_mono (a.run pins s σ H { D with nx := fun σ' H' => u D σ' H' } I q) (fun f s' z => ?_) fun _ _ z => z)⟩
  cases f with
  | next => obtain ⟨σ', H', J, q'⟩ := z; exact b.run pins s' σ' H' D J q'
  | brk => exact z
  | cont => exact z
  | ret u => exact z
theorem pssa_one (a : PSA X c st t) : PSsA X c [st] t := by
  refine ⟨fun pins s σ H D I q => ks_wpAt_execs_cons (PySem.wpAt_mono (a.run pins s σ H D I q) (fun f s' z => ?_) fun _ _ z => z)⟩
  cases f with
  | next => obtain ⟨σ', H', J, q'⟩ := z; exact wpAt_of_wpAny (pss_nil.run pins s' σ' H' D J q')
  | brk => exact z
  | cont => exact z
  | ret u => exact z
theorem psa_ret (he : PEA X c e te) : PSA X c (.Return (some e) pos) (tRet te) := by
  refine ⟨fun pins s σ H D I q => ks_wpAt_Return_some (PySem.wpAt_mono (he.run pins s σ H _ I q) (fun v s' z => ?_) fun _ _ z => z)⟩
  obtain ⟨x, H', J, r, q'⟩ := z
  exact ⟨x, σ, H', J, r, q'⟩
theorem psa_set {i : Nat} {x : Str} {pos' : Pos} (hN : X.N.Nodup) (hi : X.N[i]? = some x) (hx : X.env.scope.names.lookup x = some .local) (he : PEA X c e te) (hs : swapsWith e (some (.Name x pos')) pos.line X.env = pure false := by rfl) : PSA X c (.Assign [.Name x pos'] e pos) (tAsg te (gName i)) := by
  refine ⟨fun pins s σ H D I q => ks_wpAt_Assign_Name (PySem.wpAt_mono (he.run pins s σ H _ I q) (fun v s' z => ?_) fun _ _ z => z) hs⟩
  obtain ⟨y, H', J, r, q'⟩ := z
  exact store_ok J hN hi (.inl hx) r (fun s2 I2 => ⟨_, H', I2, q'⟩) (.inr hx)
theorem psa_expr (he : PEA X c e te) (hint : interactive X.env = false) (hs : swapsWith e none pos.line X.env = pure false := by rfl) : PSA X c (.Expr e pos) (tDrop te) := by
  refine ⟨fun pins s σ H D I q => ks_wpAt_Expr_any (PySem.wpAt_mono (he.run pins s σ H _ I q) (fun v s' z => ?_) fun _ _ z => z) hint hs⟩
  obtain ⟨y, H', J, r, q'⟩ := z
  exact ⟨σ, H', J, q'⟩
theorem psa_if {test : Expr} {b1 b2 : List Stmt} {tc : TT} {t1 t2 : TS} (hc : PT X test tc) (h1 : PSsA X c b1 t1) (h2 : PSsA X c b2 t2) : PSA X c (.If test b1 b2 pos) (tIfS tc t1 t2) := by
  refine ⟨fun pins s σ H D I q => ks_wpAt_If (wpAt_of_wpAny (wpAny_mono (hc.run pins s σ H _ I q) (fun b s' z => ?_) fun _ _ z => z))⟩
  obtain ⟨H', J, q'⟩ := z
  cases b with
  | true => exact h1.run pins s' σ H' D J q'
  | false => exact h2.run pins s' σ H' D J q'
end
/-! ### such a def -/
structure SupF (P : Program) (K : PySem.W.Frag) (f : Addr) (fd : FuncData) (name qual : Str) (params : Arguments) (body : List Stmt) (scope : Scope) (cda cc D : Addr) : Prop where
  fn : ∃ (oc dV kV doc pm ct : Value) (an od : Option Addr) (osl : Array (Option Value)), fd = PySem.W.ksFn name qual params body scope dV kV doc pm an (.ref cda) ct cc ∧ K.lookup f = some ⟨oc, od, .func fd, osl⟩
  code : PySem.W.codeIn K (.ref cda) qual = true
  cd : ∃ (ccl : Value) (cdd : Option Addr) (vs : Array Value) (ccs : Array (Option Value)) (file : Str) (tf : Tok), K.lookup cda = some ⟨ccl, cdd, .fields vs, ccs⟩ ∧ vs[2]? = some (.str file tf) ∧ ((P.main.file : Str) == file) = true
  cell : ∃ (cl : Value) (cld : Option Addr) (csl : Array (Option Value)), K.lookup cc = some ⟨cl, cld, .cell (some (.ref D)), csl⟩
  top : (P.main.scope.names.lookup ("super" : Str)).isSome = false
  opq : PySem.W.nsIn K cStatics "thirdparty.any" = some none
  dcl : ∃ cdD, PySem.W.clsIn K D = some cdD
section
variable {P : Program} {w : World} {K : PySem.W.Frag} {mg : Str → Option Value} {base : Heap} {f cda cc D : Addr} {fd : FuncData} {name qual : Str} {params : Arguments} {body : List Stmt} {scope : Scope} {N ps : List Str}
theorem SupF.ok {CX : CXT} {k : Nat} {sp : Sp} (F : SupF P K f fd name qual params body scope cda cc D) (S : SScope N ps scope) (len : ∀ vs H Q E, sp vs H Q E → vs.length = ps.length)
    (hbody : ∀ (A : Around) (outer : List Env) (s : Shared) (H : Hp) (vs : List V) (Q : VK) (E : XK), Room k (A.deeper (PySem.W.ksEnv qual scope s.heap.objs.size f (.ref cda) cc)) → sp vs H Q E →
      ∃ t, PSsA (KX.supCx CX P w K mg base N qual scope f cda cc A outer s H E) (.func body (PySem.W.ksEnv qual scope s.heap.objs.size f (.ref cda) cc)) body t ∧ t { nx := fun _ H' => Q .non H', rt := Q } (L2.start N vs) H) :
    FnOk P w K mg base CX (k + 1) f fd ps sp := by
  refine ⟨len, fun A outer st h args us vs Q E room env bind r pre => ?_⟩
  have hl := len _ _ _ _ pre
  obtain ⟨oc, dV, kV, doc, pm, ct, an, od, osl, rfl, lf⟩ := F.fn
  obtain ⟨cl, cld, csl, lcc⟩ := F.cell
  have kin : K.In st.heap := env.mod.kin.keeps fun b o e => (env.bs b o e).1
  have nolim : st.heap.NoLimit := env.mod.nolimit.keeps fun b o e => (env.bs b o e).1
  refine ks_codeAny_call_defAt (binds := ps.zip us) room.depth (kin _ _ lf) rfl nolim (PySem.W.codeRec_of kin F.code) rfl bind S.nocell (fun y hy => S.par y.1 (List.of_mem_zip (show (y.1, y.2) ∈ ps.zip us from hy)).1) (fun h1 hns kp => ?_) S.co S.gen S.kind
  obtain ⟨t, ht, hq⟩ := hbody A outer st h vs Q E (room.deeper _) pre
  have I : Inv (KX.supCx CX P w K mg base N qual scope f cda cc A outer st h E) [] (L2.start N vs) h { st with heap := h1, toks := st.toks + (ps.zip us).length } := inv_supN S env room.hd hl lcc hns kp r
  refine PySem.wpAt_mono (ht.run [] _ (L2.start N vs) h _ I hq) (fun fl s' hs => ?_) fun e s' hs => hs
  cases fl with
  | ret u => obtain ⟨v, _, h2, J, rel, z⟩ := hs; exact ⟨v, h2, J.os, J.bare, J.base, J.hok, rel, z⟩
  | next => obtain ⟨_, h2, J, z⟩ := hs; exact ⟨.non, h2, J.os, J.bare, J.base, J.hok, rfl, z⟩
  | brk => exact (let ⟨_, _, _, z⟩ := hs; z : False).elim
  | cont => exact (let ⟨_, _, _, z⟩ := hs; z : False).elim
/-- super().m(e, ..): self stands in the slot 0; C: the object's class -/
def tSup (C : Addr) (sp : Sp) (E : XK) (t : TA) : TE := fun σ H Q => ∃ (a dx : Addr) (fs : List (Str × V)), σ[0]? = some (some (.ref a)) ∧ H a = some (.ins C dx fs) ∧ t σ H fun vs H1 => sp (.ref a :: vs) H1 Q E
structure SupM (P : Program) (w : World) (K : PySem.W.Frag) (mg : Str → Option Value) (base : Heap) (CX : CXT) (k : Nat) (C D : Addr) (m : Str) (ps : List Str) (sp : Sp) : Prop where
  ex : ∃ (g : Addr) (gd : FuncData), PySem.W.ks_superIn K C D m = some (some (.ref g)) ∧ PySem.W.typeIn K (.ref g) = some (.type "function") ∧ PySem.W.fnIn K g = true ∧ FnOk P w K mg base CX k g gd ps sp ∧ Binds K gd ps []
  sub : PySem.W.mroIn K C (.ref D) = some true
theorem sup_core {CX1 : CXT} {C g : Addr} {m : Str} {E : XK} {A : Around} {outer : List Env} {st : Shared} {H0 : Hp} {p0 p1 p2 p4 : Pos} {es : List Expr} {pl : Sem Bool} {ar : Arg} {pins : List (Addr × Obj)} {s : Shared} {σ : L2.St} {H : Hp} {Z : Value → Shared → Prop} {a dx : Addr} {fs : List (Str × V)}
    (F : SupF P K f fd name qual params body scope cda cc D) (S : SScope N ps scope) (har : (params.posonlyargs ++ params.args).head? = some ar) (hself : N[0]? = some ar.arg) (hpar : ar.arg ∈ ps) (hm : mg "super" = none) (hin : PySem.W.ks_superIn K C D m = some (some (.ref g))) (hty : PySem.W.typeIn K (.ref g) = some (.type "function")) (sub : PySem.W.mroIn K C (.ref D) = some true) (hat : (m == ("__class__" : Str)) = false)
    (I : Inv (KX.supCx CX1 P w K mg base N qual scope f cda cc A outer st H0 E) pins σ H s) (h0 : σ[0]? = some (some (.ref a))) (hH : H a = some (.ins C dx fs))
    (hev : eval (.Call (.Attribute (.Call (.Name "super" p0) [] [] p1) m p2) es [] p4) (PySem.W.ksEnv qual scope st.heap.objs.size f (.ref cda) cc) = (do
      let ov ← attributeBase (.Call (.Name "super" p0) [] [] p1) m (PySem.W.ksEnv qual scope st.heap.objs.size f (.ref cda) cc) (eval (.Call (.Name "super" p0) [] [] p1) (PySem.W.ksEnv qual scope st.heap.objs.size f (.ref cda) cc))
      standAt p2.atName
      let (g, first) ← holding [ov] (getMethod ov m pl)
      callWith p4 g first (backTo p4 (starEach es (PySem.W.ksEnv qual scope st.heap.objs.size f (.ref cda) cc))) []) )
    (go : ∀ q s', base.get? q = none → Inv (KX.supCx CX1 P w K mg base N qual scope f cda cc A outer st H0 E) ((q, PySem.W.methodObj (.ref g) (.ref a)) :: pins) σ H s' → wpAny (model P w) (KX.supCx CX1 P w K mg base N qual scope f cda cc A outer st H0 E).A (callWith p4 (.ref q) [] (backTo p4 (starEach es (PySem.W.ksEnv qual scope st.heap.objs.size f (.ref cda) cc))) []) Z (KX.supCx CX1 P w K mg base N qual scope f cda cc A outer st H0 E).xe s') :
    _root_.PySem.wpAt (model P w) (KX.supCx CX1 P w K mg base N qual scope f cda cc A outer st H0 E).A (.func body (PySem.W.ksEnv qual scope st.heap.objs.size f (.ref cda) cc)) (eval (.Call (.Attribute (.Call (.Name "super" p0) [] [] p1) m p2) es [] p4) (PySem.W.ksEnv qual scope st.heap.objs.size f (.ref cda) cc)) Z (KX.supCx CX1 P w K mg base N qual scope f cda cc A outer st H0 E).xe s := by
  obtain ⟨oc, dV, kV, doc, pm, ct, an, od, osl, rfl, lf⟩ := F.fn
  obtain ⟨ccl, cdd, vs, ccs, file, tf, lcd, hvs, hfile⟩ := F.cd
  obtain ⟨cl, cld, csl, lcc⟩ := F.cell
  obtain ⟨cdD, hD⟩ := F.dcl
  refine ks_wpAt_MethodCall (pl := pl) (env := PySem.W.ksEnv qual scope st.heap.objs.size f (.ref cda) cc) ?_ hev
  have kin : K.In s.heap := I.kIn
  obtain ⟨ml, hns, hlk⟩ := I.loc
  have hloc : scope.names.lookup ar.arg = some .local := S.par ar.arg hpar
  obtain ⟨u0, ru0, hu0⟩ := hlk 0 ar.arg (.ref a) hself h0 (.inl hloc)
  obtain rfl : u0 = Value.ref a := ru0
  have hself2 : ml ar.arg = some (.ref a) := by
    rcases hu0 with ⟨_, e⟩ | ⟨z, _⟩
    · exact e
    · rcases z with z | z
      · have z2 : scope.names.lookup ar.arg = some .cell := z
        rw [hloc] at z2; cases z2
      · have z2 : scope.names.lookup ar.arg = some .free := z
        rw [hloc] at z2; cases z2
  obtain ⟨oinst, J⟩ := inst_of I hH
  obtain ⟨mb, b1, b2⟩ := I.ok.mod.blt
  have kb : ∀ b o, base.get? b = some o → s.heap.get? b = some o := fun b o e => (I.bs b o e).1
  obtain ⟨hh, g0, d0, t0, os0⟩ := s
  obtain ⟨oD, hD1, hD2⟩ : ∃ oD, hh.get? D = some oD ∧ oD.data = .cls cdD := by
    unfold PySem.W.clsIn at hD
    split at hD
    · rename_i c d cd' sl ho
      cases hD
      exact ⟨_, kin _ _ ho, rfl⟩
    · cases hD
  refine ks_wpAt_super_base (env := PySem.W.ksEnv qual scope st.heap.objs.size f (.ref cda) cc) S.sup S.cls hat rfl (kin _ _ lf) rfl har rfl (kin _ _ lcd) rfl hvs hfile F.top ?_
  refine PySem.W.ks_loadName_global S.kind S.sup (Calls.loadGlobal_builtin (env := PySem.W.ksEnv qual scope st.heap.objs.size f (.ref cda) cc) (I.ok.mod.glob.keeps kb) hm (b1.keeps kb) ((b2 "super" (by decide)).trans (by decide +kernel)) ⟨rfl, ?_⟩)
  refine wpAny_loadName_free S.kind S.cls rfl ⟨_, kin _ _ lcc, rfl⟩ ?_
  refine wpAny_loadName_local S.kind hloc hns (v := .ref a) hself2 ?_
  refine ks_wpAny_isType_cls hD1 hD2 ⟨rfl, ?_⟩
  refine ks_wpAny_call_super hD1 hD2 J.at_ J.cls (fun c e => ?_) (PySem.W.looks_mroIn kin sub) (fun h2 e2 kp2 => ?_)
  · have := J.no
    unfold PySem.W.notCls at this
    rw [e] at this
    exact Bool.noConfusion this
  have I2 : Inv (KX.supCx CX1 P w K mg base N qual scope f cda cc A outer st H0 E) pins σ H ⟨h2, g0, d0, t0, os0⟩ := I.kept (t' := t0) kp2
  have kin2 : K.In h2 := kin.keeps kp2
  cases hc : PySem.W.clsIn K C with
  | none => unfold PySem.W.ks_superIn at hin; rw [hc] at hin; cases hin
  | some cdC =>
  have hin2 := hin
  unfold PySem.W.ks_superIn at hin2
  rw [hc] at hin2
  obtain ⟨of, hof, hofc⟩ : ∃ of, h2.get? g = some of ∧ of.cls = .type "function" := by
    have ht' : (K.lookup g).map (·.cls) = some (.type "function") := hty
    cases z : K.lookup g with
    | none => rw [z] at ht'; cases ht'
    | some of => rw [z] at ht'; exact ⟨of, kin2 _ _ z, Option.some.inj ht'⟩
  obtain ⟨oinst2, J2⟩ := inst_of I2 hH
  refine ks_wpAny_getMethod_super e2 (PySem.W.looks_opaque kin2 F.opq) (l₀ := cdC.mro) (fun A Q E s k q => wpAny_bind ((PySem.W.looks_clsIn kin2 hc) A _ E s k (wpAny_pure q))) rfl kin2 hin2 hof hofc (PySem.W.ks_ne kin2 J2 hc) hat ?_
  have I3 : Inv (KX.supCx CX1 P w K mg base N qual scope f cda cc A outer st H0 E) ((h2.objs.size, PySem.W.methodObj (.ref g) (.ref a)) :: pins) σ H ⟨h2.push (PySem.W.methodObj (.ref g) (.ref a)), g0, d0, t0 + 1, os0⟩ := ClX.met_new I2
  exact go _ _ (ClX.base_none I2 (Nat.le_refl _)) I3
theorem sup_run {CX1 CX2 : CXT} {k : Nat} {g a q : Addr} {gd : FuncData} {ps2 : List Str} {sp : Sp} {E E2 : XK} {A : Around} {outer : List Env} {st : Shared} {H0 H1 : Hp} {us : List Value} {xs : List V} {Q : VK} {pins : List (Addr × Obj)} {s4 : Shared} {σ : L2.St}
    (room : Room k (KX.supCx CX1 P w K mg base N qual scope f cda cc A outer st H0 E).A) (pass : Passes CX2 (KX.supCx CX1 P w K mg base N qual scope f cda cc A outer st H0 E) E2) (G : FnOk P w K mg base CX2 k g gd ps2 sp) (bind : Binds K gd ps2 []) (I4 : Inv (KX.supCx CX1 P w K mg base N qual scope f cda cc A outer st H0 E) ((q, PySem.W.methodObj (.ref g) (.ref a)) :: pins) σ H1 s4) (rv : Vals xs us) (q1 : sp (.ref a :: xs) H1 Q E2) :
    wpAny (model P w) (KX.supCx CX1 P w K mg base N qual scope f cda cc A outer st H0 E).A (call (.ref q) us) (EP (KX.supCx CX1 P w K mg base N qual scope f cda cc A outer st H0 E) pins σ Q) (KX.supCx CX1 P w K mg base N qual scope f cda cc A outer st H0 E).xe s4 := by
  have z : wpAny (model P w) (KX.supCx CX1 P w K mg base N qual scope f cda cc A outer st H0 E).A (call (.ref q) us) (EP (KX.supCx CX1 P w K mg base N qual scope f cda cc A outer st H0 E) ((q, PySem.W.methodObj (.ref g) (.ref a)) :: pins) σ Q) (KX.supCx CX1 P w K mg base N qual scope f cda cc A outer st H0 E).xe s4 := by
    refine wpAny_call (PySem.W.method_call (ClX.pin_at I4) ?_)
    have rel : Vals (V.ref a :: xs) (Value.ref a :: us) := .cons rfl rv
    have size : ((Value.ref a :: us) ++ []).length = ps2.length := by rw [List.append_nil, ← rel.length]; exact G.len _ _ _ _ q1
    have bd := bind s4 (Value.ref a :: us) I4.kIn size
    rw [List.append_nil] at bd
    refine codeAny_mono (G.run _ (KX.supCx CX1 P w K mg base N qual scope f cda cc A outer st H0 E).stack s4 H1 ⟨Value.ref a :: us, []⟩ _ _ Q E2 room I4.env0 bd rel q1) fun res s5 y => ?_
    match res, y with
    | .error e, y => exact pass _ σ H1 s4 e s5 I4 y
    | .ok (.ret u), y => exact I4.after y
    | .ok .next, y => exact y.elim
    | .ok .brk, y => exact y.elim
    | .ok .cont, y => exact y.elim
  exact thn z fun _ _ y => ClX.unpinE y
theorem pea_super0 {CX1 CX2 : CXT} {k : Nat} {C : Addr} {m : Str} {ps2 : List Str} {sp : Sp} {E E2 : XK} {A : Around} {outer : List Env} {st : Shared} {H0 : Hp} {p0 p1 p2 p4 : Pos} {pl : Sem Bool} {ar : Arg}
    (F : SupF P K f fd name qual params body scope cda cc D) (S : SScope N ps scope) (har : (params.posonlyargs ++ params.args).head? = some ar) (hself : N[0]? = some ar.arg) (hpar : ar.arg ∈ ps) (hm : mg "super" = none) (c : SupM P w K mg base CX2 k C D m ps2 sp) (room : Room k (KX.supCx CX1 P w K mg base N qual scope f cda cc A outer st H0 E).A)
    (pass : Passes CX2 (KX.supCx CX1 P w K mg base N qual scope f cda cc A outer st H0 E) E2) (hat : (m == ("__class__" : Str)) = false := by decide)
    (hev : eval (.Call (.Attribute (.Call (.Name "super" p0) [] [] p1) m p2) [] [] p4) (PySem.W.ksEnv qual scope st.heap.objs.size f (.ref cda) cc) = (do
      let ov ← attributeBase (.Call (.Name "super" p0) [] [] p1) m (PySem.W.ksEnv qual scope st.heap.objs.size f (.ref cda) cc) (eval (.Call (.Name "super" p0) [] [] p1) (PySem.W.ksEnv qual scope st.heap.objs.size f (.ref cda) cc))
      standAt p2.atName
      let (g, first) ← holding [ov] (getMethod ov m pl)
      callWith p4 g first (backTo p4 (starEach [] (PySem.W.ksEnv qual scope st.heap.objs.size f (.ref cda) cc))) []) := by rfl) :
    PEA (KX.supCx CX1 P w K mg base N qual scope f cda cc A outer st H0 E) (.func body (PySem.W.ksEnv qual scope st.heap.objs.size f (.ref cda) cc)) (.Call (.Attribute (.Call (.Name "super" p0) [] [] p1) m p2) [] [] p4) (tSup C sp E2 tNil) := by
  obtain ⟨g, gd, hin, hty, hfi, G, bind⟩ := c.ex
  refine ⟨fun pins s σ H Q I h => ?_⟩
  obtain ⟨a, dx, fs, h0, hH, q⟩ := h
  refine sup_core F S har hself hpar hm hin hty c.sub hat I h0 hH hev fun r s' hb I3 => ?_
  refine PySem.W.callWith_M0 (K := K) (self := .ref a) ⟨ClX.pin_at I3, I3.kIn⟩ hfi ?_
  exact sup_run room pass G bind I3 .nil q
theorem pea_super {CX1 CX2 : CXT} {k : Nat} {C : Addr} {m : Str} {ps2 : List Str} {sp : Sp} {E E2 : XK} {A : Around} {outer : List Env} {st : Shared} {H0 : Hp} {p0 p1 p2 p4 : Pos} {pl : Sem Bool} {ar : Arg} {e : Expr} {es : List Expr} {t : TA}
    (F : SupF P K f fd name qual params body scope cda cc D) (S : SScope N ps scope) (har : (params.posonlyargs ++ params.args).head? = some ar) (hself : N[0]? = some ar.arg) (hpar : ar.arg ∈ ps) (hm : mg "super" = none) (c : SupM P w K mg base CX2 k C D m ps2 sp) (room : Room k (KX.supCx CX1 P w K mg base N qual scope f cda cc A outer st H0 E).A)
    (pass : Passes CX2 (KX.supCx CX1 P w K mg base N qual scope f cda cc A outer st H0 E) E2) (ha : PA (KX.supCx CX1 P w K mg base N qual scope f cda cc A outer st H0 E) (e :: es) t) (hat : (m == ("__class__" : Str)) = false := by decide) (hst : starEach (e :: es) (PySem.W.ksEnv qual scope st.heap.objs.size f (.ref cda) cc) = (false, eval e (PySem.W.ksEnv qual scope st.heap.objs.size f (.ref cda) cc)) :: starEach es (PySem.W.ksEnv qual scope st.heap.objs.size f (.ref cda) cc) := by rfl) (hpl : (backTo p4 (starEach es (PySem.W.ksEnv qual scope st.heap.objs.size f (.ref cda) cc))).any (·.1) = false := by rfl)
    (hev : eval (.Call (.Attribute (.Call (.Name "super" p0) [] [] p1) m p2) (e :: es) [] p4) (PySem.W.ksEnv qual scope st.heap.objs.size f (.ref cda) cc) = (do
      let ov ← attributeBase (.Call (.Name "super" p0) [] [] p1) m (PySem.W.ksEnv qual scope st.heap.objs.size f (.ref cda) cc) (eval (.Call (.Name "super" p0) [] [] p1) (PySem.W.ksEnv qual scope st.heap.objs.size f (.ref cda) cc))
      standAt p2.atName
      let (g, first) ← holding [ov] (getMethod ov m pl)
      callWith p4 g first (backTo p4 (starEach (e :: es) (PySem.W.ksEnv qual scope st.heap.objs.size f (.ref cda) cc))) []) := by rfl) :
    PEA (KX.supCx CX1 P w K mg base N qual scope f cda cc A outer st H0 E) (.func body (PySem.W.ksEnv qual scope st.heap.objs.size f (.ref cda) cc)) (.Call (.Attribute (.Call (.Name "super" p0) [] [] p1) m p2) (e :: es) [] p4) (tSup C sp E2 t) := by
  obtain ⟨g, gd, hin, hty, hfi, G, bind⟩ := c.ex
  refine ⟨fun pins s σ H Q I h => ?_⟩
  obtain ⟨a, dx, fs, h0, hH, q⟩ := h
  refine sup_core F S har hself hpar hm hin hty c.sub hat I h0 hH hev fun r s' hb I3 => ?_
  refine ClX.callwith_cm (C := a) I3 hb hfi (thn (ha.run p4 _ s' σ H _ I3 q) fun us s4 res => ?_) hst hpl
  obtain ⟨xs, H1, I4, rv, q1⟩ := res
  exact ⟨⟨ClX.pin_at I4, I4.kIn⟩, sup_run room pass G bind I4 rv q1⟩
end
theorem r_sup {C : Addr} {sp : Sp} {E : XK} {t : TA} {σ : L2.St} {H : Hp} {Q : VK} {a dx : Addr} {fs : List (Str × V)} (h0 : σ[0]? = some (some (.ref a))) (hH : H a = some (.ins C dx fs)) (q : t σ H fun vs H1 => sp (.ref a :: vs) H1 Q E) : tSup C sp E t σ H Q := ⟨a, dx, fs, h0, hH, q⟩
end KN

/-! KH: a sleeping generator stays as it is while other code runs. -/
namespace KH
open PySem PySem.Spec PyProof.Rows L2 GenW
/-! ### runs that cannot wake the sleepers -/
/-- no resumption comes back -/
def StuckK (k : Resume → Sem PySem.Fin) : Prop := ∀ r, k r = .unsupported "asleep"
def Stuck : GenState → Prop
  | .suspended k _ _ _ _ _ => StuckK k
  | _ => False
def NG (fs : List Frame) : Prop := ∀ F ∈ fs, ∃ k h g l c p kp, F = Frame.ret k h g l c p kp
theorem NG.nil : NG [] := fun F h => absurd h List.not_mem_nil
theorem NG.tail {F : Frame} {fs : List Frame} (h : NG (F :: fs)) : NG fs := fun G m => h G (List.mem_cons_of_mem _ m)
theorem NG.append {fs gs : List Frame} (h : NG fs) (g : NG gs) : NG (fs ++ gs) := fun F m => (List.mem_append.mp m).elim (h F) (g F)
theorem NG.one {k h g l c p kp} : NG [Frame.ret k h g l c p kp] := fun F m => ⟨_, _, _, _, _, _, _, List.mem_singleton.mp m⟩
theorem NG.split : ∀ {fs : List Frame}, NG fs → splitAtGen fs = none
  | [], _ => rfl
  | F :: fs, h => by
    obtain ⟨k, hd, g, l, c, p, kp, rfl⟩ := h F List.mem_cons_self
    show ((splitAtGen fs).map _) = none
    rw [NG.split h.tail]
    rfl
def OkS : GenState → Prop
  | .suspended k _ _ _ fs _ => StuckK k ∨ NG fs
  | _ => True
def OkG (a : Array GenState) : Prop := ∀ (i : Nat) (x : GenState), a[i]? = some x → OkS x
def EndOk : End → Prop
  | .susp _ _ _ _ _ _ fs => NG fs
  | .ret _ => True
theorem EndOk.state {e : End} (h : EndOk e) : OkS e.genState := by
  cases e with
  | ret r => exact trivial
  | susp v g l k c p fs => exact .inr h
structure Rel (a b : Array GenState) : Prop where
  size : a.size = b.size
  at_ : ∀ (i : Nat) (x : GenState), a[i]? = some x → ∃ y, b[i]? = some y ∧ x.bare = y.bare ∧ (x = y ∨ (Stuck x ∧ x.seen = y.seen))
def Kept (a b a' b' : Array GenState) : Prop := ∀ (i : Nat) (x : GenState), a[i]? = some x → Stuck x → a'[i]? = some x ∧ b'[i]? = b[i]?
theorem Kept.refl {a b : Array GenState} : Kept a b a b := fun _ _ e _ => ⟨e, rfl⟩
theorem Kept.trans {a b a1 b1 a2 b2 : Array GenState} (h : Kept a b a1 b1) (g : Kept a1 b1 a2 b2) : Kept a b a2 b2 := fun i x e st => by
  obtain ⟨e1, e2⟩ := h i x e st
  obtain ⟨e3, e4⟩ := g i x e1 st
  exact ⟨e3, e4.trans e2⟩
theorem Rel.lt {a b : Array GenState} (r : Rel a b) {i : Nat} : i < a.size ↔ i < b.size := by rw [r.size]
theorem get_set {a : Array GenState} {g i : Nat} {x z : GenState} (h : (a.setIfInBounds g x)[i]? = some z) : (i = g ∧ z = x) ∨ (i ≠ g ∧ a[i]? = some z) := by
  rw [Array.getElem?_setIfInBounds] at h
  split at h
  · rename_i e
    split at h
    · exact .inl ⟨e.symm, (Option.some.inj h).symm⟩
    · cases h
  · rename_i e
    exact .inr ⟨fun z => e z.symm, h⟩
theorem OkG.set {a : Array GenState} (h : OkG a) {g : Nat} {x : GenState} (ox : OkS x) : OkG (a.setIfInBounds g x) := fun i z e => by
  rcases get_set e with ⟨_, rfl⟩ | ⟨_, e⟩
  · exact ox
  · exact h i z e
theorem Rel.set {a b : Array GenState} (r : Rel a b) {g : Nat} {x : GenState} : Rel (a.setIfInBounds g x) (b.setIfInBounds g x) := by
  refine ⟨by rw [Array.size_setIfInBounds, Array.size_setIfInBounds, r.size], fun i z e => ?_⟩
  rcases get_set e with ⟨rfl, rfl⟩ | ⟨n, e⟩
  · refine ⟨z, ?_, rfl, .inl rfl⟩
    have lt : i < a.size := by
      have := (Array.getElem?_eq_some_iff.mp e).1
      rw [Array.size_setIfInBounds] at this
      exact this
    rw [Array.getElem?_setIfInBounds_self_of_lt (r.lt.mp lt)]
  · obtain ⟨y, ey, h⟩ := r.at_ i z e
    exact ⟨y, by rw [Array.getElem?_setIfInBounds_ne n.symm]; exact ey, h⟩
theorem Kept.set {a b a1 b1 : Array GenState} {g : Nat} {x y w : GenState} (hg : a[g]? = some w) (nw : ¬ Stuck w) (h : Kept (a.setIfInBounds g x) (b.setIfInBounds g x) a1 b1) : Kept a b (a1.setIfInBounds g y) (b1.setIfInBounds g y) := fun i z e st => by
  have n : g ≠ i := fun q => by
    subst q
    rw [hg] at e
    cases e
    exact nw st
  obtain ⟨e1, e2⟩ := h i z (by rw [Array.getElem?_setIfInBounds_ne n]; exact e) st
  rw [Array.getElem?_setIfInBounds_ne n] at e2
  exact ⟨by rw [Array.getElem?_setIfInBounds_ne n]; exact e1, by rw [Array.getElem?_setIfInBounds_ne n]; exact e2⟩
theorem Kept.set1 {a b : Array GenState} {g : Nat} {y w : GenState} (hg : a[g]? = some w) (nw : ¬ Stuck w) : Kept a b (a.setIfInBounds g y) (b.setIfInBounds g y) := fun i z e st => by
  have n : g ≠ i := fun q => by
    subst q
    rw [hg] at e
    cases e
    exact nw st
  exact ⟨by rw [Array.getElem?_setIfInBounds_ne n]; exact e, by rw [Array.getElem?_setIfInBounds_ne n]⟩
theorem push_get {a : Array GenState} {x z : GenState} {i : Nat} (h : (a.push x)[i]? = some z) : (i = a.size ∧ z = x) ∨ a[i]? = some z := by
  rw [Array.getElem?_push] at h
  split at h
  · rename_i e
    exact .inl ⟨e, (Option.some.inj h).symm⟩
  · exact .inr h
theorem push_old {a : Array GenState} {x z : GenState} {i : Nat} (h : a[i]? = some z) : (a.push x)[i]? = some z := by
  have lt := (Array.getElem?_eq_some_iff.mp h).1
  rw [Array.getElem?_push_lt lt]
  rw [Array.getElem?_eq_getElem lt] at h
  exact h
theorem OkG.push {a : Array GenState} (h : OkG a) {c : Code} : OkG (a.push (.fresh c)) := fun i z e => by
  rcases push_get e with ⟨_, rfl⟩ | e
  · exact trivial
  · exact h i z e
theorem Rel.push {a b : Array GenState} (r : Rel a b) {x : GenState} : Rel (a.push x) (b.push x) := by
  refine ⟨by rw [Array.size_push, Array.size_push, r.size], fun i z e => ?_⟩
  rcases push_get e with ⟨rfl, rfl⟩ | e
  · exact ⟨z, by rw [r.size]; exact Array.getElem?_push_size .., rfl, .inl rfl⟩
  · obtain ⟨y, ey, h⟩ := r.at_ i z e
    exact ⟨y, push_old ey, h⟩
theorem Kept.push {a b : Array GenState} (r : Rel a b) {x : GenState} : Kept a b (a.push x) (b.push x) := fun i z e _ => by
  obtain ⟨y, ey, _⟩ := r.at_ i z e
  exact ⟨push_old e, by rw [push_old ey, ey]⟩
theorem no_runs {M : Model} {Γ : PySem.Ctx} {p : Pos} {t : Sem PySem.Fin} {fs : List Frame} {s s' : Shared} {e : End} (h : Runs M Γ p t fs s e s') : ∀ w, t ≠ .unsupported w := by
  induction h with
  | segRet _ _ ih _ => exact ih
  | segGen _ _ ih _ => exact ih
  | segSuspOut _ _ ih => exact ih
  | segSuspGen _ _ _ _ ih _ => exact ih
  | _ => intro w z; cases z
theorem stuck_no {M : Model} {Γ : PySem.Ctx} {p : Pos} {k : Resume → Sem PySem.Fin} {r : Resume} {fs : List Frame} {s s' : Shared} {e : End} (hk : StuckK k) (h : Runs M Γ p (k r) fs s e s') : False := no_runs h _ (hk r)
/-- a run from where some sleepers cannot wake is a run from where they could -/
theorem runs_swap {M : Model} {Γ : PySem.Ctx} {p : Pos} {t : Sem PySem.Fin} {fs : List Frame} {s s' : Shared} {e : End} (h : Runs M Γ p t fs s e s') :
    OkG s.gens → NG fs → ∀ b, Rel s.gens b → OkG s'.gens ∧ EndOk e ∧ ∃ b', Rel s'.gens b' ∧ Kept s.gens b s'.gens b' ∧ Runs M Γ p t fs { s with gens := b } e { s' with gens := b' } := by
  induction h with
  | done => intro ok ng b r; exact ⟨ok, trivial, b, r, .refl, .done⟩
  | raise => intro ok ng b r; exact ⟨ok, trivial, b, r, .refl, .raise⟩
  | again hq _ ih => intro ok ng b r; obtain ⟨o, e, b', r', k, h⟩ := ih ok ng b r; exact ⟨o, e, b', r', k, .again hq h⟩
  | rule _ ih => intro ok ng b r; obtain ⟨o, e, b', r', k, h⟩ := ih ok ng b r; exact ⟨o, e, b', r', k, .rule h⟩
  | «at» _ ih => intro ok ng b r; obtain ⟨o, e, b', r', k, h⟩ := ih ok ng b r; exact ⟨o, e, b', r', k, .at h⟩
  | load ha _ ih => intro ok ng b r; obtain ⟨o, e, b', r', k, h⟩ := ih ok ng b r; exact ⟨o, e, b', r', k, .load ha h⟩
  | update ha _ ih => intro ok ng b r; obtain ⟨o, e, b', r', k, h⟩ := ih ok ng b r; exact ⟨o, e, b', r', k, .update ha h⟩
  | loadIfAlive _ ih => intro ok ng b r; obtain ⟨o, e, b', r', k, h⟩ := ih ok ng b r; exact ⟨o, e, b', r', k, .loadIfAlive h⟩
  | point _ ih => intro ok ng b r; obtain ⟨o, e, b', r', k, h⟩ := ih ok ng b r; exact ⟨o, e, b', r', k, .point h⟩
  | alloc _ ih => intro ok ng b r; obtain ⟨o, e, b', r', k, h⟩ := ih ok ng b r; exact ⟨o, e, b', r', k, .alloc h⟩
  | fresh _ ih => intro ok ng b r; obtain ⟨o, e, b', r', k, h⟩ := ih ok ng b r; exact ⟨o, e, b', r', k, .fresh h⟩
  | ask _ ih => intro ok ng b r; obtain ⟨o, e, b', r', k, h⟩ := ih ok ng b r; exact ⟨o, e, b', r', k, .ask h⟩
  | choose hn _ ih => intro ok ng b r; obtain ⟨o, e, b', r', k, h⟩ := ih ok ng b r; exact ⟨o, e, b', r', k, .choose hn h⟩
  | os _ ih => intro ok ng b r; obtain ⟨o, e, b', r', k, h⟩ := ih ok ng b r; exact ⟨o, e, b', r', k, .os h⟩
  | handled _ ih => intro ok ng b r; obtain ⟨o, e, b', r', k, h⟩ := ih ok ng b r; exact ⟨o, e, b', r', k, .handled h⟩
  | genState hg _ ih =>
    intro ok ng b r
    obtain ⟨o, e, b', r', k, h⟩ := ih ok ng b r
    obtain ⟨y, ey, _, q⟩ := r.at_ _ _ hg
    refine ⟨o, e, b', r', k, .genState ey ?_⟩
    rcases q with rfl | ⟨_, q⟩
    · exact h
    · rw [← q]; exact h
  | stack _ ih => intro ok ng b r; obtain ⟨o, e, b', r', k, h⟩ := ih ok ng b r; exact ⟨o, e, b', r', k, .stack h⟩
  | thread _ ih => intro ok ng b r; obtain ⟨o, e, b', r', k, h⟩ := ih ok ng b r; exact ⟨o, e, b', r', k, .thread h⟩
  | newGen _ ih =>
    intro ok ng b r
    obtain ⟨o, e, b', r', k, h⟩ := ih ok.push ng _ r.push
    refine ⟨o, e, b', r', (Kept.push r).trans k, .newGen ?_⟩
    have z := r.size
    rw [z] at h
    exact h
  | call _ _ ih1 ih2 =>
    intro ok ng b r
    obtain ⟨o1, _, b1, r1, k1, h1⟩ := ih1 ok .nil b r
    obtain ⟨o2, e2, b2, r2, k2, h2⟩ := ih2 o1 ng b1 r1
    exact ⟨o2, e2, b2, r2, k1.trans k2, .call h1 h2⟩
  | callSusp _ ih1 =>
    intro ok ng b r
    obtain ⟨o1, e1, b1, r1, k1, h1⟩ := ih1 ok .nil b r
    exact ⟨o1, NG.append e1 .one, b1, r1, k1, .callSusp h1⟩
  | yield => intro ok ng b r; exact ⟨ok, NG.nil, b, r, .refl, .yield⟩
  | resumeFresh hg _ hq _ ih1 ih2 =>
    intro ok ng b r
    obtain ⟨y, ey, _, q⟩ := r.at_ _ _ hg
    rcases q with rfl | ⟨q, _⟩
    · obtain ⟨o1, e1, b1, r1, k1, h1⟩ := ih1 (ok.set trivial) .nil _ r.set
      obtain ⟨o2, e2, b2, r2, k2, h2⟩ := ih2 (o1.set e1.state) ng _ r1.set
      exact ⟨o2, e2, b2, r2, (Kept.set hg (fun z => z) k1).trans k2, .resumeFresh ey h1 hq h2⟩
    · exact q.elim
  | resumeSuspended hg h0 hq _ ih1 ih2 =>
    intro ok ng b r
    obtain ⟨y, ey, _, q⟩ := r.at_ _ _ hg
    rcases q with rfl | ⟨q, _⟩
    · rcases ok _ _ hg with z | z
      · exact (stuck_no z h0).elim
      · obtain ⟨o1, e1, b1, r1, k1, h1⟩ := ih1 (ok.set trivial) z _ r.set
        obtain ⟨o2, e2, b2, r2, k2, h2⟩ := ih2 (o1.set e1.state) ng _ r1.set
        exact ⟨o2, e2, b2, r2, (Kept.set hg (fun z => stuck_no z h0) k1).trans k2, .resumeSuspended ey h1 hq h2⟩
    · exact (stuck_no q h0).elim
  | resumeJustStarted hg hv _ ih =>
    intro ok ng b r
    obtain ⟨y, ey, _, q⟩ := r.at_ _ _ hg
    rcases q with rfl | ⟨q, _⟩
    · obtain ⟨o, e, b', r', k, h⟩ := ih ok ng b r
      exact ⟨o, e, b', r', k, .resumeJustStarted ey hv h⟩
    · exact q.elim
  | resumeThrowFresh hg _ ih =>
    intro ok ng b r
    obtain ⟨y, ey, _, q⟩ := r.at_ _ _ hg
    rcases q with rfl | ⟨q, _⟩
    · obtain ⟨o, e, b', r', k, h⟩ := ih (ok.set trivial) ng _ r.set
      exact ⟨o, e, b', r', (Kept.set1 hg (fun z => z)).trans k, .resumeThrowFresh ey h⟩
    · exact q.elim
  | resumeRunning hg _ ih =>
    intro ok ng b r
    obtain ⟨y, ey, _, q⟩ := r.at_ _ _ hg
    rcases q with rfl | ⟨q, _⟩
    · obtain ⟨o, e, b', r', k, h⟩ := ih ok ng b r
      exact ⟨o, e, b', r', k, .resumeRunning ey h⟩
    · exact q.elim
  | resumeFinished hg _ ih =>
    intro ok ng b r
    obtain ⟨y, ey, _, q⟩ := r.at_ _ _ hg
    rcases q with rfl | ⟨q, _⟩
    · obtain ⟨o, e, b', r', k, h⟩ := ih ok ng b r
      exact ⟨o, e, b', r', k, .resumeFinished ey h⟩
    · exact q.elim
  | segRet _ _ ih1 ih2 =>
    intro ok ng b r
    obtain ⟨o1, _, b1, r1, k1, h1⟩ := ih1 ok .nil b r
    obtain ⟨o2, e2, b2, r2, k2, h2⟩ := ih2 o1 ng.tail b1 r1
    exact ⟨o2, e2, b2, r2, k1.trans k2, .segRet h1 h2⟩
  | segGen _ _ ih1 ih2 =>
    intro ok ng b r
    obtain ⟨_, _, _, _, _, _, _, z⟩ := ng _ List.mem_cons_self
    cases z
  | segSuspOut hs _ ih1 =>
    intro ok ng b r
    obtain ⟨o1, e1, b1, r1, k1, h1⟩ := ih1 ok .nil b r
    exact ⟨o1, NG.append e1 ng, b1, r1, k1, .segSuspOut hs h1⟩
  | segSuspGen hs _ _ _ ih1 ih2 =>
    intro ok ng b r
    rw [ng.split] at hs
    cases hs
theorem wakes_swap {M : Model} {Γ : PySem.Ctx} {p : Pos} {g : Nat} {r : Resume} {s s' : Shared} {res : GenResult} (h : Wakes M Γ p g r s res s') (ok : OkG s.gens) {b : Array GenState} (rl : Rel s.gens b) :
    OkG s'.gens ∧ ∃ b', Rel s'.gens b' ∧ Kept s.gens b s'.gens b' ∧ Wakes M Γ p g r { s with gens := b } res { s' with gens := b' } := by
  cases hg : s.gens[g]? with
  | none =>
    unfold Wakes at h
    rw [hg] at h
    exact h.elim
  | some x =>
    obtain ⟨y, ey, _, q⟩ := rl.at_ _ _ hg
    have eb : ({ s with gens := b } : Shared).gens[g]? = some y := ey
    unfold Wakes at h ⊢
    rw [hg] at h
    rw [eb]
    cases x with
    | fresh c =>
      rcases q with rfl | ⟨q, _⟩
      · cases r with
        | send v =>
          by_cases hv : v = .none
          · subst hv
            obtain ⟨e1, s1, h1, hq, rfl, rfl⟩ := h
            obtain ⟨o1, eo, b1, r1, k1, g1⟩ := runs_swap h1 (ok.set trivial) .nil _ rl.set
            exact ⟨o1.set eo.state, _, r1.set, Kept.set hg (fun z => z) k1, e1, _, g1, hq, rfl, rfl⟩
          · have h' : res = .justStarted ∧ s' = s := by cases v <;> first | exact absurd rfl hv | exact h
            obtain ⟨rfl, rfl⟩ := h'
            refine ⟨ok, b, rl, .refl, ?_⟩
            cases v <;> first | exact absurd rfl hv | exact ⟨rfl, rfl⟩
        | throw x =>
          obtain ⟨rfl, rfl⟩ := h
          exact ⟨ok.set trivial, _, rl.set, Kept.set1 hg (fun z => z), rfl, rfl⟩
      · exact q.elim
    | suspended k l c p0 fs cl =>
      obtain ⟨e1, s1, h1, hq, rfl, rfl⟩ := h
      rcases q with rfl | ⟨q, _⟩
      · rcases ok _ _ hg with z | z
        · exact (stuck_no z h1).elim
        · obtain ⟨o1, eo, b1, r1, k1, g1⟩ := runs_swap h1 (ok.set trivial) z _ rl.set
          exact ⟨o1.set eo.state, _, r1.set, Kept.set hg (fun z => stuck_no z h1) k1, e1, _, g1, hq, rfl, rfl⟩
      · exact (stuck_no q h1).elim
    | running =>
      obtain ⟨rfl, rfl⟩ := h
      rcases q with rfl | ⟨q, _⟩
      · exact ⟨ok, b, rl, .refl, rfl, rfl⟩
      · exact q.elim
    | finished =>
      obtain ⟨rfl, rfl⟩ := h
      rcases q with rfl | ⟨q, _⟩
      · exact ⟨ok, b, rl, .refl, rfl, rfl⟩
      · exact q.elim
/-- what holds behind, told where the sleepers could wake -/
def Post (a b : Array GenState) (q : Shared → Prop) (s2 : Shared) : Prop := ∃ s', q s' ∧ OkG s'.gens ∧ ∃ b', Rel s'.gens b' ∧ Kept a b s'.gens b' ∧ s2 = { s' with gens := b' }
theorem Post.back {a b a1 b1 : Array GenState} {q : Shared → Prop} {s2 : Shared} (k : Kept a b a1 b1) (h : Post a1 b1 q s2) : Post a b q s2 := by
  obtain ⟨s', h1, h2, b', h3, h4, h5⟩ := h
  exact ⟨s', h1, h2, b', h3, k.trans h4, h5⟩
theorem wp_swap {M : Model} {Γ : PySem.Ctx} {α : Type} (t : Sem α) : ∀ {Q : α → Pos → Shared → Prop} {E : Value → Pos → Shared → Prop} {p : Pos} {s : Shared}, Sem.wp M Γ t Q E p s → OkG s.gens → ∀ b, Rel s.gens b →
    Sem.wp M Γ t (fun a p' s2 => Post s.gens b (Q a p') s2) (fun e p' s2 => Post s.gens b (E e p') s2) p { s with gens := b } := by
  induction t with
  | pure a => intro Q E p s h ok b r; exact ⟨s, h, ok, b, r, .refl, rfl⟩
  | raise e => intro Q E p s h ok b r; exact ⟨s, h, ok, b, r, .refl, rfl⟩
  | unsupported _ => intro Q E p s z; exact z.elim
  | finish _ => intro Q E p s z; exact z.elim
  | rule _ k ih => intro Q E p s h ok b r; exact ih () h ok b r
  | «at» p' k ih => intro Q E p s h ok b r; exact ih () h ok b r
  | load a _ k ih => intro Q E p s h ok b r; obtain ⟨o, ho, h⟩ := h; exact ⟨o, ho, ih o h ok b r⟩
  | update a _ f k ih => intro Q E p s h ok b r; exact ⟨h.1, ih () h.2 ok b r⟩
  | loadIfAlive a k ih => intro Q E p s h ok b r; exact ih _ h ok b r
  | point _ k ih => intro Q E p s h ok b r; exact ih () h ok b r
  | register _ _ => intro Q E p s h; exact h.elim
  | alloc o k ih => intro Q E p s h ok b r; exact ih _ h ok b r
  | fresh k ih => intro Q E p s h ok b r; exact ih _ h ok b r
  | ask k ih => intro Q E p s h ok b r; exact ih _ h ok b r
  | choose src m k ih => intro Q E p s h ok b r; exact ⟨h.1, ih _ h.2 ok b r⟩
  | os q _ k ih => intro Q E p s h ok b r; exact ih _ h ok b r
  | call c hd _ _ k ih =>
    intro Q E p s h ok b r
    obtain ⟨rr, s1, hr, h⟩ := h
    obtain ⟨o1, _, b1, r1, k1, g1⟩ := runs_swap hr ok .nil b r
    refine ⟨rr, _, g1, ?_⟩
    exact Sem.wp_mono _ _ _ (fun _ _ _ z => z.back k1) (fun _ _ _ z => z.back k1) _ _ (ih rr h o1 b1 r1)
  | handled own k ih => intro Q E p s h ok b r; exact ih _ h ok b r
  | genState g k ih =>
    intro Q E p s h ok b r
    obtain ⟨x, hx, h⟩ := h
    obtain ⟨y, ey, _, q⟩ := r.at_ _ _ hx
    refine ⟨y, ey, ?_⟩
    rcases q with rfl | ⟨_, q⟩
    · exact ih _ h ok b r
    · rw [← q]; exact ih _ h ok b r
  | newGen c k ih =>
    intro Q E p s h ok b r
    have z := ih _ h ok.push _ r.push
    have e := r.size
    show Sem.wp M Γ (k b.size) _ _ p _
    rw [← e]
    exact Sem.wp_mono _ _ _ (fun _ _ _ z => z.back (Kept.push r)) (fun _ _ _ z => z.back (Kept.push r)) _ _ z
  | resume g rs _ k ih =>
    intro Q E p s h ok b r
    obtain ⟨res, s1, hw, h⟩ := h
    obtain ⟨o1, b1, r1, k1, g1⟩ := wakes_swap hw ok r
    refine ⟨res, _, g1, ?_⟩
    exact Sem.wp_mono _ _ _ (fun _ _ _ z => z.back k1) (fun _ _ _ z => z.back k1) _ _ (ih res h o1 b1 r1)
  | yield _ _ _ _ => intro Q E p s h; exact h.elim
  | stack k ih => intro Q E p s h ok b r; exact ih _ h ok b r
  | fork _ _ => intro Q E p s h; exact h.elim
  | thread k ih => intro Q E p s h ok b r; exact ih _ h ok b r
  | await _ _ _ _ _ => intro Q E p s h; exact h.elim
/-! ### all that sleep, made unable to wake -/
def asleep : GenState → GenState
  | .suspended _ l c p fs cl => .suspended (fun _ => .unsupported "asleep") l c p fs cl
  | x => x
theorem asleep_bare (x : GenState) : (asleep x).bare = x.bare := by cases x <;> rfl
theorem asleep_seen (x : GenState) : (asleep x).seen = x.seen := by cases x <;> rfl
theorem asleep_ok (a : Array GenState) : OkG (a.map asleep) := fun i x e => by
  rw [Array.getElem?_map] at e
  obtain ⟨y, _, rfl⟩ := Option.map_eq_some_iff.mp e
  cases y with
  | suspended => exact .inl fun _ => rfl
  | _ => exact trivial
theorem asleep_rel (a : Array GenState) : Rel (a.map asleep) a := by
  refine ⟨Array.size_map .., fun i x e => ?_⟩
  rw [Array.getElem?_map] at e
  obtain ⟨y, ey, rfl⟩ := Option.map_eq_some_iff.mp e
  refine ⟨y, ey, asleep_bare y, ?_⟩
  cases y with
  | suspended => exact .inr ⟨fun _ => rfl, rfl⟩
  | _ => exact .inl rfl
theorem Rel.bare {a b : Array GenState} (r : Rel a b) (h : AllBare a) : AllBare b := fun y m => by
  obtain ⟨i, hi, e⟩ := Array.mem_iff_getElem.mp m
  have la : i < a.size := r.lt.mpr hi
  obtain ⟨z, ez, bz, _⟩ := r.at_ i a[i] (Array.getElem?_eq_getElem la)
  rw [Array.getElem?_eq_getElem hi, e] at ez
  cases ez
  rw [← bz]
  exact h _ (Array.getElem_mem la)
theorem asleep_all {a : Array GenState} (h : AllBare a) : AllBare (a.map asleep) := fun y m => by
  obtain ⟨x, hx, rfl⟩ := Array.mem_map.mp m
  rw [asleep_bare]
  exact h x hx
/-- what is kept of the generators: those that sleep -/
def SameGens (a b : Array GenState) : Prop := ∀ (i : Nat) k l c p fs cl, a[i]? = some (GenState.suspended k l c p fs cl) → b[i]? = some (GenState.suspended k l c p fs cl)
theorem SameGens.refl {a : Array GenState} : SameGens a a := fun _ _ _ _ _ _ _ e => e
theorem SameGens.trans {a b c : Array GenState} (h : SameGens a b) (g : SameGens b c) : SameGens a c := fun i k l cc p fs cl e => g i k l cc p fs cl (h i k l cc p fs cl e)
/-- THE RULE: what is shown of a run from any generators holds while the sleepers sleep on -/
theorem wpAny_keep {M : Model} {A : Around} {α : Type} {t : Sem α} {Q : α → Shared → Prop} {E : Value → Shared → Prop} {s : Shared} (h : wpAny M A t Q E { s with gens := s.gens.map asleep }) :
    wpAny M A t (fun a s2 => ∃ s', Q a s' ∧ OkG s'.gens ∧ Rel s'.gens s2.gens ∧ s2 = { s' with gens := s2.gens } ∧ SameGens s.gens s2.gens) (fun e s2 => ∃ s', E e s' ∧ OkG s'.gens ∧ Rel s'.gens s2.gens ∧ s2 = { s' with gens := s2.gens } ∧ SameGens s.gens s2.gens) s := by
  intro Γ p hΓ
  have z := wp_swap t (h Γ p hΓ) (asleep_ok s.gens) s.gens (asleep_rel s.gens)
  have fin : ∀ {q : Shared → Prop} {s2 : Shared}, Post (s.gens.map asleep) s.gens q s2 → ∃ s', q s' ∧ OkG s'.gens ∧ Rel s'.gens s2.gens ∧ s2 = { s' with gens := s2.gens } ∧ SameGens s.gens s2.gens := fun {q s2} y => by
    obtain ⟨s', h1, h2, b', h3, h4, rfl⟩ := y
    refine ⟨s', h1, h2, h3, rfl, fun i k l c p fs cl e => ?_⟩
    have e2 : (s.gens.map asleep)[i]? = some (asleep (.suspended k l c p fs cl)) := by rw [Array.getElem?_map, e]; rfl
    exact ((h4 i _ e2 (fun _ => rfl)).2).trans e
  exact Sem.wp_mono _ _ _ (fun _ _ _ y => fin y) (fun _ _ _ y => fin y) _ _ z
end KH

/-! KH2: a generator def's body for any consumer: it is resumed at any heap that its consumer warrants. -/
namespace KH
open PySem PySem.Spec PyProof.Rows L2 GenW
/-- a state's heap below an address -/
def cutS (L : Nat) (s : Shared) : Shared := { s with heap := { s.heap with objs := s.heap.objs.extract 0 L } }
theorem cut_at {L : Nat} {s : Shared} (b : Nat) : (cutS L s).heap.objs[b]? = if b < L then s.heap.objs[b]? else none := by
  show (s.heap.objs.extract 0 L)[b]? = _
  rw [Array.getElem?_extract, Nat.zero_add]
  by_cases h1 : b < L
  · rw [if_pos h1]
    by_cases h2 : b < s.heap.objs.size
    · rw [if_pos (by omega)]
    · rw [if_neg (by omega)]
      symm
      exact Array.getElem?_eq_none_iff.mpr (by omega)
  · rw [if_neg h1, if_neg (by omega)]
theorem cut_get {L : Nat} {s : Shared} {b : Addr} {o : Obj} (h : (cutS L s).heap.get? b = some o) : b < L ∧ s.heap.get? b = some o := by
  unfold Heap.get? at h ⊢
  rw [cut_at] at h
  by_cases lt : b < L
  · rw [if_pos lt] at h
    exact ⟨lt, h⟩
  · rw [if_neg lt] at h
    cases h
theorem get_cut {L : Nat} {s : Shared} {b : Addr} {o : Obj} (lt : b < L) (h : s.heap.get? b = some o) : (cutS L s).heap.get? b = some o := by
  unfold Heap.get? at h ⊢
  rw [cut_at, if_pos lt]
  exact h
theorem cut_size {L : Nat} {s : Shared} (h : L ≤ s.heap.objs.size) : (cutS L s).heap.objs.size = L := by
  show (s.heap.objs.extract 0 L).size = L
  rw [Array.size_extract]
  omega
/-- a generator def, called: its frame's object at L, its own object at a -/
structure GN where
  prog : Program
  w : World
  K : PySem.W.Frag
  mg : Str → Option Value
  base : Heap
  N : List Str
  qual : Str
  scope : Scope
  L : Addr
  f : Addr
  cd : Value
  A : Around
  outer : List Env
  a : Addr
  go : Obj
  ops : List Addr
  most : Nat
abbrev GN.env (G : GN) : Env := envOfC G.qual G.scope G.L G.f G.cd
def GN.cx (G : GN) (s0 : Shared) (H0 : Hp) (pp : List (Addr × Obj)) : Cx where
  prog := G.prog
  w := G.w
  K := G.K
  mg := G.mg
  base := G.base
  A := G.A.deeper G.env
  N := G.N
  s_0 := s0
  H_0 := H0
  env := G.env
  outer := G.outer
  stack := G.env :: G.outer
  ex := []
  fn := fun _ => true
  calm := true
  pn := (G.a, G.go) :: pp
  xe := fun _ _ => False
abbrev GN.at (G : GN) (s0 : Shared) (H0 : Hp) : Cx := G.cx (cutS G.L s0) H0 (pinsAt G.ops s0.heap)
/-- its consumer's young objects, which it leaves alone -/
def Ow (ops : List Addr) (s : Shared) (H : Hp) : Prop := ∀ b ∈ ops, (∃ o, s.heap.get? b = some o ∧ ∀ v, o.data ≠ .cell v) ∧ H b = none
/-- what does not change of it -/
structure GN.Ok (G : GN) : Prop where
  kind : G.scope.kind = .function
  cells : cellsFrom (G.L + 1) G.scope.names [] = []
  plain : ∀ y ∈ G.scope.names, y.2 ≠ .cell ∧ y.2 ≠ .free
  hd : (G.A.deeper G.env).handled = none
  bsz : G.base.objs.size ≤ G.L
  old : ∀ b ∈ frs G.outer, b < G.L
  god : ∀ v, G.go.data ≠ .cell v
  al : G.L < G.a
  opl : ∀ b ∈ G.ops, G.L < b
/-- what the generator wakes in -/
abbrev GN.E0 (G : GN) (s' : Shared) (H' : Hp) : Prop := Env0 G.prog G.w G.K G.mg G.base G.A G.outer s' H'
theorem GN.Ok.cx {G : GN} (ok : G.Ok) {s' : Shared} {H' : Hp} (e0 : G.E0 s' H') (lt : G.L ≤ s'.heap.objs.size) : (G.at s' H').Ok where
  mod := e0.mod
  kind := ok.kind
  glob := rfl
  blt := rfl
  above := Nat.le_of_eq (cut_size lt)
  inj := fun x y c h => by
    have h : (cellsFrom (G.L + 1) G.scope.names []).lookup x = some c := h
    rw [ok.cells] at h
    cases h
  has := fun x h => by
    have h : G.scope.names.lookup x = some .cell ∨ G.scope.names.lookup x = some .free := h
    rcases h with h | h
    · exact absurd rfl (ok.plain _ (PySem.mem_of_lookup h)).1
    · exact absurd rfl (ok.plain _ (PySem.mem_of_lookup h)).2
  cab := fun x c _ h => by
    have h : (cellsFrom (G.L + 1) G.scope.names []).lookup x = some c := h
    rw [ok.cells] at h
    cases h
  hd := fun _ => ok.hd
  frames := Around.frames_deeper e0.frames
  stk := .inr ⟨rfl, rfl⟩
  exf := fun b z => absurd z List.not_mem_nil
  bs := fun b o e => ⟨get_cut (Nat.lt_of_lt_of_le (Heap.lt_size e) ok.bsz) (e0.bs b o e).1, (e0.bs b o e).2⟩
  bsz := by
    show G.base.objs.size ≤ (cutS G.L s').heap.objs.size
    rw [cut_size lt]
    exact ok.bsz
  noex := fun b o _ z => absurd z List.not_mem_nil
  exfs := fun b z => absurd z List.not_mem_nil
  funs := by
    have all : ∀ (l : List Env), (∀ b ∈ frs l, b < G.L) → s'.heap.FunFrames G.base l → (cutS G.L s').heap.FunFrames G.base l := by
      intro l
      induction l with
      | nil => intro _ _; trivial
      | cons env r ih =>
        intro hs hl
        obtain ⟨nm, ⟨L, o, hf, hn, ho, hd⟩, below⟩ := hl
        have hL : L < G.L := hs L (by unfold frs; rw [List.filterMap_cons, hf]; exact List.mem_cons_self)
        exact ⟨nm, ⟨L, o, hf, hn, get_cut hL ho, hd⟩, ih (fun b hb => hs b (by unfold frs; rw [List.filterMap_cons, hf]; exact List.mem_cons_of_mem _ hb)) below⟩
    exact all G.outer ok.old e0.funs
  frf := e0.frf
/-- its own things are as they were -/
def Kp (G : GN) (ip : List (Addr × Obj)) (s1 s' : Shared) (H' : Hp) : Prop := ∀ b, b = G.L ∨ b = G.a ∨ b ∈ ip.map (·.1) → (∀ o, s1.heap.get? b = some o → s'.heap.get? b = some o) ∧ H' b = none
/-- woken at another state and heap: what its frame holds, its own objects -/
theorem GN.Ok.wake_of {G : GN} (ok : G.Ok) {ip : List (Addr × Obj)} {σ : L2.St} {H' : Hp} {s1 s' : Shared} (loc : ∃ m, s1.heap.Ns G.L m ∧ ∀ (i : Nat) (x : Str) (v : V), G.N[i]? = some x → σ[i]? = some (some v) → Vis G.scope x → ∃ u, RelV v u ∧ Look G.env s1.heap m x u)
    (pins : ∀ p ∈ [(G.a, G.go)] ++ ip, s1.heap.get? p.1 = some p.2 ∧ p.1 ≠ G.L ∧ p.1 ∉ frs G.outer ∧ ∀ v, p.2.data ≠ .cell v) (len : σ.length = G.N.length) (e0 : G.E0 s' H') (k : Kp G ip s1 s' H') (ow : Ow G.ops s' H') : Inv (G.at s' H') ip σ H' s' := by
  obtain ⟨m, hn, hl⟩ := loc
  obtain ⟨oL, es, ep, hoL, r⟩ := id hn
  have hoL' : s1.heap.get? G.L = some oL := hoL
  have kL := (k G.L (.inl rfl)).1 oL hoL'
  have lt : G.L ≤ s'.heap.objs.size := Nat.le_of_lt (Heap.lt_size kL)
  have nocell : ∀ x c, (G.at s' H').env.cells.lookup x = some c → False := fun x c h => by
    have h : (cellsFrom (G.L + 1) G.scope.names []).lookup x = some c := h
    rw [ok.cells] at h
    cases h
  refine ⟨ok.cx e0 lt, rfl, e0.bare, Un.kept fun b o e => (cut_get e).2, ⟨m, ⟨oL, es, ep, kL, r⟩, fun i y v e1 e2 e3 => ?_⟩, fun x c h => (nocell x c h).elim, (k G.L (.inl rfl)).2, fun x c h => (nocell x c h).elim, fun p hp => ?_, e0.hok, len⟩
  · obtain ⟨u, ru, l⟩ := hl i y v e1 e2 e3
    refine ⟨u, ru, ?_⟩
    rcases l with l | ⟨_, c, h, _⟩
    · exact .inl l
    · exact (nocell y c h).elim
  · have mine : p ∈ [(G.a, G.go)] ++ ip → s'.heap.get? p.1 = some p.2 ∧ H' p.1 = none ∧ p.1 ≠ G.L ∧ p.1 ∉ frs G.outer ∧ ∀ v, p.2.data ≠ .cell v := fun hp => by
      obtain ⟨h1, h3, h4, h5⟩ := pins p hp
      have z := k p.1 (by
        rcases List.mem_append.mp hp with hz | hz
        · rw [List.mem_singleton.mp hz]; exact .inr (.inl rfl)
        · exact .inr (.inr (List.mem_map_of_mem hz)))
      exact ⟨z.1 _ h1, z.2, h3, h4, h5⟩
    have hp : p ∈ ((G.a, G.go) :: pinsAt G.ops s'.heap) ++ ip := hp
    rcases List.mem_append.mp hp with hz | hz
    · rcases List.mem_cons.mp hz with hz | hz
      · exact mine (List.mem_append_left _ (List.mem_singleton.mpr hz))
      · obtain ⟨hb, e⟩ := of_pinsAt hz
        obtain ⟨⟨o, e2, d⟩, n⟩ := ow p.1 hb
        rw [e2] at e
        cases e
        refine ⟨e2, n, Nat.ne_of_gt (ok.opl _ hb), fun z => ?_, d⟩
        exact absurd (Nat.lt_trans (ok.old _ z) (ok.opl _ hb)) (Nat.lt_irrefl _)
    · exact mine (List.mem_append_right _ hz)
theorem GN.Ok.woken {G : GN} (ok : G.Ok) {ip : List (Addr × Obj)} {σ : L2.St} {H0 H1 H' : Hp} {s0 s1 s' : Shared} (I : Inv (G.at s0 H0) ip σ H1 s1) (e0 : G.E0 s' H') (k : Kp G ip s1 s' H') (ow : Ow G.ops s' H') : Inv (G.at s' H') ip σ H' s' :=
  ok.wake_of I.loc (fun p hp => by
    obtain ⟨h1, h2, h3, h4, h5⟩ := I.pin p (by
      rcases List.mem_append.mp hp with z | z
      · exact List.mem_append_left _ (by rw [List.mem_singleton.mp z]; exact List.mem_cons_self)
      · exact List.mem_append_right _ z)
    exact ⟨h1, h3, h4, h5⟩) I.len e0 k ow
/-! ### the judgement -/
/-- what is wanted behind a statement: the number of what is out, the heap of the last waking; yl: of what is handed out; rs: of the heap at which one was handed out, and the heap of the next waking -/
structure GD where
  nx : Nat → Hp → L2.St → Hp → Prop
  rt : Nat → Hp → V → Hp → Prop
  bk : Nat → Hp → L2.St → Hp → Prop := fun _ _ _ _ => False
  ct : Nat → Hp → L2.St → Hp → Prop := fun _ _ _ _ => False
  yl : Nat → Hp → V → Hp → Prop
  rs : Nat → Hp → Hp → Prop
abbrev TW := GD → Nat → Hp → L2.St → Hp → Prop
def GD.at (D : GD) (j : Nat) (H0 : Hp) : Ends := { nx := D.nx j H0, rt := D.rt j H0, bk := D.bk j H0, ct := D.ct j H0 }
def HY (G : GN) (Tk : Nat → Shared → Hp → Prop) (yl : Nat → Hp → V → Hp → Prop) (rs : Nat → Hp → Hp → Prop) : Protocol := fun n s₀ v s1 kap =>
  ∃ j x ip σ H0 H1, n + 1 + j = G.most ∧ 1 ≤ n ∧ (∀ p ∈ ip, G.L ≤ p.1 ∧ p.1 ∉ G.ops) ∧ RelV x v ∧ Tk j s₀ H0 ∧ yl j H0 x H1 ∧ Inv (G.at s₀ H0) ip σ H1 s1 ∧ ∀ s' H', Tk (j + 1) s' H' → rs (j + 1) H1 H' → G.E0 s' H' → Kp G ip s1 s' H' → kap (.send .none) s'
def HSP (G : GN) (ip : List (Addr × Obj)) (D : GD) (j : Nat) (s₀ : Shared) (H0 : Hp) (f : Flow) (s : Shared) : Prop := SP (G.at s₀ H0) ip (D.at j H0) f s
/-- the place of its code, whoever wakes it -/
structure HC (G : GN) (c : Code) (fs : List Frame) (gd : Bool → Bool) : Prop where
  ok : G.Ok
  over : G.A.over c fs = G.A.deeper G.env
  split : splitAtGen fs = none
  guard : (fs.any Frame.guarded) = false
  gd : gd false = false
structure HK (G : GN) (Tk : Nat → Shared → Hp → Prop) (ip : List (Addr × Obj)) (R : GenEnd) (c : Code) (fs : List Frame) (Kf : Flow → Sem PySem.Fin) (D : GD) : Prop where
  ok : ∀ (n j : Nat) (s₀ s : Shared) (H0 : Hp) (f : Flow), n + j = G.most → Tk j s₀ H0 → HSP G ip D j s₀ H0 f s → Seg (model G.prog G.w) G.A R (HY G Tk D.yl D.rs) n s₀ c (Kf f) fs s
  lt : ∀ j s H, Tk j s H → G.L ≤ s.heap.objs.size ∧ Ow G.ops s H
  ip : ∀ p ∈ ip, G.L ≤ p.1 ∧ p.1 ∉ G.ops
structure GT (G : GN) (st : Stmt) (t : TW) : Prop where
  run : ∀ (Tk : Nat → Shared → Hp → Prop) (ip : List (Addr × Obj)) (R : GenEnd) (n j : Nat) (s₀ : Shared) (H0 : Hp) (c : Code) (fs : List Frame) (Kf : Flow → Sem PySem.Fin) (J : Value → Sem PySem.Fin) (gd : Bool → Bool) (lv : List Value → List Value) (s : Shared) (σ : L2.St) (H : Hp) (D : GD),
    HC G c fs gd → n + j = G.most → Tk j s₀ H0 → HK G Tk ip R c fs Kf D → Inv (G.at s₀ H0) ip σ H s → t D j H0 σ H → Seg (model G.prog G.w) G.A R (HY G Tk D.yl D.rs) n s₀ c ((exec st G.env).wrap Kf J gd lv) fs s
structure GTs (G : GN) (st : List Stmt) (t : TW) : Prop where
  run : ∀ (Tk : Nat → Shared → Hp → Prop) (ip : List (Addr × Obj)) (R : GenEnd) (n j : Nat) (s₀ : Shared) (H0 : Hp) (c : Code) (fs : List Frame) (Kf : Flow → Sem PySem.Fin) (J : Value → Sem PySem.Fin) (gd : Bool → Bool) (lv : List Value → List Value) (s : Shared) (σ : L2.St) (H : Hp) (D : GD),
    HC G c fs gd → n + j = G.most → Tk j s₀ H0 → HK G Tk ip R c fs Kf D → Inv (G.at s₀ H0) ip σ H s → t D j H0 σ H → Seg (model G.prog G.w) G.A R (HY G Tk D.yl D.rs) n s₀ c ((execs st G.env).wrap Kf J gd lv) fs s
section
variable {G : GN} {st : Stmt} {rest : List Stmt}
def tWPlain (t : TS) : TW := fun D j H0 σ H => t (D.at j H0) σ H
theorem gt_ps {t : TS} (h : ∀ s0 H0 pp, PS (G.cx s0 H0 pp) st t) : GT G st (tWPlain t) := by
  refine ⟨fun Tk ip R n j s₀ H0 c fs Kf J gd lv s σ H D g hn tk k I ht => ?_⟩
  refine seg_wrap ?_
  rw [g.over]
  exact wpAny_mono ((h _ H0 _).run _ s σ H (D.at j H0) I ht) (fun f s' hs => k.ok n j s₀ s' H0 f hn tk hs) fun x s' hx => hx.elim
def tW0 : TW := fun D j H0 σ H => D.nx j H0 σ H
theorem gts_nil : GTs G [] tW0 := by
  refine ⟨fun Tk ip R n j s₀ H0 c fs Kf J gd lv s σ H D g hn tk k I ht => ?_⟩
  exact seg_execs_nil (k.ok n j s₀ s H0 .next hn tk ⟨σ, H, I, ht⟩)
def tWThen (t u : TW) : TW := fun D j H0 σ H => t { D with nx := fun j' H0' σ' H' => u D j' H0' σ' H' } j H0 σ H
theorem gts_cons {t u : TW} (a : GT G st t) (b : GTs G rest u) : GTs G (st :: rest) (tWThen t u) := by
  refine ⟨fun Tk ip R n j s₀ H0 c fs Kf J gd lv s σ H D g hn tk k I ht => ?_⟩
  refine seg_execs_cons ?_
  refine a.run Tk ip R n j s₀ H0 c fs _ J gd lv s σ H { D with nx := fun j' H0' σ' H' => u D j' H0' σ' H' } g hn tk ⟨fun n' j' s₀' s' H0' f hn' tk' hs => ?_, k.lt, k.ip⟩ I ht
  cases f with
  | next =>
    obtain ⟨σ', H', I', q⟩ := hs
    exact b.run Tk ip R n' j' s₀' H0' c fs Kf J gd lv s' σ' H' D g hn' tk' k I' q
  | brk => exact k.ok n' j' s₀' s' H0' .brk hn' tk' hs
  | cont => exact k.ok n' j' s₀' s' H0' .cont hn' tk' hs
  | ret u => exact k.ok n' j' s₀' s' H0' (.ret u) hn' tk' hs
/-! ### yield -/
def tWYield (m : Nat) (te : TE) : TW := fun D j H0 σ H => j + 1 < m ∧ te σ H fun x H1 => D.yl j H0 x H1 ∧ ∀ H2, D.rs (j + 1) H1 H2 → D.nx (j + 1) H2 σ H2
theorem gt_yield {e : Expr} {yp pos : Pos} {te : TE} (he : ∀ s0 H0 pp, PE (G.cx s0 H0 pp) e te) (hco : G.env.scope.isCoroutine = false := by rfl) (hi : interactive G.env = false := by rfl) : GT G (.Expr (.Yield (some e) yp) pos) (tWYield G.most te) := by
  refine ⟨fun Tk ip R n j s₀ H0 c fs Kf J gd lv s σ H D g hn tk k I ht => ?_⟩
  obtain ⟨hlt, ht⟩ := ht
  obtain ⟨left, rfl⟩ : ∃ left, n = left + 1 := ⟨n - 1, by omega⟩
  refine seg_Expr_Yield (hfs := g.split) (hgd := g.gd) (hfg := g.guard) ?_ hco hi
  rw [g.over]
  refine wpAny_mono ((he _ H0 _).run _ s σ H _ I ht) (fun v s' hv => ?_) fun x s' hx => hx.elim
  obtain ⟨x, H1, I1, rv, q1, q2⟩ := hv
  intro kap hk
  refine ⟨j, x, ip, σ, H0, H1, hn, by omega, k.ip, rv, tk, q1, I1, fun s'' H'' tk' r' e0 kp => hk .none s'' ?_⟩
  exact k.ok left (j + 1) s'' s'' H'' .next (by omega) tk' ⟨σ, H'', g.ok.woken I1 e0 kp (k.lt _ _ _ tk').2, q2 H'' r'⟩
/-! ### if -/
def tWIf (tc : TT) (t1 t2 : TW) : TW := fun D j H0 σ H => tc σ H fun b H1 => if b = true then t1 D j H0 σ H1 else t2 D j H0 σ H1
theorem gt_if {test : Expr} {b1 b2 : List Stmt} {pos : Pos} {tc : TT} {t1 t2 : TW} (hc : ∀ s0 H0 pp, PT (G.cx s0 H0 pp) test tc) (h1 : GTs G b1 t1) (h2 : GTs G b2 t2) : GT G (.If test b1 b2 pos) (tWIf tc t1 t2) := by
  refine ⟨fun Tk ip R n j s₀ H0 c fs Kf J gd lv s σ H D g hn tk k I ht => ?_⟩
  rw [exec_If]
  refine seg_bind_wrap (m := standAt _) (wpAny_standAt ?_)
  refine seg_bind_wrap ?_
  rw [g.over]
  refine wpAny_mono ((hc _ H0 _).run _ s σ H _ I ht) (fun b s' hb => ?_) fun x s' hx => hx.elim
  obtain ⟨H2, I2, q2⟩ := hb
  cases b with
  | true =>
    rw [if_pos rfl] at q2 ⊢
    exact h1.run Tk ip R n j s₀ H0 c fs Kf J gd lv s' σ H2 D g hn tk k I2 q2
  | false =>
    rw [if_neg Bool.false_ne_true] at q2 ⊢
    exact h2.run Tk ip R n j s₀ H0 c fs Kf J gd lv s' σ H2 D g hn tk k I2 q2
/-! ### loops -/
theorem hc_loop {c c' : Code} {fs : List Frame} {gd : Bool → Bool} {k : Result → Sem PySem.Fin} {l kp : List Value} {p : Pos} (g : HC G c fs gd) (hw : c'.weight = 0) (hu : c'.cUnits = 0) : HC G c' (.ret k none (gd false) l c p kp :: fs) id where
  ok := g.ok
  over := by rw [over_loop hw hu]; exact g.over
  split := by
    show ((splitAtGen fs).map _) = none
    rw [g.split]; rfl
  guard := by
    show (gd false || (fs.any Frame.guarded)) = false
    rw [g.gd, g.guard]; rfl
  gd := rfl
def tWWhile (c : TT) (tb : TW) : TW := fun D j H0 σ H => ∃ W : Nat → Nat → Hp → L2.St → Hp → Prop, (∃ m, W m j H0 σ H) ∧ ∀ m j H0 σ H, W m j H0 σ H →
  c σ H fun b H1 => if b = true then ∃ N : Nat → Hp → L2.St → Hp → Prop, (∀ j' H0' σ' H', N j' H0' σ' H' → ∃ m', m' < m ∧ W m' j' H0' σ' H') ∧ tb { D with nx := N, ct := N, bk := D.nx } j H0 σ H1 else D.nx j H0 σ H1
theorem gt_while {test : Expr} {body : List Stmt} {pos : Pos} {tc : TT} {tb : TW} (hc : ∀ s0 H0 pp, PT (G.cx s0 H0 pp) test tc) (hb : GTs G body tb) : GT G (.While test body [] pos) (tWWhile tc tb) := by
  refine ⟨fun Tk ip R n j s₀ H0 c fs Kf J gd lv s σ H D g hn tk k I ht => ?_⟩
  obtain ⟨W, ⟨m0, begun⟩, turn⟩ := ht
  refine seg_While fun p => ?_
  have gl := fun (kk : Result → Sem PySem.Fin) => hc_loop (k := kk) (c' := .whileLoop test body [] G.env) (l := lv []) (kp := []) (p := p) g rfl rfl
  have loop : ∀ (m n j : Nat) (s₀ s : Shared) (H0 : Hp) (σ : L2.St) (H : Hp), n + j = G.most → Tk j s₀ H0 → W m j H0 σ H → Inv (G.at s₀ H0) ip σ H s →
      Seg (model G.prog G.w) G.A R (HY G Tk D.yl D.rs) n s₀ (.whileLoop test body [] G.env) ((model G.prog G.w).den (.whileLoop test body [] G.env))
        (.ret (fun r => ((match r with | .ok f => (.pure f : Sem Flow) | .error e => .raise e).onRaise (cameBack G.env)).wrap Kf J gd lv) none (gd false) (lv []) c p [] :: fs) s := by
    intro m
    induction m using Nat.strongRecOn with | ind m ih =>
      intro n j s₀ s H0 σ H hn tk w I
      refine seg_whileLoop ?_
      rw [(gl _).over]
      refine wpAny_mono ((hc _ H0 _).run _ s σ H _ I (turn m j H0 σ H w)) (fun b s' hb' => ?_) fun x s' hx => hx.elim
      obtain ⟨H2, I2, q2⟩ := hb'
      cases b with
      | true =>
        obtain ⟨N, hN, q2⟩ := q2
        rw [if_pos rfl]
        refine hb.run Tk ip R n j s₀ H0 _ _ _ _ id id s' σ H2 { D with nx := N, ct := N, bk := D.nx } (gl _) hn tk ⟨fun n' j' s₀' s3 H0' f hn' tk' hs => ?_, k.lt, k.ip⟩ I2 q2
        cases f with
        | next =>
          obtain ⟨σ3, H3, I3, n3⟩ := hs
          obtain ⟨m', hm, w3⟩ := hN j' H0' σ3 H3 n3
          exact seg_again rfl (ih m' hm n' j' s₀' s3 H0' σ3 H3 hn' tk' w3 I3)
        | cont =>
          obtain ⟨σ3, H3, I3, n3⟩ := hs
          obtain ⟨m', hm, w3⟩ := hN j' H0' σ3 H3 n3
          exact seg_again rfl (ih m' hm n' j' s₀' s3 H0' σ3 H3 hn' tk' w3 I3)
        | brk => exact seg_leaf (.ok .next) (k.ok n' j' s₀' s3 H0' .next hn' tk' hs)
        | ret v => exact seg_leaf (.ok (.ret v)) (k.ok n' j' s₀' s3 H0' (.ret v) hn' tk' hs)
      | false =>
        rw [if_neg (show ¬ false = true from Bool.false_ne_true)]
        refine seg_execs_nil ?_
        exact seg_leaf (.ok .next) (k.ok n j s₀ s' H0 .next hn tk ⟨σ, H2, I2, q2⟩)
  exact loop m0 n j s₀ s H0 σ H hn tk begun I
/-! ### for -/
def tWFor (wi : TI) (g : TG) (tb : TW) : TW := fun D j H0 σ H => wi σ H fun J H1 => ∃ W : Nat → Nat → Nat → Hp → L2.St → Hp → Prop, (∃ m, W 0 m j H0 σ H1) ∧ ∀ i m j H0 σ H, W i m j H0 σ H →
  (J.stop i H ∧ D.nx j H0 σ H) ∨ (J.go i H ∧ ∃ N : Nat → Hp → L2.St → Hp → Prop, (∀ j' H0' σ' H', N j' H0' σ' H' → ∃ m', m' < m ∧ W (i + 1) m' j' H0' σ' H') ∧ ∀ x H', J.yld i H x H' → g x σ H' fun σ2 H2 => tb { D with nx := N, ct := N, bk := D.nx } j H0 σ2 H2)
theorem fp_move {s₀ s₀' : Shared} {H0 H0' H H' : Hp} {ip : List (Addr × Obj)} {b : Addr} (l : G.L ≤ s₀.heap.objs.size) (l' : G.L ≤ s₀'.heap.objs.size) (no : b ∉ G.ops) (h : FpOk (G.at s₀ H0) ip H b) (hn : H' b = none) : FpOk (G.at s₀' H0') ip H' b := by
  obtain ⟨z1, z2, z3, z4, z5, z6⟩ := h
  refine ⟨hn, z2, z3, ?_, z5, fun p hp => ?_⟩
  rotate_left
  · have hp : p ∈ ((G.a, G.go) :: pinsAt G.ops s₀'.heap) ++ ip := hp
    rcases List.mem_append.mp hp with hz | hz
    · rcases List.mem_cons.mp hz with hz | hz
      · exact z6 p (List.mem_append_left _ (by rw [hz]; exact List.mem_cons_self))
      · exact fun e => no (e ▸ (of_pinsAt hz).1)
    · exact z6 p (List.mem_append_right _ hz)
  rcases z4 with z | z
  · exact .inl z
  · right
    have z : (cutS G.L s₀).heap.objs.size ≤ b := z
    show (cutS G.L s₀').heap.objs.size ≤ b
    rw [cut_size l] at z
    rw [cut_size l']
    exact z
theorem fp_no {s₀ : Shared} {H0 H : Hp} {ip : List (Addr × Obj)} {b : Addr} (ow : Ow G.ops s₀ H0) (h : FpOk (G.at s₀ H0) ip H b) : b ∉ G.ops := fun m => by
  obtain ⟨⟨o, e, _⟩, _⟩ := ow b m
  exact h.2.2.2.2.2 (b, o) (List.mem_append_left _ (List.mem_cons_of_mem _ (mem_pinsAt m e))) rfl
theorem gt_for {tg iter : Expr} {body : List Stmt} {wi : TI} {g : TG} {tb : TW} {pos : Pos} (hi : ∀ s0 H0 pp, PI (G.cx s0 H0 pp) tg iter wi) (hg : ∀ s0 H0 pp, PG (G.cx s0 H0 pp) tg g) (hb : GTs G body tb) (hs : ∀ x, foldedSetIterable iter G.env x = pure x := by intro _; rfl) : GT G (.For tg iter body [] pos) (tWFor wi g tb) := by
  refine ⟨fun Tk ip R n j s₀ H0 c fs Kf J gd lv s σ H D gc hn tk k I ht => ?_⟩
  rw [exec_For]
  refine seg_bind_wrap (m := standAt _) (wpAny_standAt ?_)
  refine seg_bind_wrap ?_
  rw [gc.over]
  refine wpAny_mono ((hi _ H0 _).run _ s σ H _ I ht) (fun v s1 h1 => ?_) fun x s' hx => hx.elim
  refine seg_bind_wrap (wpAny_of_eq (hs v) ?_)
  refine seg_bind_wrap (m := standAt _) (wpAny_standAt ?_)
  refine seg_bind_wrap (m := holding _ _) (wpAny_holding ?_)
  rw [gc.over]
  refine wpAny_mono h1 (fun itv s2 h2 => ?_) fun x s' hx => hx.elim
  obtain ⟨it, fp, tn, JJ, H2, rfl, I2, T, st2, f2, W, ⟨m0, w0⟩, turn⟩ := h2
  refine seg_call fun p => ?_
  have gl := fun (kk : Result → Sem PySem.Fin) => hc_loop (k := kk) (c' := .forLoop tg (.ref it) body [] G.env) (l := lv []) (kp := []) (p := p) gc rfl rfl
  have loop : ∀ (m i n j : Nat) (s₀ s : Shared) (H0 : Hp) (σ : L2.St) (H : Hp), n + j = G.most → Tk j s₀ H0 → W i m j H0 σ H → Inv (G.at s₀ H0) ip σ H s → tn i s.heap → (∀ b ∈ fp, FpOk (G.at s₀ H0) ip H b) →
      Seg (model G.prog G.w) G.A R (HY G Tk D.yl D.rs) n s₀ (.forLoop tg (.ref it) body [] G.env) ((model G.prog G.w).den (.forLoop tg (.ref it) body [] G.env))
        (.ret (fun r => ((match r with | .ok f => (.pure f : Sem Flow) | .error e => .raise e).onRaise (cameBack G.env)).wrap Kf J gd lv) none (gd false) (lv []) c p [] :: fs) s := by
    intro m
    induction m using Nat.strongRecOn with | ind m ih =>
      intro i n j s₀ s H0 σ H hn tk w I st f
      refine KGen.seg_for_ ?_
      rw [(gl _).over]
      rcases turn i m j H0 σ H w with ⟨stop, qn⟩ | ⟨go, N, hN, step⟩
      · refine wpAny_mono (T.done (G.at s₀ H0) rfl rfl rfl rfl i _ s σ H (fun _ _ => False) I f st stop) (fun r' s3 hr => ?_) fun x s' hx => hx.elim
        obtain ⟨rfl, I3⟩ := hr
        refine seg_again rfl ?_
        show Seg _ _ _ _ _ _ _ (((execs [] G.env).onRaise (fun x => do noteFrame x G.env; theTreesLotGoes x)) >>= fun f => pure (.done f)) _ _
        exact seg_leaf (.ok .next) (k.ok n j s₀ s3 H0 .next hn tk ⟨σ, H, I3, qn⟩)
      · refine wpAny_mono (T.item (G.at s₀ H0) rfl rfl rfl rfl i _ s σ H (fun _ _ => False) I f st go) (fun r' s3 hr => ?_) fun x s' hx => hx.elim
        obtain ⟨u, rfl, h3⟩ := hr
        refine wpAny_mono h3 (fun _ s5 h5 => ?_) fun x s' hx => hx.elim
        obtain ⟨x5, H5, I5, r5, y5, st5, fr5⟩ := h5
        have f5 : ∀ b ∈ fp, FpOk (G.at s₀ H0) ip H5 b := fun b hb => ⟨fr5 b hb, (f b hb).2⟩
        have I5' := I5.pinned f5 (T.obj _ _ st5)
        refine wpAny_mono ((hg _ H0 _).run _ s5 σ H5 x5 u _ I5' r5 (step x5 H5 y5)) (fun _ s6 h6 => ?_) fun x s' hx => hx.elim
        obtain ⟨σ6, H6, I6, q6⟩ := h6
        refine hb.run Tk (ip ++ pinsAt fp s5.heap) R n j s₀ H0 _ _ _ _ id id s6 σ6 H6 { D with nx := N, ct := N, bk := D.nx } (gl _) hn tk ⟨fun n' j' s₀' s7 H0' fl hn' tk' hs' => ?_, k.lt, fun q hq => ?_⟩ I6 q6
        rotate_left
        · rcases List.mem_append.mp hq with mine | mine
          · exact k.ip q mine
          · obtain ⟨hb', _⟩ := of_pinsAt mine
            refine ⟨?_, fp_no (k.lt _ _ _ tk).2 (f q.1 hb')⟩
            rcases (f q.1 hb').2.2.2.1 with z | z
            · exact absurd z List.not_mem_nil
            · have z : (cutS G.L s₀).heap.objs.size ≤ q.1 := z
              rw [cut_size (k.lt _ _ _ tk).1] at z
              exact z
        have again : ∀ {σ7 : L2.St} {H7 : Hp}, Inv (G.at s₀' H0') (ip ++ pinsAt fp s5.heap) σ7 H7 s7 → N j' H0' σ7 H7 → Seg (model G.prog G.w) G.A R (HY G Tk D.yl D.rs) n' s₀' (.forLoop tg (.ref it) body [] G.env) (.pure (.again (.forLoop tg (.ref it) body [] G.env)))
            (.ret (fun r => ((match r with | .ok f => (.pure f : Sem Flow) | .error e => .raise e).onRaise (cameBack G.env)).wrap Kf J gd lv) none (gd false) (lv []) c p [] :: fs) s7 := fun {σ7 H7} I7 n7 => by
          obtain ⟨m', hm, w7⟩ := hN j' H0' σ7 H7 n7
          have at7 : ∀ b ∈ fp, ∀ o, s5.heap.get? b = some o → s7.heap.get? b = some o ∧ H7 b = none := fun b hb o e => by
            have z := I7.pin (b, o) (List.mem_append_right _ (List.mem_append_right _ (mem_pinsAt hb e)))
            exact ⟨z.1, z.2.1⟩
          refine seg_again rfl (ih m' hm (i + 1) n' j' s₀' s7 H0' σ7 H7 hn' tk' w7 I7.unpinned (T.keep _ _ _ st5 fun b hb o e => (at7 b hb o e).1) fun b hb => ?_)
          obtain ⟨o, e, _⟩ := T.obj _ _ st5 b hb
          exact fp_move (k.lt _ _ _ tk).1 (k.lt _ _ _ tk').1 (fp_no (k.lt _ _ _ tk).2 (f b hb)) (f b hb) (at7 b hb o e).2
        cases fl with
        | next => obtain ⟨σ7, H7, I7, n7⟩ := hs'; exact again I7 n7
        | cont => obtain ⟨σ7, H7, I7, n7⟩ := hs'; exact again I7 n7
        | brk => obtain ⟨σ7, H7, I7, q7⟩ := hs'; exact seg_leaf (.ok .next) (k.ok n' j' s₀' s7 H0' .next hn' tk' ⟨σ7, H7, I7.unpinned, q7⟩)
        | ret v => obtain ⟨x7, σ7, H7, I7, r7, q7⟩ := hs'; exact seg_leaf (.ok (.ret v)) (k.ok n' j' s₀' s7 H0' (.ret v) hn' tk' ⟨x7, σ7, H7, I7.unpinned, r7, q7⟩)
  exact loop m0 0 n j s₀ s2 H0 σ H2 hn tk w0 I2 st2 f2
end
/-! ### a generator def -/
theorem cells_none : ∀ (l : List (Str × NameKind)) (n : Nat), (∀ y ∈ l, y.2 ≠ .cell) → cellsFrom n l [] = []
  | [], _, _ => rfl
  | (x, k) :: r, n, h => by
    have hk : k ≠ .cell := h (x, k) List.mem_cons_self
    show (if k == .cell then _ else cellsFrom n r []) = []
    rw [if_neg (show ¬ (k == .cell) = true by simpa using hk)]
    exact cells_none r n fun y m => h y (List.mem_cons_of_mem _ m)
/-- what is wanted of a generator def's call: rs: what its consumer warrants of the heap of the j-th waking beside the one handed out last (at first that of the call); yl: of what is handed out; en: of its end -/
abbrev SpH := List V → Hp → (Nat → Hp → Hp → Prop) → (Nat → Hp → V → Hp → Prop) → (Nat → Hp → Hp → Prop) → Prop
def HF (G : GN) (Tk : Nat → Shared → Hp → Prop) (en : Nat → Hp → Hp → Prop) (n : Nat) (s₀ s1 : Shared) : Prop :=
  ∃ j H0 H1, n + j = G.most ∧ Tk j s₀ H0 ∧ en j H0 H1 ∧ s1.os = s₀.os ∧ AllBare s1.gens ∧ Un (frs G.outer) [] H0 H1 (cutS G.L s₀).heap s1.heap ∧ HOk G.prog G.w H1 s1.heap ∧ ∀ p ∈ pinsAt G.ops s₀.heap, s1.heap.get? p.1 = some p.2 ∧ H1 p.1 = none
abbrev HR (G : GN) (Tk : Nat → Shared → Hp → Prop) (en : Nat → Hp → Hp → Prop) : GenEnd := fun n s₀ r s1 => r = .ok (.ret .none) ∧ HF G Tk en n s₀ s1
/-- what such a call gives: a generator that has not begun -/
def HMade (P : Program) (w : World) (K : PySem.W.Frag) (mg : Str → Option Value) (base : Heap) (k most : Nat) (outer : List Env) (s : Shared) (Hc : Hp) (rs : Nat → Hp → Hp → Prop) (yl : Nat → Hp → V → Hp → Prop) (en : Nat → Hp → Hp → Prop) (u : Value) (s' : Shared) : Prop :=
  ∃ (N : List Str) (qual : Str) (scope : Scope) (f : Addr) (cd : Value) (a g : Nat) (go : Obj) (c : Code), u = .ref a ∧ s.heap.objs.size < a ∧ s'.heap.get? a = some go ∧ (∀ h : Heap, h.get? a = some go → h.IsGen a g) ∧ (∀ v, go.data ≠ .cell v) ∧ s'.gens[g]? = some (.fresh c) ∧ s'.os = s.os ∧ AllBare s'.gens ∧
    (∃ oL, s'.heap.get? s.heap.objs.size = some oL ∧ ∀ v, oL.data ≠ .cell v) ∧ (∀ b o, s.heap.get? b = some o → s'.heap.get? b = some o) ∧
    ∀ (A : Around) (ops : List Addr) (Tk : Nat → Shared → Hp → Prop), Room k A → A.frames = some outer → (∀ b ∈ ops, s.heap.objs.size < b) → (∀ j s2 H2, Tk j s2 H2 → s.heap.objs.size ≤ s2.heap.objs.size ∧ Ow ops s2 H2) → (GN.mk P w K mg base N qual scope s.heap.objs.size f cd A outer a go ops most).Ok ∧ ∀ (s2 : Shared) (H2 : Hp), Tk 0 s2 H2 → rs 0 Hc H2 → Env0 P w K mg base A outer s2 H2 → Kp (GN.mk P w K mg base N qual scope s.heap.objs.size f cd A outer a go ops most) [] s' s2 H2 →
      Seg (model P w) A (HR (GN.mk P w K mg base N qual scope s.heap.objs.size f cd A outer a go ops most) Tk en) (HY (GN.mk P w K mg base N qual scope s.heap.objs.size f cd A outer a go ops most) Tk yl rs) most s2 c ((model P w).den c) [] s2
structure HFn (P : Program) (w : World) (K : PySem.W.Frag) (mg : Str → Option Value) (base : Heap) (k most : Nat) (f : Addr) (fd : FuncData) (ps : List Str) (sp : SpH) : Prop where
  len : ∀ vs H rs yl en, sp vs H rs yl en → vs.length = ps.length
  run : ∀ (A : Around) (outer : List Env) (s : Shared) (H : Hp) (args : Args) (us : List Value) (vs : List V) (rs : Nat → Hp → Hp → Prop) (yl : Nat → Hp → V → Hp → Prop) (en : Nat → Hp → Hp → Prop), Room k A → Env0 P w K mg base A outer s H → BindsTo s fd args (ps.zip us) → Vals vs us → sp vs H rs yl en →
    codeAny (model P w) A (.call (.ref f) args) (fun r s' => match r with | .ok (.ret u) => HMade P w K mg base k most outer s H rs yl en u s' | _ => False) s
theorem hfn_of {P : Program} {w : World} {K : PySem.W.Frag} {mg : Str → Option Value} {base : Heap} {k most : Nat} {f : Addr} {name qual : Str} {params : Arguments} {body : List Stmt} {scope : Scope} {dV kV doc pm cdv ct oc : Value} {an od : Option Addr}
    {osl : Array (Option Value)} {N ps : List Str} {sp : SpH} (look : K.lookup f = some ⟨oc, od, .func (PySem.W.fnOf name qual params body scope dV kV doc pm an cdv ct), osl⟩) (codeK : PySem.W.codeIn K cdv qual = true) (S : GScope N ps scope) (plain : ∀ y ∈ scope.names, y.2 ≠ .cell ∧ y.2 ≠ .free)
    (len : ∀ vs H rs yl en, sp vs H rs yl en → vs.length = ps.length)
    (hbody : ∀ (A : Around) (outer : List Env) (L a : Addr) (go : Obj) (ops : List Addr) (vs : List V) (H : Hp) (rs : Nat → Hp → Hp → Prop) (yl : Nat → Hp → V → Hp → Prop) (en : Nat → Hp → Hp → Prop), Room k (A.deeper (envOfC qual scope L f cdv)) → sp vs H rs yl en →
      ∃ t, GTs (GN.mk P w K mg base N qual scope L f cdv A outer a go ops most) body t ∧ ∀ H0, rs 0 H H0 → t { nx := fun j H0 _ H' => en j H0 H', rt := fun j H0 v H' => v = .non ∧ en j H0 H', yl := yl, rs := rs } 0 H0 (start N vs) H0) :
    HFn P w K mg base (k + 1) most f (PySem.W.fnOf name qual params body scope dV kV doc pm an cdv ct) ps sp := by
  refine ⟨len, fun A outer s H args us vs rs yl en room ent binds r hsp => ?_⟩
  have lens := len _ _ _ _ _ hsp
  have inK : K.In s.heap := ent.mod.kin.keeps fun b o e => (ent.bs b o e).1
  have noLim : s.heap.NoLimit := ent.mod.nolimit.keeps fun b o e => (ent.bs b o e).1
  have parKinds : ∀ y ∈ ps.zip us, scope.names.lookup y.1 = some .local ∨ (scope.names.lookup y.1 = some .cell ∧ ((cellsFrom (s.heap.objs.size + 1) scope.names []).lookup y.1).isSome = true) := fun ⟨n, v⟩ hy => by
    cases S.par n (List.of_mem_zip hy).1 with
    | inl here => exact .inl here
    | inr cell => exact absurd rfl (plain _ (PySem.mem_of_lookup cell)).1
  refine codeAny_call_generator room.depth (inK _ _ look) rfl S.co S.gen rfl (PySem.W.codeRec_of inK codeK) (binds _ _ _ _ ?_)
  refine wpAny_newFunctionEnv_cells S.kind parKinds fun env he s1 x => ?_
  subst he
  have noLim1 : s1.heap.NoLimit := noLim.keeps x.toInCall.keep
  refine ⟨noLim1, ?_⟩
  obtain ⟨h1, tk, eqS, keepS⟩ := x.done
  have sameOs : s1.os = s.os := by rw [eqS]
  have sameGens : s1.gens = s.gens := by rw [eqS]
  have youngL : s.heap.objs.size < s1.heap.objs.size := x.toInCall.ns.lt
  have keepAll : ∀ b o, s.heap.get? b = some o → s1.heap.get? b = some o := x.toInCall.keep
  have atStart : Inv (gcxOf P w K mg base N qual scope f cdv A outer s H (fun _ _ _ => False) []) [] (start N vs) H s1 := inv_startG S room.hd ent lens r x
  have made : ∀ (go : Obj) (nm qn : Value) (tokens : Nat), go.cls = .type "generator" → go.data = .fields #[.int s1.gens.size 0, nm, qn] → go.slots = #[] → (∀ h : Heap, (h.push go).get? h.objs.size = some go) →
      HMade P w K mg base (k + 1) most outer s H rs yl en (.ref s1.heap.objs.size) { s1 with gens := s1.gens.push (.fresh (.func body (envOfC qual scope s.heap.objs.size f cdv))), toks := tokens, heap := s1.heap.push go } := by
    intro go nm qn tokens gCls gData gSlots gAt
    have isG : ∀ h : Heap, h.get? s1.heap.objs.size = some go → h.IsGen s1.heap.objs.size s1.gens.size := fun h e => ⟨go, nm, qn, e, gCls, gData, gSlots⟩
    have atA : (s1.heap.push go).get? s1.heap.objs.size = some go := gAt _
    have gPlain : ∀ v, go.data ≠ .cell v := fun v q => by rw [gData] at q; cases q
    obtain ⟨m, hn, hlk⟩ := atStart.loc
    obtain ⟨oL, es, ep, hoL, hdL, rL⟩ := id hn
    have hoL' : s1.heap.get? s.heap.objs.size = some oL := hoL
    refine ⟨N, qual, scope, f, cdv, s1.heap.objs.size, s1.gens.size, go, _, rfl, youngL, atA, isG, gPlain, Array.getElem?_push_size .., sameOs, AllBare.push (by rw [sameGens]; exact ent.bare) rfl, ⟨oL, Heap.get?_push_of_some _ hoL', fun v q => by rw [hdL] at q; cases q⟩, fun b o e => Heap.get?_push_of_some _ (keepAll b o e), ?_⟩
    intro Aw ops Tk hrw hfr hops htk
    have ok : (GN.mk P w K mg base N qual scope s.heap.objs.size f cdv Aw outer s1.heap.objs.size go ops most).Ok := {
      kind := S.kind
      cells := cells_none _ _ fun y m => (plain y m).1
      plain := plain
      hd := hrw.hd
      bsz := ent.bsz
      old := fun b binds => by
        obtain ⟨_, o, ho, _⟩ := ent.funs.mem binds
        exact Heap.lt_size ho
      god := gPlain
      al := youngL
      opl := hops }
    refine ⟨ok, fun s2 H2 tk0 r0 e2 kp => ?_⟩
    obtain ⟨t, ht, hq⟩ := hbody Aw outer s.heap.objs.size s1.heap.objs.size go ops vs H rs yl en (hrw.deeper _) hsp
    have I2 : Inv ((GN.mk P w K mg base N qual scope s.heap.objs.size f cdv Aw outer s1.heap.objs.size go ops most).at s2 H2) [] (start N vs) H2 s2 := by
      refine ok.wake_of (s1 := { s1 with gens := s1.gens.push (.fresh (.func body (envOfC qual scope s.heap.objs.size f cdv))), toks := tokens, heap := s1.heap.push go }) ⟨m, ⟨oL, es, ep, Heap.get?_push_of_some _ hoL', hdL, rL⟩, fun i y v e1 e2 e3 => ?_⟩ (fun p hp => ?_) atStart.len e2 kp (htk _ _ _ tk0).2
      · obtain ⟨u, ru, l⟩ := hlk i y v e1 e2 e3
        refine ⟨u, ru, ?_⟩
        rcases l with l | ⟨kk, c, h, hc⟩
        · exact .inl l
        · refine .inr ⟨kk, c, h, ?_⟩
          obtain ⟨oc, ho, hd⟩ := hc
          exact ⟨oc, Heap.get?_push_of_some _ ho, hd⟩
      · rcases List.mem_append.mp hp with own | own
        · rw [List.mem_singleton.mp own]
          exact ⟨atA, Nat.ne_of_gt youngL, atStart.nofs (Nat.le_refl _), gPlain⟩
        · exact absurd own List.not_mem_nil
    refine seg_func ?_
    refine ht.run Tk [] _ most 0 s2 H2 _ [] _ _ id id s2 (start N vs) H2 _ ⟨ok, over_func, rfl, rfl, rfl⟩ rfl tk0 ⟨fun n j s₀ s' H0 fl hn tk' hs => ?_, fun j s2 H2 z => htk j s2 H2 z, fun p hp => absurd hp List.not_mem_nil⟩ I2 (hq H2 r0)
    have fin : ∀ {σ' : L2.St} {H' : Hp}, Inv ((GN.mk P w K mg base N qual scope s.heap.objs.size f cdv Aw outer s1.heap.objs.size go ops most).at s₀ H0) [] σ' H' s' → en j H0 H' → HR (GN.mk P w K mg base N qual scope s.heap.objs.size f cdv Aw outer s1.heap.objs.size go ops most) Tk en n s₀ (.ok (.ret .none)) s' := fun {σ' H'} I' q =>
      ⟨rfl, j, H0, H', hn, tk', q, I'.os, I'.bare, I'.base, I'.hok, fun p hp => by obtain ⟨z1, z2, _⟩ := I'.pin p (List.mem_append_left _ (List.mem_cons_of_mem _ hp)); exact ⟨z1, z2⟩⟩
    cases fl with
    | next =>
      obtain ⟨σ', H', I', q⟩ := hs
      exact seg_end (.ok (.ret .none)) (fin I' q)
    | brk => obtain ⟨_, _, _, no⟩ := hs; exact no.elim
    | cont => obtain ⟨_, _, _, no⟩ := hs; exact no.elim
    | ret u =>
      obtain ⟨v, σ', H', I', rv, ev, q⟩ := hs
      subst ev
      obtain rfl : u = Value.none := rv
      exact seg_end (.ok (.ret .none)) (fin I' q)
  exact made _ _ _ _ rfl rfl rfl fun h => Heap.get?_push_size _ rfl
end KH

/-! KH3: loops over a generator that a call gives. -/
namespace KH
open PySem PySem.Spec PyProof.Rows L2 GenW
/-! ### next of a generator; it sleeps behind it, or is done -/
section
variable {M : Model}
theorem quiet_state {v : Value} {gd : Bool} {l : List Value} {k : Resume → Sem PySem.Fin} {c : Code} {p : Pos} {fs : List Frame} (h : (End.susp v gd l k c p fs).quiet = true) : (End.susp v gd l k c p fs).genState = .suspended k l c p fs false := by
  have e : (gd || fs.any Frame.guarded) = false := by
    unfold End.quiet at h
    simpa using h
  show GenState.suspended k l c p fs (gd || fs.any Frame.guarded) = _
  rw [e]
theorem resume_sleep {A : Around} {R : GenEnd} {Y : Protocol} {n : Nat} {E : Value → Shared → Prop} {s : Shared} {g : Nat} {gs : GenState} {r : Resume} {l : List Value} {α : Type} {kk : GenResult → Sem α} {Q : α → Shared → Prop} (hg : s.gens[g]? = some gs) (hgo : gs.Goes M A R Y n r (s.setGen g .running))
    (hR : ∀ x s1, R n (s.setGen g .running) x s1 → wpAny M A (kk (End.ret x).result) Q E (s1.setGen g .finished))
    (hY : ∀ v s1 k lv c p fs, Y (n - 1) (s.setGen g .running) v s1 (fun r2 s2 => Seg.next M A R Y n c (k r2) fs s2) → wpAny M A (kk (.yielded v)) Q E (s1.setGen g (.suspended k lv c p fs false))) : wpAny M A (.resume g r l kk) Q E s := by
  intro Γ p hΓ
  have ends : ∀ e1 s1, SegEnd R Y n (Seg.next M A R Y n) (s.setGen g .running) e1 s1 → e1.quiet = true ∧ Sem.wp M Γ (kk e1.result) (fun a _ s2 => Q a s2) (fun e _ s2 => E e s2) p (s1.setGen g e1.genState) := by
    intro e1 s1 h
    cases e1 with
    | ret x => exact ⟨rfl, hR x s1 h Γ p hΓ⟩
    | susp v gd lv k c q fs =>
      refine ⟨h.1, ?_⟩
      rw [quiet_state h.1]
      exact hY v s1 k lv c q fs h.2 Γ p hΓ
  rw [Sem.wp_resume]
  cases gs with
  | fresh c =>
    obtain ⟨rfl, seg⟩ := hgo
    obtain ⟨e1, s1, run, fin⟩ := seg_iff.mp seg (Γ.wake c p) p rfl (hΓ.wake c p)
    exact ⟨e1.result, s1.setGen g e1.genState, by unfold Wakes; rw [hg]; exact ⟨e1, s1, run, (ends e1 s1 fin).1, rfl, rfl⟩, (ends e1 s1 fin).2⟩
  | suspended k lv c q fs cl =>
    obtain ⟨e1, s1, run, fin⟩ := seg_iff.mp hgo (Γ.wake c p) q rfl (hΓ.wake c p)
    exact ⟨e1.result, s1.setGen g e1.genState, by unfold Wakes; rw [hg]; exact ⟨e1, s1, run, (ends e1 s1 fin).1, rfl, rfl⟩, (ends e1 s1 fin).2⟩
  | running => exact hgo.elim
  | finished => exact hgo.elim
end
section
variable {P : Program} {w : World} {A : Around} {E : Value → Shared → Prop} {s : Shared}
theorem next_sleep {a : Addr} {g n : Nat} {gs : GenState} {F : Nat → Shared → Shared → Prop} {Y : Protocol} {Q : Option Value → Shared → Prop} (free : A.handled = none) (nolim : s.heap.NoLimit) (deep : A.depth < recursionLimit) (isg : s.heap.IsGen a g) (hgs : s.gens[g]? = some gs)
    (hgo : gs.Goes (model P w) A.in1 (fun n s0 r s1 => r = .ok (.ret .none) ∧ F n s0 s1) Y n (.send .none) (s.setGen g .running))
    (hY : ∀ v s1 k lv c p fs, Y (n - 1) (s.setGen g .running) v s1 (fun r2 s2 => Seg.next (model P w) A.in1 (fun n s0 r s1 => r = .ok (.ret .none) ∧ F n s0 s1) Y n c (k r2) fs s2) → Q (some v) (s1.setGen g (.suspended k lv c p fs false)))
    (hP : ∀ s1, F n (s.setGen g .running) s1 → ∀ h', (∀ b o, s1.heap.get? b = some o → h'.get? b = some o) → Q none { s1.setGen g .finished with heap := h' }) : wpAny (model P w) A (pyNext (.ref a)) Q E s := by
  unfold pyNext
  refine wpAny_bind (wpAny_attempt (wpAny_callSpecial?_slot (name := Str.ofString "__next__") isg.typeIs slot_gen_next (wpAny_call_entry slot_gen_next isg.typeIs entry_gen_next ?_ (args_gen_next _))))
  show wpAny (model P w) A.in1 (Builtin.Generator.genWake (.ref a) (.send .none)) _ _ s
  unfold Builtin.Generator.genWake
  refine wpAny_bind (wpAny_holding (wpAny_genNumber isg (wpAny_bind (wpAny_genState (st := gs) hgs ?_))))
  cases gs with
  | running => exact hgo.elim
  | finished => exact hgo.elim
  | _ =>
    refine wpAny_bind (wpAny_roomToWake nolim deep ?_)
    show wpAny (model P w) A.in1 (.resume g (.send .none) [] _) _ _ s
    refine resume_sleep (M := model P w) hgs hgo (fun x s1 done => ?_) fun v s1 k lv c p fs y => wpAny_pure ⟨v, rfl, wpAny_pure (hY v s1 k lv c p fs y)⟩
    obtain ⟨rfl, over⟩ := done
    show wpAny (model P w) A.in1 (newExc (.type "StopIteration") [] >>= _) _ _ _
    refine wpAny_bind ?_
    unfold newExc newTuple
    refine wpAny_bind (wpAny_newObj_type ?_ (hd := by size_fits))
    refine wpAny_bind (m := firstArgMember _ _) (wpAny_of_eq (a := Value.none) (by first | rfl | (simp only [firstArgMember]; rfl)) (wpAny_newObj_type ?_ (hd := by size_fits)))
    unfold raiseNew
    refine wpAny_bind (wpAny_bind (wpAny_handled ?_))
    have h0 : A.in1.handled = none := free
    rw [h0]
    refine wpAny_throw (wpAny_bind (wpAny_isInstance (T := "StopIteration") (b := true) ⟨_, Heap.get?_push_size _ rfl, rfl⟩ isSubtype_stop (wpAny_pure ?_)))
    exact hP s1 over _ fun b o e => Heap.get?_push_of_some _ (Heap.get?_push_of_some _ e)
end
/-! ### the consumer -/
/-- a generator called from a def that runs in X -/
abbrev gOf (X : Cx) (N : List Str) (qual : Str) (scope : Scope) (L f : Addr) (cd : Value) (a : Addr) (go : Obj) (ops : List Addr) (most : Nat) : GN := GN.mk X.prog X.w X.K X.mg X.base N qual scope L f cd X.A.in1 X.stack a go ops most
/-- all that the def has is older than the generator, or among ops -/
structure By (X : Cx) (pins : List (Addr × Obj)) (L : Addr) (ops : List Addr) : Prop where
  loc : X.env.locals < L ∨ X.env.locals ∈ ops
  old : ∀ b : Addr, L ≤ b → b ∉ ops → b ∈ X.ex ∨ X.s_0.heap.objs.size ≤ b
  stk : ∀ b ∈ frs X.stack, b < L
  pin : ∀ p ∈ X.pn ++ pins, p.1 < L
  cell : ∀ x c, X.env.cells.lookup x = some c → c < L
theorem By.of {X : Cx} {pins : List (Addr × Obj)} {σ : L2.St} {H : Hp} {s : Shared} (I : Inv X pins σ H s) : By X pins s.heap.objs.size [] :=
  ⟨.inl I.lt, fun b h _ => .inr (Nat.le_trans I.sz h), fun b z => by obtain ⟨_, o, ho, _⟩ := I.env0.funs.mem z; exact Heap.lt_size ho, fun p hp => Heap.lt_size (I.pin p hp).1, fun x c e => by obtain ⟨v, o, ho, _⟩ := I.cell x c e; exact Heap.lt_size ho⟩
section
variable {X : Cx} {pins : List (Addr × Obj)} {L : Addr} {ops : List Addr}
theorem inv_gens {σ : L2.St} {H : Hp} {s : Shared} {b : Array GenState} (I : Inv X pins σ H s) (hb : AllBare b) : Inv X pins σ H { s with gens := b } := ⟨I.ok, I.os, hb, I.base, I.loc, I.cell, I.free, I.freeC, I.pin, I.hok, I.len⟩
/-- the def's state is carried over a stretch of the generator's -/
theorem By.across (y : By X pins L ops) {σ : L2.St} {H0 H1 : Hp} {s0 s1 : Shared} (I : Inv X pins σ H0 s0) (un : Un (frs X.stack) [] H0 H1 (cutS L s0).heap s1.heap) (op : ∀ p ∈ pinsAt ops s0.heap, s1.heap.get? p.1 = some p.2 ∧ H1 p.1 = none) (os : s1.os = s0.os) (bare : AllBare s1.gens) (hok : HOk X.prog X.w H1 s1.heap) : Inv X pins σ H1 s1 := by
  obtain ⟨h1, g1, d1, t1, o1⟩ := s1
  obtain rfl : o1 = s0.os := os
  have inch : ∀ b, b ∈ (List.range' L (s0.heap.objs.size - L)).filter (fun b => decide (b ∉ ops)) → L ≤ b ∧ b ∉ ops := fun b m => by
    obtain ⟨z, q⟩ := List.mem_filter.mp m
    exact ⟨(List.mem_range'_1.mp z).1, by simpa using q⟩
  have low : ∀ b o, b ∉ (List.range' L (s0.heap.objs.size - L)).filter (fun b => decide (b ∉ ops)) → s0.heap.get? b = some o → b < L ∨ (h1.get? b = some o ∧ H1 b = none) := fun b o nm e => by
    have lt : (b : Nat) < s0.heap.objs.size := Heap.lt_size e
    by_cases q : (b : Nat) < L
    · exact .inl q
    · by_cases w : b ∈ ops
      · exact .inr (op (b, o) (mem_pinsAt w e))
      · have ge : L ≤ (b : Nat) := Nat.le_of_not_lt q
        have m : b ∈ List.range' L (s0.heap.objs.size - L) := List.mem_range'_1.mpr ⟨ge, by rw [Nat.add_sub_cancel' (Nat.le_trans ge (Nat.le_of_lt lt))]; exact lt⟩
        exact absurd (List.mem_filter.mpr ⟨m, by simpa using w⟩) nm
  have nil : ∀ b : Addr, b ∉ ([] : List Addr) := fun b => List.not_mem_nil
  have far : ∀ {b c : Addr}, c < L → L ≤ b → c ≠ b := fun l1 l2 z => absurd (Nat.lt_of_lt_of_le l1 (z ▸ l2)) (Nat.lt_irrefl _)
  refine I.step (g' := g1) (d' := d1) (t' := t1) (h' := h1) (ch := (List.range' L (s0.heap.objs.size - L)).filter (fun b => decide (b ∉ ops))) (fun b hb => ⟨y.old b (inch b hb).1 (inch b hb).2, fun z => ?_, fun x c e => far (y.cell x c e) (inch b hb).1, fun p hp => far (y.pin p hp) (inch b hb).1⟩) (fun b o nl nf nc e n => ?_) (fun b o nl hf nc e n => ?_) (fun b o nc e n => ?_) (fun b o nc e => ?_) un.tups un.frzs un.tbls (fun m hm => ?_) hok bare
  · rcases y.loc with l | l
    · exact far l (inch b hb).1 z.symm
    · exact (inch b hb).2 (z ▸ l)
  · rcases low b o nc e with l | l
    · exact un.keep b o (get_cut l e) n (fun z => (List.mem_cons.mp (I.stkSub b z)).elim nl nf) (nil b)
    · exact l.1
  · rcases low b o nc e with l | l
    · exact un.any (get_cut l e) n (nil b)
    · exact ⟨o.slots, l.1⟩
  · rcases low b o nc e with l | l
    · exact un.free b o (get_cut l e) n (nil b)
    · exact l.2
  · rcases low b o nc e with l | l
    · exact un.there b o (get_cut l e) (nil b)
    · exact ⟨o, l.1⟩
  · obtain ⟨o, es, ep, ho, r⟩ := hm
    rcases y.loc with l | l
    · obtain ⟨sl, e⟩ := un.any (get_cut l ho) I.free (nil _)
      exact ⟨_, es, ep, e, r⟩
    · exact ⟨_, es, ep, (op _ (mem_pinsAt l ho)).1, r⟩
variable {N : List Str} {qual : Str} {scope : Scope} {f a : Addr} {cd : Value} {go : Obj} {most : Nat}
def TkX (X : Cx) (pins : List (Addr × Obj)) (L : Addr) (ops : List Addr) (Rd : Nat → Hp → L2.St → Hp → Shared → Prop) : Nat → Shared → Hp → Prop := fun j s H => (L ≤ s.heap.objs.size ∧ Ow ops s H) ∧ ∃ σ Hy, Inv X pins σ H s ∧ Rd j Hy σ H s
/-- the generator stands at j, n turns at most are left -/
def Live (X : Cx) (G : GN) (g : Nat) (Tk : Nat → Shared → Hp → Prop) (rs : Nat → Hp → Hp → Prop) (yl : Nat → Hp → V → Hp → Prop) (en : Nat → Hp → Hp → Prop) (gs : GenState) (ip : List (Addr × Obj)) (n j : Nat) (Hy : Hp) (s : Shared) (H : Hp) : Prop :=
  s.gens[g]? = some gs ∧ (∀ p ∈ ip, G.L ≤ p.1 ∧ p.1 ∉ G.ops) ∧ s.heap.get? G.a = some G.go ∧ (∀ h : Heap, h.get? G.a = some G.go → h.IsGen G.a g) ∧ ∃ sy : Shared, (∀ b, b = G.L ∨ b = G.a ∨ b ∈ ip.map (·.1) → ∃ o, sy.heap.get? b = some o ∧ s.heap.get? b = some o ∧ H b = none ∧ ∀ v, o.data ≠ .cell v) ∧
    ∀ s' H', Tk j s' H' → rs j Hy H' → G.E0 s' H' → Kp G ip sy s' H' → gs.Goes (model X.prog X.w) X.A.in1 (HR G Tk en) (HY G Tk yl rs) n (.send .none) s'
theorem env0_in1 {σ : L2.St} {H : Hp} {s : Shared} (I : Inv X pins σ H s) : Env0 X.prog X.w X.K X.mg X.base X.A.in1 X.stack s H :=
  ⟨I.ok.frames, I.env0.mod, I.env0.bs, I.env0.bsz, I.env0.funs, I.env0.frf, I.env0.hok, I.env0.bare⟩
theorem live_turn {E : Value → Shared → Prop} {g n j : Nat} {gs : GenState} {ip : List (Addr × Obj)} {σ : L2.St} {Hy H : Hp} {s : Shared} {Rd : Nat → Hp → L2.St → Hp → Shared → Prop} {rs : Nat → Hp → Hp → Prop} {yl : Nat → Hp → V → Hp → Prop} {en : Nat → Hp → Hp → Prop}
    (y : By X pins L ops) (free : X.A.handled = none) (deep : X.A.depth < recursionLimit) (ok : (gOf X N qual scope L f cd a go ops most).Ok) (I : Inv X pins σ H s) (r0 : Rd j Hy σ H s) (hrs : rs j Hy H) (rgen : ∀ j Hy σ H s gens, Rd j Hy σ H s → Rd j Hy σ H { s with gens := gens }) (hn : n + j = most) (h1 : 1 ≤ n) (lt : L ≤ s.heap.objs.size ∧ Ow ops s H)
    (lv : Live X (gOf X N qual scope L f cd a go ops most) g (TkX X pins L ops Rd) rs yl en gs ip n j Hy s H) :
    wpAny (model X.prog X.w) X.A (pyNext (.ref a)) (fun r s1 => (r = none ∧ ∃ σ0 Hz H0 H1 s0, Rd j Hz σ0 H0 s0 ∧ en j H0 H1 ∧ Inv X pins σ0 H1 s1 ∧ ∀ p ∈ pinsAt ops s0.heap, s1.heap.get? p.1 = some p.2 ∧ H1 p.1 = none) ∨ ∃ u, r = some u ∧ ∃ x σ0 Hz H0 H1 s0, RelV x u ∧ Rd j Hz σ0 H0 s0 ∧ yl j H0 x H1 ∧ Inv X pins σ0 H1 s1 ∧ (∀ p ∈ pinsAt ops s0.heap, s1.heap.get? p.1 = some p.2 ∧ H1 p.1 = none) ∧ L ≤ s1.heap.objs.size ∧ 1 ≤ n - 1 ∧
      ∃ k lv c p fs ip', Live X (gOf X N qual scope L f cd a go ops most) g (TkX X pins L ops Rd) rs yl en (.suspended k lv c p fs false) ip' (n - 1) (j + 1) H1 s1 H1) E s := by
  obtain ⟨hgs, hip, hgo, isg, sy, own, goes⟩ := lv
  have hgl : g < s.gens.size := (Array.getElem?_eq_some_iff.mp hgs).1
  have Ir : Inv X pins σ H (s.setGen g .running) := inv_gens I (allBare_setGen I.bare rfl)
  have go1 := goes (s.setGen g .running) H ⟨lt, σ, Hy, Ir, rgen _ _ _ _ _ _ r0⟩ hrs (env0_in1 Ir) fun b hb => by
    obtain ⟨o, e1, e2, e3, _⟩ := own b hb
    exact ⟨fun o' e => by rw [e1] at e; cases e; exact e2, e3⟩
  refine wpAny_gsz (n := g + 1) hgl (next_sleep free I.nolimit deep (isg _ hgo) hgs go1 (fun v s1 k lv c p fs hy => ?_) fun s1 hf h' hk => ?_)
  · intro hsz
    obtain ⟨j', x, ip', σg, H0, H1, hj, h2, hip', rv, ⟨_, σ0, Hz, I0, r1⟩, hyl, Ig, wake⟩ := hy
    have hj : n - 1 + 1 + j' = most := hj
    obtain rfl : j' = j := by omega
    have op : ∀ p ∈ pinsAt ops (s.setGen g .running).heap, s1.heap.get? p.1 = some p.2 ∧ H1 p.1 = none := fun p hp => by
      obtain ⟨z1, z2, _⟩ := Ig.pin p (List.mem_append_left _ (List.mem_cons_of_mem _ hp))
      exact ⟨z1, z2⟩
    have I1 : Inv X pins σ0 H1 s1 := y.across I0 Ig.base op Ig.os Ig.bare Ig.hok
    have Lb : ∀ b, b = L ∨ b = a ∨ b ∈ ip'.map (·.1) → ∃ o, s1.heap.get? b = some o ∧ s1.heap.get? b = some o ∧ H1 b = none ∧ ∀ v, o.data ≠ .cell v := fun b hb => by
      rcases hb with rfl | rfl | hb
      · obtain ⟨m, ⟨o, es, ep, ho, hd, _⟩, _⟩ := Ig.loc
        exact ⟨o, ho, ho, Ig.free, fun v q => by rw [hd] at q; cases q⟩
      · obtain ⟨z1, z2, _, _, z5⟩ := Ig.pin (b, go) (List.mem_append_left _ List.mem_cons_self)
        exact ⟨go, z1, z1, z2, z5⟩
      · obtain ⟨p, mp, rfl⟩ := List.mem_map.mp hb
        obtain ⟨z1, z2, _, _, z5⟩ := Ig.pin p (List.mem_append_right _ mp)
        exact ⟨p.2, z1, z1, z2, z5⟩
    have ltL : L ≤ s1.heap.objs.size := by
      obtain ⟨o, z, _⟩ := Lb L (.inl rfl)
      exact Nat.le_of_lt (Heap.lt_size z)
    have hsz1 : g < s1.gens.size := by
      have q : (s1.setGen g (.suspended k lv c p fs false)).gens.size = s1.gens.size := setGen_size _ _ _
      have hsz' : g + 1 ≤ (s1.setGen g (.suspended k lv c p fs false)).gens.size := hsz
      omega
    refine .inr ⟨v, rfl, x, σ0, Hz, H0, H1, _, rv, r1, hyl, inv_gens I1 (allBare_setGen I1.bare rfl), op, ltL, h2, k, lv, c, p, fs, ip', setGen_at hsz1, hip', ?_, isg, s1, Lb, fun s' H' tk r e0 kp => ?_⟩
    · obtain ⟨z1, _⟩ := Ig.pin (a, go) (List.mem_append_left _ List.mem_cons_self)
      exact z1
    · have z := wake s' H' tk r e0 kp
      cases n with
      | zero => exact absurd h1 (Nat.not_succ_le_zero _)
      | succ m => exact z
  · intro hsz
    obtain ⟨j', H0, H1, hj, ⟨_, σ0, Hz, I0, r1⟩, hen, os, bare, un, hok, op⟩ := hf
    have hj : n + j' = most := hj
    obtain rfl : j' = j := by omega
    have I1 : Inv X pins σ0 H1 s1 := y.across I0 un op os bare hok
    have I2 : Inv X pins σ0 H1 (s1.setGen g .finished) := inv_gens I1 (allBare_setGen I1.bare rfl)
    exact .inl ⟨rfl, σ0, Hz, H0, H1, _, r1, hen, I2.kept hk, fun p hp => ⟨hk _ _ (op p hp).1, (op p hp).2⟩⟩
end
/-! ### calls that give a generator -/
/-- what is read of such a call: R: what is wanted of its consumer's choice and the heap -/
abbrev TGen := L2.St → Hp → ((Nat → Hp → Hp → Prop) → (Nat → Hp → V → Hp → Prop) → (Nat → Hp → Hp → Prop) → Hp → Prop) → Prop
structure PH (X : Cx) (e : Expr) (k most : Nat) (t : TGen) : Prop where
  run : ∀ (pins : List (Addr × Obj)) (s : Shared) (σ : L2.St) (H : Hp) (R : (Nat → Hp → Hp → Prop) → (Nat → Hp → V → Hp → Prop) → (Nat → Hp → Hp → Prop) → Hp → Prop), Inv X pins σ H s → t σ H R →
    wpAny (model X.prog X.w) X.A (eval e X.env) (fun u s1 => ∃ rs yl en H1 s0, R rs yl en H1 ∧ Inv X pins σ H1 s0 ∧ HMade X.prog X.w X.K X.mg X.base k most X.stack s0 H1 rs yl en u s1) X.xe s
section
variable {X : Cx} {k most : Nat}
theorem run_h {f : Addr} {fd : FuncData} {ps : List Str} {sp : SpH} {pins : List (Addr × Obj)} {σ : L2.St} {H : Hp} {s : Shared} {us : List Value} {kws : List (Str × Value)} {vs : List V} {rs : Nat → Hp → Hp → Prop} {yl : Nat → Hp → V → Hp → Prop} {en : Nat → Hp → Hp → Prop} {as : List Value}
    (F : HFn X.prog X.w X.K X.mg X.base k most f fd ps sp) (room : Room k X.A) (I : Inv X pins σ H s) (b : BindsTo s fd ⟨us, kws⟩ (ps.zip as)) (r : Vals vs as) (h : sp vs H rs yl en) :
    wpAny (model X.prog X.w) X.A (call (.ref f) us kws) (fun u s1 => HMade X.prog X.w X.K X.mg X.base k most X.stack s H rs yl en u s1) X.xe s := by
  refine wpAny_call (codeAny_mono (F.run X.A X.stack s H ⟨us, kws⟩ as vs rs yl en room I.env0 b r h) fun res s1 q => ?_)
  cases res with
  | error e => exact q.elim
  | ok fl => cases fl <;> first | exact q | exact q.elim
structure CalleeHM (P : Program) (w : World) (K : PySem.W.Frag) (mg : Str → Option Value) (base : Heap) (k most : Nat) (C : Addr) (m : Str) (ps : List Str) (sp : SpH) : Prop where
  ex : ∃ (f : Addr) (fd : FuncData), HFn P w K mg base k most f fd ps sp ∧ Meth K C m f ∧ Binds K fd ps []
  cl : Cls K C
structure CalleeH (P : Program) (w : World) (K : PySem.W.Frag) (mg : Str → Option Value) (base : Heap) (k most : Nat) (x : Str) (ps : List Str) (sp : SpH) (n : Nat) (ks : List Str) (gV : List V → List V → List V) : Prop where
  ex : ∃ (f : Addr) (fd : FuncData) (gg : List Value → List Value → List Value), HFn P w K mg base k most f fd ps sp ∧ mg x = some (.ref f) ∧ PySem.W.keepIn K (.ref f) = true ∧ KBn K fd ps n ks gg gV
/-- o.m() -/
def tHMeth (C : Addr) (m : Str) (sp : SpH) (ta : TE) : TGen := fun σ H R => ta σ H fun x H1 => ∃ a dx fs, x = .ref a ∧ H1 a = some (.ins C dx fs) ∧ fs.lookup m = none ∧ ∃ rs yl en, sp [x] H1 rs yl en ∧ R rs yl en H1
theorem ph_meth0 {pl : Sem Bool} {C : Addr} {m : Str} {ps : List Str} {sp : SpH} {o : Expr} {apos pos : Pos} {ta : TE} (c : CalleeHM X.prog X.w X.K X.mg X.base k most C m ps sp) (he : PE X o ta) (room : Room k X.A)
    (ht : eval (.Call (.Attribute o m apos) [] [] pos) X.env = (do
      let ov ← eval o X.env
      standAt apos.atName
      let (f, first) ← holding [ov] (getMethod ov m pl)
      callWith pos f first (backTo pos (starEach [] X.env)) (backToKw pos (keywordEach [] X.env))) := by rfl) : PH X (.Call (.Attribute o m apos) [] [] pos) k most (tHMeth C m sp ta) := by
  obtain ⟨f, fd, F, hm, hb⟩ := c.ex
  refine ⟨fun pins s σ H R I h => PySem.W.methodCall_KW (pl := pl) (thn (he.run pins s σ H _ I h) fun u s1 z => ?_) ht⟩
  obtain ⟨x, H1, I1, rx, a, dx, fs, rfl, ea, no, rs, yl, en, hsp, q⟩ := z
  obtain rfl : u = Value.ref a := rx
  refine getmeth_ok I1 ea c.cl hm no (PySem.W.callWith_K0 (first := [.ref a]) I1.kIn hm.kp ?_)
  have bnd := hb s1 [.ref a] I1.kIn (by rw [List.append_nil]; exact F.len _ _ _ _ _ hsp)
  rw [List.append_nil] at bnd
  exact wpAny_mono (run_h (vs := [.ref a]) F room I1 bnd (.cons rfl .nil) hsp) (fun u s2 m => ⟨rs, yl, en, H1, s1, q, I1, m⟩) fun _ _ z => z
/-- f(e, .., k = v, ..) -/
def tHCall (n m : Nat) (sp : SpH) (gV : List V → List V → List V) (t tk : TA) : TGen := fun σ H R => t σ H fun vs H1 => tk σ H1 fun zs H2 => vs.length = n ∧ zs.length = m ∧ ∃ rs yl en, sp (gV vs zs) H2 rs yl en ∧ R rs yl en H2
theorem ph_callKw {n : Nat} {x : Str} {ps ks : List Str} {sp : SpH} {gV : List V → List V → List V} {e : Expr} {es : List Expr} {kws : List Keyword} {p pos : Pos} {t tk : TA} (c : CalleeH X.prog X.w X.K X.mg X.base k most x ps sp n ks gV) (room : Room k X.A) (hg : Gl X x) (ha : PA X (e :: es) t) (hkw : PK X kws tk)
    (hall : (backToKw pos (keywordEach kws X.env)).all (·.1.isSome) = true := by rfl) (hks : (backToKw pos (keywordEach kws X.env)).filterMap (·.1) = ks := by rfl) (hdb : (x == ("__debug__" : Str)) = false := by decide) (he : starEach (e :: es) X.env = (false, eval e X.env) :: starEach es X.env := by rfl)
    (hpl : ((backTo pos (starEach (e :: es) X.env)).any (·.1) || (backToKw pos (keywordEach kws X.env)).any (·.1.isNone)) = false := by rfl) : PH X (.Call (.Name x p) (e :: es) kws pos) k most (tHCall n ks.length sp gV t tk) := by
  obtain ⟨f, fd, gg, F, hm, hk, hb⟩ := c.ex
  refine ⟨fun pins s σ H R I h => wpAny_Call_Name_kw (ld_glob I hg hm ?_ hdb)⟩
  refine PySem.W.callWith_KW (h₀ := X.base) I.ok.mod.kin hk hall (thn (ha.run pos pins s σ H _ I h) fun us s1 z => ?_) hpl he
  obtain ⟨vs, H1, I1, r, q⟩ := z
  refine thn (hkw.run pos pins s1 σ H1 _ I1 q) fun ws s2 z => ?_
  obtain ⟨zs, H2, I2, rz, l1, l2, rs, yl, en, hsp, q2⟩ := z
  refine ⟨I2.kIn, ?_⟩
  rw [hks]
  exact wpAny_mono (run_h F room I2 (hb.to s2 us ws I2.kIn (r.length.symm.trans l1) (rz.length.symm.trans l2)) (hb.rel r rz) hsp) (fun u s3 m => ⟨rs, yl, en, H2, s2, q2, I2, m⟩) fun _ _ z => z
theorem ph_callK0 {n : Nat} {x : Str} {ps ks : List Str} {sp : SpH} {gV : List V → List V → List V} {kws : List Keyword} {p pos : Pos} {tk : TA} (c : CalleeH X.prog X.w X.K X.mg X.base k most x ps sp n ks gV) (room : Room k X.A) (hg : Gl X x) (hkw : PK X kws tk)
    (hall : (backToKw pos (keywordEach kws X.env)).all (·.1.isSome) = true := by rfl) (hks : (backToKw pos (keywordEach kws X.env)).filterMap (·.1) = ks := by rfl) (hdb : (x == ("__debug__" : Str)) = false := by decide)
    (hpl : ((backTo pos (starEach [] X.env)).any (·.1) || (backToKw pos (keywordEach kws X.env)).any (·.1.isNone)) = false := by rfl) : PH X (.Call (.Name x p) [] kws pos) k most (tHCall n ks.length sp gV tNil tk) := by
  obtain ⟨f, fd, gg, F, hm, hk, hb⟩ := c.ex
  refine ⟨fun pins s σ H R I h => wpAny_Call_Name_kw (ld_glob I hg hm ?_ hdb)⟩
  refine PySem.W.callWith_KW0 (first := []) (h₀ := X.base) I.ok.mod.kin hk hall (thn (hkw.run pos pins s σ H _ I h) fun ws s2 z => ?_) hpl
  obtain ⟨zs, H2, I2, rz, l1, l2, rs, yl, en, hsp, q2⟩ := z
  refine ⟨I2.kIn, ?_⟩
  rw [hks]
  exact wpAny_mono (run_h F room I2 (hb.to s2 [] ws I2.kIn l1 (rz.length.symm.trans l2)) (hb.rel .nil rz) hsp) (fun u s3 m => ⟨rs, yl, en, H2, s2, q2, I2, m⟩) fun _ _ z => z
end
/-! ### for x in g(..) -/
/-- what is let out does not look at the generators -/
def XStable (X : Cx) : Prop := ∀ (e : Value) (s : Shared) (b : Array GenState), X.xe e s → OkG s.gens → Rel s.gens b → X.xe e { s with gens := b }
theorem xs_nox {X : Cx} : XStable X.nox := fun e s b h _ _ => h
def tForH (t : TGen) (g : TG) (tb : TS) : TS := fun D σ H => ∃ Rd : Nat → Hp → L2.St → Hp → Prop, t σ H fun rs yl en H1 => Rd 0 H1 σ H1 ∧ (∀ j Hy σ H, Rd j Hy σ H → rs j Hy H) ∧
  (∀ j Hy σ H0 x H', Rd j Hy σ H0 → yl j H0 x H' → g x σ H' fun σ2 H2 => tb { D with nx := Rd (j + 1) H', ct := Rd (j + 1) H', bk := D.nx } σ2 H2) ∧ ∀ j Hy σ H0 H', Rd j Hy σ H0 → en j H0 H' → D.nx σ H'
section
variable {X : Cx} {k most : Nat}
/-- the sleeper's own objects, pinned -/
theorem own_pins {pins : List (Addr × Obj)} {L : Addr} {G : GN} {g n j : Nat} {Tk : Nat → Shared → Hp → Prop} {rs : Nat → Hp → Hp → Prop} {yl : Nat → Hp → V → Hp → Prop} {en : Nat → Hp → Hp → Prop} {gs : GenState} {ip : List (Addr × Obj)} {σ : L2.St} {Hy H : Hp} {s : Shared}
    (y : By X pins G.L G.ops) (al : G.L < G.a) (an : G.L ∉ G.ops ∧ G.a ∉ G.ops) (I : Inv X pins σ H s) (lv : Live X G g Tk rs yl en gs ip n j Hy s H) : Inv X (pins ++ pinsAt (G.L :: G.a :: ip.map (·.1)) s.heap) σ H s := by
  obtain ⟨_, hip, _, _, sy, own, _⟩ := lv
  refine I.pins_of fun p hp => ?_
  rcases List.mem_append.mp hp with hp | hp
  · exact I.pin p (List.mem_append_right _ hp)
  · obtain ⟨hb, e⟩ := of_pinsAt hp
    have hb' : p.1 = G.L ∨ p.1 = G.a ∨ p.1 ∈ ip.map (·.1) := by simpa using hb
    obtain ⟨o, _, e2, n2, d⟩ := own p.1 hb'
    rw [e2] at e
    cases e
    have ge : G.L ≤ p.1 := by
      rcases hb' with z | z | z
      · exact Nat.le_of_eq z.symm
      · rw [z]; exact Nat.le_of_lt al
      · obtain ⟨q, hq, z⟩ := List.mem_map.mp z
        rw [← z]; exact (hip q hq).1
    have no : p.1 ∉ G.ops := by
      rcases hb' with z | z | z
      · rw [z]; exact an.1
      · rw [z]; exact an.2
      · obtain ⟨q, hq, z⟩ := List.mem_map.mp z
        rw [← z]; exact (hip q hq).2
    refine ⟨e2, n2, fun z => ?_, fun z => ?_, d⟩
    · rw [z] at ge no
      rcases y.loc with l | l
      · exact absurd (Nat.lt_of_lt_of_le l ge) (Nat.lt_irrefl _)
      · exact no l
    · obtain ⟨_, o3, ho3, _⟩ := I.ok.funs.mem z
      have old : p.1 < X.s_0.heap.objs.size := Heap.lt_size ho3
      rcases y.old p.1 ge no with q | q
      · exact I.ok.exfs _ q z
      · exact absurd (Nat.lt_of_lt_of_le old q) (Nat.lt_irrefl _)
/-- the sleeper behind another's run -/
theorem live_on {pins : List (Addr × Obj)} {G : GN} {g n j : Nat} {Tk : Nat → Shared → Hp → Prop} {rs : Nat → Hp → Hp → Prop} {yl : Nat → Hp → V → Hp → Prop} {en : Nat → Hp → Hp → Prop} {kk : Resume → Sem PySem.Fin} {lv : List Value} {c : Code} {p : Pos} {fs : List Frame} {ip : List (Addr × Obj)} {σ7 : L2.St} {Hy H H7 : Hp} {s s7 : Shared}
    (sg : SameGens s.gens s7.gens) (I7 : Inv X (pins ++ pinsAt (G.L :: G.a :: ip.map (·.1)) s.heap) σ7 H7 s7) (z : Live X G g Tk rs yl en (.suspended kk lv c p fs false) ip n j Hy s H) : Live X G g Tk rs yl en (.suspended kk lv c p fs false) ip n j Hy s7 H7 ∧ G.L ≤ s7.heap.objs.size := by
  obtain ⟨hgs, hip, hgo, isg, sy, own, goes⟩ := z
  have at7 : ∀ b, b = G.L ∨ b = G.a ∨ b ∈ ip.map (·.1) → ∀ o, s.heap.get? b = some o → s7.heap.get? b = some o ∧ H7 b = none := fun b hb o e => by
    have hm : b ∈ G.L :: G.a :: ip.map (·.1) := by simpa using hb
    have w := I7.pin (b, o) (List.mem_append_right _ (List.mem_append_right _ (mem_pinsAt hm e)))
    exact ⟨w.1, w.2.1⟩
  refine ⟨⟨sg _ _ _ _ _ _ _ hgs, hip, (at7 G.a (.inr (.inl rfl)) _ hgo).1, isg, sy, fun b hb => ?_, goes⟩, ?_⟩
  · obtain ⟨o, e1, e2, _, d⟩ := own b hb
    obtain ⟨e3, n3⟩ := at7 b hb o e2
    exact ⟨o, e1, e3, n3, d⟩
  · obtain ⟨o, _, e2, _⟩ := own G.L (.inl rfl)
    exact Nat.le_of_lt (Heap.lt_size (at7 G.L (.inl rfl) o e2).1)
theorem ps_forH {tg iter : Expr} {body : List Stmt} {t : TGen} {g : TG} {tb : TS} {pos : Pos} (hp : PassesOwn (model X.prog X.w) X.A X.env X.xe) (xs : XStable X) (h1 : 1 ≤ most) (room : Room (k + 1) X.A) (hi : PH X iter k most t) (hg : PG X tg g) (hb : PSs X body tb)
    (hs : ∀ x, foldedSetIterable iter X.env x = pure x := by intro _; rfl) : PS X (.For tg iter body [] pos) (tForH t g tb) := by
  refine ⟨fun pins s σ H D I h => ?_⟩
  obtain ⟨Rd, h⟩ := h
  refine wpAny_For (thn (hi.run pins s σ H _ I h) fun u s1 z => ?_) hs
  obtain ⟨rs, yl, en, H1, s0, ⟨r0, hrs, hyl, hen⟩, I0, m⟩ := z
  obtain ⟨N, qual, scope, f, cd, a, g', go, c, rfl, al, hgo, isg, god, hgs, os, bare, ⟨oL, hL, oLd⟩, keep, wake⟩ := m
  refine wpAny_pyIter_gen (isg _ hgo) ?_
  have y := By.of I0
  have I1 : Inv X pins σ H1 s1 := I0.call' (ch := []) os (Un.kept keep) (I0.hok.kept keep) bare (fun b z => absurd z List.not_mem_nil)
  obtain ⟨ok, wake⟩ := wake X.A.in1 [] (TkX X pins s0.heap.objs.size [] fun j Hy σ H _ => Rd j Hy σ H) room.in1 I0.ok.frames (fun b z => absurd z List.not_mem_nil) (fun j s2 H2 z => z.1)
  have lt : s0.heap.objs.size ≤ s1.heap.objs.size := Nat.le_of_lt (Heap.lt_size hL)
  have ow0 : ∀ (s : Shared) (H : Hp), Ow [] s H := fun s H b z => absurd z List.not_mem_nil
  have lv : Live X (gOf X N qual scope s0.heap.objs.size f cd a go [] most) g' (TkX X pins s0.heap.objs.size [] fun j Hy σ H _ => Rd j Hy σ H) rs yl en (.fresh c) [] most 0 H1 s1 H1 := by
    refine ⟨hgs, fun p hp => absurd hp List.not_mem_nil, hgo, isg, s1, fun b hb => ?_, fun s' H' tk r e0 kp => ⟨rfl, wake s' H' tk r e0 kp⟩⟩
    rcases hb with rfl | rfl | hb
    · exact ⟨oL, hL, hL, I0.hok.fresh (Nat.le_refl _), oLd⟩
    · exact ⟨go, hgo, hgo, I0.hok.fresh (Nat.le_of_lt al), god⟩
    · exact absurd hb List.not_mem_nil
  refine codeAny_forLoop_any (fun n s' => ∃ j gs ip σ' Hy H', n + j = most ∧ 1 ≤ n ∧ s0.heap.objs.size ≤ s'.heap.objs.size ∧ Inv X pins σ' H' s' ∧ Rd j Hy σ' H' ∧ Live X (gOf X N qual scope s0.heap.objs.size f cd a go [] most) g' (TkX X pins s0.heap.objs.size [] fun j Hy σ H _ => Rd j Hy σ H) rs yl en gs ip n j Hy s' H') ?_ most ⟨0, .fresh c, [], σ, H1, H1, Nat.add_zero _, h1, lt, I1, r0, lv⟩
  rintro n s3 ⟨j, gs, ip, σ3, Hy3, H3, hn, hn1, lt3, I3, r3, lv3⟩
  refine wpAny_mono (live_turn (Rd := fun j Hy σ H _ => Rd j Hy σ H) y room.hd room.depth ok I3 r3 (hrs _ _ _ _ r3) (fun _ _ _ _ _ _ z => z) hn hn1 ⟨lt3, ow0 _ _⟩ lv3) (fun r s4 q => ?_) fun _ _ z => z
  rcases q with ⟨rfl, σ0, Hz, H0, H4, _, r4, e4, I4, _⟩ | ⟨u, rfl, x, σ0, Hz, H0, H4, _, rv, r4, y4, I4, _, lt4, n4, k', lv', c', p', fs', ip', L4⟩
  · exact wpAny_execs_nil ⟨σ0, H4, I4, hen j Hz σ0 H0 H4 r4 e4⟩
  · obtain ⟨oi, nm, qn, hoi, hcl, hdt, _⟩ := isg _ L4.2.2.1
    refine go_of (n := "generator") hoi hcl hdt rfl ?_
    have Ip := own_pins (L := s0.heap.objs.size) (G := gOf X N qual scope s0.heap.objs.size f cd a go [] most) y al ⟨List.not_mem_nil, List.not_mem_nil⟩ I4 L4
    have out : ∀ (e : Value) (sx : Shared) (gens : Array GenState), (∃ s', X.xe e s' ∧ OkG s'.gens ∧ Rel s'.gens sx.gens ∧ sx = { s' with gens := sx.gens } ∧ SameGens gens sx.gens) → X.xe e sx := fun e sx gens z => by
      obtain ⟨s', hx, okg, rl, ex, _⟩ := z
      rw [ex]
      exact xs e s' _ hx okg rl
    refine wpAny_passesOwn hp (wpAny_mono (wpAny_keep (hg.run _ { s4 with gens := s4.gens.map asleep } σ0 H4 x u _ (inv_gens Ip (asleep_all Ip.bare)) rv (hyl j Hz σ0 H0 x H4 r4 y4))) (fun _ s6 z => ?_) fun e s6 z => out e s6 _ z)
    obtain ⟨s', ⟨σ6, H6, I6, q6⟩, _, rl6, e6, sg6⟩ := z
    have J6 : Inv X (pins ++ pinsAt (s0.heap.objs.size :: a :: ip'.map (·.1)) s4.heap) σ6 H6 s6 := e6 ▸ inv_gens I6 (rl6.bare I6.bare)
    refine wpAny_passesOwn hp (wpAny_mono (wpAny_keep (hb.run _ { s6 with gens := s6.gens.map asleep } σ6 H6 _ (inv_gens J6 (asleep_all J6.bare)) q6)) (fun fl s7 z => ?_) fun e s7 z => out e s7 _ z)
    obtain ⟨s'', hsp, _, rl7, e7, sg7⟩ := z
    have to7 : ∀ {σ7 : L2.St} {H7 : Hp}, Inv X (pins ++ pinsAt (s0.heap.objs.size :: a :: ip'.map (·.1)) s4.heap) σ7 H7 s'' → Inv X (pins ++ pinsAt (s0.heap.objs.size :: a :: ip'.map (·.1)) s4.heap) σ7 H7 s7 := fun {σ7 H7} I7 => e7 ▸ inv_gens I7 (rl7.bare I7.bare)
    have again : ∀ {σ7 : L2.St} {H7 : Hp}, Inv X (pins ++ pinsAt (s0.heap.objs.size :: a :: ip'.map (·.1)) s4.heap) σ7 H7 s'' → Rd (j + 1) H4 σ7 H7 → ∃ m, m < n ∧ ∃ j gs ip σ' Hy H', m + j = most ∧ 1 ≤ m ∧ s0.heap.objs.size ≤ s7.heap.objs.size ∧ Inv X pins σ' H' s7 ∧ Rd j Hy σ' H' ∧
        Live X (gOf X N qual scope s0.heap.objs.size f cd a go [] most) g' (TkX X pins s0.heap.objs.size [] fun j Hy σ H _ => Rd j Hy σ H) rs yl en gs ip m j Hy s7 H' := fun {σ7 H7} I7 n7 => by
      obtain ⟨L7, lt7⟩ := live_on (sg6.trans sg7) (to7 I7) L4
      exact ⟨n - 1, by omega, j + 1, _, ip', σ7, H4, H7, by omega, n4, lt7, (to7 I7).unpinned, n7, L7⟩
    cases fl with
    | next => obtain ⟨σ7, H7, I7, n7⟩ := hsp; exact again I7 n7
    | cont => obtain ⟨σ7, H7, I7, n7⟩ := hsp; exact again I7 n7
    | brk => obtain ⟨σ7, H7, I7, n7⟩ := hsp; exact ⟨σ7, H7, (to7 I7).unpinned, n7⟩
    | ret v => obtain ⟨x7, σ7, H7, I7, r7, n7⟩ := hsp; exact ⟨x7, σ7, H7, (to7 I7).unpinned, r7, n7⟩
end
end KH

/-! KH4: list comprehensions over a generator that a call gives. -/
namespace KH
open PySem PySem.Spec PyProof.Rows L2 GenW
/-! ### a list set aside and taken up again -/
/-- the heap without what stands at D -/
def wo (H : Hp) (D : Addr) : Hp := fun b => if b = D then none else H b
theorem wo_same {H : Hp} {D : Addr} : wo H D D = none := by unfold wo; rw [if_pos rfl]
theorem wo_ne {H : Hp} {D b : Addr} (h : b ≠ D) : wo H D b = H b := by unfold wo; rw [if_neg h]
theorem wo_upd {H : Hp} {D : Addr} {o : HO} (h : H D = none) : wo (upd H D o) D = H := by
  funext b
  by_cases hb : b = D
  · subst hb; rw [wo_same, h]
  · rw [wo_ne hb, upd_ne hb]
section
variable {X : Cx} {pins : List (Addr × Obj)} {σ : L2.St} {H : Hp} {s : Shared} {D : Addr}
theorem wo_lst {xs : List V} : wo (upd H D (.lst xs)) D = wo H D := by
  funext b
  by_cases hb : b = D
  · subst hb; rw [wo_same, wo_same]
  · rw [wo_ne hb, wo_ne hb, upd_ne hb]
theorem wo_none {b : Addr} (e : H b = Option.none) : wo H D b = Option.none := by
  by_cases hb : b = D
  · rw [hb]; exact wo_same
  · rw [wo_ne hb]; exact e
theorem aside {xs : List V} (I : Inv X pins σ H s) (h : H D = some (.lst xs)) : Inv X pins σ (wo H D) s := by
  have far : ∀ b u, H b = some u → (∀ zs, u ≠ .lst zs) → wo H D b = some u := fun b u e nl => by
    by_cases hb : b = D
    · subst hb
      rw [h] at e
      cases e
      exact absurd rfl (nl xs)
    · rw [wo_ne hb]; exact e
  have ok : HOk X.prog X.w (wo H D) s.heap := fun b u e => by
    by_cases hb : b = D
    · subst hb; rw [wo_same] at e; cases e
    · rw [wo_ne hb] at e
      exact (I.hok b u e).stay (fun _ _ _ z => z) (fun c z => far c _ z (fun _ w => by cases w)) fun c ys z => far c _ z (fun _ w => by cases w)
  refine I.un (h' := s.heap) (t' := s.toks) { keep := fun _ _ e _ _ _ => e, slot := fun b o e _ _ _ => ⟨o.slots, e⟩, free := fun b _ _ z _ => wo_none z, there := fun b o e _ => ⟨o, e⟩, tups := fun b ys z => far b _ z (fun _ w => by cases w), frzs := fun b o y z => far b _ z (fun _ w => by cases w), tbls := fun b ps z => ⟨#[], ?_⟩ } ok
  rw [far b _ z (fun _ w => by cases w)]
  simp
theorem taken {xs : List V} (I : Inv X pins σ H s) (hn : H D = Option.none) (h0 : X.H_0 D ≠ Option.none) (hL : X.env.locals ≠ D) (hc : ∀ x c, X.env.cells.lookup x = some c → c ≠ D) (hp : ∀ p ∈ X.pn ++ pins, p.1 ≠ D) (at_ : ∀ H', ObjOk X.prog X.w H' s.heap D (.lst xs)) : Inv X pins σ (upd H D (.lst xs)) s := by
  have stays : ∀ {b u}, H b = some u → upd H D (.lst xs) b = some u := fun {b u} e => by rw [upd_ne (ne_of_none e hn)]; exact e
  have ok : HOk X.prog X.w (upd H D (.lst xs)) s.heap := fun b u e => by
    by_cases hb : b = D
    · subst hb; rw [upd_same] at e; cases e; exact at_ _
    · rw [upd_ne hb] at e
      exact (I.hok b u e).stay (fun _ _ _ z => z) (fun c z => stays z) fun c ys z => stays z
  refine ⟨I.ok, I.os, I.bare, ⟨I.base.keep, I.base.slot, fun b o e n x => ?_, I.base.there, fun b ys e => stays (I.base.tups b ys e), fun b o y e => stays (I.base.frzs b o y e), fun b ps e => ?_⟩, I.loc, I.cell, ?_, fun x c e => ?_, fun p m => ?_, ok, I.len⟩
  · have ne : b ≠ D := fun z => h0 (by rw [← z]; exact n)
    rw [upd_ne ne]
    exact I.base.free b o e n x
  · obtain ⟨more, q⟩ := I.base.tbls b ps e
    exact ⟨more, stays q⟩
  · rw [upd_ne hL]; exact I.free
  · rw [upd_ne (hc x c e)]; exact I.freeC x c e
  · obtain ⟨z1, z2, z3⟩ := I.pin p m
    exact ⟨z1, by rw [upd_ne (hp p m)]; exact z2, z3⟩
end
/-- a part of the consumer's turn, while the sleepers sleep on -/
theorem keepS {M : Model} {A : Around} {α : Type} {t : Sem α} {s : Shared} {E : Value → Shared → Prop} {Q Q' : α → Shared → Prop} (h : wpAny M A t Q (fun _ _ => False) { s with gens := s.gens.map asleep }) (hQ : ∀ a s' b, Q a s' → Rel s'.gens b → SameGens s.gens b → Q' a { s' with gens := b }) : wpAny M A t Q' E s :=
  wpAny_mono (wpAny_keep h) (fun a s2 z => by
    obtain ⟨s', q, _, rl, e, sg⟩ := z
    rw [e]
    exact hQ a s' _ q rl sg) fun e s2 z => by
    obtain ⟨_, no, _⟩ := z
    exact no.elim
section
variable {X : Cx} {k most : Nat}
def tLcH (t : TGen) (g : TG) (tt : TT) (te : TE) (vs : List Nat) : TE := fun σ H Q => ∃ Rd : Nat → List V → Hp → Hp → Prop, t σ H fun rs yl en H1 => Rd 0 [] H1 H1 ∧ (∀ j acc Hy H, Rd j acc Hy H → rs j Hy H) ∧ ∀ D, H1 D = none →
  (∀ j acc Hy H0 x H', Rd j acc Hy H0 → yl j H0 x H' → H0 D = none → H' D = none → g x (wipe σ vs) (upd H' D (.lst acc)) fun σ2 H2 => wipe σ2 vs = wipe σ vs ∧ tt σ2 H2 fun b H3 =>
    if b = true then te σ2 H3 fun y H4 => H4 D = some (.lst acc) ∧ acc.length < sizeLine ∧ Rd (j + 1) (acc ++ [y]) H' (wo H4 D) else H3 D = some (.lst acc) ∧ Rd (j + 1) acc H' (wo H3 D)) ∧
  ∀ j acc Hy H0 H', Rd j acc Hy H0 → en j H0 H' → H0 D = none → H' D = none → Q (.ref D) (upd H' D (.lst acc))
theorem no_cells : ∀ (l : List (Str × NameKind)) (n : Nat) (acc : List (Str × Addr)), (∀ y ∈ l, y.2 ≠ .cell) → cellsFrom n l acc = acc
  | [], _, _, _ => rfl
  | (x, k) :: r, n, acc, h => by
    have hk : k ≠ .cell := h (x, k) List.mem_cons_self
    show (if k == .cell then _ else cellsFrom n r acc) = acc
    rw [if_neg (show ¬ (k == .cell) = true by simpa using hk)]
    exact no_cells r n acc fun y m => h y (List.mem_cons_of_mem _ m)
/-- nothing of the block but its own names and what it captures -/
theorem blk_cells {cells : List (Str × Addr)} {names : List (Str × NameKind)} {n : Nat} (hno : ∀ y ∈ names, y.2 ≠ .cell) (hfree : ∀ y ∈ names, y.2 = .free → ∃ c, cells.lookup y.1 = some c) {x : Str} {c : Addr} (e : (cellsFrom n names (cloFrom cells names [])).lookup x = some c) : cells.lookup x = some c := by
  rw [no_cells names n _ hno] at e
  rcases cloFrom_mem (PySem.mem_of_lookup e) with z | ⟨m, rfl⟩
  · cases z
  · obtain ⟨c', q⟩ := hfree _ m rfl
    have q : cells.lookup x = some c' := q
    rw [q]; rfl
theorem live_dropped {G : GN} {g n j : Nat} {Tk : Nat → Shared → Hp → Prop} {rs : Nat → Hp → Hp → Prop} {yl : Nat → Hp → V → Hp → Prop} {en : Nat → Hp → Hp → Prop} {gs : GenState} {ip : List (Addr × Obj)} {Hy H : Hp} {s : Shared} {D : Addr} (z : Live X G g Tk rs yl en gs ip n j Hy s H) : Live X G g Tk rs yl en gs ip n j Hy s (wo H D) := by
  obtain ⟨z1, z2, z3, z4, sy, own, goes⟩ := z
  refine ⟨z1, z2, z3, z4, sy, fun b hb => ?_, goes⟩
  obtain ⟨o, e1, e2, e3, e4⟩ := own b hb
  exact ⟨o, e1, e2, wo_none e3, e4⟩
theorem lcH_core {pins : List (Addr × Obj)} {s : Shared} {σ : L2.St} {H : Hp} {Q : VK} {elt tg iter : Expr} {ifs : List Expr} {scope : Scope} {own : List (Str × Nat)} {pos pos' : Pos} {t : TGen} {g : TG} {tt : TT} {te : TE} {use : Option (Value → Sem Unit)} {Qf : Value → Shared → Prop}
    (hN : X.N.Nodup) (h1 : 1 ≤ most) (room : Room (k + 1) X.A) (I : Inv X pins σ H s) (hi : PH X iter k most t) (ok : BlkOk X.N X.env.scope scope own) (hno : ∀ y ∈ scope.names, y.2 ≠ .cell)
    (hg : ∀ (s : Shared) (H : Hp) (C : Addr) (cl : List (Str × Addr)) (fp : List Addr), PG (X.blk s H scope (compEnvC scope cl C X.env) fp) tg g)
    (ht : ∀ (s : Shared) (H : Hp) (C : Addr) (cl : List (Str × Addr)) (fp : List Addr), PTs (X.blk s H scope (compEnvC scope cl C X.env) fp) ifs tt)
    (he : ∀ (s : Shared) (H : Hp) (C : Addr) (cl : List (Str × Addr)) (fp : List Addr), PE (X.blk s H scope (compEnvC scope cl C X.env) fp) elt te) (hs : ∀ x, foldedSetIterable iter X.env x = pure x)
    (h : tLcH t g tt te (own.map (·.2)) σ H Q)
    (hRR : ∀ D C s' m H', Inv X pins σ H' s' → Q (.ref D) H' → s'.heap.Ns C m → FpOk X pins H' C → compPost (model X.prog X.w) X.A X.xe use Qf (.ref D) C (.ok .next) s') :
    wpAny (model X.prog X.w) X.A (comprehension (.ListComp elt [⟨tg, iter, ifs, 0⟩] scope pos) scope X.env pos' (newList []) false (eval iter X.env) use) Qf X.xe s := by
  obtain ⟨Rd, h⟩ := h
  have hfree : ∀ y ∈ scope.names, y.2 = .free → ∃ c, X.env.cells.lookup y.1 = some c := fun y hy e => (ok.free y hy e).elim (fun z => I.ok.has _ (.inl z)) fun z => I.ok.has _ (.inr z)
  refine wpAny_comprehension_free (use := use) rfl hs (closure_ok hfree) ok.kind (fun y hy e => by rw [ok.uniq y hy, e]) (thn (hi.run pins s σ H _ I h) fun u s1 z => ?_)
  obtain ⟨rs, yl, en, H1, s0, ⟨r0, hrs, hD⟩, I0, m⟩ := z
  obtain ⟨N, qual, gsc, f, cd, a, g', go, c, rfl, al, hgo, isg, god, hgs, os, bare, ⟨oL, hL, oLd⟩, keep, wake⟩ := m
  refine wpAny_pyIter_gen (isg _ hgo) (wpAny_newObj_type (newEnv_comp ?_) (by show 0 ≤ sizeLine; decide))
  have y0 := By.of I0
  have I1 : Inv X pins σ H1 s1 := I0.call' (ch := []) os (Un.kept keep) (I0.hok.kept keep) bare (fun b z => absurd z List.not_mem_nil)
  have aS : a < s1.heap.objs.size := Heap.lt_size hgo
  generalize eL : s0.heap.objs.size = L at *
  generalize eD : s1.heap.objs.size = D at *
  have nD : H1 D = none := I1.hok.fresh (Nat.le_of_eq eD)
  obtain ⟨turn, fini⟩ := hD D nD
  generalize e3 : ({ s1 with heap := s1.heap.push { cls := .type "list", data := .seq ([] : List Value).toArray } } : Shared) = s3
  have h3 : s3.heap = s1.heap.push { cls := .type "list", data := .seq ([] : List Value).toArray } := by rw [← e3]
  have sz3 : s3.heap.objs.size = D + 1 := by rw [h3, Heap.size_push, eD]
  have at3 : s3.heap.get? D = some { cls := .type "list", data := .seq ([] : List Value).toArray } := by rw [h3, ← eD]; exact Heap.get?_push_size _ rfl
  have kp3 : ∀ b o, s1.heap.get? b = some o → s3.heap.get? b = some o := fun b o e => by rw [h3]; exact Heap.get?_push_of_some _ e
  have lst3 : ∀ H', ObjOk X.prog X.w H' s3.heap D (.lst []) := fun H' => ⟨Nat.zero_le _, [], 0, .nil, at3⟩
  have I3 : Inv X pins σ (upd H1 D (.lst [])) s3 := by
    rw [← e3]
    refine I1.laid (t' := s1.toks) (fun b o e => Heap.get?_push_of_some _ e) (Nat.le_of_eq eD) ?_
    have z := lst3 (upd H1 D (.lst []))
    rw [h3] at z
    exact z
  have f3 : ∀ b ∈ List.range' L (D - L), FpOk X pins (upd H1 D (.lst [])) b ∧ b < s3.heap.objs.size := fun b hb => by
    have z := List.mem_range'_1.mp hb
    have lo : L ≤ b := z.1
    have hi : b < D := by
      have q : L ≤ D := Nat.le_of_lt (Nat.lt_trans al aS)
      have w := z.2
      rw [Nat.add_sub_cancel' q] at w
      exact w
    have nb : upd H1 D (.lst []) b = none := by
      rw [upd_ne (Nat.ne_of_lt hi)]
      exact I0.hok.fresh (by rw [eL]; exact lo)
    exact ⟨I0.fpOk (by rw [eL]; exact lo) nb, by rw [sz3]; exact Nat.lt_succ_of_lt hi⟩
  have I4 := block_start I3 ok hN f3
  have pg := hg s3 (upd H1 D (.lst [])) s3.heap.objs.size (cellsFrom (s3.heap.objs.size + 1) scope.names (cloFrom X.env.cells scope.names [])) (List.range' L (D - L))
  have pt := ht s3 (upd H1 D (.lst [])) s3.heap.objs.size (cellsFrom (s3.heap.objs.size + 1) scope.names (cloFrom X.env.cells scope.names [])) (List.range' L (D - L))
  have pe := he s3 (upd H1 D (.lst [])) s3.heap.objs.size (cellsFrom (s3.heap.objs.size + 1) scope.names (cloFrom X.env.cells scope.names [])) (List.range' L (D - L))
  show codeAny _ _ (.compStart (.ListComp elt [⟨tg, iter, ifs, 0⟩] scope pos) 0 (.ref a) (.ref D) (compEnvC scope (cellsFrom (s3.heap.objs.size + 1) scope.names (cloFrom X.env.cells scope.names [])) s3.heap.objs.size X.env)) (compPost (model X.prog X.w) X.A X.xe use Qf (.ref D) s3.heap.objs.size) { s3 with heap := pushCells (s3.heap.push { cls := .type "dict", data := .dict #[] }) scope.names }
  have cellU : ∀ x c, (compEnvC scope (cellsFrom (s3.heap.objs.size + 1) scope.names (cloFrom X.env.cells scope.names [])) s3.heap.objs.size X.env).cells.lookup x = some c → X.env.cells.lookup x = some c := fun x c e => blk_cells hno hfree e
  generalize ece : compEnvC scope (cellsFrom (s3.heap.objs.size + 1) scope.names (cloFrom X.env.cells scope.names [])) s3.heap.objs.size X.env = ce at I4 pg pt pe cellU ⊢
  have cL : ce.locals = s3.heap.objs.size := by subst ece; rfl
  generalize eC : s3.heap.objs.size = C at *
  have DC : D < C := by rw [sz3]; exact Nat.lt_succ_self _
  have LD : L < D := Nat.lt_trans al aS
  generalize eH3 : upd H1 D (.lst []) = H3 at *
  have H3D : H3 D = some (.lst []) := by rw [← eH3]; exact upd_same
  generalize efp : List.range' L (D - L) = fp at *
  have infp : ∀ b, L ≤ b → b < D → b ∈ fp := fun b l1 l2 => by
    rw [← efp]
    exact List.mem_range'_1.mpr ⟨l1, by rw [Nat.add_sub_cancel' (Nat.le_of_lt LD)]; exact l2⟩
  generalize e4 : ({ s3 with heap := pushCells (s3.heap.push { cls := .type "dict", data := .dict #[] }) scope.names } : Shared) = s4 at I4 ⊢
  have kp4 : ∀ b o, s3.heap.get? b = some o → s4.heap.get? b = some o := fun b o e => by rw [← e4]; exact pushCells_keeps _ _ _ _ (Heap.get?_push_of_some _ e)
  have g4 : s4.gens = s1.gens := by rw [← e4, ← e3]
  have y : By (X.blk s3 H3 scope ce fp) [] L [D, C] := by
    refine ⟨.inr ?_, fun b l1 nb => ?_, y0.stk, fun p hp => absurd (show p ∈ ([] : List (Addr × Obj)) ++ [] from hp) (by simp), fun x c e => y0.cell x c (cellU x c e)⟩
    · show ce.locals ∈ _
      rw [cL]
      simp
    · have n1 : b ≠ D := fun z => nb (by simp [z])
      by_cases l2 : b < D
      · exact .inl (infp b l1 l2)
      · right
        show s3.heap.objs.size ≤ b
        rw [eC, sz3]
        exact Nat.lt_of_le_of_ne (Nat.le_of_not_lt l2) (Ne.symm n1)
  have nOps : L ∉ [D, C] ∧ a ∉ [D, C] := by
    refine ⟨fun z => ?_, fun z => ?_⟩
    · rcases List.mem_cons.mp z with z | z
      · rw [z] at LD; exact Nat.lt_irrefl _ LD
      · rw [List.mem_singleton.mp z] at LD; exact Nat.lt_asymm LD DC
    · rcases List.mem_cons.mp z with z | z
      · rw [z] at aS; exact Nat.lt_irrefl _ aS
      · rw [List.mem_singleton.mp z] at aS; exact Nat.lt_asymm aS DC
  have size : ∀ {s' : Shared} {acc : List V}, (∀ H', ObjOk X.prog X.w H' s'.heap D (.lst acc)) → L ≤ s'.heap.objs.size := fun {s' acc} l => Nat.le_of_lt (Nat.lt_trans LD (l H1).lt)
  have owns : ∀ {σ' : L2.St} {H' : Hp} {s' : Shared} {acc : List V}, Inv (X.blk s3 H3 scope ce fp) [] σ' H' s' → H' D = none → (∀ H', ObjOk X.prog X.w H' s'.heap D (.lst acc)) → Ow [D, C] s' H' := fun {σ' H' s' acc} I' d l b hb => by
    rcases List.mem_cons.mp hb with rfl | hb
    · obtain ⟨_, its, nn, _, e⟩ := l H1
      exact ⟨⟨_, e, fun v q => by cases q⟩, d⟩
    · obtain rfl := List.mem_singleton.mp hb
      obtain ⟨mm, ⟨o, es, ep, ho, hd, _⟩, _⟩ := I'.loc
      have ho : s'.heap.get? ce.locals = some o := ho
      have z : H' ce.locals = none := I'.free
      rw [cL] at ho z
      exact ⟨⟨o, ho, fun v q => by rw [hd] at q; cases q⟩, z⟩
  obtain ⟨okG, wake⟩ := wake X.A.in1 [D, C] (TkX (X.blk s3 H3 scope ce fp) [] L [D, C] fun j Hy σ' H' s' => ∃ acc, Rd j acc Hy H' ∧ (∀ H'', ObjOk X.prog X.w H'' s'.heap D (.lst acc)) ∧ σ' = wipe σ (own.map (·.2)) ∧ H' D = none) room.in1 I0.ok.frames (fun b hb => by
    rcases List.mem_cons.mp hb with rfl | hb
    · exact LD
    · rw [List.mem_singleton.mp hb]; exact Nat.lt_trans LD DC) (fun j s2 H2 z => z.1)
  have lv4 : Live (X.blk s3 H3 scope ce fp) (gOf (X.blk s3 H3 scope ce fp) N qual gsc L f cd a go [D, C] most) g' (TkX (X.blk s3 H3 scope ce fp) [] L [D, C] fun j Hy σ' H' s' => ∃ acc, Rd j acc Hy H' ∧ (∀ H'', ObjOk X.prog X.w H'' s'.heap D (.lst acc)) ∧ σ' = wipe σ (own.map (·.2)) ∧ H' D = none) rs yl en (.fresh c) [] most 0 H1 s4 H1 := by
    refine ⟨by rw [g4]; exact hgs, fun p hp => absurd hp List.not_mem_nil, kp4 _ _ (kp3 _ _ hgo), isg, s1, fun b hb => ?_, fun s' H' tk r e0 kp => ⟨rfl, wake s' H' tk r e0 kp⟩⟩
    rcases hb with rfl | rfl | hb
    · exact ⟨oL, hL, kp4 _ _ (kp3 _ _ hL), I0.hok.fresh (Nat.le_of_eq eL), oLd⟩
    · exact ⟨go, hgo, kp4 _ _ (kp3 _ _ hgo), I0.hok.fresh (Nat.le_of_lt (by rw [eL]; exact al)), god⟩
    · exact absurd hb List.not_mem_nil
  have I4w : Inv (X.blk s3 H3 scope ce fp) [] (wipe σ (own.map (·.2))) H1 s4 := by
    have z := aside I4 H3D
    rw [← eH3, wo_upd nD] at z
    rw [← eH3]
    exact z
  have l4 : ∀ H', ObjOk X.prog X.w H' s4.heap D (.lst []) := fun H' => ⟨Nat.zero_le _, [], 0, .nil, kp4 _ _ at3⟩
  have nocell : ∀ x cc, (X.blk s3 H3 scope ce fp).env.cells.lookup x = some cc → cc ≠ D := fun x cc e z => by
    have w := y.cell x cc e
    rw [z] at w
    exact Nat.lt_asymm w LD
  have noloc : (X.blk s3 H3 scope ce fp).env.locals ≠ D := by
    show ce.locals ≠ D
    rw [cL]
    exact Nat.ne_of_gt DC
  have h0D : (X.blk s3 H3 scope ce fp).H_0 D ≠ none := by
    show H3 D ≠ none
    rw [H3D]
    exact fun z => by cases z
  have loop : codeAny (model X.prog X.w) X.A (.compLoop (.ListComp elt [⟨tg, iter, ifs, 0⟩] scope pos) 0 (.ref a) (.ref D) ce) (compPost (model X.prog X.w) X.A X.xe use Qf (.ref D) C) s4 := by
    refine compLoop_any (fun n s' => ∃ j gs ip Hy H' acc, n + j = most ∧ 1 ≤ n ∧ Inv (X.blk s3 H3 scope ce fp) [] (wipe σ (own.map (·.2))) H' s' ∧ H' D = none ∧ (∀ H'', ObjOk X.prog X.w H'' s'.heap D (.lst acc)) ∧ Rd j acc Hy H' ∧
      Live (X.blk s3 H3 scope ce fp) (gOf (X.blk s3 H3 scope ce fp) N qual gsc L f cd a go [D, C] most) g' (TkX (X.blk s3 H3 scope ce fp) [] L [D, C] fun j Hy σ' H' s' => ∃ acc, Rd j acc Hy H' ∧ (∀ H'', ObjOk X.prog X.w H'' s'.heap D (.lst acc)) ∧ σ' = wipe σ (own.map (·.2)) ∧ H' D = none) rs yl en gs ip n j Hy s' H') ?_ most ⟨0, .fresh c, [], H1, H1, [], Nat.add_zero _, h1, I4w, nD, l4, r0, lv4⟩
    rintro n s5 ⟨j, gs, ip, Hy, H5, acc0, hn, hn1, I5, d5, l5, r5, lv5⟩
    refine thnF (live_turn (X := X.blk s3 H3 scope ce fp) (pins := []) (Rd := fun j Hy σ' H' s' => ∃ acc, Rd j acc Hy H' ∧ (∀ H'', ObjOk X.prog X.w H'' s'.heap D (.lst acc)) ∧ σ' = wipe σ (own.map (·.2)) ∧ H' D = none) y room.hd room.depth okG I5 ⟨acc0, r5, l5, rfl, d5⟩ (hrs _ _ _ _ r5) (fun _ _ _ _ _ _ z => z) hn hn1 ⟨size l5, owns I5 d5 l5⟩ lv5) fun r s6 q => ?_
    rcases q with ⟨rfl, σ0, Hz, H0, H6, sz, ⟨acc, q0, l0, es, d0⟩, e6, I6, op⟩ | ⟨u, rfl, x, σ0, Hz, H0, H6, sz, rv, ⟨acc, q0, l0, es, d0⟩, y6, I6, op, lt6, n6, k', lv', c', p', fs', ip', L6⟩
    · have d6 : H6 D = none ∧ ∀ H'', ObjOk X.prog X.w H'' s6.heap D (.lst acc) := by
        have z := fun H'' => l0 H''
        refine ⟨?_, fun H'' => ?_⟩
        · obtain ⟨_, _, _, _, e⟩ := z H1
          exact (op (D, _) (mem_pinsAt List.mem_cons_self e)).2
        · obtain ⟨z1, its, nn, rr, e⟩ := z H''
          exact ⟨z1, its, nn, rr, (op (D, _) (mem_pinsAt List.mem_cons_self e)).1⟩
      obtain ⟨d6, l6⟩ := d6
      subst es
      have J6 : Inv (X.blk s3 H3 scope ce fp) [] (wipe σ (own.map (·.2))) (upd H6 D (.lst acc)) s6 := taken I6 d6 h0D noloc nocell (fun p hp => absurd (show p ∈ ([] : List (Addr × Obj)) ++ [] from hp) (by simp)) l6
      have J7 : Inv X pins σ (upd H6 D (.lst acc)) s6 := I3.call' (ch := fp) J6.os J6.base J6.hok J6.bare fun b hb => by
        obtain ⟨⟨_, z1, _, z3, z4, z5⟩, _⟩ := f3 b hb
        exact ⟨z3, z1, z4, z5⟩
      have nC : upd H6 D (.lst acc) ce.locals = none := J6.free
      obtain ⟨mm, hns, _⟩ := J6.loc
      have hns : s6.heap.Ns ce.locals mm := hns
      rw [cL] at nC hns
      exact hRR D C s6 mm _ J7 (fini j acc Hz H0 H6 q0 e6 d0 d6) hns (I3.fpOk (Nat.le_of_eq eC) nC)
    · have d6 : H6 D = none ∧ ∀ H'', ObjOk X.prog X.w H'' s6.heap D (.lst acc) := by
        refine ⟨?_, fun H'' => ?_⟩
        · obtain ⟨_, _, _, _, e⟩ := l0 H1
          exact (op (D, _) (mem_pinsAt List.mem_cons_self e)).2
        · obtain ⟨z1, its, nn, rr, e⟩ := l0 H''
          exact ⟨z1, its, nn, rr, (op (D, _) (mem_pinsAt List.mem_cons_self e)).1⟩
      obtain ⟨d6, l6⟩ := d6
      subst es
      obtain ⟨oi, nm, qn, hoi, hcl, hdt, _⟩ := isg _ L6.2.2.1
      refine go_of (n := "generator") hoi hcl hdt rfl ?_
      have Ip := own_pins (L := L) (G := gOf (X.blk s3 H3 scope ce fp) N qual gsc L f cd a go [D, C] most) y al nOps I6 L6
      have hip' := L6.2.1
      have Jp : Inv (X.blk s3 H3 scope ce fp) ([] ++ pinsAt (L :: a :: ip'.map (·.1)) s6.heap) (wipe σ (own.map (·.2))) (upd H6 D (.lst acc)) s6 := taken Ip d6 h0D noloc nocell (fun p hp z => by
        rcases List.mem_append.mp (show p ∈ ([] : List (Addr × Obj)) ++ ([] ++ pinsAt (L :: a :: ip'.map (·.1)) s6.heap) from hp) with w | w
        · exact absurd w List.not_mem_nil
        · obtain ⟨hb, _⟩ := of_pinsAt w
          rw [z] at hb
          rcases List.mem_cons.mp hb with w | hb
          · exact nOps.1 (by rw [← w]; exact List.mem_cons_self)
          · rcases List.mem_cons.mp hb with w | hb
            · exact nOps.2 (by rw [← w]; exact List.mem_cons_self)
            · obtain ⟨q, hq, w⟩ := List.mem_map.mp hb
              exact (hip' q hq).2 (by rw [w]; exact List.mem_cons_self)) l6
      refine keepS (pg.run _ { s6 with gens := s6.gens.map asleep } _ (upd H6 D (.lst acc)) x u _ (inv_gens Jp (asleep_all Jp.bare)) rv (turn j acc Hz H0 x H6 q0 y6 d0 d6)) fun _ s8 b8 z8 rl8 sg8 => ?_
      obtain ⟨σ8, H8, I8, hw8, q8⟩ := z8
      have K8 := inv_gens I8 (rl8.bare I8.bare)
      refine keepS (pt.run _ { ({ s8 with gens := b8 } : Shared) with gens := b8.map asleep } σ8 H8 _ (inv_gens K8 (asleep_all K8.bare)) q8) fun b s9 b9 z9 rl9 sg9 => ?_
      obtain ⟨H9, I9, q9⟩ := z9
      have K9 := inv_gens I9 (rl9.bare I9.bare)
      -- the turn's end
      have fin : ∀ {s' : Shared} {H' : Hp} {acc' : List V}, Inv (X.blk s3 H3 scope ce fp) ([] ++ pinsAt (L :: a :: ip'.map (·.1)) s6.heap) σ8 H' s' → H' D = some (.lst acc') → SameGens s6.gens s'.gens → Rd (j + 1) acc' H6 (wo H' D) → ∃ m, m < n ∧ ∃ j gs ip Hy H' acc, m + j = most ∧ 1 ≤ m ∧ Inv (X.blk s3 H3 scope ce fp) [] (wipe σ (own.map (·.2))) H' s' ∧ H' D = none ∧ (∀ H'', ObjOk X.prog X.w H'' s'.heap D (.lst acc)) ∧ Rd j acc Hy H' ∧
          Live (X.blk s3 H3 scope ce fp) (gOf (X.blk s3 H3 scope ce fp) N qual gsc L f cd a go [D, C] most) g' (TkX (X.blk s3 H3 scope ce fp) [] L [D, C] fun j Hy σ' H' s' => ∃ acc, Rd j acc Hy H' ∧ (∀ H'', ObjOk X.prog X.w H'' s'.heap D (.lst acc)) ∧ σ' = wipe σ (own.map (·.2)) ∧ H' D = none) rs yl en gs ip m j Hy s' H' := fun {s' H' acc'} I' hD' sg' rd' => by
        obtain ⟨L7, _⟩ := live_on sg' I' L6
        have hl : (wipe σ (own.map (·.2))).length = σ8.length := by rw [← hw8, wipe_length]
        refine ⟨n - 1, by omega, j + 1, _, ip', H6, wo H' D, acc', by omega, n6, (aside (I'.unpinned (pins := [])) hD').weak hl (fun i v e => ?_), wo_same, fun H'' => ?_, rd', live_dropped L7⟩
        · rw [← hw8] at e
          exact (wipe_some e).1
        · obtain ⟨z1, its, nn, rr, e⟩ := I'.hok D _ hD'
          exact ⟨z1, its, nn, rr, e⟩
      cases b with
      | false =>
        rw [if_neg Bool.false_ne_true] at q9 ⊢
        exact fin K9 q9.1 ((sg8.trans sg9)) q9.2
      | true =>
        rw [if_pos rfl] at q9 ⊢
        refine keepS (pe.run _ { ({ s9 with gens := b9 } : Shared) with gens := b9.map asleep } σ8 H9 _ (inv_gens K9 (asleep_all K9.bare)) q9) fun v s10 b10 z10 rl10 sg10 => ?_
        obtain ⟨yv, H10, I10, r10, hD10, hz10, nx⟩ := z10
        have K10 := inv_gens I10 (rl10.bare I10.bare)
        refine keepS (app_ok (X := X.blk s3 H3 scope ce fp) (Q := fun _ s' => Inv (X.blk s3 H3 scope ce fp) ([] ++ pinsAt (L :: a :: ip'.map (·.1)) s6.heap) σ8 (upd H10 D (.lst (acc ++ [yv]))) s') (s := { ({ s10 with gens := b10 } : Shared) with gens := b10.map asleep }) (inv_gens K10 (asleep_all K10.bare)) hD10 hz10 r10 fun s11 I11 => I11) fun _ s11 b11 I11 rl11 sg11 => ?_
        have K11 := inv_gens I11 (rl11.bare I11.bare)
        exact fin K11 upd_same (((sg8.trans sg9).trans sg10).trans sg11) (by rw [wo_lst]; exact nx)
  exact codeAny_compStart_list loop (wpAny_pyIter_gen (isg _ (kp4 _ _ (kp3 _ _ hgo))) loop)
/-- such a comprehension as a value -/
theorem pe_lcH {elt tg iter : Expr} {ifs : List Expr} {scope : Scope} {own : List (Str × Nat)} {pos : Pos} {t : TGen} {g : TG} {tt : TT} {te : TE} (hN : X.N.Nodup) (h1 : 1 ≤ most) (room : Room (k + 1) X.A) (hi : PH X iter k most t) (ok : BlkOk X.N X.env.scope scope own) (hno : ∀ y ∈ scope.names, y.2 ≠ .cell)
    (hg : ∀ (s : Shared) (H : Hp) (C : Addr) (cl : List (Str × Addr)) (fp : List Addr), PG (X.blk s H scope (compEnvC scope cl C X.env) fp) tg g)
    (ht : ∀ (s : Shared) (H : Hp) (C : Addr) (cl : List (Str × Addr)) (fp : List Addr), PTs (X.blk s H scope (compEnvC scope cl C X.env) fp) ifs tt)
    (he : ∀ (s : Shared) (H : Hp) (C : Addr) (cl : List (Str × Addr)) (fp : List Addr), PE (X.blk s H scope (compEnvC scope cl C X.env) fp) elt te) (hs : ∀ x, foldedSetIterable iter X.env x = pure x := by intro _; rfl) :
    PE X (.ListComp elt [⟨tg, iter, ifs, 0⟩] scope pos) (tLcH t g tt te (own.map (·.2))) := by
  refine ⟨fun pins s σ H Q I h => ?_⟩
  rw [eval_ListComp]
  refine lcH_core hN h1 room I hi ok hno hg ht he hs h fun D C s' m H' I' q hn f => ⟨m, hn, fun h'' sb => ?_⟩
  exact ⟨.ref D, H', I'.turned (t' := s'.toks) (fun b o hb e => (sb.2 b hb).trans e) f.1 f.2.1 f.2.2.2.1 f.2.2.2.2.1 f.2.2.2.2.2, rfl, q⟩
/-- y = [..] on one line, y a local -/
theorem ps_setLcH {i : Nat} {y : Str} {py : Pos} {elt tg iter : Expr} {ifs : List Expr} {scope : Scope} {own : List (Str × Nat)} {pos spos : Pos} {t : TGen} {g : TG} {tt : TT} {te : TE} (hN : X.N.Nodup) (h1 : 1 ≤ most) (room : Room (k + 1) X.A) (hy : X.N[i]? = some y) (hyl : X.env.scope.names.lookup y = some .local)
    (hsw : swapsWith (.ListComp elt [⟨tg, iter, ifs, 0⟩] scope pos) (some (.Name y py)) spos.line X.env = pure true) (hi : PH X iter k most t) (ok : BlkOk X.N X.env.scope scope own) (hno : ∀ y ∈ scope.names, y.2 ≠ .cell)
    (hg : ∀ (s : Shared) (H : Hp) (C : Addr) (cl : List (Str × Addr)) (fp : List Addr), PG (X.blk s H scope (compEnvC scope cl C X.env) fp) tg g)
    (ht : ∀ (s : Shared) (H : Hp) (C : Addr) (cl : List (Str × Addr)) (fp : List Addr), PTs (X.blk s H scope (compEnvC scope cl C X.env) fp) ifs tt)
    (he : ∀ (s : Shared) (H : Hp) (C : Addr) (cl : List (Str × Addr)) (fp : List Addr), PE (X.blk s H scope (compEnvC scope cl C X.env) fp) elt te) (hs : ∀ x, foldedSetIterable iter X.env x = pure x := by intro _; rfl) :
    PS X (.Assign [.Name y py] (.ListComp elt [⟨tg, iter, ifs, 0⟩] scope pos) spos) (tAsg (tLcH t g tt te (own.map (·.2))) (gName i)) := by
  refine ⟨fun pins s σ H D I h => ?_⟩
  rw [exec_Assign_Name_used _ _ _ _ hsw]
  refine wpAny_bind (wpAny_standAt (wpAny_bind ?_))
  show wpAny _ X.A (do let _ ← comprehension (.ListComp elt [⟨tg, iter, ifs, 0⟩] scope pos) scope X.env (firstIterPos [⟨tg, iter, ifs, 0⟩] pos) (newList []) false (eval iter X.env) (some (assign (.Name y py) X.env))) _ _ s
  have hh : tLcH t g tt te (own.map (·.2)) σ H (fun x H1 => gName i x σ H1 D.nx) := h
  refine wpAny_bind (thn (lcH_core (Qf := fun _ s' => SP X pins D .next s') hN h1 room I hi ok hno hg ht he hs hh fun L C s' m H' I' q hn f => ?_) fun _ s' hq => wpAny_pure (wpAny_pure hq))
  show wpAny _ _ (assign (.Name y py) X.env (.ref L)) _ _ _
  refine wpAny_assign_Name (store_ok2 (v := V.ref L) I' hN hy (.inl hyl) rfl (fun s2 I2 w => ?_) (.inr hyl))
  obtain ⟨a, sb, ha⟩ := w
  have other : C ≠ a := by
    rcases ha with z | z
    · rw [z]; exact f.2.1
    · exact fun e => f.2.2.2.2.1 y a z e.symm
  exact ⟨m, hn.sameBut sb other, fun h3 sb3 => ⟨_, H', I2.turned (t' := s2.toks) (fun b o hb e => (sb3.2 b hb).trans e) f.1 f.2.1 f.2.2.2.1 f.2.2.2.2.1 f.2.2.2.2.2, q⟩⟩
end
end KH

/-! KH5: readings of generator bodies, and of loops over them. -/
namespace KH
open PySem PySem.Spec PyProof.Rows L2 GenW KT
/-! ### a reading that does not look at the state of waking -/
theorem goPI {X : Cx} {tg iter : Expr} {r r' : TI} (h : PI X tg iter r) (e : r = r') : PI X tg iter r' := e ▸ h
theorem goPG {X : Cx} {tg : Expr} {r r' : TG} (h : PG X tg r) (e : r = r') : PG X tg r' := e ▸ h
theorem goPS {X : Cx} {st : Stmt} {r r' : TS} (h : PS X st r) (e : r = r') : PS X st r' := e ▸ h
theorem goPE {X : Cx} {ex : Expr} {r r' : TE} (h : PE X ex r) (e : r = r') : PE X ex r' := e ▸ h
theorem goPT {X : Cx} {ex : Expr} {r r' : TT} (h : PT X ex r) (e : r = r') : PT X ex r' := e ▸ h
section
variable {σ : L2.St} {H H0 : Hp} {D : GD} {j : Nat}
theorem r_hthen {t u : TW} (q : t { D with nx := fun j' H0' σ' H' => u D j' H0' σ' H' } j H0 σ H) : tWThen t u D j H0 σ H := q
theorem r_h0 (q : D.nx j H0 σ H) : tW0 D j H0 σ H := q
theorem r_hps {t : TS} (q : t (D.at j H0) σ H) : tWPlain t D j H0 σ H := q
theorem r_hif {tc : TT} {t1 t2 : TW} (q : tc σ H fun b H1 => if b = true then t1 D j H0 σ H1 else t2 D j H0 σ H1) : tWIf tc t1 t2 D j H0 σ H := q
theorem r_hyield {m : Nat} {te : TE} (h : j + 1 < m) (q : te σ H fun x H1 => D.yl j H0 x H1 ∧ ∀ H2, D.rs (j + 1) H1 H2 → D.nx (j + 1) H2 σ H2) : tWYield m te D j H0 σ H := ⟨h, q⟩
theorem r_hfor {wi : TI} {g : TG} {tb : TW} (q : wi σ H fun J H1 => ∃ W : Nat → Nat → Nat → Hp → L2.St → Hp → Prop, (∃ m, W 0 m j H0 σ H1) ∧ ∀ i m j H0 σ H, W i m j H0 σ H →
  (J.stop i H ∧ D.nx j H0 σ H) ∨ (J.go i H ∧ ∃ N : Nat → Hp → L2.St → Hp → Prop, (∀ j' H0' σ' H', N j' H0' σ' H' → ∃ m', m' < m ∧ W (i + 1) m' j' H0' σ' H') ∧ ∀ x H', J.yld i H x H' → g x σ H' fun σ2 H2 => tb { D with nx := N, ct := N, bk := D.nx } j H0 σ2 H2)) : tWFor wi g tb D j H0 σ H := q
end
/-- a loop of a generator, by the walk -/
theorem hforW {J : It} {n : Nat} {G : Hp → Prop} {Y : Nat → Hp → V → Hp → Prop} (wk : Walk J n G Y) {g : TG} {tb : TW} {D : GD} {j : Nat} {H0 : Hp} {σ : L2.St} {H : Hp} (Pv : Nat → Nat → Hp → L2.St → Hp → Prop) (h0 : Pv 0 j H0 σ H) (hG : ∀ i j H0 σ H, i ≤ n → Pv i j H0 σ H → G H)
    (hs : ∀ i x j H0 σ H H', i < n → Pv i j H0 σ H → Y i H x H' → g x σ H' fun σ2 H2 => tb { D with nx := Pv (i + 1), ct := Pv (i + 1), bk := D.nx } j H0 σ2 H2) (hd : ∀ j H0 σ H, Pv n j H0 σ H → D.nx j H0 σ H) :
    ∃ W : Nat → Nat → Nat → Hp → L2.St → Hp → Prop, (∃ m, W 0 m j H0 σ H) ∧ ∀ i m j H0 σ H, W i m j H0 σ H →
      (J.stop i H ∧ D.nx j H0 σ H) ∨ (J.go i H ∧ ∃ N : Nat → Hp → L2.St → Hp → Prop, (∀ j' H0' σ' H', N j' H0' σ' H' → ∃ m', m' < m ∧ W (i + 1) m' j' H0' σ' H') ∧ ∀ x H', J.yld i H x H' → g x σ H' fun σ2 H2 => tb { D with nx := N, ct := N, bk := D.nx } j H0 σ2 H2) := by
  refine ⟨fun i m j H0 σ H => m = n - i ∧ i ≤ n ∧ Pv i j H0 σ H, ⟨n, by simp, Nat.zero_le _, h0⟩, ?_⟩
  rintro i m j H0 σ H ⟨rfl, hi, p⟩
  have q := hG i j H0 σ H hi p
  rcases Nat.lt_or_ge i n with lt | ge
  · exact .inr ⟨wk.goes i H lt q, Pv (i + 1), fun j' H0' σ' H' p' => ⟨n - (i + 1), by omega, rfl, lt, p'⟩, fun x H' y => hs i x j H0 σ H H' lt p (wk.yields i H x H' lt q y)⟩
  · have e : i = n := Nat.le_antisymm hi ge
    rw [e] at p ⊢
    exact .inl ⟨wk.stops H q, hd j H0 σ H p⟩
end KH

/-! KH6: {elt for a in xs for b in ys}, whole numbers: a set comprehension of two clauses without tests. -/
namespace KH
open PySem PySem.Spec PyProof.Rows L2
section
variable {elt t0 i0 t1 i1 : Expr} {scope : Scope} {pos : Pos} {it acc : Value} {env : Env}
abbrev sc2 (elt t0 i0 t1 i1 : Expr) (scope : Scope) (pos : Pos) : Expr := .SetComp elt [⟨t0, i0, [], 0⟩, ⟨t1, i1, [], 0⟩] scope pos
theorem sTurn0 : compTurn (sc2 elt t0 i0 t1 i1 scope pos) 0 it acc env = (do
    standAt i0.pos
    match ← pyNext it with
    | none => pure (.done .next)
    | some v =>
      letOwnedTupleGo t0 it v
      assign t0 env v
      let x ← eval i1 env
      standAt i1.pos
      let x ← foldedSetIterable i1 env x
      let _ ← runOwn (.compStart (sc2 elt t0 i0 t1 i1 scope pos) 1 (← holding [x] (pyIter x)) acc env) env
      again (.compLoop (sc2 elt t0 i0 t1 i1 scope pos) 0 it acc env)) := by rfl
theorem sTurn1 : compTurn (sc2 elt t0 i0 t1 i1 scope pos) 1 it acc env = (do
    standAt i1.pos
    match ← pyNext it with
    | none => pure (.done .next)
    | some v =>
      letOwnedTupleGo t1 it v
      assign t1 env v
      (do let v ← eval elt env; standAt elt.pos; let _ ← call (.builtin "set.add") [acc, v])
      again (.compLoop (sc2 elt t0 i0 t1 i1 scope pos) 1 it acc env)) := by rfl
end
section
variable {prog : Program} {w : World} {A : Around} {R : Result → Shared → Prop} {s : Shared} {elt t0 i0 t1 i1 : Expr} {scope : Scope} {pos : Pos} {it acc : Value} {env : Env}
/-- a turn of the first clause, by what follows its next -/
theorem sLoop0 (hs : ∀ x, foldedSetIterable i1 env x = pure x) (Z : Nat → Shared → Prop)
    (turn : ∀ n s, Z n s → wpAny (model prog w) A (pyNext it) (fun r s1 => match r with
      | none => R (.ok .next) s1
      | some v => wpAny (model prog w) A (letOwnedTupleGo t0 it v) (fun _ s2 => wpAny (model prog w) A (assign t0 env v) (fun _ s3 => wpAny (model prog w) A (eval i1 env) (fun x s4 => wpAny (model prog w) A (pyIter x) (fun it1 s5 =>
          codeAny (model prog w) A (.compStart (sc2 elt t0 i0 t1 i1 scope pos) 1 it1 acc env) (fun r s' => match r with
            | .ok _ => ∃ m, m < n ∧ Z m s'
            | .error _ => False) s5) (fun _ _ => False) s4) (fun _ _ => False) s3) (fun _ _ => False) s2) (fun _ _ => False) s1) (fun _ _ => False) s)
    (n : Nat) (h : Z n s) : codeAny (model prog w) A (.compLoop (sc2 elt t0 i0 t1 i1 scope pos) 0 it acc env) R s := by
  refine codeAny_loop rfl Z (fun n s z => ?_) n h
  show wpAny _ A ((compTurn (sc2 elt t0 i0 t1 i1 scope pos) 0 it acc env).onRaise (fun x => do noteFrame x env; theTreesLotGoes x)) _ _ s
  refine wpAny_noted ?_
  rw [sTurn0]
  refine wpAny_bind (wpAny_standAt (wpAny_bind (thnF (turn n s z) fun r s1 h1 => ?_)))
  cases r with
  | none => exact wpAny_pure h1
  | some v =>
    refine wpAny_bind (thnF h1 fun _ s2 h2 => wpAny_bind (thnF h2 fun _ s3 h3 => wpAny_bind (thnF h3 fun x s4 h4 => ?_)))
    refine wpAny_bind (wpAny_standAt (wpAny_bind (wpAny_of_eq (hs x) (wpAny_bind (wpAny_holding (thnF h4 fun it1 s5 h5 => ?_))))))
    refine wpAny_bind (wpAny_runOwn ?_)
    rw [Around.mark_none]
    refine codeAny_mono h5 fun r s6 q => ?_
    cases r with
    | error e => exact q.elim
    | ok f => exact wpAny_bind (wpAny_pure (wpAny_pure ⟨rfl, q⟩))
theorem sLoop1 (Z : Nat → Shared → Prop)
    (turn : ∀ n s, Z n s → wpAny (model prog w) A (pyNext it) (fun r s1 => match r with
      | none => R (.ok .next) s1
      | some v => wpAny (model prog w) A (letOwnedTupleGo t1 it v) (fun _ s2 => wpAny (model prog w) A (assign t1 env v) (fun _ s3 => wpAny (model prog w) A (eval elt env) (fun x s4 =>
          wpAny (model prog w) A (call (.builtin "set.add") [acc, x]) (fun _ s5 => ∃ m, m < n ∧ Z m s5) (fun _ _ => False) s4) (fun _ _ => False) s3) (fun _ _ => False) s2) (fun _ _ => False) s1) (fun _ _ => False) s)
    (n : Nat) (h : Z n s) : codeAny (model prog w) A (.compLoop (sc2 elt t0 i0 t1 i1 scope pos) 1 it acc env) R s := by
  refine codeAny_loop rfl Z (fun n s z => ?_) n h
  show wpAny _ A ((compTurn (sc2 elt t0 i0 t1 i1 scope pos) 1 it acc env).onRaise (fun x => do noteFrame x env; theTreesLotGoes x)) _ _ s
  refine wpAny_noted ?_
  rw [sTurn1]
  refine wpAny_bind (wpAny_standAt (wpAny_bind (thnF (turn n s z) fun r s1 h1 => ?_)))
  cases r with
  | none => exact wpAny_pure h1
  | some v =>
    refine wpAny_bind (thnF h1 fun _ s2 h2 => wpAny_bind (thnF h2 fun _ s3 h3 => ?_))
    exact wpAny_bind (wpAny_bind (thnF h3 fun x s4 h4 => wpAny_bind (wpAny_standAt (wpAny_bind (thnF h4 fun _ s5 h5 => wpAny_pure (wpAny_pure ⟨rfl, h5⟩))))))
/-- the second clause begins -/
theorem sStart1 (own : wpAny (model prog w) A (pyIter it) (fun it' s' => codeAny (model prog w) A (.compLoop (sc2 elt t0 i0 t1 i1 scope pos) 1 it' acc env) R s') (fun _ _ => False) s) (h0 : codeAny (model prog w) A (.compLoop (sc2 elt t0 i0 t1 i1 scope pos) 1 it acc env) R s) :
    codeAny (model prog w) A (.compStart (sc2 elt t0 i0 t1 i1 scope pos) 1 it acc env) R s := by
  refine codeAny_of_tree ?_
  show wpAny _ _ ((compStart (sc2 elt t0 i0 t1 i1 scope pos) 1 it acc env).onRaise (fun x => do noteFrame x env; standAt theWindowsPlace)) _ _ s
  refine wpAny_notedAt ?_
  unfold compStart
  show wpAny _ _ (ask >>= _) _ _ s
  refine wpAny_bind (wpAny_askSetting (wpAny_ite ?_))
  split
  · first
      | exact wpAny_bind (wpAny_pure (wpAny_pure ⟨rfl, h0⟩))
      | exact wpAny_pure ⟨rfl, h0⟩
  · refine wpAny_bind (wpAny_rule ?_)
    first
      | exact wpAny_bind (wpAny_standAt (wpAny_bind (thnF own fun it' s' h' => wpAny_pure ⟨rfl, h'⟩)))
      | (show wpAny _ _ (standAt i1.pos >>= _) _ _ s; exact wpAny_bind (wpAny_standAt (wpAny_bind (thnF own fun it' s' h' => wpAny_pure ⟨rfl, h'⟩))))
end
/-! ### the whole -/
section
variable {X : Cx}
def tSc2 (w : World) (wi : TI) (g : TG) (wi1 : TI) (g1 : TG) (te : TE) (vs vs1 : List Nat) : TE := fun σ H Q => wi σ H fun J H1 => ∀ D, H1 D = none → ∃ W : Nat → Nat → Hp → Prop, (∃ m, W 0 m (upd H1 D (SetO w D (fun _ => false) 0))) ∧ ∀ i m H, W i m H →
  (J.stop i H ∧ Q (.ref D) H) ∨ (J.go i H ∧ ∃ Nx : Hp → Prop, (∀ H', Nx H' → ∃ m', m' < m ∧ W (i + 1) m' H') ∧ ∀ x H', J.yld i H x H' → g x (wipe σ vs) H' fun σ2 H2 => wipe σ2 vs = wipe σ vs ∧ wi1 σ2 H2 fun J1 H4 => ∃ W1 : Nat → Nat → Hp → Prop, (∃ m, W1 0 m H4) ∧ ∀ j k H, W1 j k H →
      (J1.stop j H ∧ Nx H) ∨ (J1.go j H ∧ ∃ Nx1 : Hp → Prop, (∀ H', Nx1 H' → ∃ k', k' < k ∧ W1 (j + 1) k' H') ∧ ∀ x H', J1.yld j H x H' → g1 x (wipe σ2 vs1) H' fun σ3 H5 => wipe σ3 vs1 = wipe σ2 vs1 ∧ te σ3 H5 fun y H7 =>
        ∃ (c : Int) (S : Int → Bool) (n : Nat), y = .int c ∧ H7 D = some (SetO w D S n) ∧ n + 1 < scanBound ∧ Nx1 (upd H7 D (SetO w D (fun j => S j || decide (j = c)) (if S c = true then n else n + 1)))))
theorem pe_sc2 {elt t0 i0 t1 i1 : Expr} {scope : Scope} {own : List (Str × Nat)} {vs1 : List Nat} {pos : Pos} {wi wi1 : TI} {g g1 : TG} {te : TE} (hc : X.calm = true) (hN : X.N.Nodup) (hi : PI X t0 i0 wi) (ok : BlkOk X.N X.env.scope scope own) (hv : ∀ i ∈ vs1, i ∈ own.map (·.2))
    (h0 : ∀ (t : Shared) (G : Hp) (b : Addr) (kl : List (Str × Addr)) (fq : List Addr), PG (X.blk t G scope (compEnvC scope kl b X.env) fq) t0 g) (h1 : ∀ (t : Shared) (G : Hp) (b : Addr) (kl : List (Str × Addr)) (fq : List Addr), PI (X.blk t G scope (compEnvC scope kl b X.env) fq) t1 i1 wi1)
    (h2 : ∀ (t : Shared) (G : Hp) (b : Addr) (kl : List (Str × Addr)) (fq : List Addr), PG (X.blk t G scope (compEnvC scope kl b X.env) fq) t1 g1) (h3 : ∀ (t : Shared) (G : Hp) (b : Addr) (kl : List (Str × Addr)) (fq : List Addr), PE (X.blk t G scope (compEnvC scope kl b X.env) fq) elt te)
    (hs : ∀ x, foldedSetIterable i0 X.env x = pure x := by intro _; rfl) (hs1 : ∀ env x, foldedSetIterable i1 env x = pure x := by intro _ _; rfl) : PE X (sc2 elt t0 i0 t1 i1 scope pos) (tSc2 X.w wi g wi1 g1 te (own.map (·.2)) vs1) := by
  refine ⟨fun pins s σ H Q I h => ?_⟩
  rw [PpSet.eval_SetComp]
  have hfree : ∀ y ∈ scope.names, y.2 = .free → ∃ c, X.env.cells.lookup y.1 = some c := fun y hy e => (ok.free y hy e).elim (fun z => I.ok.has _ (.inl z)) fun z => I.ok.has _ (.inr z)
  refine wpAny_comprehension_free (use := none) rfl hs (closure_ok hfree) ok.kind (fun y hy e => by rw [ok.uniq y hy, e]) (thn (hi.run pins s σ H _ I h) fun xv s1 hx => thn hx fun itv s2 hy => ?_)
  obtain ⟨it, fp, tn, J, H2, rfl, I2, T, st2, f2, q⟩ := hy
  refine PpSet.newSet_ok (newEnv_comp ?_)
  generalize eD : s2.heap.objs.size = D at *
  have nD : H2 D = none := I2.hok.fresh (Nat.le_of_eq eD)
  obtain ⟨W, ⟨m0, w0⟩, turn⟩ := q D nD
  generalize e3 : ({ s2 with heap := s2.heap.push { cls := .type "set", dict := none, data := .set #[] 0 (.fresh 0 0 (!X.w.params.followText "set-order")) } } : Shared) = s3
  have h3' : s3.heap = s2.heap.push { cls := .type "set", dict := none, data := .set #[] 0 (.fresh 0 0 (!X.w.params.followText "set-order")) } := by rw [← e3]
  have I3 : Inv X pins σ (upd H2 D (SetO X.w D (fun _ => false) 0)) s3 := by
    rw [← e3, ← eD]
    exact I2.laid (t' := s2.toks) (fun b o e => Heap.get?_push_of_some _ e) (Nat.le_refl _) (setO_new (setR_fresh X.w))
  have kp3 : ∀ b o, s2.heap.get? b = some o → s3.heap.get? b = some o := fun b o e => by rw [h3']; exact Heap.get?_push_of_some _ e
  have young : ∀ b ∈ fp, b < D := fun b hb => by
    obtain ⟨o, e, _⟩ := T.obj _ _ st2 b hb
    rw [← eD]
    exact Heap.lt_size e
  have f3 : ∀ b ∈ fp, FpOk X pins (upd H2 D (SetO X.w D (fun _ => false) 0)) b ∧ b < s3.heap.objs.size := fun b hb => by
    refine ⟨⟨?_, (f2 b hb).2⟩, by rw [h3', Heap.size_push, eD]; exact Nat.lt_succ_of_lt (young b hb)⟩
    rw [upd_ne (Nat.ne_of_lt (young b hb))]
    exact (f2 b hb).1
  have I4 := block_start I3 ok hN f3
  have p0 := h0 s3 (upd H2 D (SetO X.w D (fun _ => false) 0)) s3.heap.objs.size (cellsFrom (s3.heap.objs.size + 1) scope.names (cloFrom X.env.cells scope.names [])) fp
  have p1 := h1 s3 (upd H2 D (SetO X.w D (fun _ => false) 0)) s3.heap.objs.size (cellsFrom (s3.heap.objs.size + 1) scope.names (cloFrom X.env.cells scope.names [])) fp
  have p2 := h2 s3 (upd H2 D (SetO X.w D (fun _ => false) 0)) s3.heap.objs.size (cellsFrom (s3.heap.objs.size + 1) scope.names (cloFrom X.env.cells scope.names [])) fp
  have p3 := h3 s3 (upd H2 D (SetO X.w D (fun _ => false) 0)) s3.heap.objs.size (cellsFrom (s3.heap.objs.size + 1) scope.names (cloFrom X.env.cells scope.names [])) fp
  show codeAny _ _ (.compStart (sc2 elt t0 i0 t1 i1 scope pos) 0 (.ref it) (.ref D) (compEnvC scope (cellsFrom (s3.heap.objs.size + 1) scope.names (cloFrom X.env.cells scope.names [])) s3.heap.objs.size X.env)) (compPost (model X.prog X.w) X.A X.xe none _ (.ref D) s3.heap.objs.size) { s3 with heap := pushCells (s3.heap.push { cls := .type "dict", data := .dict #[] }) scope.names }
  have nfp : ∀ b ∈ fp, (upd H2 D (SetO X.w D (fun _ => false) 0)) b = none := fun b hb => (f3 b hb).1.1
  generalize ece : compEnvC scope (cellsFrom (s3.heap.objs.size + 1) scope.names (cloFrom X.env.cells scope.names [])) s3.heap.objs.size X.env = ce at I4 p0 p1 p2 p3 ⊢
  have cL : ce.locals = s3.heap.objs.size := by subst ece; rfl
  generalize eH3 : upd H2 D (SetO X.w D (fun _ => false) 0) = H3 at I3 I4 p0 p1 p2 p3 w0 nfp f3
  generalize e4 : ({ s3 with heap := pushCells (s3.heap.push { cls := .type "dict", data := .dict #[] }) scope.names } : Shared) = s4 at I4 ⊢
  have st4 : tn 0 s4.heap := T.keep _ _ _ st2 fun b _ o e => by rw [← e4]; exact pushCells_keeps _ _ _ _ (Heap.get?_push_of_some _ (kp3 _ _ e))
  have own0 : ∀ {σ' : L2.St} {H' : Hp} {s' : Shared}, Inv (X.blk s3 H3 scope ce fp) [] σ' H' s' → (∀ b ∈ fp, H' b = none) → ∀ b ∈ fp, FpOk (X.blk s3 H3 scope ce fp) [] H' b := fun {σ' H' s'} I' hn b hb =>
    ⟨hn b hb, (I'.ok.exf b hb).1, I'.ok.exfs b hb, .inl hb, fun x c e => (I'.ok.exf b hb).2 x c e, fun p hp => absurd (show p ∈ ([] : List (Addr × Obj)) ++ [] from hp) (by simp)⟩
  have loop : codeAny (model X.prog X.w) X.A (.compLoop (sc2 elt t0 i0 t1 i1 scope pos) 0 (.ref it) (.ref D) ce) (compPost (model X.prog X.w) X.A X.xe none (fun v s' => EP X pins σ Q v s') (.ref D) s3.heap.objs.size) s4 := by
    refine sLoop0 (hs1 ce) (fun n s' => ∃ i H', Inv (X.blk s3 H3 scope ce fp) [] (wipe σ (own.map (·.2))) H' s' ∧ tn i s'.heap ∧ (∀ b ∈ fp, H' b = none) ∧ W i n H') ?_ m0 ⟨0, H3, I4, st4, nfp, w0⟩
    rintro n s5 ⟨i, H5, I5, st5, n5, w5⟩
    rcases turn i n H5 w5 with ⟨stop, qq⟩ | ⟨go, Nx, hNx, step⟩
    · refine thnF (T.done (X.blk s3 H3 scope ce fp) rfl rfl rfl hc i [] s5 _ H5 (fun _ _ => False) I5 (own0 I5 n5) st5 stop) fun r s6 z => ?_
      obtain ⟨rfl, I6⟩ := z
      have I7 : Inv X pins σ H5 s6 := I3.call' (ch := fp) I6.os I6.base I6.hok I6.bare fun b hb => by
        obtain ⟨⟨_, z1, _, z3, z4, z5⟩, _⟩ := f3 b hb
        exact ⟨z3, z1, z4, z5⟩
      have nC : H5 ce.locals = none := I6.free
      obtain ⟨m, hn, _⟩ := I6.loc
      have hn : s6.heap.Ns ce.locals m := hn
      rw [cL] at nC hn
      have f := I3.fpOk (Nat.le_refl _) nC
      exact ⟨m, hn, fun h6 sb => ⟨.ref D, H5, I7.turned (t' := s6.toks) (fun b o hb e => (sb.2 b hb).trans e) f.1 f.2.1 f.2.2.2.1 f.2.2.2.2.1 f.2.2.2.2.2, rfl, qq⟩⟩
    · refine thnF (T.item (X.blk s3 H3 scope ce fp) rfl rfl rfl hc i [] s5 _ H5 (fun _ _ => False) I5 (own0 I5 n5) st5 go) fun r s6 z => ?_
      obtain ⟨u, rfl, h6⟩ := z
      refine thnF h6 fun _ s7 z => ?_
      obtain ⟨x, H7, I7, r7, y7, st7, n7⟩ := z
      have J7 := I7.pinned (own0 I7 n7) (T.obj _ _ st7)
      refine thnF (p0.run _ s7 _ H7 x u _ J7 r7 (step x H7 y7)) fun _ s8 z => ?_
      obtain ⟨σ8, H8, I8, hw8, q8⟩ := z
      have fin : ∀ {σ9 : L2.St} {s' : Shared} {H' : Hp}, Inv (X.blk s3 H3 scope ce fp) ([] ++ pinsAt fp s7.heap) σ9 H' s' → (wipe σ (own.map (·.2))).length = σ9.length → (∀ (j : Nat) v, (wipe σ (own.map (·.2)))[j]? = some (some v) → σ9[j]? = some (some v)) → Nx H' →
          ∃ m, m < n ∧ ∃ i H', Inv (X.blk s3 H3 scope ce fp) [] (wipe σ (own.map (·.2))) H' s' ∧ tn i s'.heap ∧ (∀ b ∈ fp, H' b = none) ∧ W i m H' := fun {σ9 s' H'} I' hl hk nx => by
        obtain ⟨m', hm, w'⟩ := hNx H' nx
        have kept : ∀ b ∈ fp, ∀ o, s7.heap.get? b = some o → s'.heap.get? b = some o ∧ H' b = none := fun b hb o e => by
          have z := I'.pin (b, o) (List.mem_append_right _ (List.mem_append_right _ (mem_pinsAt hb e)))
          exact ⟨z.1, z.2.1⟩
        refine ⟨m', hm, i + 1, H', (I'.unpinned (pins := [])).weak hl hk, T.keep _ _ _ st7 fun b hb o e => (kept b hb o e).1, fun b hb => ?_, w'⟩
        obtain ⟨o, e, _⟩ := T.obj _ _ st7 b hb
        exact (kept b hb o e).2
      have hk9 : ∀ (j : Nat) v, (wipe σ (own.map (·.2)))[j]? = some (some v) → (wipe σ8 vs1)[j]? = some (some v) := fun j v e => by
        rw [← hw8] at e
        obtain ⟨a1, a2⟩ := wipe_some e
        rw [wipe_out fun z => a2 (hv j z)]
        exact a1
      have hl9 : (wipe σ (own.map (·.2))).length = (wipe σ8 vs1).length := by rw [← hw8, wipe_length, wipe_length]
      refine thnF (p1.run _ s8 σ8 H8 _ I8 q8) fun xv s9 hx => thnF hx fun itv s10 z => ?_
      obtain ⟨it1, fp1, tn1, J1, H10, rfl, I10, T1, st10, f10, W1, ⟨m1, w1⟩, turn1⟩ := z
      have own1 : ∀ {H' : Hp}, (∀ b ∈ fp1, H' b = none) → ∀ b ∈ fp1, FpOk (X.blk s3 H3 scope ce fp) ([] ++ pinsAt fp s7.heap) H' b := fun hn b hb => ⟨hn b hb, (f10 b hb).2⟩
      have inner : codeAny (model X.prog X.w) X.A (.compLoop (sc2 elt t0 i0 t1 i1 scope pos) 1 (.ref it1) (.ref D) ce) (fun r s' => match r with
          | .ok _ => ∃ m, m < n ∧ ∃ i H', Inv (X.blk s3 H3 scope ce fp) [] (wipe σ (own.map (·.2))) H' s' ∧ tn i s'.heap ∧ (∀ b ∈ fp, H' b = none) ∧ W i m H'
          | .error _ => False) s10 := by
        refine sLoop1 (fun k s' => ∃ j H', Inv (X.blk s3 H3 scope ce fp) ([] ++ pinsAt fp s7.heap) (wipe σ8 vs1) H' s' ∧ tn1 j s'.heap ∧ (∀ b ∈ fp1, H' b = none) ∧ W1 j k H') ?_ m1 ⟨0, H10, I10.weak (wipe_length _ _) (fun j v e => (wipe_some e).1), st10, fun b hb => (f10 b hb).1, w1⟩
        rintro k s11 ⟨j, H11, I11, st11, n11, w11⟩
        rcases turn1 j k H11 w11 with ⟨stop1, nx1⟩ | ⟨go1, Nx1, hNx1, step1⟩
        · refine thnF (T1.done (X.blk s3 H3 scope ce fp) rfl rfl rfl hc j _ s11 (wipe σ8 vs1) H11 (fun _ _ => False) I11 (own1 n11) st11 stop1) fun r s12 z => ?_
          obtain ⟨rfl, I12⟩ := z
          exact fin I12 hl9 hk9 nx1
        · refine thnF (T1.item (X.blk s3 H3 scope ce fp) rfl rfl rfl hc j _ s11 (wipe σ8 vs1) H11 (fun _ _ => False) I11 (own1 n11) st11 go1) fun r s12 z => ?_
          obtain ⟨u1, rfl, h12⟩ := z
          refine thnF h12 fun _ s13 z => ?_
          obtain ⟨x1, H13, I13, r13, y13, st13, n13⟩ := z
          have J13 := I13.pinned (own1 n13) (T1.obj _ _ st13)
          refine thnF (p2.run _ s13 (wipe σ8 vs1) H13 x1 u1 _ J13 r13 (step1 x1 H13 y13)) fun _ s14 z => ?_
          obtain ⟨σ14, H14, I14, hw14, q14⟩ := z
          refine thnF (p3.run _ s14 σ14 H14 _ I14 q14) fun v s15 z => ?_
          obtain ⟨yv, H15, I15, r15, c, S, nn, rfl, hD15, few, nx⟩ := z
          refine thnF (mt_sadd (X := X.blk s3 H3 scope ce fp) _ s15 σ14 H15 (.ref D) [.int c] (.ref D) [v] (fun _ H' => H' = upd H15 D (SetO X.w D (fun j => S j || decide (j = c)) (if S c = true then nn else nn + 1))) I15 rfl (.cons r15 .nil) ⟨D, c, S, nn, rfl, rfl, hD15, few, rfl⟩) fun _ s16 z => ?_
          obtain ⟨_, _, I16, _, rfl⟩ := z
          obtain ⟨m', hm, w'⟩ := hNx1 _ nx
          have kept : ∀ b ∈ fp1, ∀ o, s13.heap.get? b = some o → s16.heap.get? b = some o ∧ upd H15 D (SetO X.w D (fun j => S j || decide (j = c)) (if S c = true then nn else nn + 1)) b = none := fun b hb o e => by
            have z := I16.pin (b, o) (List.mem_append_right _ (List.mem_append_right _ (mem_pinsAt hb e)))
            exact ⟨z.1, z.2.1⟩
          refine ⟨m', hm, j + 1, _, I16.unpinned.weak (by rw [← hw14, wipe_length]) (fun j v e => by rw [← hw14] at e; exact (wipe_some e).1), T1.keep _ _ _ st13 fun b hb o e => (kept b hb o e).1, fun b hb => ?_, w'⟩
          obtain ⟨o, e, _⟩ := T1.obj _ _ st13 b hb
          exact (kept b hb o e).2
      exact sStart1 (T1.self X.A 0 _ _ _ st10 inner) inner
  exact PpSet.codeAny_compStart_set loop (T.self X.A 0 _ _ _ st4 loop)
end
end KH

/-! KH7: rules whose readings name the world, for use within a comprehension's block. -/
namespace KH
open PySem PySem.Spec PyProof.Rows L2
section
variable {X : Cx}
theorem cr_sortedW (w : World) (hw : X.w = w) (hc : X.calm = true) : CallR X (.builtin "sorted") (rSortedSet w) := by
  subst hw
  exact cr_sortedSet hc
theorem cr_setW (K : PySem.W.Frag) (w : World) (hK : X.K = K) (hw : X.w = w) (hc : X.calm = true) : CallR X (.type "set") (KT.rSetOfI K w) := by
  subst hK hw
  exact KT.cr_setOfI hc
/-- tuple(xs) -/
def rTupleOf (K : PySem.W.Frag) : List V → Hp → VK → Prop := fun xs H Q => ∃ (p : Addr) (ys : List V), xs = [.ref p] ∧ ((SqL K H p ys ∧ ∀ l, H l = none → Q (.ref l) (upd H l (.tup ys))) ∨ (SqT K H p ys ∧ Q (.ref p) H))
theorem call_tupleW (K : PySem.W.Frag) (hK : X.K = K) : CallR X (.type "tuple") (rTupleOf K) := by
  subst hK
  exact call_tuple_of
theorem op_catW (K : PySem.W.Frag) (hK : X.K = K) : OpR X (binaryOp .Add) (rCatA K) := by
  subst hK
  exact op_catA
theorem pe_sc2W {elt t0 i0 t1 i1 : Expr} {scope : Scope} {pos : Pos} {wi wi1 : TI} {g g1 : TG} {te : TE} {vs vs1 : List Nat} (w : World) (hw : X.w = w) (h : PE X (sc2 elt t0 i0 t1 i1 scope pos) (tSc2 X.w wi g wi1 g1 te vs vs1)) : PE X (sc2 elt t0 i0 t1 i1 scope pos) (tSc2 w wi g wi1 g1 te vs vs1) := by
  subst hw
  exact h
end
end KH

/-! KH8: t[::-1] of a tuple; o op p of two own objects of one class. -/
namespace KH
open PySem PySem.Spec PyProof.Rows L2 KB KG KO KY KR
section
variable {prog : Program} {w : World} {A : Around} {E : Value → Shared → Prop} {s : Shared}
theorem sliceApplied_back {sl : Addr} {vs : Value} {n : Nat} {Q : Int × Int × Nat → Shared → Prop} (hs : s.heap.IsSliceOf sl .none .none vs) (pv : IsPart vs (some (-1))) (h : Q ((n : Int) - 1, -1, n) s) : wpAny (model prog w) A (Builtin.Slice.sliceApplied (.ref sl) (pure (n : Int))) Q E s := by
  obtain ⟨os, hos, hcs, hds⟩ := id hs
  unfold Builtin.Slice.sliceApplied Builtin.Slice.sliceFields
  refine wpAny_bind (wpAny_bind (wpAny_field hos hds (x := .none) rfl (wpAny_bind (wpAny_field hos hds (x := .none) rfl (wpAny_bind (wpAny_field hos hds (x := vs) rfl (wpAny_pure ?_)))))))
  refine wpAny_bind (HT.slicePart_ pv ?_)
  show wpAny _ _ (if ((-1 : Int) == 0) = true then _ else _) _ _ s
  rw [if_neg (by decide)]
  refine wpAny_bind (HT.slicePart_ .none (wpAny_bind (HT.slicePart_ .none (wpAny_bind (wpAny_pure ?_)))))
  refine wpAny_pure ?_
  have e : Builtin.Slice.slicePlaces ((n : Int) - 1) (-1) (-1) = n := by
    unfold Builtin.Slice.slicePlaces
    have h1 : ¬ (-1 : Int) > 0 := by omega
    simp only [h1, if_false]
    first
      | omega
      | (split <;> omega)
      | (simp; omega)
  show Q ((n : Int) - 1, -1, Builtin.Slice.slicePlaces ((n : Int) - 1) (-1) (-1)) s
  rw [e]
  exact h
theorem pick_back (xs : List Value) : ((List.range xs.length).filterMap fun (m : Nat) => xs.toArray[(((xs.length : Int) - 1) + (m : Int) * (-1)).toNat]?) = xs.reverse := by
  have e : ∀ m ∈ List.range xs.length, xs.toArray[(((xs.length : Int) - 1) + (m : Int) * (-1)).toNat]? = xs.reverse[m]? := fun m hm => by
    have hm := List.mem_range.mp hm
    have e1 : (((xs.length : Int) - 1) + (m : Int) * (-1)).toNat = xs.length - 1 - m := by omega
    rw [e1, List.getElem?_toArray, List.getElem?_reverse hm]
  have cg : ∀ (l : List Nat) (f g : Nat → Option Value), (∀ m ∈ l, f m = g m) → l.filterMap f = l.filterMap g := by
    intro l f g h
    induction l with
    | nil => rfl
    | cons m l ih => rw [List.filterMap_cons, List.filterMap_cons, h m List.mem_cons_self, ih fun k z => h k (List.mem_cons_of_mem _ z)]
  rw [cg _ _ _ e]
  have l : xs.length = xs.reverse.length := by simp
  rw [l]
  generalize xs.reverse = ys
  clear e l cg
  induction ys with
  | nil => rfl
  | cons y ys ih =>
    rw [List.length_cons, List.range_succ_eq_map, List.filterMap_cons]
    simp only [List.getElem?_cons_zero]
    rw [List.filterMap_map]
    congr 1
theorem getItem_tuple_back {t sl : Addr} {items : Array Value} {vs : Value} {Q : Value → Shared → Prop} (ht : IsTup s.heap t items) (hs : s.heap.IsSliceOf sl .none .none vs) (pv : IsPart vs (some (-1)))
    (h : Q (.ref s.heap.objs.size) { s with heap := s.heap.push { cls := .type "tuple", data := .seq items.toList.reverse.toArray } }) (hsz : items.size ≤ sizeLine) : wpAny (model prog w) A (getItem (.ref t) (.ref sl)) Q E s := by
  have htake : sizeOk (.seq items.toList.reverse.toArray) := by
    show items.toList.reverse.toArray.size ≤ sizeLine
    rw [List.size_toArray, List.length_reverse, Array.length_toList]
    exact hsz
  obtain ⟨os, hos, hcs, hds⟩ := id hs
  have hTs : s.TypeIs (.ref sl) "slice" := ⟨os, hos, hcs⟩
  unfold getItem
  try with_reducible refine wpAny_holding ?_
  first | refine wpAny_bind (wpAny_pure ?_) | skip
  refine wpAny_bind (wpAny_sequenceKey ht.typeIs (by decide) ?_)
  refine wpAny_bind (wpAny_callSpecial?_slot (name := Str.ofString "__getitem__") ht.typeIs PyProof.Rows.slot_tuple_getitem
    (wpAny_call_entry PyProof.Rows.slot_tuple_getitem ht.typeIs entry_tuple_getitem ?_ (args_tuple_getitem _ _)))
  show wpAny _ _ (Builtin.Tuple.tupleItemsOf (.ref t) >>= _) _ _ s
  refine wpAny_bind (tupleItemsOf_ ht ?_)
  refine wpAny_bind (wpAny_typeOf hTs ?_)
  rw [if_pos (by decide)]
  refine wpAny_bind (sliceApplied_back hs pv ?_)
  have hno : ¬ ((((items.size : Int) - 1) == 0 && (-1 : Int) == 1 && items.size == items.size) = true) := by
    intro q
    rw [Bool.and_eq_true, Bool.and_eq_true] at q
    exact absurd q.1.2 (by decide)
  show wpAny _ _ (if (((items.size : Int) - 1) == 0 && (-1 : Int) == 1 && items.size == items.size) = true then _ else _) _ _ s
  rw [if_neg hno]
  have ep := pick_back items.toList
  rw [Array.length_toList] at ep
  have e2 : items.toList.toArray = items := by simp
  rw [e2] at ep
  rw [ep]
  first
    | exact wpAny_bind (m := Builtin.Tuple.tupleExact _) (wpAny_newObj_type (wpAny_pure ⟨_, rfl, wpAny_pure h⟩) htake)
    | exact wpAny_bind (m := Builtin.Tuple.tupleExact _) (wpAny_newObj_type (wpAny_bind (wpAny_pure (wpAny_pure ⟨_, rfl, wpAny_pure h⟩))) htake)
    | exact wpAny_bind (wpAny_bind (m := Builtin.Tuple.tupleExact _) (wpAny_newObj_type (wpAny_pure (wpAny_pure ⟨_, rfl, wpAny_pure h⟩)) htake))
    | exact wpAny_bind (wpAny_bind (m := Builtin.Tuple.tupleExact _) (wpAny_newObj_type (wpAny_pure ⟨_, rfl, wpAny_pure h⟩) htake))
end
section
variable {X : Cx}
def tRevT (K : PySem.W.Frag) (te : TE) : TE := fun σ H Q => te σ H fun x H1 => ∃ a xs, x = .ref a ∧ SqT K H1 a xs ∧ ∀ p, H1 p = none → Q (.ref p) (upd H1 p (.tup xs.reverse))
theorem pe_revT {e : Expr} {te : TE} {k : Nat} {p1 p2 p3 pos : Pos} (he : PE X e te) : PE X (.Subscript e (.Slice none none (some (.UnaryOp .USub (.Constant (.int 1) k p1) p2)) p3) pos) (tRevT X.K te) := by
  refine ⟨fun pins s σ H Q I h => ?_⟩
  refine Subscript_ (thn (he.run pins s σ H _ I h) fun v s1 ⟨x, H1, I1, r1, q1⟩ => ?_)
  obtain ⟨a, xs, ex, hx, q⟩ := q1
  subst ex
  cases r1
  have hst : PO X (some (.UnaryOp .USub (.Constant (.int 1) k p1) p2)) (tPart (tUn (rU fun i => .int (-i)) (tC (.int 1)))) := po_some (pe_un un_neg pe_int)
  refine wpAny_Slice (thn (po_none.run pins s1 σ H1 (fun o H2 => o = none ∧ H2 = H1) I1 ⟨rfl, rfl⟩) fun vl s2 ⟨l, H2, I2, pl, el, e2⟩ => ?_)
  subst el e2
  refine thn (po_none.run pins s2 σ H2 (fun o H3 => o = none ∧ H3 = H2) I2 ⟨rfl, rfl⟩) fun vu s3 ⟨u, H3, I3, pu, eu, e3⟩ => ?_
  subst eu e3
  refine thn (hst.run pins s3 σ H3 (fun o H4 => o = some (-1) ∧ H4 = H3) I3 ⟨1, rfl, -1, rfl, rfl, rfl⟩) fun vs s4 ⟨o, H4, I4, ps, eo, e4⟩ => ?_
  subst eo e4
  cases pl
  cases pu
  have I5 : Inv X pins σ H4 { s4 with heap := s4.heap.push { cls := .type "slice", data := .fields #[.none, .none, vs] } } := I4.kept (t' := s4.toks) fun b ob q => Heap.get?_push_of_some _ q
  obtain ⟨its, r, ht, hz⟩ := I5.tuple hx
  have hlen := r.length
  show wpAny (model X.prog X.w) X.A (subscriptTail e (.Slice none none (some (.UnaryOp .USub (.Constant (.int 1) k p1) p2)) p3) (.ref a) (.ref s4.heap.objs.size)) (EP X pins σ Q) X.xe { s4 with heap := s4.heap.push { cls := .type "slice", data := .fields #[.none, .none, vs] } }
  refine tail_any (ops := [.ref a, .ref s4.heap.objs.size]) ht.typeIs (PyProof.Rows.slot_tuple_getitem.lookup) ?_ (by with_unfolding_all rfl)
  refine getItem_tuple_back ht (Heap.IsSliceOf.new _ .none .none vs) ps ?_ (by rw [List.size_toArray]; omega)
  refine ⟨.ref _, _, I5.laid (t' := s4.toks) (o := .tup xs.reverse) (fun b ob q => Heap.get?_push_of_some _ q) (Nat.le_refl _) ?_, rfl, q _ (I5.hok.fresh (Nat.le_refl _))⟩
  exact ⟨by rw [List.length_reverse]; exact hz, _, r.reverse, IsTup.new _ _⟩
end
section
variable {X : Cx}
theorem ix_tupW (K : PySem.W.Frag) (hK : X.K = K) : IxR X (rIxT K) := by
  subst hK
  exact ix_tup
theorem ix_listW (K : PySem.W.Frag) (hK : X.K = K) : IxR X (rIxL K) := by
  subst hK
  exact ix_list
theorem pe_fldW (K : PySem.W.Frag) (hK : X.K = K) {e : Expr} {te : TE} {pos : Pos} {n : Str} (he : PE X e te) (hb : attributeBase e n X.env (eval e X.env) = eval e X.env) : PE X (.Attribute e n pos) (tFld K te n) := by
  subst hK
  exact pe_fld he hb
end
/-! ### o op p, both of one class -/
section
variable {prog : Program} {w : World} {A : Around} {E : Value → Shared → Prop} {s : Shared} {K : PySem.W.Frag} {x y C L g : Addr} {hb : Heap} {m : Str → Option Value} {ox oy : Obj} {od od2 : Option Obj}
open PySem.W in
theorem bin_own {op : Operator} {Z : Value → Shared → Prop} (F : Fr hb L s.heap m) (X0 : K.In hb) (I : InstAt s.heap x ox C od) (J : InstAt s.heap y oy C od2) (c1 : selfFirst K C = true)
    (c2 : findIn K (.ref C) (PySem.dunder op.info.2) = some (some (.ref g))) (c3 : isFn K (.ref g) = true)
    (go : wpAny (model prog w) A (call (.ref g) [.ref x, .ref y]) (PySem.W.CmpBack Z) E s) : wpAny (model prog w) A (binaryOp op (.ref x) (.ref y)) Z E s := by
  have XK := X0.keeps F.keep
  obtain ⟨cd, rest, hcd, hmro⟩ := ksp_first c1
  rcases oi : op.info with ⟨sy, n1⟩
  rw [oi] at c2
  dsimp only at c2
  have once := ksp_try XK I c2 c3 go
  obtain ⟨sh, sg, sd, stk, sos⟩ := s
  have k1 : Looks (model prog w) sh (typeOf (.ref x)) (.ref C) := I.type
  have k2 : Looks (model prog w) sh (typeOf (.ref y)) (.ref C) := J.type
  have k3 : Looks (model prog w) sh (fillsNumberSlot (.ref C) n1) true := fills_K XK hcd hmro c2
  have nq : (Value.ref C == Value.ref C) = true := beq_self_eq_true _
  simp only [binaryOp, oi]
  refine wpAny_holding (wpAny_bind ?_)
  unfold binaryOp1
  refine wpAny_bind (k1.at (wpAny_bind (k2.at (wpAny_bind (k3.at ?_)))))
  simp only [nq, Bool.false_eq_true, if_false, if_true]
  ksp_lk
  refine wpAny_mono once (fun r s' y => ?_) fun _ _ e => e
  obtain ⟨v', rfl, hq⟩ := y
  ksp_lk
  exact hq
end
structure OwnB2 (P : Program) (w : World) (K : PySem.W.Frag) (mg : Str → Option Value) (base : Heap) (CX : CXT) (k : Nat) (C : Addr) (op : Operator) (ps : List Str) (sp : Sp) : Prop where
  ex : ∃ (g : Addr) (fd : FuncData), PySem.W.selfFirst K C = true ∧ PySem.W.findIn K (.ref C) (PySem.dunder op.info.2) = some (some (.ref g)) ∧ PySem.W.isFn K (.ref g) = true ∧ FnOk P w K mg base CX k g fd ps sp ∧ Binds K fd ps []
def rBin2 (C : Addr) (sp : Sp) (E : XK) : R2 := fun x y H Q => ∃ (a dx : Addr) (fs : List (Str × V)) (b dy : Addr) (gs : List (Str × V)), x = .ref a ∧ H a = some (.ins C dx fs) ∧ y = .ref b ∧ H b = some (.ins C dy gs) ∧ sp [x, y] H Q E
theorem op_bin2 {X : Cx} {CX : CXT} {E : XK} {C : Addr} {op : Operator} {ps : List Str} {sp : Sp} {n : Nat} (c : OwnB2 X.prog X.w X.K X.mg X.base CX n C op ps sp) (room : Room n X.A) (pass : Passes CX X E) : OpR X (binaryOp op) (rBin2 C sp E) := by
  obtain ⟨g, fd, c1, c2, c3, F, bind⟩ := c.ex
  intro pins st σ h x y v u Z inv rx ry pre
  obtain ⟨a, dx, fs, b, dy, gs, rfl, ha, rfl, hb, z⟩ := pre
  obtain rfl : v = Value.ref a := rx
  obtain rfl : u = Value.ref b := ry
  obtain ⟨oo, J⟩ := inst_of inv ha
  obtain ⟨oo2, J2⟩ := inst_of inv hb
  obtain ⟨m, hF⟩ := inv.fr
  refine bin_own hF inv.ok.mod.kin J J2 c1 c2 c3 ?_
  refine wpAny_mono (run_fn (us := [.ref a, .ref b]) (vs := [.ref a, .ref b]) F room bind .nil pass inv (.cons rfl (.cons rfl .nil)) z) (fun w s2 r => ?_) fun _ _ z => z
  obtain ⟨z', h2, inv2, rz, qz⟩ := r
  exact SlX.cmpback rz ⟨z', h2, inv2, rz, qz⟩
end KH

/-! KH9: a dict whose keys are nested tuples, all its values True: the display of one pair, in, d[k] = True. -/
namespace KH
open PySem PySem.Spec PyProof.Rows L2 KB KG KO KY
mutual
/-- the value is the nested key -/
inductive NK (H : Hp) : V → NestedKey → Prop
  | int (i : Int) : NK H (.int i) (.num i)
  | str (x : Str) : NK H (.str x) (.text x)
  | tup {a : Addr} {xs : List V} {ks : List NestedKey} (h : H a = some (.tup xs)) (r : NKs H xs ks) : NK H (.ref a) (.tup ks)
inductive NKs (H : Hp) : List V → List NestedKey → Prop
  | nil : NKs H [] []
  | cons {x : V} {k : NestedKey} {xs : List V} {ks : List NestedKey} (h : NK H x k) (r : NKs H xs ks) : NKs H (x :: xs) (k :: ks)
end
section
variable {X : Cx} {pins : List (Addr × Obj)} {σ : L2.St} {H : Hp} {s : Shared}
mutual
theorem nk_is (I : Inv X pins σ H s) : ∀ (k : NestedKey) (v : V) (u : Value), NK H v k → RelV v u → NestedIs s.heap k u
  | .none, _, _, h, _ => by cases h
  | .num i, _, _, h, r => by
    cases h
    obtain ⟨t, rfl⟩ := (show ∃ t, _ = Value.int i t from r)
    exact .int i t
  | .text x, _, _, h, r => by
    cases h
    obtain ⟨t, rfl⟩ := (show ∃ t, _ = Value.str x t from r)
    exact .text x t
  | .tup ks, _, _, h, r => by
    cases h with
    | @tup a xs _ h g =>
      obtain rfl := (show _ = Value.ref a from r)
      obtain ⟨its, rv, ⟨ob, ho, hc, n, hd⟩, _⟩ := I.tuple (SqT.of h)
      exact .tup ho hc hd (by rw [List.toList_toArray]; exact nks_is I ks xs its g rv)
theorem nks_is (I : Inv X pins σ H s) : ∀ (ks : List NestedKey) (xs : List V) (us : List Value), NKs H xs ks → Vals xs us → NestedAll s.heap ks us
  | [], _, _, h, r => by
    cases h
    cases r
    exact .nil
  | k :: ks, _, _, h, r => by
    cases h with
    | cons h1 h2 =>
      cases r with
      | cons r1 r2 => exact .cons (nk_is I k _ _ h1 r1) (nks_is I ks _ _ h2 r2)
end
mutual
theorem NK.upT {H' : Hp} (s : ∀ a xs, H a = some (.tup xs) → H' a = some (.tup xs)) : ∀ (k : NestedKey) (v : V), NK H v k → NK H' v k
  | .none, _, h => by cases h
  | .num i, _, h => by cases h; exact .int i
  | .text x, _, h => by cases h; exact .str x
  | .tup ks, _, h => by
    cases h with
    | tup h g => exact .tup (s _ _ h) (NKs.upT s ks _ g)
theorem NKs.upT {H' : Hp} (s : ∀ a xs, H a = some (.tup xs) → H' a = some (.tup xs)) : ∀ (ks : List NestedKey) (xs : List V), NKs H xs ks → NKs H' xs ks
  | [], _, h => by cases h; exact .nil
  | k :: ks, _, h => by
    cases h with
    | cons h1 h2 => exact .cons (NK.upT s k _ h1) (NKs.upT s ks _ h2)
end
theorem NK.up {H' : Hp} {v : V} {k : NestedKey} (h : NK H v k) (s : Same H H') : NK H' v k := h.upT (fun a xs e => s _ _ e) k v
theorem NK.sn {H' : Hp} {v : V} {k : NestedKey} (h : NK H v k) (s : KD.SameN H H') : NK H' v k := h.upT (fun a xs e => s.tup e) k v
end
/-! ### the dict -/
def fullN (xs : List (NestedKey × Addr)) : List (NestedKey × Addr × Value) := xs.map fun p => (p.1, p.2, .bool true)
def DNo (P : Program) (w : World) (a : Addr) (xs : List (NestedKey × Addr)) : HO := .ext fun h => (a == sysModules) = false ∧ xs.length ≤ sizeLine ∧
  ∃ o es ep, h.get? a = some o ∧ o.ExactDict ∧ o.data = .dict es ep ∧ es.toList = (fullN xs).map (entryOfKey (nestedKind P w)) ∧ (xs.map (·.1)).Nodup
/-- at a stands the dict of these keys -/
def DN (P : Program) (w : World) (H : Hp) (a : Addr) (xs : List (NestedKey × Addr)) : Prop := H a = some (DNo P w a xs) ∧ ∀ x ∈ xs, NK H (.ref x.2) x.1 ∧ x.1.depth ≤ 8
theorem DN.up {P : Program} {w : World} {H H' : Hp} {a : Addr} {xs : List (NestedKey × Addr)} (h : DN P w H a xs) (s : Same H H') : DN P w H' a xs := ⟨s _ _ h.1, fun x m => ⟨(h.2 x m).1.up s, (h.2 x m).2⟩⟩
theorem fullN_keys (xs : List (NestedKey × Addr)) : (fullN xs).map (·.1) = xs.map (·.1) := by
  unfold fullN
  rw [List.map_map]
  rfl
theorem fullN_len (xs : List (NestedKey × Addr)) : (fullN xs).length = xs.length := List.length_map _
theorem atKey_full (xs : List (NestedKey × Addr)) (k : NestedKey) : (atKey (fullN xs) k).isSome = decide (k ∈ xs.map (·.1)) := by
  unfold atKey
  rw [Option.isSome_map]
  by_cases h : k ∈ xs.map (·.1)
  · rw [decide_eq_true h]
    obtain ⟨x, m, rfl⟩ := List.mem_map.mp h
    rw [List.find?_isSome]
    exact ⟨(x.1, x.2, .bool true), List.mem_map.mpr ⟨x, m, rfl⟩, decide_eq_true rfl⟩
  · rw [decide_eq_false h]
    have e : (fullN xs).find? (fun x => decide (x.1 = k)) = none := by
      rw [List.find?_eq_none]
      intro y my
      obtain ⟨x, m, rfl⟩ := List.mem_map.mp my
      intro z
      exact h (List.mem_map.mpr ⟨x, m, of_decide_eq_true z⟩)
    rw [e]
    rfl
section
variable {P : Program} {w : World} {H : Hp} {h : Heap} {a : Addr} {xs : List (NestedKey × Addr)}
theorem dno_ok (lo : (a == sysModules) = false) (hl : xs.length ≤ sizeLine) (hd : ∃ o es ep, h.get? a = some o ∧ o.ExactDict ∧ o.data = .dict es ep ∧ es.toList = (fullN xs).map (entryOfKey (nestedKind P w)) ∧ (xs.map (·.1)).Nodup) : ObjOk P w H h a (DNo P w a xs) := by
  refine ⟨⟨lo, hl, hd⟩, ?_, fun h1 h2 p k => ?_⟩
  · obtain ⟨o, _, _, e, _⟩ := hd
    exact ⟨o, e⟩
  · obtain ⟨q1, q2, o, es, ep, e, q⟩ := p
    exact ⟨q1, q2, o, es, ep, k o e, q⟩
theorem dno_at (ok : HOk P w H h) (e : H a = some (DNo P w a xs)) : (a == sysModules) = false ∧ xs.length ≤ sizeLine ∧ ∃ o es ep, h.get? a = some o ∧ o.ExactDict ∧ o.data = .dict es ep ∧ es.toList = (fullN xs).map (entryOfKey (nestedKind P w)) ∧ (xs.map (·.1)).Nodup :=
  (show ObjOk P w H h a (DNo P w a xs) from ok a _ e).1
end
section
variable {X : Cx} {pins : List (Addr × Obj)} {σ : L2.St} {H : Hp} {s : Shared} {a : Addr} {xs : List (NestedKey × Addr)}
theorem dn_raw (I : Inv X pins σ H s) (d : DN X.prog X.w H a xs) : (a == sysModules) = false ∧ xs.length ≤ sizeLine ∧ s.heap.DictOfH (nestedKind X.prog X.w) a (fullN xs) := by
  obtain ⟨q1, q2, o, es, ep, h1, h2, h3, h4, h5⟩ := dno_at I.hok d.1
  refine ⟨q1, q2, o, es, ep, h1, h2, h3, h4, fun y m => ?_, by rw [fullN_keys]; exact h5⟩
  obtain ⟨x, mx, rfl⟩ := List.mem_map.mp m
  obtain ⟨n1, n2⟩ := d.2 x mx
  exact ⟨nk_is I _ _ _ n1 rfl, n2⟩
end
def tNNotIn (P : Program) (w : World) (ty td : TE) : TE := fun σ H Q => ty σ H fun y H1 => td σ H1 fun x H2 => ∃ (a b : Addr) (xs : List (NestedKey × Addr)) (k : NestedKey), x = .ref a ∧ y = .ref b ∧ DN P w H2 a xs ∧ NK H2 (.ref b) k ∧ k.depth ≤ 8 ∧ Q (.bl (!decide (k ∈ xs.map (·.1)))) H2
def sNPut (P : Program) (w : World) (td ty tv : TE) : TS := fun D σ H => tv σ H fun v H1 => td σ H1 fun x H2 => ty σ H2 fun y H3 => ∃ (a b : Addr) (xs : List (NestedKey × Addr)) (k : NestedKey), x = .ref a ∧ y = .ref b ∧ v = .bl true ∧ DN P w H3 a xs ∧ NK H3 (.ref b) k ∧ k.depth ≤ 8 ∧ k ∉ xs.map (·.1) ∧ xs.length < sizeLine ∧ D.nx σ (upd H3 a (DNo P w a (xs ++ [(k, b)])))
def tND1 (P : Program) (w : World) (tk tv : TE) : TE := fun σ H Q => ∀ p, H p = none → tk σ (upd H p (DNo P w p [])) fun y H1 => tv σ H1 fun v H2 => ∃ (b : Addr) (k : NestedKey), y = .ref b ∧ v = .bl true ∧ H2 p = some (DNo P w p []) ∧ NK H2 (.ref b) k ∧ k.depth ≤ 8 ∧ Q (.ref p) (upd H2 p (DNo P w p [(k, b)]))
/-- behind d[k] = True, k new -/
theorem DN.push {P : Program} {w : World} {H : Hp} {a b : Addr} {xs : List (NestedKey × Addr)} {k : NestedKey} (d : DN P w H a xs) (n : NK H (.ref b) k) (dk : k.depth ≤ 8) : DN P w (upd H a (DNo P w a (xs ++ [(k, b)]))) a (xs ++ [(k, b)]) := by
  have tu : ∀ c ys, H c = some (.tup ys) → upd H a (DNo P w a (xs ++ [(k, b)])) c = some (.tup ys) := fun c ys e => by
    rw [upd_ne (fun z => by rw [z, d.1] at e; cases e)]
    exact e
  refine ⟨upd_same, fun x m => ?_⟩
  rcases List.mem_append.mp m with m | m
  · exact ⟨(d.2 x m).1.upT tu _ _, (d.2 x m).2⟩
  · rw [List.mem_singleton.mp m]
    exact ⟨n.upT tu _ _, dk⟩
section
variable {prog : Program} {w : World} {K : Type} [DecidableEq K] {knd : HeapKind prog w K} {A : Around} {E : Value → Shared → Prop} {s : Shared}
theorem dict_disp {env : Env} {keys : List (Option Expr)} {values : List Expr} {pos : Pos} {pairs : List (Sem Value × Sem Value)} {Q : Value → Shared → Prop} (hu : knd.room A)
    (hshape : (evalEachOpt keys env).zip ((evalEach values env).map fun v => do let x ← v; standAt pos; pure x) = pairs.map fun p => (some p.1, p.2)) (h0 : pairs ≠ []) (hlen : pairs.length ≤ 15)
    (h : wpAny (model prog w) A (evalPairs pairs) (fun vs s₁ => ∃ ps, CarriesH knd s₁.heap vs ps ∧ s₁.heap.DictOfH knd s.heap.objs.size [] ∧
      ∀ h' tk, h'.DictOfH knd s.heap.objs.size (storedAllH [] ps) → Heap.SameBut s.heap.objs.size s₁.heap h' → Q (.ref s.heap.objs.size) { s₁ with heap := h', toks := tk }) E
      { s with heap := s.heap.push { cls := .type "dict", data := .dict #[] } }) :
    wpAny (model prog w) A (eval (.Dict keys values pos) env) Q E s := by
  rw [arm_eval_Dict, hshape, dictDisplay_pairs pairs h0 (by omega)]
  exact wpAny_bind (wpAny_standAt (wpAny_bind (wpAny_subDictH (knd := knd) (Q := fun d s' => wpAny (model prog w) A (pure (Value.ref d)) Q E s') hu hlen
    (wpAny_mono h (fun vs s₁ h₁ => by obtain ⟨ps, hc, hm, hq⟩ := h₁; exact ⟨ps, hc, hm, fun h' tk a b => wpAny_pure (hq h' tk a b)⟩) fun _ _ e => e))))
end
theorem hu9 {A : Around} {k : Nat} (hr : Room k A) : A.units + 9 < cLine := by have := hr.un; omega
section
variable {X : Cx}
theorem pc_nnotin {i o : Expr} {ty td : TE} (hu : X.A.units + 9 < cLine) (hi : PE X i ty) (ho : PE X o td) : PC X .NotIn i o (tNNotIn X.prog X.w ty td) := by
  refine ⟨fun pins s σ H Q I h => ?_⟩
  refine thn (hi.run pins s σ H _ I h) fun iv s1 ⟨y, H1, I1, ry, q1⟩ => thn (ho.run pins s1 σ H1 _ I1 q1) fun u s2 ⟨x, H2, I2, rx, a, b, xs, k, ex, ey, g, nk, dk, q2⟩ => ?_
  subst ex ey
  obtain rfl : u = Value.ref a := rx
  obtain rfl : iv = Value.ref b := ry
  obtain ⟨lo, _, dd⟩ := dn_raw I2 g
  refine wpAny_notIn_heap (knd := nestedKind X.prog X.w) (k := k) (show X.A.units + 1 + 8 < cLine by omega) ⟨nk_is I2 _ _ _ nk rfl, dk⟩ lo dd ?_
  rw [atKey_full]
  exact ⟨.bl _, H2, I2.tok _, rfl, q2⟩
theorem ps_nput {o i value : Expr} {td ty tv : TE} {pos pos' : Pos} (hu : X.A.units + 9 < cLine) (ho : PE X o td) (hi : PE X i ty) (hv : PE X value tv) (hs : swapsWith value (some (.Subscript o i pos')) pos.line X.env = pure false) :
    PS X (.Assign [.Subscript o i pos'] value pos) (sNPut X.prog X.w td ty tv) := by
  refine ⟨fun pins s σ H D I h => ?_⟩
  refine wpAny_Assign_Subscript (thn (hv.run pins s σ H _ I h) fun r s1 ⟨v, H1, I1, rv, q1⟩ => thn (ho.run pins s1 σ H1 _ I1 q1) fun u s2 ⟨x, H2, I2, rx, q2⟩ => thn (hi.run pins s2 σ H2 _ I2 q2) fun iv s3 ⟨y, H3, I3, ry, a, b, xs, k, ex, ey, ev, g, nk, dk, new, hl, q3⟩ => ?_) hs
  subst ex ey ev
  obtain rfl : u = Value.ref a := rx
  obtain rfl : iv = Value.ref b := ry
  obtain rfl : r = Value.bool true := rv
  obtain ⟨lo, _, dd⟩ := dn_raw I3 g
  refine wpAny_setItem_heap (knd := nestedKind X.prog X.w) (k := k) (show X.A.units + 1 + 8 < cLine by omega) ⟨nk_is I3 _ _ _ nk rfl, dk⟩ dd (fun h' dd' hsb => ?_) (by rw [fullN_len]; omega)
  have e0 : atKey (fullN xs) k = none := by
    have z := atKey_full xs k
    rw [decide_eq_false new] at z
    cases e : atKey (fullN xs) k with
    | none => rfl
    | some q => rw [e] at z; cases z
  rw [storedH_new e0] at dd'
  have ef : fullN xs ++ [(k, b, Value.bool true)] = fullN (xs ++ [(k, b)]) := by
    unfold fullN
    rw [List.map_append]
    rfl
  rw [ef] at dd'
  obtain ⟨q, es, ep, hq, h2, h3, h4, _, h5⟩ := dd'
  rw [fullN_keys] at h5
  refine ⟨σ, _, d_write I3 (by rw [g.1]; exact True.intro) hsb ⟨q, hq⟩ (dno_ok lo (by rw [List.length_append, List.length_singleton]; omega) ⟨q, es, ep, hq, h2, h3, h4, h5⟩), q3⟩
theorem pe_nd1 {ke ve : Expr} {tk tv : TE} {pos : Pos} (hu : X.A.units + 9 < cLine) (hk : PE X ke tk) (hv : PE X ve tv) : PE X (.Dict [some ke] [ve] pos) (tND1 X.prog X.w tk tv) := by
  refine ⟨fun pins s σ H Q I q => ?_⟩
  have hn := I.hok.fresh (Nat.le_refl s.heap.objs.size)
  have lo : (s.heap.objs.size == sysModules) = false := by
    have big := I.big
    refine Bool.eq_false_iff.mpr fun z => ?_
    have z := eq_of_beq z
    rw [z] at big
    exact Nat.lt_irrefl _ big
  have I1 := I.laid (a := s.heap.objs.size) (o := DNo X.prog X.w s.heap.objs.size []) (h' := s.heap.push { cls := .type "dict", data := .dict #[] }) (t' := s.toks) (fun _ _ q => Heap.get?_push_of_some _ q) (Nat.le_refl _)
    (dno_ok lo (Nat.zero_le _) ⟨_, #[], 0, Heap.get?_push_size _ rfl, ⟨rfl, rfl, rfl⟩, rfl, rfl, List.nodup_nil⟩)
  refine dict_disp (knd := nestedKind X.prog X.w) (pairs := pairTrees [some ke] [ve] X.env pos) (show X.A.units + 8 < cLine by omega) (zip_pairTrees [some ke] [ve] X.env pos rfl rfl) (fun z => by simp [pairTrees] at z) (by rw [pairTrees_length [some ke] [ve] X.env pos rfl rfl]; show 1 ≤ 15; decide) ?_
  refine pairTrees_cons_walk (thn (hk.run pins _ σ _ _ I1 (q _ hn)) fun iv s1 ⟨y, H1, I2, ry, q1⟩ => thn (hv.run pins s1 σ H1 _ I2 q1) fun r s2 ⟨v, H2, I3, rv, b, k, ey, ev, hp, nk, dk, q2⟩ => pairTrees_nil_walk ?_)
  subst ey ev
  obtain rfl : iv = Value.ref b := ry
  obtain rfl : r = Value.bool true := rv
  have d0 : DN X.prog X.w H2 s.heap.objs.size [] := ⟨hp, fun x m => by cases m⟩
  obtain ⟨_, _, dd⟩ := dn_raw I3 d0
  refine ⟨[(k, b, .bool true)], ⟨rfl, rfl, ⟨nk_is I3 _ _ _ nk rfl, dk⟩, trivial⟩, dd, fun h' tk' dk' hsb => ?_⟩
  have e1 : storedAllH [] [(k, b, Value.bool true)] = fullN [(k, b)] := rfl
  rw [e1] at dk'
  obtain ⟨o, es, ep, hq, h2, h3, h4, h5, h6⟩ := dk'
  refine ⟨.ref _, _, d_write I3 (by rw [hp]; exact True.intro) hsb ⟨o, hq⟩ (dno_ok lo (by rw [List.length_singleton]; decide) ⟨o, es, ep, hq, h2, h3, h4, h6⟩), rfl, q2⟩
end
/-! ### a list of anything against an empty list -/
section
variable {X : Cx}
/-- xs != [] -/
def rNeNil (K : PySem.W.Frag) : R2 := fun x y H Q => ∃ a b xs, x = .ref a ∧ y = .ref b ∧ SqL K H a xs ∧ SqL K H b [] ∧ Q (.bl (!xs.isEmpty)) H
theorem op_neNil (hu : X.A.units + 9 < cLine) : OpR X (compareOp .NotEq) (rNeNil X.K) := by
  intro pins s σ H x y v u Q I rx ry h
  obtain ⟨a, b, xs, rfl, rfl, ha, hb, q⟩ := h
  obtain rfl : v = Value.ref a := rx
  obtain rfl : u = Value.ref b := ry
  obtain ⟨us, r1, p1, _⟩ := I.list ha
  obtain ⟨ws, r2, p2, _⟩ := I.list hb
  cases r2
  cases r1 with
  | nil =>
    exact SeqAt.RcNeAt.lists (e := fun _ => true) p1.isList p2.isList rfl (by omega) (fun j h1 h2 => absurd h1 (Nat.not_lt_zero _)) X.prog X.w _ _ ⟨.bl _, H, I, rfl, q⟩
  | cons h1 h2 =>
    exact SeqAt.RcNeAt.lists_lengths p1.isList p2.isList (by simp) (by omega) X.prog X.w _ _ ⟨.bl _, H, I, rfl, q⟩
end
end KH

/-! KH10: list(f(k = v, ..)) of a generator def. -/
namespace KH
open PySem PySem.Spec PyProof.Rows L2 KB KG KO KY
structure CalleeGK (P : Program) (w : World) (K : PySem.W.Frag) (mg : Str → Option Value) (base : Heap) (k : Nat) (x : Str) (ps : List Str) (sp : SpG) (n : Nat) (ks : List Str) (gV : List V → List V → List V) : Prop where
  ex : ∃ (f : Addr) (fd : FuncData) (gg : List Value → List Value → List Value), GFn P w K mg base k f fd ps sp ∧ mg x = some (.ref f) ∧ PySem.W.keepIn K (.ref f) = true ∧ KBn K fd ps n ks gg gV
section
variable {X : Cx} {k : Nat}
theorem run_gk {f : Addr} {fd : FuncData} {ps : List Str} {sp : SpG} {pins : List (Addr × Obj)} {σ : L2.St} {H : Hp} {s : Shared} {us : List Value} {kws : List (Str × Value)} {vs : List V} {as : List Value} {cont : List V → Hp → Prop} {E : XK} {E1 : Value → Shared → Prop}
    (F : GFn X.prog X.w X.K X.mg X.base k f fd ps sp) (room : Room k X.A) (I : Inv X pins σ H s) (b : BindsTo s fd ⟨us, kws⟩ (ps.zip as)) (r : Vals vs as) (h : sp vs H cont E) :
    wpAny (model X.prog X.w) X.A (call (.ref f) us kws) (fun u s' => ∃ H1 sc ex, Inv X pins σ H1 sc ∧ ExOk X pins ex ∧ GMade X.prog X.w k X.stack H1 sc ex cont E u s') E1 s := by
  refine wpAny_call (codeAny_mono (F.run X.A X.stack s H ⟨us, kws⟩ as vs cont E room I.env0 b r h) fun res s1 q => ?_)
  cases res with
  | error e => exact q.elim
  | ok fl =>
    cases fl with
    | ret u => exact ⟨H, s, [], I, .nil, q⟩
    | next => exact q.elim
    | brk => exact q.elim
    | cont => exact q.elim
def tCallGK (n m : Nat) (sp : SpG) (gV : List V → List V → List V) (t tk : TA) : L2.TGen := fun σ H cont => t σ H fun vs H1 => tk σ H1 fun zs H2 => vs.length = n ∧ zs.length = m ∧ sp (gV vs zs) H2 cont E0
theorem pgen_callK0 {n : Nat} {x : Str} {ps ks : List Str} {sp : SpG} {gV : List V → List V → List V} {kws : List Keyword} {p pos : Pos} {tk : TA} (c : CalleeGK X.prog X.w X.K X.mg X.base k x ps sp n ks gV) (room : Room k X.A) (hg : Gl X x) (hkw : PK X kws tk)
    (hall : (backToKw pos (keywordEach kws X.env)).all (·.1.isSome) = true := by rfl) (hks : (backToKw pos (keywordEach kws X.env)).filterMap (·.1) = ks := by rfl) (hdb : (x == ("__debug__" : Str)) = false := by decide)
    (hpl : ((backTo pos (starEach [] X.env)).any (·.1) || (backToKw pos (keywordEach kws X.env)).any (·.1.isNone)) = false := by rfl) : PGen X k (.Call (.Name x p) [] kws pos) (tCallGK n ks.length sp gV tNil tk) E0 := by
  obtain ⟨f, fd, gg, F, hm, hk, hb⟩ := c.ex
  refine ⟨fun pins s σ H cont I h => wpAny_Call_Name_kw (ld_glob I hg hm ?_ hdb)⟩
  refine PySem.W.callWith_KW0 (first := []) (h₀ := X.base) I.ok.mod.kin hk hall (thn (hkw.run pos pins s σ H _ I h) fun ws s2 z => ?_) hpl
  obtain ⟨zs, H2, I2, rz, l1, l2, hsp⟩ := z
  refine ⟨I2.kIn, ?_⟩
  rw [hks]
  exact run_gk F room I2 (hb.to s2 [] ws I2.kIn l1 (rz.length.symm.trans l2)) (hb.rel .nil rz) hsp
theorem pe_listFK {x : Str} {ps ks : List Str} {sp : SpG} {n : Nat} {gV : List V → List V → List V} {kws : List Keyword} {p p' pos pos' : Pos} {tk : TA} (c : CalleeGK X.prog X.w X.K X.mg X.base k x ps sp n ks gV) (room : Room (k + 3) X.A) (hgx : Gl X x) (hkw : PK X kws tk) (hg : Gl X "list") (hm : X.mg "list" = none)
    (d1 : starEach [.Call (.Name x p') [] kws pos'] X.env = (false, eval (.Call (.Name x p') [] kws pos') X.env) :: starEach [] X.env := by rfl)
    (hall : (backToKw pos' (keywordEach kws X.env)).all (·.1.isSome) = true := by rfl) (hks : (backToKw pos' (keywordEach kws X.env)).filterMap (·.1) = ks := by rfl) (hdb : (x == ("__debug__" : Str)) = false := by decide)
    (hpl : ((backTo pos' (starEach [] X.env)).any (·.1) || (backToKw pos' (keywordEach kws X.env)).any (·.1.isNone)) = false := by rfl) :
    PE X (.Call (.Name "list" p) [.Call (.Name x p') [] kws pos'] [] pos) (tListG (tCallGK n ks.length sp gV tNil tk)) :=
  pe_listG (pgen_callK0 c (room.mono (by omega)) hgx hkw hall hks hdb hpl) passL KU.noStop0 room hg hm (by decide +kernel) (by decide) (by decide) d1
end
end KH

/-! KI: an own object that a call gives, called at once. -/
namespace KI
open PySem PySem.Spec PyProof.Rows L2 KB KG KO KC
section
variable {X : Cx}
theorem pe_callOE {CX : CXT} {k : Nat} {C : Addr} {ps : List Str} {sp : Sp} {E : XK} {f0 e : Expr} {a0 es : List Expr} {k0 : List Keyword} {p0 pos : Pos} {tf : TE} {t : TA} (c : OwnC X.prog X.w X.K X.mg X.base CX k C ps sp) (room : Room k X.A) (pass : Passes CX X E) (hf : PE X (.Call f0 a0 k0 p0) tf) (ha : PA X (e :: es) t)
    (d2 : starEach (e :: es) X.env = (false, eval e X.env) :: starEach es X.env := by rfl) (d3 : (backTo pos (starEach es X.env)).any (·.1) = false := by rfl)
    (d4 : eval (.Call (.Call f0 a0 k0 p0) (e :: es) [] pos) X.env = (eval (.Call f0 a0 k0 p0) X.env >>= fun f => callWith pos f [] (backTo pos (starEach (e :: es) X.env)) (backToKw pos (keywordEach [] X.env))) := by rfl) :
    PE X (.Call (.Call f0 a0 k0 p0) (e :: es) [] pos) (tCallO C sp E tf t) := by
  obtain ⟨g, fd, hs, hfn, hfi, F, bind⟩ := c.ex
  refine ⟨fun pins st σ h Z inv pre => ?_⟩
  rw [d4]
  refine wpAny_bind (thn (hf.run pins st σ h _ inv pre) fun u s1 r => ?_)
  obtain ⟨v, h1, inv1, rv, a, dx, fs, rfl, ea, z⟩ := r
  obtain rfl : u = Value.ref a := rv
  refine callWith_own (C := C) (dx := dx) (by rw [d2]; show ((false || (backTo pos (starEach es X.env)).any (·.1)) || false) = false; rw [d3]; rfl) ?_
  have main := thn (Q' := fun (ws : List Value) (s2 : Shared) => (∃ od, PySem.W.InstAt s2.heap a (PySem.W.instObj C dx) C od) ∧ wpAny (model X.prog X.w) X.A (call (.ref a) ws) (EP X pins σ Z) X.xe s2) (ha.run pos pins s1 σ h1 _ inv1 z) fun ws s2 r => ?_
  · rw [d2] at main ⊢
    exact Calls.evalArgs_plain main
  · obtain ⟨xs, h2, inv2, rel, ea2, z2⟩ := r
    obtain ⟨od, J⟩ := inst_of inv2 ea2
    refine ⟨⟨_, J⟩, ?_⟩
    have rel2 : Vals (V.ref a :: xs) (Value.ref a :: ws) := .cons rfl rel
    have size : ((Value.ref a :: ws) ++ []).length = ps.length := by rw [List.append_nil, ← rel2.length]; exact F.len _ _ _ _ z2
    have bd := bind s2 (Value.ref a :: ws) inv2.kIn size
    rw [List.append_nil] at bd
    refine wpAny_call (codeAny_mono (PySem.W.kco_code inv2.kIn J rfl hs hfn hfi (F.run X.A X.stack s2 h2 ⟨Value.ref a :: ws, []⟩ _ _ Z E room inv2.env0 bd rel2 z2)) fun res s3 y => ?_)
    match res, y with
    | .error e, y => exact pass pins σ h2 s2 e s3 inv2 y
    | .ok (.ret u), y => exact inv2.after y
    | .ok .next, y => exact y.elim
    | .ok .brk, y => exact y.elim
    | .ok .cont, y => exact y.elim
end
end KI

/-! KF: comprehensions whose elements are new objects, no two the same; choices out of a list's word. -/
namespace KF
open PySem PySem.Spec PyProof.Rows L2 KB KG KO KD
theorem lc_fresh {J : It} {n : Nat} {G : Hp → Prop} {Y : Nat → Hp → V → Hp → Prop} (wk : Walk J n G Y) {g : TG} {tt : TT} {te : TE} {vs : List Nat} {σ : L2.St} {H1 : Hp} {Q : VK} (R : Nat → Addr → Hp → Prop) (hn : n ≤ 10000)
    (up : ∀ i a H H', R i a H → SameN H H' → R i a H') (hG : ∀ H', Same H1 H' → G H')
    (hs : ∀ i x H H' (N : V → Hp → Prop) (B : Hp → Prop), i < n → Same H1 H → Y i H x H' → (∀ a o H2, Same H H2 → H a = none → H2 a = some o → R i a H2 → N (.ref a) H2) → g x (wipe σ vs) H' fun σ2 H2 => wipe σ2 vs = wipe σ vs ∧ tt σ2 H2 fun b H3 => if b = true then te σ2 H3 N else B H3)
    (hd : ∀ D H' (as : List Addr), H1 D = none → Same H1 H' → H' D = some (.lst (as.map V.ref)) → as.length = n → as.Nodup → (∀ i a, as[i]? = some a → R i a H') → Q (.ref D) H') :
    LcW J g tt te vs σ H1 Q := by
  intro D hD
  refine lc_it wk (Qd := fun H => Q (.ref D) H) (fun i H => Same H1 H ∧ ∃ as : List Addr, H D = some (.lst (as.map V.ref)) ∧ as.length = i ∧ as.Nodup ∧ (∀ a ∈ as, H a ≠ none) ∧ ∀ j a, as[j]? = some a → R j a H) ⟨same_new hD, [], upd_same, rfl, List.nodup_nil, fun a m => by simp at m, fun j a e => by simp at e⟩ (fun i H _ p => hG H p.1) (fun i x H H' hi p y => ?_) (fun H p => ?_)
  · obtain ⟨sm, as, hy, hl, nd, st, hR⟩ := p
    refine hs i x H H' _ _ hi sm y (fun v o H2 s2 nv ov r => ?_)
    have kp : ∀ zs, SameN H2 (upd H2 D (.lst zs)) := fun zs a o e no => by
      rw [upd_ne (fun z => no _ (by rw [z, s2 _ _ hy] at e; exact (Option.some.inj e).symm))]
      exact e
    have stay : ∀ zs a, H2 a ≠ none → upd H2 D (.lst zs) a ≠ none := fun zs a h => by
      by_cases z : a = D
      · rw [z, upd_same]
        exact fun z => by cases z
      · rw [upd_ne z]
        exact h
    refine ⟨as.map V.ref, s2 _ _ hy, small1000' (by rw [List.length_map]; omega), same_mut (sm.trans s2) hD, as ++ [v], by rw [upd_same, List.map_append]; rfl, by simp [hl], ?_, fun a m => ?_, fun j w e => ?_⟩
    · rw [List.nodup_append]
      refine ⟨nd, by simp, fun a ma b mb => ?_⟩
      rw [List.mem_singleton.mp mb]
      exact fun z => st a ma (by rw [z]; exact nv)
    · rcases List.mem_append.mp m with m | m
      · refine stay _ _ ?_
        cases e : H a with
        | none => exact absurd e (st a m)
        | some o' => rw [s2 _ _ e]; exact fun z => by cases z
      · rw [List.mem_singleton.mp m]
        exact stay _ _ (by rw [ov]; exact fun z => by cases z)
    · by_cases hj : j < as.length
      · rw [List.getElem?_append_left hj] at e
        exact up _ _ _ _ (hR j w e) ((SameN.of s2).trans (kp _))
      · rw [List.getElem?_append_right (by omega)] at e
        have h0 : j - as.length = 0 := by
          cases z : j - as.length with
          | zero => rfl
          | succ m => rw [z] at e; simp at e
        rw [h0] at e
        have ew : v = w := Option.some.inj e
        subst ew
        have ej : j = i := by omega
        subst ej
        exact up _ _ _ _ r (kp _)
  · obtain ⟨sm, as, hy, hl, nd, _, hR⟩ := p
    exact hd D H as hD sm hy hl nd hR
/-- what is told of each item of a list: a choice for each place -/
theorem choose_at {α : Type} [Inhabited α] {ys : List V} {R : Nat → V → α → Prop} (h : ∀ i v, ys[i]? = some v → ∃ x, R i v x) : ∃ f : Nat → α, ∀ i v, ys[i]? = some v → R i v (f i) := by
  classical
  refine ⟨fun i => if z : ∃ v x, ys[i]? = some v ∧ R i v x then z.choose_spec.choose else default, fun i v e => ?_⟩
  obtain ⟨x, hx⟩ := h i v e
  have z : ∃ v x, ys[i]? = some v ∧ R i v x := ⟨v, x, e, hx⟩
  dsimp only
  rw [dif_pos z]
  have c := z.choose_spec.choose_spec
  have key : ∀ (u : V) (y : α), v = u → R i u y → R i v y := fun u y e h => by rw [e]; exact h
  exact key _ _ (Option.some.inj (e.symm.trans c.1)) c.2
/-- a family of promises is one promise -/
theorem fn_ex {P : Program} {w : World} {K : PySem.W.Frag} {mg : Str → Option Value} {base : Heap} {CX : CXT} {k : Nat} {f : Addr} {fd : FuncData} {ps : List Str} {α : Type} {p : α → Prop} {sp : α → Sp} (h : ∀ a, p a → FnOk P w K mg base CX k f fd ps (sp a)) :
    FnOk P w K mg base CX k f fd ps (fun vs H Q E => ∃ a, p a ∧ sp a vs H Q E) :=
  ⟨fun vs H Q E ⟨a, pa, z⟩ => (h a pa).len vs H Q E z, fun A outer s H args us vs Q E hr he hb hv ⟨a, pa, hs⟩ => (h a pa).run A outer s H args us vs Q E hr he hb hv hs⟩
end KF

/-! KH12: the display of one pair whose key is a flat tuple; an item of a list or of a tuple. -/
namespace KH
open PySem PySem.Spec PyProof.Rows L2 KB KG KO KY
def tDT1 (tk tv : TE) : TE := fun σ H Q => ∀ p, H p = none → tk σ (upd H p (.dT [])) fun y H1 => tv σ H1 fun v H2 => ∃ (b : Addr) (k : List L2.Key), y = .ref b ∧ H2 p = some (.dT []) ∧ H2 b = some (.tup (k.map kV)) ∧ Q (.ref p) (upd H2 p (.dT [(k, v)]))
section
variable {X : Cx}
theorem pe_dT1 {ke ve : Expr} {tk tv : TE} {pos : Pos} (hu : X.A.units + 1 < cLine) (hk : PE X ke tk) (hv : PE X ve tv) : PE X (.Dict [some ke] [ve] pos) (tDT1 tk tv) := by
  refine ⟨fun pins s σ H Q I q => ?_⟩
  have hn := I.hok.fresh (Nat.le_refl s.heap.objs.size)
  have I1 := I.laid (a := s.heap.objs.size) (o := .dT []) (h' := s.heap.push { cls := .type "dict", data := .dict #[] }) (t' := s.toks) (fun _ _ q => Heap.get?_push_of_some _ q) (Nat.le_refl _) (dt_empty s.heap I.big)
  refine dict_disp (knd := tupleKind (mixKind X.prog X.w)) (pairs := pairTrees [some ke] [ve] X.env pos) (show X.A.units < cLine by omega) (zip_pairTrees [some ke] [ve] X.env pos rfl rfl) (fun z => by simp [pairTrees] at z) (by rw [pairTrees_length [some ke] [ve] X.env pos rfl rfl]; show 1 ≤ 15; decide) ?_
  refine pairTrees_cons_walk (thn (hk.run pins _ σ _ _ I1 (q _ hn)) fun iv s1 ⟨y, H1, I2, ry, q1⟩ => thn (hv.run pins s1 σ H1 _ I2 q1) fun r s2 ⟨v, H2, I3, rv, b, k, ey, hp, hb, q2⟩ => pairTrees_nil_walk ?_)
  subst ey
  obtain rfl : iv = Value.ref b := ry
  obtain ⟨z, lo, xs, kt, dd⟩ := dt_of I3.hok hp
  cases kt
  refine ⟨[(k, b, r)], ⟨rfl, rfl, key_of I3.hok hb, trivial⟩, dd, fun h' tk' dk' hsb => ?_⟩
  have e1 : storedAllH [] [(k, b, r)] = [(k, b, r)] := rfl
  rw [e1] at dk'
  obtain ⟨o, es, ep, hq, h2, h3, h4, h5, h6⟩ := dk'
  have hb2 : upd H2 s.heap.objs.size (.dT [(k, v)]) b = some (.tup (k.map kV)) := by
    rw [upd_ne (fun z => by rw [z, hp] at hb; cases hb)]
    exact hb
  refine ⟨.ref _, _, d_write I3 (by rw [hp]; exact True.intro) hsb ⟨o, hq⟩ (show ObjOk X.prog X.w (upd H2 s.heap.objs.size (.dT [(k, v)])) h' s.heap.objs.size (.dT [(k, v)]) from ⟨by rw [List.length_singleton]; decide, lo, [(k, b, r)], .cons ⟨rfl, hb2, rv⟩ .nil, o, es, ep, hq, h2, h3, h4, h6⟩), rfl, q2⟩
def rIxS (K : PySem.W.Frag) : R2 := fun x y H Q => rIxL K x y H Q ∨ rIxT K x y H Q
theorem ix_seq : IxR X (rIxS X.K) := fun value slice pins s σ H x y v u Q I rx ry h hs => by
  rcases h with h | h
  · exact ix_list value slice pins s σ H x y v u Q I rx ry h hs
  · exact ix_tup value slice pins s σ H x y v u Q I rx ry h hs
end
end KH

/-! ### own steps of the reading -/
local macro_rules | `(tactic| walk_at "hp") => `(tactic| first | with_reducible assumption | with_reducible exact L2.upd_same | (refine KB.upd_new ?h1 ?h2; (case h1 => (with_reducible assumption)); (case h2 => walk_at "hp")) | (rw [L2.upd_ne (by first | assumption | exact Ne.symm (by assumption))]; walk_at "hp"))
local macro_rules | `(tactic| walk_at "sq") => `(tactic| first | with_reducible assumption | (refine L2.SqL.of ?h1; (case h1 => walk_at "hp")) | (refine L2.SqT.of ?h1; (case h1 => walk_at "hp")))
local macro_rules | `(tactic| walk_at "sq2") => `(tactic| first | (refine Or.inl ?_; walk_at "sq") | (refine Or.inr ?_; walk_at "sq") | (with_reducible exact Or.inr (by (first | with_reducible assumption | apply_assumption))))
local macro_rules | `(tactic| walk_at "sz") => `(tactic| exact KB.sz_lit (by simp))
local macro_rules | `(tactic| walk_at "cond") => `(tactic| first | (show _ ∨ _; first | exact Or.inl ⟨by omega, by omega⟩ | exact Or.inr ⟨by omega, by omega⟩) | (show _ ∧ _ ∧ _; exact ⟨by omega, by omega, by omega⟩) | (show _ ∧ _; exact ⟨by omega, by omega⟩) | (show _ < _; omega) | (show _ ≤ _; omega))
local macro_rules | `(tactic| walk_at "rd1") => `(tactic| first
  | with_reducible refine KB.r_seq ?_
  | with_reducible refine KB.r_next ?_
  | with_reducible refine KB.r_c ?_
  | ((with_reducible refine KB.r_var (v := ?v1) ?h1 ?q); (case h1 => exact rfl))
  | with_reducible refine KB.r_op ?_
  | with_reducible refine KB.r_un ?_
  | with_reducible refine KB.r_I0 ?_
  | ((with_reducible refine KB.r_I ?h1 ?q); (case h1 => walk_at "cond"))
  | with_reducible refine KB.r_int1 ?_
  | with_reducible refine KB.r_bl1 ?_
  | with_reducible refine KB.r_ex1 ?_
  | with_reducible refine KB.r_ex2 ?_
  | ((with_reducible refine KB.r_lenS (xs := ?v1) ?h1 ?q); (case h1 => walk_at "sq"))
  | ((with_reducible refine KB.r_eq ?h1 ?q); (case h1 => exact rfl))
  | ((with_reducible refine KB.r_ne ?h1 ?q); (case h1 => exact rfl))
  | with_reducible refine KB.r_U ?_
  | with_reducible refine KB.r_test ?_
  | with_reducible refine KB.r_B ?_
  | with_reducible refine KB.r_bl ?_
  | with_reducible refine KB.r_int ?_
  | with_reducible refine KB.r_and ?_
  | with_reducible refine KB.r_or ?_
  | with_reducible refine KB.r_not ?_
  | with_reducible refine KB.r_andV ?_
  | with_reducible refine KB.r_orV ?_
  | with_reducible refine KB.r_notV ?_
  | with_reducible refine KB.r_if ?_
  | with_reducible refine KB.r_nil ?_
  | with_reducible refine KB.r_cons ?_
  | with_reducible refine KB.r_tup ?_
  | with_reducible refine KB.r_lst ?_
  | with_reducible refine KB.r_call ?_
  | with_reducible refine KB.r_cb ?_
  | ((with_reducible refine KB.r_ixL (xs := ?v1) (v := ?v2) ?h1 ?h2 ?q); (case h1 => walk_at "sq"); (case h2 => exact rfl))
  | ((with_reducible refine KB.r_ixT (xs := ?v1) (v := ?v2) ?h1 ?h2 ?q); (case h1 => walk_at "sq"); (case h2 => exact rfl))
  | ((with_reducible refine KB.r_setL (xs := ?v1) (j := ?v2) ?h1 ?h2 ?q); (case h1 => walk_at "hp"); (case h2 => exact rfl))
  | with_reducible refine KB.r_meth ?_
  | with_reducible refine KB.r_fld ?_
  | with_reducible refine KB.r_sfld ?_
  | with_reducible refine KB.r_gname ?_
  | with_reducible refine KB.r_for ?_
  | with_reducible refine KO.r_methK0 ?_
  | with_reducible refine KO.r_makeK ?_
  | with_reducible refine KO.r_joined ?_
  | with_reducible refine KO.r_joined0 ?_
  | with_reducible refine KO.r_fmt ?_
  | with_reducible refine KB.r_isNone ?_
  | ((with_reducible refine KB.r_gtup (xs := ?v1) ?h1 ?h2 ?q); (case h1 => walk_at "sq"); (case h2 => exact rfl))
  | with_reducible refine KB.r_gcons ?_
  | with_reducible refine KB.r_gnil ?_
  | with_reducible refine KB.r_irng2 ?_
  | with_reducible refine KB.r_bm ?_
  | ((with_reducible refine KB.r_tyL (xs := ?v1) ?h1 ?q); (case h1 => walk_at "sq"))
  | ((with_reducible refine KB.r_fldK (C := ?v1) (dx := ?v2) (fs := ?v3) (v := ?v4) ?h1 ?h2 ?h3 ?h4 ?q); (case h1 => walk_at "hp"); (case h2 => assumption); (case h3 => assumption); (case h4 => exact rfl))
  | with_reducible refine KB.r_callD ?_
  | with_reducible refine KB.r_callN ?_
  | with_reducible refine KB.r_dget1 ?_
  | with_reducible refine KB.r_dget ?_
  | with_reducible refine KB.r_dput ?_
  | with_reducible refine KB.r_disp ?_
  | with_reducible refine KB.r_pairs ?_
  | with_reducible refine KB.r_pairs0 ?_
  | with_reducible refine KB.r_make ?_
  | with_reducible refine KB.r_m1 ?_
  | with_reducible refine KB.r_m0 ?_
  | with_reducible refine KB.r_isStr ?_
  | with_reducible refine KB.r_exStr ?_
  | with_reducible refine KB.r_lc ?_
  | with_reducible refine KB.r_irng1 ?_
  | with_reducible refine KB.r_itup ?_
  | with_reducible refine KB.r_ilist ?_
  | with_reducible refine KB.r_istr ?_
  | ((with_reducible refine KB.r_cval (v := ?v1) (mc := ?v2) (uu := ?v3) ?h1 ?h2 ?q); (case h1 => assumption); (case h2 => assumption))
  | ((with_reducible refine KB.r_notInS (zs := ?v1) ?h1 ?q); (case h1 => walk_at "sq2"))
  | ((with_reducible refine KB.r_inS (zs := ?v1) ?h1 ?q); (case h1 => walk_at "sq2"))
  | with_reducible refine KB.r_asg ?_
  | with_reducible refine KB.r_asgS ?_
  | with_reducible refine KB.r_asgG ?_
  | with_reducible refine KB.r_ifS ?_
  | with_reducible refine KB.r_ret ?_
  | with_reducible refine KB.r_drop ?_
  | with_reducible refine KB.r_par ?_
  | with_reducible refine KB.r_match ?_
  | with_reducible refine KB.r_mstr ?_
  | with_reducible refine KB.r_mnil ?_
  | with_reducible refine KB.r_sl ?_
  | with_reducible refine KB.r_nopart ?_
  | with_reducible refine KB.r_part ?_
  | ((with_reducible refine KB.r_slL (xs := ?v1) ?h1 ?q); (case h1 => walk_at "sq"))
  | with_reducible refine L2.iteF ?_
  | with_reducible refine KB.iteNt ?_
  | with_reducible refine KB.iteNf ?_
  | with_reducible refine L2.iteT ?_
  | dsimp only)
local macro_rules | `(tactic| walk_at "rd") => `(tactic| repeat walk_at "rd1")
local macro_rules | `(tactic| walk_at "sp1") => `(tactic| first | with_reducible refine KB.r_iteS2 (fun _ => ?_) (fun _ => ?_) | with_reducible refine KB.r_iteI2 (fun _ => ?_) (fun _ => ?_) | with_reducible refine KB.r_ite2 (fun _ => ?_) (fun _ => ?_) | with_reducible refine KB.r_iteN2 (fun _ => ?_) (fun _ => ?_) | with_reducible refine KB.r_iteB (fun _ => ?_) (fun _ => ?_) | with_reducible refine KB.r_iteBN (fun _ => ?_) (fun _ => ?_))
local macro_rules | `(tactic| walk_at "sp") => `(tactic| repeat' (first | walk_at "rd1" | walk_at "sp1"))
local macro_rules | `(tactic| walk_at "ifs") => `(tactic| repeat (first | rw [if_pos (by assumption)] | rw [if_neg (by assumption)]))

namespace K16
open PySem L2 KB
def top (i : Nat) : Stmt := PySem.Challenge.pw_keptbits_k16_whole_runs_of_bits_and_effe.main.body.getD i (.Pass ⟨0, 0, 0, 0⟩)
abbrev s_need_letters : Stmt := top 9
theorem sc_need_letters : FnScope ["letters", "index", "letter"] ["letters"] (defScope s_need_letters) := ⟨rfl, rfl, rfl, by decide +kernel, rfl, by decide +kernel, by decide +kernel⟩
abbrev s_need_same_kind : Stmt := top 10
theorem sc_need_same_kind : FnScope ["first", "second"] ["first", "second"] (defScope s_need_same_kind) := ⟨rfl, rfl, rfl, by decide +kernel, rfl, by decide +kernel, by decide +kernel⟩
abbrev s_with_deeds : Stmt := top 11
theorem sc_with_deeds : FnScope ["kind", "states", "quiet", "found", "state", "waiting", "end"] ["kind", "states", "quiet"] (defScope s_with_deeds) := ⟨rfl, rfl, rfl, by decide +kernel, rfl, by decide +kernel, by decide +kernel⟩
abbrev s_after_letter : Stmt := top 12
theorem sc_after_letter : FnScope ["kind", "state", "letter"] ["kind", "state", "letter"] (defScope s_after_letter) := ⟨rfl, rfl, rfl, by decide +kernel, rfl, by decide +kernel, by decide +kernel⟩
abbrev s_longer : Stmt := top 13
theorem sc_longer : FnScope ["kind", "ends", "letter", "quiet", "found", "row", "states", "state"] ["kind", "ends", "letter", "quiet"] (defScope s_longer) := ⟨rfl, rfl, rfl, by decide +kernel, rfl, by decide +kernel, by decide +kernel⟩
abbrev s_Effect___init__ : Stmt := inClass (top 14) 0
theorem sc_Effect___init__ : FnScope ["self", "kind", "ends"] ["self", "kind", "ends"] (defScope s_Effect___init__) := ⟨rfl, rfl, rfl, by decide +kernel, rfl, by decide +kernel, by decide +kernel⟩
abbrev s_Effect_of : Stmt := inClass (top 14) 1
theorem sc_Effect_of : FnScope ["cls", "kind", "letters", "quiet", "ends", "state", "letter"] ["cls", "kind", "letters", "quiet"] (defScope s_Effect_of) := ⟨rfl, rfl, rfl, by decide +kernel, rfl, by decide +kernel, by decide +kernel⟩
abbrev s_Effect___call__ : Stmt := inClass (top 14) 2
theorem sc_Effect___call__ : FnScope ["self", "state"] ["self", "state"] (defScope s_Effect___call__) := ⟨rfl, rfl, rfl, by decide +kernel, rfl, by decide +kernel, by decide +kernel⟩
abbrev s_Effect___mul__ : Stmt := inClass (top 14) 3
theorem sc_Effect___mul__ : FnScope ["self", "other", "rows", "state", "end", "row"] ["self", "other"] (defScope s_Effect___mul__) := ⟨rfl, rfl, rfl, by decide +kernel, rfl, by decide +kernel, by decide +kernel⟩
abbrev s_Effect___or__ : Stmt := inClass (top 14) 4
theorem sc_Effect___or__ : FnScope ["self", "other", "rows", "row", "more"] ["self", "other"] (defScope s_Effect___or__) := ⟨rfl, rfl, rfl, by decide +kernel, rfl, by decide +kernel, by decide +kernel⟩
abbrev s_Effect___eq__ : Stmt := inClass (top 14) 5
theorem sc_Effect___eq__ : FnScope ["self", "other"] ["self", "other"] (defScope s_Effect___eq__) := ⟨rfl, rfl, rfl, by decide +kernel, rfl, by decide +kernel, by decide +kernel⟩
abbrev s_is_integer : Stmt := top 16
theorem sc_is_integer : FnScope ["value"] ["value"] (defScope s_is_integer) := ⟨rfl, rfl, rfl, by decide +kernel, rfl, by decide +kernel, by decide +kernel⟩
abbrev s_need_bit : Stmt := top 18
theorem sc_need_bit : FnScope ["value"] ["value"] (defScope s_need_bit) := ⟨rfl, rfl, rfl, by decide +kernel, rfl, by decide +kernel, by decide +kernel⟩
abbrev s_Bit___init__ : Stmt := inClass (top 19) 1
theorem sc_Bit___init__ : FnScope ["self", "value"] ["self", "value"] (defScope s_Bit___init__) := ⟨rfl, rfl, rfl, by decide +kernel, rfl, by decide +kernel, by decide +kernel⟩
abbrev s_Bit_now : Stmt := inClass (top 19) 2
theorem sc_Bit_now : FnScope ["self"] ["self"] (defScope s_Bit_now) := ⟨rfl, rfl, rfl, by decide +kernel, rfl, by decide +kernel, by decide +kernel⟩
abbrev s_Bit_state : Stmt := inClass (top 19) 3
theorem sc_Bit_state : FnScope ["self"] ["self"] (defScope s_Bit_state) := ⟨rfl, rfl, rfl, by decide +kernel, rfl, by decide +kernel, by decide +kernel⟩
abbrev s_Bit_read : Stmt := inClass (top 19) 4
theorem sc_Bit_read : FnScope ["self"] ["self"] (defScope s_Bit_read) := ⟨rfl, rfl, rfl, by decide +kernel, rfl, by decide +kernel, by decide +kernel⟩
abbrev s_Bit_write : Stmt := inClass (top 19) 5
theorem sc_Bit_write : FnScope ["self", "bit"] ["self", "bit"] (defScope s_Bit_write) := ⟨rfl, rfl, rfl, by decide +kernel, rfl, by decide +kernel, by decide +kernel⟩
abbrev s_Bit_deed : Stmt := inClass (top 19) 6
theorem sc_Bit_deed : FnScope ["self"] ["self"] (defScope s_Bit_deed) := ⟨rfl, rfl, rfl, by decide +kernel, rfl, by decide +kernel, by decide +kernel⟩
abbrev s_KindBit___init__ : Stmt := inClass (top 20) 0
theorem sc_KindBit___init__ : KN.SScope ["self", "kind", "value"] ["self", "kind", "value"] (defScope s_KindBit___init__) := ⟨rfl, rfl, rfl, by decide +kernel, rfl, by decide +kernel, by decide +kernel, by decide +kernel, rfl, rfl⟩
abbrev s_KindBit_read : Stmt := inClass (top 20) 1
theorem sc_KindBit_read : FnScope ["self", "found"] ["self"] (defScope s_KindBit_read) := ⟨rfl, rfl, rfl, by decide +kernel, rfl, by decide +kernel, by decide +kernel⟩
abbrev s_KindBit_write : Stmt := inClass (top 20) 2
theorem sc_KindBit_write : FnScope ["self", "bit"] ["self", "bit"] (defScope s_KindBit_write) := ⟨rfl, rfl, rfl, by decide +kernel, rfl, by decide +kernel, by decide +kernel⟩
abbrev s_KindBit_deed : Stmt := inClass (top 20) 3
theorem sc_KindBit_deed : FnScope ["self", "ends"] ["self"] (defScope s_KindBit_deed) := ⟨rfl, rfl, rfl, by decide +kernel, rfl, by decide +kernel, by decide +kernel⟩
abbrev s_Kind___init__ : Stmt := inClass (top 23) 3
theorem sc_Kind___init__ : FnScope ["self", "reading", "writing", "device", "word", "words"] ["self", "reading", "writing", "device"] (defScope s_Kind___init__) := ⟨rfl, rfl, rfl, by decide +kernel, rfl, by decide +kernel, by decide +kernel⟩
abbrev s_Kind___eq__ : Stmt := inClass (top 23) 4
theorem sc_Kind___eq__ : FnScope ["self", "other"] ["self", "other"] (defScope s_Kind___eq__) := ⟨rfl, rfl, rfl, by decide +kernel, rfl, by decide +kernel, by decide +kernel⟩
abbrev s_Kind___str__ : Stmt := inClass (top 23) 5
theorem sc_Kind___str__ : FnScope ["self"] ["self"] (defScope s_Kind___str__) := ⟨rfl, rfl, rfl, by decide +kernel, rfl, by decide +kernel, by decide +kernel⟩
abbrev s_Kind_after_read : Stmt := inClass (top 23) 6
theorem sc_Kind_after_read : FnScope ["self", "state"] ["self", "state"] (defScope s_Kind_after_read) := ⟨rfl, rfl, rfl, by decide +kernel, rfl, by decide +kernel, by decide +kernel⟩
abbrev s_Kind_after_write : Stmt := inClass (top 23) 7
theorem sc_Kind_after_write : FnScope ["self", "state", "bit"] ["self", "state", "bit"] (defScope s_Kind_after_write) := ⟨rfl, rfl, rfl, by decide +kernel, rfl, by decide +kernel, by decide +kernel⟩
abbrev s_Kind_unguarded : Stmt := inClass (top 23) 8
theorem sc_Kind_unguarded : FnScope ["self", "state", "bit", "second", "value"] ["self", "state", "bit"] (defScope s_Kind_unguarded) := ⟨rfl, rfl, rfl, by decide +kernel, rfl, by decide +kernel, by decide +kernel⟩
abbrev s_Kind_deeds : Stmt := inClass (top 23) 9
theorem sc_Kind_deeds : FnScope ["self", "state", "value"] ["self", "state"] (defScope s_Kind_deeds) := ⟨rfl, rfl, rfl, by decide +kernel, rfl, by decide +kernel, by decide +kernel⟩
abbrev s__law_pen : Stmt := top 25
theorem sc__law_pen : FnScope ["_law_script"] ["_law_script"] (defScope s__law_pen) := ⟨rfl, rfl, rfl, by decide +kernel, rfl, by decide +kernel, by decide +kernel⟩
abbrev s__law_draw : Stmt := top 26
theorem sc__law_draw : FnScope ["_law_pen_here", "_law_many", "_law_digit", "_law_at", "_law_cell", "_law_great", "_law_mixed"] ["_law_pen_here", "_law_many"] (defScope s__law_draw) := ⟨rfl, rfl, rfl, by decide +kernel, rfl, by decide +kernel, by decide +kernel⟩
abbrev s__law_write : Stmt := top 27
theorem sc__law_write : FnScope ["_law_writing", "_law_state", "_law_bit", "_law_value", "_law_second", "_law_ends_here"] ["_law_writing", "_law_state", "_law_bit"] (defScope s__law_write) := ⟨rfl, rfl, rfl, by decide +kernel, rfl, by decide +kernel, by decide +kernel⟩
abbrev s__law_read : Stmt := top 28
theorem sc__law_read : FnScope ["_law_reading", "_law_state"] ["_law_reading", "_law_state"] (defScope s__law_read) := ⟨rfl, rfl, rfl, by decide +kernel, rfl, by decide +kernel, by decide +kernel⟩
abbrev s__law_deeds : Stmt := top 29
theorem sc__law_deeds : FnScope ["_law_device", "_law_state"] ["_law_device", "_law_state"] (defScope s__law_deeds) := ⟨rfl, rfl, rfl, by decide +kernel, rfl, by decide +kernel, by decide +kernel⟩
abbrev s__law_words : Stmt := top 30
theorem sc__law_words : FnScope ["_law_pen_here", "_law_writings", "_law_reading"] ["_law_pen_here"] (defScope s__law_words) := ⟨rfl, rfl, rfl, by decide +kernel, rfl, by decide +kernel, by decide +kernel⟩
abbrev s__law_closed : Stmt := top 31
theorem sc__law_closed : FnScope ["_law_device", "_law_states_here", "_law_found", "_law_at", "_law_end"] ["_law_device", "_law_states_here"] (defScope s__law_closed) := ⟨rfl, rfl, rfl, by decide +kernel, rfl, by decide +kernel, by decide +kernel⟩
abbrev s__law_ends : Stmt := top 32
theorem sc__law_ends : FnScope ["_law_words_here", "_law_state", "_law_letters_here", "_law_is_quiet", "_law_reading", "_law_writing", "_law_device", "_law_found", "_law_letter_here", "_law_one"] ["_law_words_here", "_law_state", "_law_letters_here", "_law_is_quiet"] (defScope s__law_ends) := ⟨rfl, rfl, rfl, by decide +kernel, rfl, by decide +kernel, by decide +kernel⟩
abbrev s__law_states : Stmt := top 33
theorem sc__law_states : FnScope ["_law_words_here"] ["_law_words_here"] (defScope s__law_states) := ⟨rfl, rfl, rfl, by decide +kernel, rfl, by decide +kernel, by decide +kernel⟩
abbrev s__law_letters : Stmt := top 34
theorem sc__law_letters : FnScope ["_law_pen_here", "_law_most", "_law_size", "_law_signs", "_law_turn"] ["_law_pen_here", "_law_most"] (defScope s__law_letters) := ⟨rfl, rfl, rfl, by decide +kernel, rfl, by decide +kernel, by decide +kernel⟩
abbrev s__law_rows : Stmt := top 35
theorem sc__law_rows : FnScope ["_law_words_here", "_law_letters_here", "_law_is_quiet", "_law_state"] ["_law_words_here", "_law_letters_here", "_law_is_quiet"] (defScope s__law_rows) := ⟨rfl, rfl, rfl, by decide +kernel, rfl, by decide +kernel, by decide +kernel⟩
abbrev s__law_told : Stmt := top 36
theorem sc__law_told : FnScope ["_law_effect", "_law_words_here", "_law_state"] ["_law_effect", "_law_words_here"] (defScope s__law_told) := ⟨rfl, rfl, rfl, by decide +kernel, rfl, by decide +kernel, by decide +kernel⟩
abbrev s__law_set_up : Stmt := top 37
theorem sc__law_set_up : FnScope ["_law_kind", "_law_state", "_law_bit"] ["_law_kind", "_law_state"] (defScope s__law_set_up) := ⟨rfl, rfl, rfl, by decide +kernel, rfl, by decide +kernel, by decide +kernel⟩
abbrev s__law_led : Stmt := top 38
theorem sc__law_led : FnScope ["_law_bit", "_law_letters_here", "_law_deeds_here", "_law_at", "_law_turn"] ["_law_bit", "_law_letters_here", "_law_deeds_here"] (defScope s__law_led) := ⟨rfl, rfl, rfl, by decide +kernel, rfl, by decide +kernel, by decide +kernel⟩
abbrev s__law_way : Stmt := top 39
theorem sc__law_way : FnScope ["_law_words_here", "_law_state", "_law_end", "_law_letters_here", "_law_found", "_law_order", "_law_at", "_law_layer", "_law_key", "_law_ends_here", "_law_one", "_law_count", "_law_later"] ["_law_words_here", "_law_state", "_law_end", "_law_letters_here"] (defScope s__law_way) := ⟨rfl, rfl, rfl, by decide +kernel, rfl, by decide +kernel, by decide +kernel⟩
abbrev s__law_letter : Stmt := top 40
theorem sc__law_letter : FnScope ["_law_words_here", "_law_state", "_law_letter_here"] ["_law_words_here", "_law_state", "_law_letter_here"] (defScope s__law_letter) := ⟨rfl, rfl, rfl, by decide +kernel, rfl, by decide +kernel, by decide +kernel⟩
abbrev s__law_kind_right : Stmt := top 41
theorem sc__law_kind_right : FnScope ["_law_pen_here", "_law_words_here", "_law_kind", "_law_letters_here", "_law_effect", "_law_idle", "_law_state", "_law_bit", "_law_deeds_here", "_law_turn", "_law_end", "_law_pick", "_law_more", "_law_both"] ["_law_pen_here"] (defScope s__law_kind_right) := ⟨rfl, rfl, rfl, by decide +kernel, rfl, by decide +kernel, by decide +kernel⟩
abbrev s_law : Stmt := top 42
theorem sc_law : FnScope ["_law_script", "_law_pen_here"] ["_law_script"] (defScope s_law) := ⟨rfl, rfl, rfl, by decide +kernel, rfl, by decide +kernel, by decide +kernel⟩

structure Txt (mg : Str → Option Value) : Prop where
  z_int : mg "int" = none
  z_bool : mg "bool" = none
  z_all : mg "all" = none
  z_ValueError : mg "ValueError" = none
  z_abs : mg "abs" = none
  z_len : mg "len" = none
  z_list : mg "list" = none
  z_tuple : mg "tuple" = none
  z_max : mg "max" = none
  z_range : mg "range" = none
  z_isinstance : mg "isinstance" = none
  z_repr : mg "repr" = none
  z_str : mg "str" = none
  z_sorted : mg "sorted" = none
  z_set : mg "set" = none
  z_zip : mg "zip" = none
  z_enumerate : mg "enumerate" = none
open KV


section
variable {P : Program} {w : World} {K : PySem.W.Frag} {mg : Str → Option Value} {base : Heap}
theorem ok_pen {f : Addr} {fd : FuncData} {k : Nat} (F : Fun K "_law_pen" "_law_pen" s__law_pen f fd) (T : Txt mg) : FnOk P w K mg base CX0 (k + 1) f fd ["_law_script"] (spPen K) := by
  refine F.ok sc__law_pen (fun vs H Q E h => ?_) (fun cdv A outer s H vs Q E hr h => ?_)
  · obtain ⟨a, ns, rfl, _⟩ := h
    rfl
  · obtain ⟨a, ns, rfl, hS, hl, q⟩ := h
    refine ⟨_, (pss_one (ps_ret (pe_lst (pa_cons (pe_callTy call_list_of (by rfl) T.z_list (by decide +kernel) (pa_cons (pe_slice sl_list (pv 0) po_none (po_some pe_int)) pa_nil)) (pa_cons pe_int (pa_cons pe_int pa_nil)))))), at_start (σ := [some (.ref a)]) rfl ?_⟩
    dsimp only [cx_K]
    walk_at "rd"
    intro c nc
    have ec : cutV (ns.map V.int) none (some 63) = (ns.take 63).map V.int := by
      rw [show (63 : Int) = ((63 : Nat) : Int) from rfl, cutV_take, List.map_take]
    rw [ec]
    walk_at "rd"
    intro l nl
    walk_at "rd"
    refine ⟨by walk_at "sz", fun p np => ?_⟩
    have npl : p ≠ l := fun z => by rw [z, upd_same] at np; cases np
    have s0 := ((same_new (o := .lst ((ns.take 63).map V.int)) nc).trans (same_new (o := .lst ((ns.take 63).map V.int)) nl)).trans (same_new (o := .lst [.ref l, .int 0, .int 0]) np)
    refine q _ p l s0 (((same_new nc).trans (same_new nl)).free np) ((same_new nc).free nl) ⟨ns.take 63, 0, 0, upd_same, upd_new np upd_same, npl, ?_, by omega⟩
    rw [List.length_take]
    omega
theorem ok_draw {f : Addr} {fd : FuncData} {k : Nat} (F : Fun K "_law_draw" "_law_draw" s__law_draw f fd) (T : Txt mg) : FnOk P w K mg base CX0 (k + 1) f fd ["_law_pen_here", "_law_many"] spDraw := by
  refine F.ok sc__law_draw (fun vs H Q E h => ?_) (fun cdv A outer s H vs Q E hr h => ?_)
  · obtain ⟨p, c, many, k, rfl, _⟩ := h
    rfl
  · obtain ⟨p, c, many, k, rfl, hm0, hm1, ⟨ns, at_, left, hp, hc, npc, hn, hat⟩, q⟩ := h
    refine ⟨_, (pss_cons (ps_if (pt_cmpR op_gt (pe_ix ix_list (pv 0) pe_int (fun _ _ => rfl)) pe_int (nomark _)) (pss_cons (ps_set (i := 2) sc__law_draw.nd rfl (by first | exact Or.inl rfl | exact Or.inr rfl) (pe_op op_mod (pe_callTy call_int1 (by rfl) T.z_int (by decide +kernel) (pa_cons (pe_ix ix_list (pv 0) pe_int (fun _ _ => rfl)) pa_nil)) (pv 1)))
 (pss_cons (ps_asg (pe_op op_fdiv (pe_callTy call_int1 (by rfl) T.z_int (by decide +kernel) (pa_cons (pe_ix ix_list (pv 0) pe_int (fun _ _ => rfl)) pa_nil)) (pv 1)) (pg_sub (pv 0) pe_int set_list))
 (pss_one (ps_ret (pv 2)))))
 pss_nil)
 (pss_cons (ps_set (i := 3) sc__law_draw.nd rfl (by first | exact Or.inl rfl | exact Or.inr rfl) (pe_ix ix_list (pv 0) pe_int (fun _ _ => rfl)))
 (pss_cons (ps_asg (pe_op op_add (pv 3) pe_int) (pg_sub (pv 0) pe_int set_list))
 (pss_cons (ps_set (i := 4) sc__law_draw.nd rfl (by first | exact Or.inl rfl | exact Or.inr rfl) (pe_op op_add (pe_op op_mul pe_int (pv 3)) pe_int))
 (Evl.pss_cut (ps_if (pt_cmpR (op_neD hr.units) (pe_ix ix_list (pv 0) pe_int (fun _ _ => rfl)) (pe_lst pa_nil) (nomark _)) (pss_one (ps_set (i := 4) sc__law_draw.nd rfl (by first | exact Or.inl rfl | exact Or.inr rfl) (pe_ix ix_list (pe_ix ix_list (pv 0) pe_int (fun _ _ => rfl)) (pe_op op_mod (pe_callTy call_int1 (by rfl) T.z_int (by decide +kernel) (pa_cons (pv 3) pa_nil)) (pe_callB call_len_seq (by rfl) T.z_len (by decide +kernel) (pa_cons (pe_ix ix_list (pv 0) pe_int (fun _ _ => rfl)) pa_nil))) (fun _ _ => rfl))))
 pss_nil)
 (pss_cons (ps_if (PW.pt (pw_and (pt_cmpR op_lt (pv 3) (pe_callB call_len_seq (by rfl) T.z_len (by decide +kernel) (pa_cons (pe_ix ix_list (pv 0) pe_int (fun _ _ => rfl)) pa_nil)) (nomark _)) (pw_and1 (pt_cmpR op_ge (pe_callB call_abs (by rfl) T.z_abs (by decide +kernel) (pa_cons (pv 4) pa_nil)) (pe_op op_pow pe_int pe_int) (nomark _))))) (pss_cons (ps_set (i := 5) sc__law_draw.nd rfl (by first | exact Or.inl rfl | exact Or.inr rfl) (pe_op op_add (pe_op op_mul pe_int (pe_callB call_abs (by rfl) T.z_abs (by decide +kernel) (pa_cons (pv 4) pa_nil))) (pe_callTy call_int1 (by rfl) T.z_int (by decide +kernel) (pa_cons (pe_cmpR op_lt (pv 4) pe_int (nomark _)) pa_nil))))
 (pss_cons (ps_asg (pe_op op_fdiv (pv 5) (pv 1)) (pg_sub (pv 0) pe_int set_list))
 (pss_one (ps_ret (pe_op op_mod (pe_callTy call_int1 (by rfl) T.z_int (by decide +kernel) (pa_cons (pv 5) pa_nil)) (pv 1))))))
 pss_nil)
 (pss_cons (ps_set (i := 6) sc__law_draw.nd rfl (by first | exact Or.inl rfl | exact Or.inr rfl) (pe_op op_mod (pe_op op_pow (pe_callTy call_int1 (by rfl) T.z_int (by decide +kernel) (pa_cons (pe_op op_add (pe_op op_add (pe_op op_mod (pe_callTy call_int1 (by rfl) T.z_int (by decide +kernel) (pa_cons (pv 4) pa_nil)) pe_int) (pe_op op_mul pe_int (pv 3))) pe_int) pa_nil)) pe_int) pe_int))
 (pss_cons (ps_set (i := 6) sc__law_draw.nd rfl (by first | exact Or.inl rfl | exact Or.inr rfl) (pe_op op_mod (pe_op op_pow (pe_callTy call_int1 (by rfl) T.z_int (by decide +kernel) (pa_cons (pe_op op_add (pe_op op_add (pe_op op_mul (pv 6) (pe_op op_add (pv 3) pe_int)) (pe_op op_mul (pe_op op_mul pe_int (pv 3)) (pv 3))) pe_int) pa_nil)) pe_int) pe_int))
 (pss_one (ps_ret (pe_op op_mod (pe_callTy call_int1 (by rfl) T.z_int (by decide +kernel) (pa_cons (pe_op op_fdiv (pv 6) pe_int) pa_nil)) (pv 1)))))))))))), at_start (σ := [some (.ref p), some (.int many), none, none, none, none, none]) rfl ?_⟩
    dsimp only [cx_K]
    walk_at "rd"
    have upp : ∀ o, upd H p o c = some (.lst (ns.map V.int)) := fun o => by rw [upd_ne npc.symm]; exact hc
    refine r_ite2 (fun h1 => ?_) (fun h1 => ?_)
    · walk_at "rd"
      exact q (left % many) _ (Int.emod_nonneg _ (by omega)) (Int.emod_lt_of_pos _ hm0) ⟨ns, at_, left / many, upd_same, upp _, npc, hn, by omega⟩ fun b o e hb => by rw [upd_ne hb]; exact e
    · walk_at "rd"
      refine ⟨fun σ' H' => ∃ cell : Int, σ' = [some (.ref p), some (.int many), none, some (.int at_), some (.int cell), none, none] ∧ H' p = some (.lst [.ref c, .int (at_ + 1), .int left]) ∧ H' c = some (.lst (ns.map V.int)) ∧ Keep p H H', ?_, ?_⟩
      · walk_at "rd"
        refine ⟨by decide, fun e he => ?_⟩
        have npe : p ≠ e := fun z => by rw [z, upd_same] at he; cases he
        refine r_neInts (ns := ns) (ms := []) (by walk_at "sq") (SqL.of upd_same) ?_
        walk_at "rd"
        have k1 : Keep p H (upd (upd H p (.lst [.ref c, .int (at_ + 1), .int left])) e (.lst [])) := fun b o x hb => upd_new he (by rw [upd_ne hb]; exact x)
        refine r_iteN2 (fun h2 => ?_) (fun h2 => ?_)
        · walk_at "rd"
          have hl : 0 < ns.length := List.length_pos_iff.mpr h2
          rw [List.length_map]
          have hj : (at_ : Int) % (ns.length : Int) = ((at_ % ns.length : Nat) : Int) := by omega
          have hj2 : at_ % ns.length < ns.length := Nat.mod_lt _ hl
          refine r_I (by show (0 : Int) < _; omega) ?_
          refine r_ixL (xs := ns.map V.int) (v := .int (ns[at_ % ns.length])) (by walk_at "sq") (by rw [hj]; exact atI_nat (by simp [hj2])) ?_
          exact ⟨_, rfl, upd_new he upd_same, upd_new he (upp _), k1⟩
        · exact ⟨_, rfl, upd_new he upd_same, upd_new he (upp _), k1⟩
      · rintro σ' H' ⟨cell, rfl, hp1, hc1, k1⟩
        have h6 : ∀ (r : Int) (l2 : Int), 0 ≤ r → r < many → Q (.int r) (upd H' p (.lst [.ref c, .int ((at_ + 1 : Nat) : Int), .int l2])) := fun r l2 h7 h8 =>
          q r _ h7 h8 ⟨ns, at_ + 1, l2, upd_same, by rw [upd_ne npc.symm]; exact hc1, npc, hn, by omega⟩ fun b o x hb => by rw [upd_ne hb]; exact k1 b o x hb
        have h9 : ∀ r : Int, 0 ≤ r → r < many → Q (.int r) H' := fun r h7 h8 => q r _ h7 h8 ⟨ns, at_ + 1, left, hp1, hc1, npc, hn, by omega⟩ k1
        walk_at "rd"
        refine r_ite2 (fun h2 => ?_) (fun h2 => ?_)
        · walk_at "rd"
          refine r_ite2 (fun h3 => ?_) (fun h3 => ?_)
          · walk_at "rd"
            exact h6 _ _ (Int.emod_nonneg _ (by omega)) (Int.emod_lt_of_pos _ hm0)
          · walk_at "rd"
            have m1 : 0 ≤ (cell % 2147483579 + 57131 * (at_ : Int) + 211) ^ Int.toNat 5 % 2147483629 := Int.emod_nonneg _ (by decide)
            have m2 : (cell % 2147483579 + 57131 * (at_ : Int) + 211) ^ Int.toNat 5 % 2147483629 < 2147483629 := Int.emod_lt_of_pos _ (by decide)
            generalize (cell % 2147483579 + 57131 * (at_ : Int) + 211) ^ Int.toNat 5 % 2147483629 = m at m1 m2 ⊢
            have b1 := mul_bd (A := 2147483629) (B := 300000) m1 (by omega) (show 0 ≤ (at_ : Int) + 64007 by omega) (by omega)
            have b2 := mul_bd (A := 100000 * 91009) (B := 100000) (show 0 ≤ 91009 * (at_ : Int) by omega) (by omega) (show 0 ≤ (at_ : Int) by omega) (by omega)
            refine r_I (show CPow _ _ from ⟨by decide, by decide, by omega⟩) ?_
            walk_at "rd"
            exact h9 _ (Int.emod_nonneg _ (by omega)) (Int.emod_lt_of_pos _ hm0)

        · walk_at "rd"
          have m1 : 0 ≤ (cell % 2147483579 + 57131 * (at_ : Int) + 211) ^ Int.toNat 5 % 2147483629 := Int.emod_nonneg _ (by decide)
          have m2 : (cell % 2147483579 + 57131 * (at_ : Int) + 211) ^ Int.toNat 5 % 2147483629 < 2147483629 := Int.emod_lt_of_pos _ (by decide)
          generalize (cell % 2147483579 + 57131 * (at_ : Int) + 211) ^ Int.toNat 5 % 2147483629 = m at m1 m2 ⊢
          have b1 := mul_bd (A := 2147483629) (B := 300000) m1 (by omega) (show 0 ≤ (at_ : Int) + 64007 by omega) (by omega)
          have b2 := mul_bd (A := 100000 * 91009) (B := 100000) (show 0 ≤ 91009 * (at_ : Int) by omega) (by omega) (show 0 ≤ (at_ : Int) by omega) (by omega)
          refine r_I (show CPow _ _ from ⟨by decide, by decide, by omega⟩) ?_
          walk_at "rd"
          exact h9 _ (Int.emod_nonneg _ (by omega)) (Int.emod_lt_of_pos _ hm0)

end

end K16


namespace K16
open PySem L2 KB KO KV
/-! ### a Kind -/
def statesOf (w : Str) : List Int := if w = "once" then [0, 1, 2, 3] else [0, 1]
def flds (r w d : Str) (st : Addr) : List (Str × V) := [("reading", .str r), ("writing", .str w), ("device", .str d), ("states", .ref st)]
theorem fl_r {r w d : Str} {st : Addr} : (flds r w d st).lookup ("reading" : Str) = some (.str r) := rfl
theorem fl_w {r w d : Str} {st : Addr} : (flds r w d st).lookup ("writing" : Str) = some (.str w) := rfl
theorem fl_d {r w d : Str} {st : Addr} : (flds r w d st).lookup ("device" : Str) = some (.str d) := rfl
theorem fl_s {r w d : Str} {st : Addr} : (flds r w d st).lookup ("states" : Str) = some (.ref st) := rfl
theorem fl_no {r w d : Str} {st : Addr} : (flds r w d st).lookup ("after_read" : Str) = none ∧ (flds r w d st).lookup ("after_write" : Str) = none ∧ (flds r w d st).lookup ("unguarded" : Str) = none := ⟨rfl, rfl, rfl⟩
theorem fl_put {r w d : Str} {st : Addr} : putF "states" (.ref st) (putF "device" (.str d) (putF "writing" (.str w) (putF "reading" (.str r) []))) = flds r w d st := rfl
def KindAt (C : Addr) (H : Hp) (p : Addr) (r w d : Str) : Prop := ∃ dx st, H p = some (.ins C dx (flds r w d st)) ∧ H st = some (.tup ((statesOf w).map V.int))
theorem KindAt.up {C : Addr} {H H' : Hp} {p : Addr} {r w d : Str} (h : KindAt C H p r w d) (s : Same H H') : KindAt C H' p r w d := by
  obtain ⟨dx, st, h1, h2⟩ := h
  exact ⟨dx, st, s _ _ h1, s _ _ h2⟩
def RD : List Str := ["keep", "take"]
def WR : List Str := ["store", "clear1", "clear0", "set1", "flip1", "once", "none"]
def DV : List Str := ["still", "raise", "end", "drift"]
/-- what the text's class Kind is -/
structure TxtK (K : PySem.W.Frag) (mg : Str → Option Value) (C : Addr) : Prop extends Txt mg where
  cl : Cls K C
  n_reading : NoAttr K C "reading"
  n_writing : NoAttr K C "writing"
  n_device : NoAttr K C "device"
  n_states : NoAttr K C "states"
  mg_Kind : mg "Kind" = some (.ref C)
  con : ∃ (mc : Value) (a1 a2 a3 : Addr) (u1 u2 u3 : Value), ClX.CRead K C mc ∧ ClX.CVal K C mc "READINGS" (.ref a1) u1 ∧ ClX.CVal K C mc "WRITINGS" (.ref a2) u2 ∧ ClX.CVal K C mc "DEVICES" (.ref a3) u3 ∧
    (∀ H, SqT K H a1 (RD.map V.str)) ∧ (∀ H, SqT K H a2 (WR.map V.str)) ∧ (∀ H, SqT K H a3 (DV.map V.str))
def spKind (C : Addr) : Sp := fun vs H Q _ => ∃ (p dx : Addr) (r w d : Str), vs = [.ref p, .str r, .str w, .str d] ∧ r ∈ RD ∧ w ∈ WR ∧ d ∈ DV ∧ H p = some (.ins C dx []) ∧
  ∀ H', KindAt C H' p r w d → Keep p H H' → Q .non H'

/-! ### kinds: the mathematics -/
def afterRead (r : Str) (s : Int) : Int := if r = "take" then s - s % 2 else s
def unguarded (w : Str) (s b : Int) : Int :=
  if w = "store" then s / 2 * 2 + b else if w = "clear1" then s / 2 * 2 + s % 2 * (1 - b) else if w = "clear0" then s / 2 * 2 + s % 2 * b
  else if w = "set1" then s / 2 * 2 + (if b > s % 2 then b else s % 2) else if w = "flip1" then s / 2 * 2 + (s % 2 + b) % 2 else if w = "once" then 2 + b else s
def afterWrite (w : Str) (s b : Int) : Int := if w = "once" ∧ 1 < s then s else unguarded w s b
def spRead (C : Addr) : Sp := fun vs H Q _ => ∃ (p : Addr) (r w d : Str) (s : Int), vs = [.ref p, .int s] ∧ KindAt C H p r w d ∧ Q (.int (afterRead r s)) H
def spUng (C : Addr) : Sp := fun vs H Q _ => ∃ (p : Addr) (r w d : Str) (s b : Int), vs = [.ref p, .int s, .int b] ∧ KindAt C H p r w d ∧ Q (.int (unguarded w s b)) H
def spWrite (C : Addr) : Sp := fun vs H Q _ => ∃ (p : Addr) (r w d : Str) (s b : Int), vs = [.ref p, .int s, .int b] ∧ KindAt C H p r w d ∧ Q (.int (afterWrite w s b)) H

def movable (d : Str) : List Int := if d = "still" then [] else if d = "raise" then [0] else if d = "end" then [1] else [0, 1]
def deedsOf (d : Str) (s : Int) : List Int := if s % 2 ∈ movable d then [s + 1 - 2 * (s % 2)] else []
structure TxtM (K : PySem.W.Frag) (wd : World) (mg : Str → Option Value) (C dM : Addr) : Prop extends TxtK K mg C where
  ty : ∀ {H : Hp} {a dx : Addr} {fs : List (Str × V)}, H a = some (.ins C dx fs) → TyX K H (.ref a) (.ref C)
  isi : PySem.W.kitOne K (.ref C) (.ref C) = some true
  mg_MOVABLE : mg "MOVABLE" = some (.ref dM)
  mov : ∃ es n, KDict K wd dM es n
  item : ∀ d ∈ DV, ∃ a, PySem.W.nsIn K dM d = some (some (.ref a)) ∧ ∀ H, SqT K H a ((movable d).map V.int)
def spDeedsK (C : Addr) : Sp := fun vs H Q _ => ∃ (p : Addr) (r w d : Str) (s : Int), vs = [.ref p, .int s] ∧ KindAt C H p r w d ∧ d ∈ DV ∧ ∀ H' a, Same H H' → H' a = some (.tup ((deedsOf d s).map V.int)) → Q (.ref a) H'
def spEq (C : Addr) : Sp := fun vs H Q _ => ∃ (p p' : Addr) (r w d r' w' d' : Str), vs = [.ref p, .ref p'] ∧ KindAt C H p r w d ∧ KindAt C H p' r' w' d' ∧ Q (.bl (decide (r = r' ∧ w = w' ∧ d = d'))) H


section
variable {P : Program} {w : World} {K : PySem.W.Frag} {mg : Str → Option Value} {base : Heap}
theorem ok_kind {f C : Addr} {fd : FuncData} {k : Nat} (F : Fun K "__init__" "Kind.__init__" s_Kind___init__ f fd) (T : TxtK K mg C) : FnOk P w K mg base CX0 (k + 1) f fd ["self", "reading", "writing", "device"] (spKind C) := by
  refine F.ok sc_Kind___init__ (fun vs H Q E h => ?_) (fun cdv A outer s H vs Q E hr h => ?_)
  · obtain ⟨p, dx, r, w, d, rfl, _⟩ := h
    rfl
  · obtain ⟨p, dx, r, w, d, rfl, hr1, hw1, hd1, hp, q⟩ := h
    obtain ⟨mc, a1, a2, a3, u1, u2, u3, cr, v1, v2, v3, t1, t2, t3⟩ := T.con
    refine ⟨_, (pss_cons (ps_for PassesOwn.never rfl (pi_tup (pe_tup (pa_cons (pe_tup (pa_cons (pv 1) (pa_cons (ClX.pe_cval (pe_glob (v := .ref _) (by rfl) T.mg_Kind rfl)) pa_nil))) (pa_cons (pe_tup (pa_cons (pv 2) (pa_cons (ClX.pe_cval (pe_glob (v := .ref _) (by rfl) T.mg_Kind rfl)) pa_nil))) (pa_cons (pe_tup (pa_cons (pv 3) (pa_cons (ClX.pe_cval (pe_glob (v := .ref _) (by rfl) T.mg_Kind rfl)) pa_nil))) pa_nil))))) (pg_tup rfl (pgs_cons (pg_name (i := 4) sc_Kind___init__.nd rfl (by first | exact Or.inl rfl | exact Or.inr rfl)) (pgs_cons (pg_name (i := 5) sc_Kind___init__.nd rfl (by first | exact Or.inl rfl | exact Or.inr rfl)) pgs_nil)))
 (pss_one (ps_if (pt_cmpR op_notIn_seq (pv 4) (pv 5) (by rfl)) (pss_one ps_never)
 pss_nil)))
 (pss_cons (ps_fld (pv 0) (pv 1) rfl)
 (pss_cons (ps_fld (pv 0) (pv 2) rfl)
 (pss_cons (ps_fld (pv 0) (pv 3) rfl)
 (pss_one (ps_fld (pv 0) (pe_ifExp (pt_cmpR op_eq (pv 2) pe_str (nomark _)) (pe_tup (pa_cons pe_int (pa_cons pe_int (pa_cons pe_int (pa_cons pe_int pa_nil))))) (pe_tup (pa_cons pe_int (pa_cons pe_int pa_nil)))) rfl)))))), at_start (σ := [some (.ref p), some (.str r), some (.str w), some (.str d), none, none]) rfl ?_⟩
    dsimp only [cx_K]
    walk_at "rd"
    refine ⟨by walk_at "sz", fun c1 n1 => ?_⟩
    walk_at "rd"
    refine ⟨by walk_at "sz", fun c2 n2 => ?_⟩
    walk_at "rd"
    refine ⟨by walk_at "sz", fun c3 n3 => ?_⟩
    walk_at "rd"
    refine ⟨by walk_at "sz", fun c4 n4 => ?_⟩
    have s4 := (((same_new (o := .tup [.str r, .ref a1]) n1).trans (same_new (o := .tup [.str w, .ref a2]) n2)).trans (same_new (o := .tup [.str d, .ref a3]) n3)).trans (same_new (o := .tup [.ref c1, .ref c2, .ref c3]) n4)
    have g1 : (upd (upd (upd (upd H c1 (.tup [.str r, .ref a1])) c2 (.tup [.str w, .ref a2])) c3 (.tup [.str d, .ref a3])) c4 (.tup [.ref c1, .ref c2, .ref c3])) c1 = some (.tup [.str r, .ref a1]) := by walk_at "hp"
    have g2 : (upd (upd (upd (upd H c1 (.tup [.str r, .ref a1])) c2 (.tup [.str w, .ref a2])) c3 (.tup [.str d, .ref a3])) c4 (.tup [.ref c1, .ref c2, .ref c3])) c2 = some (.tup [.str w, .ref a2]) := by walk_at "hp"
    have g3 : (upd (upd (upd (upd H c1 (.tup [.str r, .ref a1])) c2 (.tup [.str w, .ref a2])) c3 (.tup [.str d, .ref a3])) c4 (.tup [.ref c1, .ref c2, .ref c3])) c3 = some (.tup [.str d, .ref a3]) := by walk_at "hp"
    have g4 : (upd (upd (upd (upd H c1 (.tup [.str r, .ref a1])) c2 (.tup [.str w, .ref a2])) c3 (.tup [.str d, .ref a3])) c4 (.tup [.ref c1, .ref c2, .ref c3])) c4 = some (.tup [.ref c1, .ref c2, .ref c3]) := by walk_at "hp"
    generalize (upd (upd (upd (upd H c1 (.tup [.str r, .ref a1])) c2 (.tup [.str w, .ref a2])) c3 (.tup [.str d, .ref a3])) c4 (.tup [.ref c1, .ref c2, .ref c3])) = H4 at s4 g1 g2 g3 g4 ⊢
    refine ⟨c4, rfl, ⟨_, SqT.of g4⟩, forW (walk_tup (xs := [.ref c1, .ref c2, .ref c3])) (fun i σ H' => ∃ y4 y5, σ = [some (.ref p), some (.str r), some (.str w), some (.str d), y4, y5] ∧ H' = H4) ⟨none, none, rfl, rfl⟩ (fun i σ H' _ ⟨_, _, _, e⟩ => e ▸ SqT.of g4) ?_ ?_⟩
    · rintro i x σ' H' _ hi0 ⟨y4, y5, rfl, rfl⟩ ⟨rfl, hi⟩
      have cs : (x = .ref c1 ∨ x = .ref c2 ∨ x = .ref c3) := by
        have := List.mem_of_getElem? hi
        simpa using this
      rcases cs with rfl | rfl | rfl
      · refine ⟨_, _, rfl, SqT.of g1, rfl, _, _, rfl, _, _, rfl, rfl, ?_⟩
        walk_at "rd"
        refine r_notInS (zs := RD) (.inr (t1 _)) ?_
        walk_at "rd"
        refine r_iteNF hr1 ?_
        walk_at "rd"
        exact ⟨_, _, rfl, rfl⟩
      · refine ⟨_, _, rfl, SqT.of g2, rfl, _, _, rfl, _, _, rfl, rfl, ?_⟩
        walk_at "rd"
        refine r_notInS (zs := WR) (.inr (t2 _)) ?_
        walk_at "rd"
        refine r_iteNF hw1 ?_
        walk_at "rd"
        exact ⟨_, _, rfl, rfl⟩
      · refine ⟨_, _, rfl, SqT.of g3, rfl, _, _, rfl, _, _, rfl, rfl, ?_⟩
        walk_at "rd"
        refine r_notInS (zs := DV) (.inr (t3 _)) ?_
        walk_at "rd"
        refine r_iteNF hd1 ?_
        walk_at "rd"
        exact ⟨_, _, rfl, rfl⟩
    · rintro σ' H' ⟨y4, y5, rfl, rfl⟩
      have hp4 := s4 _ _ hp
      walk_at "rd"
      refine ⟨p, C, dx, _, rfl, hp4, T.cl, T.n_reading, (by decide), ?_⟩
      walk_at "rd"
      refine ⟨p, C, dx, _, rfl, upd_same, T.cl, T.n_writing, putF_lt0 (by decide), ?_⟩
      walk_at "rd"
      refine ⟨p, C, dx, _, rfl, upd_same, T.cl, T.n_device, putF_lt0 (putF_lt (by decide)), ?_⟩
      walk_at "rd"
      have fin : ∀ st, (upd (upd (upd H' p (.ins C dx (putF "reading" (.str r) []))) p (.ins C dx (putF "writing" (.str w) (putF "reading" (.str r) [])))) p (.ins C dx (putF "device" (.str d) (putF "writing" (.str w) (putF "reading" (.str r) []))))) st = none →
          Q .non (upd (upd (upd (upd (upd H' p (.ins C dx (putF "reading" (.str r) []))) p (.ins C dx (putF "writing" (.str w) (putF "reading" (.str r) [])))) p (.ins C dx (putF "device" (.str d) (putF "writing" (.str w) (putF "reading" (.str r) []))))) st (.tup ((statesOf w).map V.int))) p (.ins C dx (flds r w d st))) := by
        intro st hst
        have np : p ≠ st := fun z => by rw [← z, upd_same] at hst; cases hst
        refine q _ ⟨dx, st, upd_same, by rw [upd_ne np.symm, upd_same]⟩ fun b o e hb => ?_
        rw [upd_ne hb, upd_new hst]
        rw [upd_ne hb, upd_ne hb, upd_ne hb]
        exact s4 _ _ e
      refine r_ite2 (fun h => ?_) (fun h => ?_)
      · have h' : w = "once" := V.str.inj h
        walk_at "rd"
        refine ⟨by walk_at "sz", fun st hst => ?_⟩
        have np : p ≠ st := fun z => by rw [← z, upd_same] at hst; cases hst
        walk_at "rd"
        refine ⟨p, C, dx, _, rfl, by rw [upd_ne np]; exact upd_same, T.cl, T.n_states, putF_lt0 (putF_lt (putF_lt (by decide))), ?_⟩
        have := fin st hst
        rw [statesOf, if_pos h'] at this
        exact this
      · have h' : ¬ w = "once" := fun z => h (by rw [z])
        walk_at "rd"
        refine ⟨by walk_at "sz", fun st hst => ?_⟩
        have np : p ≠ st := fun z => by rw [← z, upd_same] at hst; cases hst
        walk_at "rd"
        refine ⟨p, C, dx, _, rfl, by rw [upd_ne np]; exact upd_same, T.cl, T.n_states, putF_lt0 (putF_lt (putF_lt (by decide))), ?_⟩
        have := fin st hst
        rw [statesOf, if_neg h'] at this
        exact this

theorem ok_after_read {f C : Addr} {fd : FuncData} {k : Nat} (F : Fun K "after_read" "Kind.after_read" s_Kind_after_read f fd) (T : TxtK K mg C) : FnOk P w K mg base CX0 (k + 1) f fd ["self", "state"] (spRead C) := by
  refine F.ok sc_Kind_after_read (fun vs H Q E h => ?_) (fun cdv A outer s H vs Q E hr h => ?_)
  · obtain ⟨p, r, w, d, s, rfl, _⟩ := h
    rfl
  · obtain ⟨p, r, w, d, s, rfl, ⟨dx, st, h1, h2⟩, q⟩ := h
    refine ⟨_, (pss_one (ps_ret (pe_ifExp (pt_cmpR op_eq (pe_fld (pv 0) rfl) pe_str (nomark _)) (pe_op op_sub (pv 1) (pe_op op_mod (pv 1) pe_int)) (pv 1)))), at_start (σ := [some (.ref p), some (.int s)]) rfl ?_⟩
    dsimp only [cx_K]
    walk_at "rd"
    refine ⟨p, C, dx, _, _, rfl, h1, T.cl, T.n_reading, fl_r, ?_⟩
    walk_at "rd"
    unfold afterRead at q
    refine r_ite2 (fun h => ?_) (fun h => ?_)
    · have h' : r = "take" := V.str.inj h
      rw [if_pos h'] at q
      walk_at "rd"
      exact q
    · have h' : ¬ r = "take" := fun z => h (by rw [z])
      rw [if_neg h'] at q
      walk_at "rd"
      exact q
theorem ok_unguarded {f C : Addr} {fd : FuncData} {k : Nat} (F : Fun K "unguarded" "Kind.unguarded" s_Kind_unguarded f fd) (T : TxtK K mg C) : FnOk P w K mg base CX0 (k + 1) f fd ["self", "state", "bit"] (spUng C) := by
  refine F.ok sc_Kind_unguarded (fun vs H Q E h => ?_) (fun cdv A outer s H vs Q E hr h => ?_)
  · obtain ⟨p, r, w, d, s, b, rfl, _⟩ := h
    rfl
  · obtain ⟨p, r, w, d, s, b, rfl, ⟨dx, st, h1, h2⟩, q⟩ := h
    refine ⟨_, (pss_cons (ps_par (i := 3) (j := 4) (by rfl) sc_Kind_unguarded.nd rfl rfl (by decide) rfl rfl (pa_cons (pe_op op_mul (pe_op op_fdiv (pv 1) pe_int) pe_int) (pa_cons (pe_op op_mod (pv 1) pe_int) pa_nil)) (by rfl))
 (pss_cons (ps_match (pe_fld (pv 0) rfl) (pm_str (pss_one (ps_ret (pe_op op_add (pv 3) (pv 2))))
 (pm_str (pss_one (ps_ret (pe_op op_add (pv 3) (pe_op op_mul (pv 4) (pe_op op_sub pe_int (pv 2))))))
 (pm_str (pss_one (ps_ret (pe_op op_add (pv 3) (pe_op op_mul (pv 4) (pv 2)))))
 (pm_str (pss_one (ps_ret (pe_op op_add (pv 3) (pe_callB (call_max2 rfl) (by rfl) T.z_max (by decide +kernel) (pa_cons (pv 4) (pa_cons (pv 2) pa_nil))))))
 (pm_str (pss_one (ps_ret (pe_op op_add (pv 3) (pe_op op_mod (pe_op op_add (pv 4) (pv 2)) pe_int))))
 (pm_str (pss_one (ps_ret (pe_op op_add pe_int (pv 2))))
 pm_nil)))))))
 (pss_one (ps_ret (pv 1))))), at_start (σ := [some (.ref p), some (.int s), some (.int b), none, none]) rfl ?_⟩
    dsimp only [cx_K]
    walk_at "rd"
    refine ⟨_, _, rfl, ?_⟩
    walk_at "rd"
    refine ⟨p, C, dx, _, _, rfl, h1, T.cl, T.n_writing, fl_w, ?_⟩
    unfold unguarded at q
    walk_at "rd"
    refine r_ite2 (fun h => ?_) (fun h => ?_)
    · rw [if_pos h] at q
      walk_at "rd"
      exact q
    rw [if_neg h] at q
    walk_at "rd"
    refine r_ite2 (fun h => ?_) (fun h => ?_)
    · rw [if_pos h] at q
      walk_at "rd"
      exact q
    rw [if_neg h] at q
    walk_at "rd"
    refine r_ite2 (fun h => ?_) (fun h => ?_)
    · rw [if_pos h] at q
      walk_at "rd"
      exact q
    rw [if_neg h] at q
    walk_at "rd"
    refine r_ite2 (fun h => ?_) (fun h => ?_)
    · rw [if_pos h] at q
      walk_at "rd"
      exact q
    rw [if_neg h] at q
    walk_at "rd"
    refine r_ite2 (fun h => ?_) (fun h => ?_)
    · rw [if_pos h] at q
      walk_at "rd"
      exact q
    rw [if_neg h] at q
    walk_at "rd"
    refine r_ite2 (fun h => ?_) (fun h => ?_)
    · rw [if_pos h] at q
      walk_at "rd"
      exact q
    rw [if_neg h] at q
    walk_at "rd"
    exact q
theorem ok_after_write {f C : Addr} {fd : FuncData} {k j : Nat} (F : Fun K "after_write" "Kind.after_write" s_Kind_after_write f fd) (T : TxtK K mg C) (c_Kind_unguarded : CalleeM P w K mg base CX0 1 C "unguarded" ["self", "state", "bit"] (spUng C)) : FnOk P w K mg base CX0 2 f fd ["self", "state", "bit"] (spWrite C) := by
  refine F.ok sc_Kind_after_write (fun vs H Q E h => ?_) (fun cdv A outer s H vs Q E hr h => ?_)
  · obtain ⟨p, r, w, d, s, b, rfl, _⟩ := h
    rfl
  · obtain ⟨p, r, w, d, s, b, rfl, KA, q⟩ := h
    obtain ⟨dx, st, h1, h2⟩ := id KA
    refine ⟨_, (pss_cons (ps_if (PW.pt (pw_and (pt_cmpR op_eq (pe_fld (pv 0) rfl) pe_str (nomark _)) (pw_and1 (pt_cmpR op_gt (pv 1) pe_int (nomark _))))) (pss_one (ps_ret (pv 1)))
 pss_nil)
 (pss_one (ps_ret (pe_methC c_Kind_unguarded (pv 0) (hr.mono (by decide)) pass0 (pa_cons (pv 1) (pa_cons (pv 2) pa_nil)))))), at_start (σ := [some (.ref p), some (.int s), some (.int b)]) rfl ?_⟩
    dsimp only [cx_K]
    walk_at "rd"
    refine ⟨p, C, dx, _, _, rfl, h1, T.cl, T.n_writing, fl_w, ?_⟩
    unfold afterWrite at q
    walk_at "rd"
    have call : ¬ (w = "once" ∧ 1 < s) → spUng C [.ref p, .int s, .int b] H Q E0 := fun h => ⟨p, r, w, d, s, b, rfl, KA, by rw [if_neg h] at q; exact q⟩
    refine r_ite2 (fun h => ?_) (fun h => ?_)
    · have h' : w = "once" := V.str.inj h
      walk_at "rd"
      refine r_ite2 (fun h2 => ?_) (fun h2 => ?_)
      · rw [if_pos ⟨h', h2⟩] at q
        walk_at "rd"
        exact q
      · walk_at "rd"
        refine ⟨p, dx, _, rfl, h1, fl_no.2.2, ?_⟩
        walk_at "rd"
        exact call fun z => h2 z.2
    · walk_at "rd"
      refine ⟨p, dx, _, rfl, h1, fl_no.2.2, ?_⟩
      walk_at "rd"
      exact call fun z => h (by rw [z.1])

theorem ok_deedsK {f C dM : Addr} {fd : FuncData} {k : Nat} (F : Fun K "deeds" "Kind.deeds" s_Kind_deeds f fd) (T : TxtM K w mg C dM) : FnOk P w K mg base CX0 (k + 1) f fd ["self", "state"] (spDeedsK C) := by
  refine F.ok sc_Kind_deeds (fun vs H Q E h => ?_) (fun cdv A outer s H vs Q E hr h => ?_)
  · obtain ⟨p, r, w, d, s, rfl, _⟩ := h
    rfl
  · obtain ⟨p, r, w, d, s, rfl, ⟨dx, st, h1, h2⟩, hd, q⟩ := h
    obtain ⟨es, n, kd_MOVABLE⟩ := T.mov
    obtain ⟨a, ia, sa⟩ := T.item d hd
    refine ⟨_, (pss_cons (ps_set (i := 2) sc_Kind_deeds.nd rfl (by first | exact Or.inl rfl | exact Or.inr rfl) (pe_op op_mod (pv 1) pe_int))
 (pss_cons (ps_if (pt_cmpR op_notIn_seq (pv 2) (pe_ix (KO.ix_kd kd_MOVABLE) (pe_glob (v := .ref _) (by rfl) T.mg_MOVABLE rfl) (pe_fld (pv 0) rfl) (fun _ _ => rfl)) (by rfl)) (pss_one (ps_ret (pe_tup pa_nil)))
 pss_nil)
 (pss_one (ps_ret (pe_tup (pa_cons (pe_op op_sub (pe_op op_add (pv 1) pe_int) (pe_op op_mul pe_int (pv 2))) pa_nil)))))), at_start (σ := [some (.ref p), some (.int s), none]) rfl ?_⟩
    dsimp only [cx_K]
    walk_at "rd"
    refine ⟨p, C, dx, _, _, rfl, h1, T.cl, T.n_device, fl_d, ?_⟩
    refine ⟨d, _, .ref a, rfl, rfl, ia, rfl, ?_⟩
    refine r_notInI (zs := movable d) (.inr (sa _)) ?_
    walk_at "rd"
    walk_at "sp"
    · rename_i hn
      rw [show deedsOf d s = [] from if_neg hn] at q
      refine ⟨by walk_at "sz", fun c1 n1 => ?_⟩
      exact q _ c1 (same_new n1) upd_same
    · rename_i hn
      rw [show deedsOf d s = [_] from if_pos hn] at q
      refine ⟨by walk_at "sz", fun c1 n1 => ?_⟩
      exact q _ c1 (same_new n1) upd_same
theorem ok_eqK {f C dM : Addr} {fd : FuncData} {k : Nat} (F : Fun K "__eq__" "Kind.__eq__" s_Kind___eq__ f fd) (T : TxtM K w mg C dM) : FnOk P w K mg base CX0 (k + 1) f fd ["self", "other"] (spEq C) := by
  refine F.ok sc_Kind___eq__ (fun vs H Q E h => ?_) (fun cdv A outer s H vs Q E hr h => ?_)
  · obtain ⟨p, p', r, w, d, r', w', d', rfl, _⟩ := h
    rfl
  · obtain ⟨p, p', r, w, d, r', w', d', rfl, ⟨dx, st, h1, h2⟩, ⟨dx', st', h1', h2'⟩, q⟩ := h
    refine ⟨_, (pss_one (ps_ret (pe_and (pe_callB call_isi (by rfl) T.z_isinstance (by decide +kernel) (pa_cons (pv 1) (pa_cons (pe_glob (v := .ref _) (by rfl) T.mg_Kind rfl) pa_nil))) (pe_and (pe_cmpR op_eq (pe_fld (pv 0) rfl) (pe_fld (pv 1) rfl) (nomark _)) (pe_and (pe_cmpR op_eq (pe_fld (pv 0) rfl) (pe_fld (pv 1) rfl) (nomark _)) (pe_one (pe_cmpR op_eq (pe_fld (pv 0) rfl) (pe_fld (pv 1) rfl) (nomark _)))))))), at_start (σ := [some (.ref p), some (.ref p')]) rfl ?_⟩
    dsimp only [cx_K]
    have cl := T.cl; have nr := T.n_reading; have nw := T.n_writing; have nd := T.n_device
    walk_at "rd"
    refine ⟨_, _, _, _, true, rfl, .own C, T.ty h1', T.isi, ?_⟩
    walk_at "rd"
    walk_at "sp"
    · rename_i a b
      subst a b
      have e : decide (V.str d = V.str d') = decide (r = r ∧ w = w ∧ d = d') := by simp
      rw [e]
      exact q
    · rename_i a b
      rw [decide_eq_false (fun z => b z.2.1)] at q
      exact q
    · rename_i a
      rw [decide_eq_false (fun z => a z.1)] at q
      exact q

end
end K16


namespace K16
open PySem L2 KB KO KV
def endsOf (w : Str) (v : Int) : Int × Int :=
  if w = "store" then (0, 1) else if w = "clear1" then (v, 0) else if w = "clear0" then (0, v) else if w = "set1" then (v, 1) else if w = "none" then (v, v) else (v, 1 - v)
def lw (w : Str) (s b : Int) : Int := if w = "once" then (if s > 1 then s else 2 + b) else (s - s % 2) + (if b = 0 then (endsOf w (s % 2)).1 else (endsOf w (s % 2)).2)
def spLW : Sp := fun vs H Q _ => ∃ (w : Str) (s b : Int), vs = [.str w, .int s, .int b] ∧ w ∈ WR ∧ (b = 0 ∨ b = 1) ∧ ∀ H', Same H H' → Q (.int (lw w s b)) H'
def spLR : Sp := fun vs H Q _ => ∃ (r : Str) (s : Int), vs = [.str r, .int s] ∧ Q (.int (afterRead r s)) H
def spLD : Sp := fun vs H Q _ => ∃ (d : Str) (s : Int), vs = [.str d, .int s] ∧ d ∈ DV ∧ ∀ H' a, Same H H' → H' a = some (.tup ((deedsOf d s).map V.int)) → Q (.ref a) H'
def spWords : Sp := fun vs H Q _ => ∃ (pen c : Addr) (k : Nat), vs = [.ref pen] ∧ PenC H pen c (k + 3) ∧ ∀ (r w d : Str) H' a, r ∈ RD → w ∈ WR → d ∈ DV → PenC H' pen c k → Keep pen H H' → H' a = some (.tup [.str r, .str w, .str d]) → Q (.ref a) H'
theorem tab6l (a b c d e : V) : (mergeK [] [((Sum.inr "store" : Key), a), (Sum.inr "clear1", b), (Sum.inr "clear0", c), (Sum.inr "set1", d), (Sum.inr "none", e)]).length = 5 := rfl
theorem tab6 (a b c d e f : V) : valV (putK (mergeK [] [((Sum.inr "store" : Key), a), (Sum.inr "clear1", b), (Sum.inr "clear0", c), (Sum.inr "set1", d), (Sum.inr "none", e)]) (Sum.inr "flip1") f) (Sum.inr "store") = some a ∧
    valV (putK (mergeK [] [((Sum.inr "store" : Key), a), (Sum.inr "clear1", b), (Sum.inr "clear0", c), (Sum.inr "set1", d), (Sum.inr "none", e)]) (Sum.inr "flip1") f) (Sum.inr "clear1") = some b ∧
    valV (putK (mergeK [] [((Sum.inr "store" : Key), a), (Sum.inr "clear1", b), (Sum.inr "clear0", c), (Sum.inr "set1", d), (Sum.inr "none", e)]) (Sum.inr "flip1") f) (Sum.inr "clear0") = some c ∧
    valV (putK (mergeK [] [((Sum.inr "store" : Key), a), (Sum.inr "clear1", b), (Sum.inr "clear0", c), (Sum.inr "set1", d), (Sum.inr "none", e)]) (Sum.inr "flip1") f) (Sum.inr "set1") = some d ∧
    valV (putK (mergeK [] [((Sum.inr "store" : Key), a), (Sum.inr "clear1", b), (Sum.inr "clear0", c), (Sum.inr "set1", d), (Sum.inr "none", e)]) (Sum.inr "flip1") f) (Sum.inr "none") = some e ∧
    valV (putK (mergeK [] [((Sum.inr "store" : Key), a), (Sum.inr "clear1", b), (Sum.inr "clear0", c), (Sum.inr "set1", d), (Sum.inr "none", e)]) (Sum.inr "flip1") f) (Sum.inr "flip1") = some f := ⟨rfl, rfl, rfl, rfl, rfl, rfl⟩
theorem deeds_is {d : Str} {s : Int} (hd : d ∈ DV) : deedsOf d s = if d = "drift" ∨ (d = "raise" ∧ s % 2 = 0) ∨ (d = "end" ∧ s % 2 = 1) then [s + 1 - 2 * (s % 2)] else [] := by
  have hs : s % 2 = 0 ∨ s % 2 = 1 := by omega
  have h : ∀ d ∈ DV, ∀ v : Int, v = 0 ∨ v = 1 → (v ∈ movable d ↔ (d = "drift" ∨ (d = "raise" ∧ v = 0) ∨ (d = "end" ∧ v = 1))) := by
    intro d hd v hv
    rcases hv with rfl | rfl
    · revert d; decide +kernel
    · revert d; decide +kernel
  unfold deedsOf
  simp only [h d hd _ hs]


section
variable {P : Program} {w : World} {K : PySem.W.Frag} {mg : Str → Option Value} {base : Heap}
theorem ok_lw {f : Addr} {fd : FuncData} {k : Nat} (F : Fun K "_law_write" "_law_write" s__law_write f fd) (T : Txt mg) : FnOk P w K mg base CX0 (k + 1) f fd ["_law_writing", "_law_state", "_law_bit"] spLW := by
  refine F.ok sc__law_write (fun vs H Q E h => ?_) (fun cdv A outer s H vs Q E hr h => ?_)
  · obtain ⟨w, s, b, rfl, _⟩ := h
    rfl
  · obtain ⟨w, s, b, rfl, hw, hb, q⟩ := h
    refine ⟨_, (pss_cons (ps_par (i := 3) (j := 4) (by rfl) sc__law_write.nd rfl rfl (by decide) rfl rfl (pa_cons (pe_op op_mod (pv 1) pe_int) (pa_cons (pe_op op_sub (pv 1) (pe_op op_mod (pv 1) pe_int)) pa_nil)) (by rfl))
 (pss_cons (ps_if (pt_cmpR op_eq (pv 0) pe_str (nomark _)) (pss_one (ps_ret (pe_ifExp (pt_cmpR op_gt (pv 1) pe_int (nomark _)) (pv 1) (pe_op op_add pe_int (pv 2)))))
 pss_nil)
 (pss_cons (ps_set (i := 5) sc__law_write.nd rfl (by first | exact Or.inl rfl | exact Or.inr rfl) (pe_disp (pps_cons pe_str (pe_tup (pa_cons pe_int (pa_cons pe_int pa_nil))) (pps_cons pe_str (pe_tup (pa_cons (pv 3) (pa_cons pe_int pa_nil))) (pps_cons pe_str (pe_tup (pa_cons pe_int (pa_cons (pv 3) pa_nil))) (pps_cons pe_str (pe_tup (pa_cons (pv 3) (pa_cons pe_int pa_nil))) (pps_cons pe_str (pe_tup (pa_cons (pv 3) (pa_cons (pv 3) pa_nil))) pps_nil))))) (by rfl) (by rfl) (fun z => by cases z) (by decide)))
 (pss_cons (ps_dput (hu_of hr) (pv 5) pe_str (pe_tup (pa_cons (pv 3) (pa_cons (pe_op op_sub pe_int (pv 3)) pa_nil))) rfl)
 (pss_one (ps_ret (pe_op op_add (pv 4) (pe_ix ix_tup (pe_dget (hu_of hr) (pv 5) (pv 0) (fun _ _ => rfl)) (pv 2) (fun _ _ => rfl))))))))), at_start (σ := [some (.str w), some (.int s), some (.int b), none, none, none]) rfl ?_⟩
    try dsimp only [cx_K]
    unfold lw at q
    walk_at "rd"
    refine ⟨_, _, rfl, ?_⟩
    walk_at "rd"
    refine r_iteS2 (fun h1 => ?_) (fun h1 => ?_)
    · rw [if_pos h1] at q
      walk_at "sp"
      · rename_i h2
        rw [if_pos h2] at q
        exact q _ (Same.refl _)
      · rename_i h2
        rw [if_neg h2] at q
        exact q _ (Same.refl _)
    · rw [if_neg h1] at q
      walk_at "rd"
      intro D nD
      walk_at "rd"
      refine ⟨by walk_at "sz", fun c1 n1 => ?_⟩
      walk_at "rd"
      refine ⟨by walk_at "sz", fun c2 n2 => ?_⟩
      walk_at "rd"
      refine ⟨by walk_at "sz", fun c3 n3 => ?_⟩
      walk_at "rd"
      refine ⟨by walk_at "sz", fun c4 n4 => ?_⟩
      walk_at "rd"
      refine ⟨by walk_at "sz", fun c5 n5 => ?_⟩
      walk_at "rd"
      have d1 : c1 ≠ D := (ne_of_none upd_same n1).symm
      have d2 : c2 ≠ D := (ne_of_none (upd_new n1 upd_same) n2).symm
      have d3 : c3 ≠ D := (ne_of_none (upd_new n2 (upd_new n1 upd_same)) n3).symm
      have d4 : c4 ≠ D := (ne_of_none (upd_new n3 (upd_new n2 (upd_new n1 upd_same))) n4).symm
      have d5 : c5 ≠ D := (ne_of_none (upd_new n4 (upd_new n3 (upd_new n2 (upd_new n1 upd_same)))) n5).symm
      generalize hH5 : (upd (upd (upd (upd (upd (upd H D (.dK [])) c1 (.tup [.int 0, .int 1])) c2 (.tup [.int (s % 2), .int 0])) c3 (.tup [.int 0, .int (s % 2)])) c4 (.tup [.int (s % 2), .int 1])) c5 (.tup [.int (s % 2), .int (s % 2)])) = H5
      have s5 : Same H H5 := hH5 ▸ (((((same_new nD).trans (same_new n1)).trans (same_new n2)).trans (same_new n3)).trans (same_new n4)).trans (same_new n5)
      have g0 : H5 D = some (.dK []) := by rw [← hH5]; walk_at "hp"
      have g1 : H5 c1 = some (.tup [.int 0, .int 1]) := by rw [← hH5]; walk_at "hp"
      have g2 : H5 c2 = some (.tup [.int (s % 2), .int 0]) := by rw [← hH5]; walk_at "hp"
      have g3 : H5 c3 = some (.tup [.int 0, .int (s % 2)]) := by rw [← hH5]; walk_at "hp"
      have g4 : H5 c4 = some (.tup [.int (s % 2), .int 1]) := by rw [← hH5]; walk_at "hp"
      have g5 : H5 c5 = some (.tup [.int (s % 2), .int (s % 2)]) := by rw [← hH5]; walk_at "hp"
      clear hH5 n1 n2 n3 n4 n5
      refine ⟨g0, [(.inr "store", .ref c1), (.inr "clear1", .ref c2), (.inr "clear0", .ref c3), (.inr "set1", .ref c4), (.inr "none", .ref c5)], rfl, (show 5 ≤ 15 by decide), ?_⟩
      walk_at "rd"
      refine ⟨by walk_at "sz", fun c6 n6 => ?_⟩
      walk_at "rd"
      have d6 : c6 ≠ D := (ne_of_none upd_same n6).symm
      have t6 := tab6 (.ref c1) (.ref c2) (.ref c3) (.ref c4) (.ref c5) (.ref c6)
      have l6 := tab6l (.ref c1) (.ref c2) (.ref c3) (.ref c4) (.ref c5)
      generalize mergeK [] [((Sum.inr "store" : Key), V.ref c1), (Sum.inr "clear1", .ref c2), (Sum.inr "clear0", .ref c3), (Sum.inr "set1", .ref c4), (Sum.inr "none", .ref c5)] = m1 at t6 l6 n6 ⊢
      refine ⟨D, _, rfl, DPut.k (k := .inr "flip1") (by walk_at "hp") (by rw [l6]; decide), ?_⟩
      walk_at "rd"
      generalize hm2 : putK m1 (Sum.inr "flip1") (V.ref c6) = m2 at t6 ⊢
      generalize hH8 : (upd (upd (upd H5 D (.dK m1)) c6 (.tup [.int (s % 2), .int (1 - s % 2)])) D (.dK m2)) = H8
      have s8 : Same H H8 := by
        rw [← hH8]
        refine same_mut ?_ nD
        exact (same_mut s5 nD).trans (same_new n6)
      have g6 : H8 c6 = some (.tup [.int (s % 2), .int (1 - s % 2)]) := by rw [← hH8]; walk_at "hp"
      have gD : H8 D = some (.dK m2) := by rw [← hH8]; walk_at "hp"
      replace g1 : H8 c1 = some (.tup [.int 0, .int 1]) := by rw [← hH8, upd_ne d1]; refine upd_new n6 ?_; rw [upd_ne d1]; exact g1
      replace g2 : H8 c2 = some (.tup [.int (s % 2), .int 0]) := by rw [← hH8, upd_ne d2]; refine upd_new n6 ?_; rw [upd_ne d2]; exact g2
      replace g3 : H8 c3 = some (.tup [.int 0, .int (s % 2)]) := by rw [← hH8, upd_ne d3]; refine upd_new n6 ?_; rw [upd_ne d3]; exact g3
      replace g4 : H8 c4 = some (.tup [.int (s % 2), .int 1]) := by rw [← hH8, upd_ne d4]; refine upd_new n6 ?_; rw [upd_ne d4]; exact g4
      replace g5 : H8 c5 = some (.tup [.int (s % 2), .int (s % 2)]) := by rw [← hH8, upd_ne d5]; refine upd_new n6 ?_; rw [upd_ne d5]; exact g5
      clear hH8 n6 g0
      obtain ⟨c, hv, hc⟩ : ∃ c, valV m2 (Sum.inr w) = some (.ref c) ∧ H8 c = some (.tup [.int (endsOf w (s % 2)).1, .int (endsOf w (s % 2)).2]) := by
        obtain ⟨u1, u2, u3, u4, u5, u6⟩ := t6
        simp only [WR, List.mem_cons, List.not_mem_nil, or_false] at hw
        rcases hw with rfl | rfl | rfl | rfl | rfl | rfl | rfl
        · exact ⟨c1, u1, g1⟩
        · exact ⟨c2, u2, g2⟩
        · exact ⟨c3, u3, g3⟩
        · exact ⟨c4, u4, g4⟩
        · exact ⟨c6, u6, g6⟩
        · exact absurd rfl h1
        · exact ⟨c5, u5, g5⟩
      refine ⟨D, .ref c, rfl, hv ▸ DGet.k (k := .inr w) gD, ?_⟩
      have q8 := q H8 s8
      walk_at "rd"
      rcases hb with rfl | rfl
      · refine r_ixT (xs := [.int (endsOf w (s % 2)).1, .int (endsOf w (s % 2)).2]) (SqT.of hc) rfl ?_
        walk_at "rd"
        exact q8
      · refine r_ixT (xs := [.int (endsOf w (s % 2)).1, .int (endsOf w (s % 2)).2]) (SqT.of hc) rfl ?_
        walk_at "rd"
        exact q8
theorem ok_lr {f : Addr} {fd : FuncData} {k : Nat} (F : Fun K "_law_read" "_law_read" s__law_read f fd) (T : Txt mg) : FnOk P w K mg base CX0 (k + 1) f fd ["_law_reading", "_law_state"] spLR := by
  refine F.ok sc__law_read (fun vs H Q E h => ?_) (fun cdv A outer s H vs Q E hr h => ?_)
  · obtain ⟨r, s, rfl, _⟩ := h
    rfl
  · obtain ⟨r, s, rfl, q⟩ := h
    refine ⟨_, (pss_one (ps_ret (pe_ifExp (pt_cmpR op_eq (pv 0) pe_str (nomark _)) (pe_op op_sub (pv 1) (pe_op op_mod (pv 1) pe_int)) (pv 1)))), at_start (σ := [some (.str r), some (.int s)]) rfl ?_⟩
    try dsimp only [cx_K]
    unfold afterRead at q
    walk_at "rd"
    refine r_iteS2 (fun h1 => ?_) (fun h1 => ?_)
    · rw [if_pos h1] at q
      walk_at "rd"
      exact q
    · rw [if_neg h1] at q
      walk_at "rd"
      exact q
theorem ok_ld {f : Addr} {fd : FuncData} {k : Nat} (F : Fun K "_law_deeds" "_law_deeds" s__law_deeds f fd) (T : Txt mg) : FnOk P w K mg base CX0 (k + 1) f fd ["_law_device", "_law_state"] spLD := by
  refine F.ok sc__law_deeds (fun vs H Q E h => ?_) (fun cdv A outer s H vs Q E hr h => ?_)
  · obtain ⟨d, s, rfl, _⟩ := h
    rfl
  · obtain ⟨d, s, rfl, hd, q⟩ := h
    refine ⟨_, (pss_cons (ps_if (PW.pt (pw_or (pt_cmpR op_eq (pv 0) pe_str (nomark _)) (pw_or (PW.pt (pw_and (pt_cmpR op_eq (pv 0) pe_str (nomark _)) (pw_and1 (pt_cmpR op_eq (pe_op op_mod (pv 1) pe_int) pe_int (nomark _))))) (pw_or1 (PW.pt (pw_and (pt_cmpR op_eq (pv 0) pe_str (nomark _)) (pw_and1 (pt_cmpR op_eq (pe_op op_mod (pv 1) pe_int) pe_int (nomark _))))))))) (pss_one (ps_ret (pe_tup (pa_cons (pe_op op_sub (pe_op op_add (pv 1) pe_int) (pe_op op_mul pe_int (pe_op op_mod (pv 1) pe_int))) pa_nil))))
 pss_nil)
 (pss_one (ps_ret (pe_tup pa_nil)))), at_start (σ := [some (.str d), some (.int s)]) rfl ?_⟩
    try dsimp only [cx_K]
    have e := deeds_is (s := s) hd
    walk_at "sp"
    all_goals (refine ⟨by walk_at "sz", fun c1 n1 => ?_⟩; refine q _ c1 (same_new n1) ?_; rw [upd_same, e])
    all_goals first | rw [if_pos (by grind)]; rfl | rw [if_neg (by grind)]; rfl
theorem ok_words {f : Addr} {fd : FuncData} (F : Fun K "_law_words" "_law_words" s__law_words f fd) (T : Txt mg) (c__law_draw : Callee P w K mg base CX0 1 "_law_draw" ["_law_pen_here", "_law_many"] spDraw) : FnOk P w K mg base CX0 2 f fd ["_law_pen_here"] spWords := by
  refine F.ok sc__law_words (fun vs H Q E h => ?_) (fun cdv A outer s H vs Q E hr h => ?_)
  · obtain ⟨pen, c, k, rfl, _⟩ := h
    rfl
  · obtain ⟨pen, c, k, rfl, pn, q⟩ := h
    refine ⟨_, (pss_cons (ps_set (i := 1) sc__law_words.nd rfl (by first | exact Or.inl rfl | exact Or.inr rfl) (pe_tup (pa_cons pe_str (pa_cons pe_str (pa_cons pe_str (pa_cons pe_str (pa_cons pe_str (pa_cons pe_str (pa_cons pe_str pa_nil)))))))))
 (pss_cons (ps_set (i := 2) sc__law_words.nd rfl (by first | exact Or.inl rfl | exact Or.inr rfl) (pe_ix ix_tup (pe_tup (pa_cons pe_str (pa_cons pe_str pa_nil))) (pe_callC c__law_draw (hr.mono (by decide)) (by rfl) pass0 (pa_cons (pv 0) (pa_cons pe_int pa_nil))) (fun _ _ => rfl)))
 (pss_one (ps_ret (pe_tup (pa_cons (pv 2) (pa_cons (pe_ix ix_tup (pv 1) (pe_callC c__law_draw (hr.mono (by decide)) (by rfl) pass0 (pa_cons (pv 0) (pa_cons pe_int pa_nil))) (fun _ _ => rfl)) (pa_cons (pe_ix ix_tup (pe_tup (pa_cons pe_str (pa_cons pe_str (pa_cons pe_str (pa_cons pe_str pa_nil))))) (pe_callC c__law_draw (hr.mono (by decide)) (by rfl) pass0 (pa_cons (pv 0) (pa_cons pe_int pa_nil))) (fun _ _ => rfl)) pa_nil)))))))), at_start (σ := [some (.ref pen), none, none]) rfl ?_⟩
    try dsimp only [cx_K]
    walk_at "rd"
    refine ⟨by walk_at "sz", fun c1 n1 => ?_⟩
    walk_at "rd"
    refine ⟨by walk_at "sz", fun c2 n2 => ?_⟩
    walk_at "rd"
    refine ⟨pen, c, 2, k + 2, rfl, by decide, by decide, (pn.up ((same_new n1).trans (same_new n2))).mono (by omega), fun r1 H3 a1 b1 pn1 kp1 => ?_⟩
    have m1 : c1 ≠ pen := pn.ne n1
    have m2 : c2 ≠ pen := (pn.up (same_new n1)).ne n2
    have e2 : H3 c2 = some (.tup (RD.map V.str)) := kp1 _ _ upd_same m2
    have e1 : H3 c1 = some (.tup (WR.map V.str)) := kp1 _ _ (upd_new n2 upd_same) m1
    have k3 : Keep pen H H3 := (Keep.same ((same_new n1).trans (same_new n2))).tr kp1
    clear kp1
    obtain ⟨r, hr1, at1⟩ := atI_map (xs := RD) (g := V.str) a1 b1
    refine r_ixT (xs := RD.map V.str) (SqT.of e2) at1 ?_
    walk_at "rd"
    refine ⟨pen, c, 7, k + 1, rfl, by decide, by decide, pn1.mono (by omega), fun r2 H4 a2 b2 pn2 kp2 => ?_⟩
    obtain ⟨w, hw1, at2⟩ := atI_map (xs := WR) (g := V.str) a2 b2
    refine r_ixT (xs := WR.map V.str) (SqT.of (kp2 _ _ e1 m1)) at2 ?_
    walk_at "rd"
    refine ⟨by walk_at "sz", fun c3 n3 => ?_⟩
    walk_at "rd"
    refine ⟨pen, c, 4, k, rfl, by decide, by decide, (pn2.up (same_new n3)).mono (by omega), fun r3 H5 a3 b3 pn3 kp3 => ?_⟩
    have e3 : H5 c3 = some (.tup (DV.map V.str)) := kp3 _ _ upd_same (pn2.ne n3)
    obtain ⟨d, hd1, at3⟩ := atI_map (xs := DV) (g := V.str) a3 b3
    refine r_ixT (xs := DV.map V.str) (SqT.of e3) at3 ?_
    walk_at "rd"
    refine ⟨by walk_at "sz", fun c4 n4 => ?_⟩
    have k5 := ((k3.tr kp2).tr (Keep.same (same_new (o := .tup (DV.map V.str)) n3))).tr kp3
    exact q r w d _ c4 hr1 hw1 hd1 (pn3.up (same_new n4)) (k5.tr (Keep.same (same_new n4))) upd_same

end
end K16


namespace K16
open PySem L2 KB KO KV
/-! ### sets of states, as ascending lists -/
def S4 : List Int := [0, 1, 2, 3]
def norm (xs : List Int) : List Int := S4.filter fun k => decide (k ∈ xs)
theorem mem_norm {xs : List Int} {k : Int} : k ∈ norm xs ↔ k ∈ S4 ∧ k ∈ xs := by
  unfold norm
  rw [List.mem_filter, decide_eq_true_eq]
theorem norm_sub {xs : List Int} (h : ∀ k ∈ xs, k ∈ S4) {k : Int} : k ∈ norm xs ↔ k ∈ xs := ⟨fun z => (mem_norm.mp z).2, fun z => mem_norm.mpr ⟨h k z, z⟩⟩
theorem norm_lt (xs : List Int) : (norm xs).Pairwise (· < ·) := List.Pairwise.filter _ (by decide)
theorem norm_s4 {xs : List Int} : ∀ k ∈ norm xs, k ∈ S4 := fun k m => (mem_norm.mp m).1
theorem norm_len (xs : List Int) : (norm xs).length ≤ 4 := List.length_filter_le _ _
theorem norm_congr {a b : List Int} (h : ∀ k, k ∈ S4 → (k ∈ a ↔ k ∈ b)) : norm a = norm b := KT.sorted_unique (norm_lt a) (norm_lt b) fun k => by
  rw [mem_norm, mem_norm]
  constructor
  · rintro ⟨x, y⟩; exact ⟨x, (h k x).mp y⟩
  · rintro ⟨x, y⟩; exact ⟨x, (h k x).mpr y⟩
theorem norm_is {a xs : List Int} (hs : ∀ k ∈ xs, k ∈ S4) (ha : a.Pairwise (· < ·)) (h : ∀ k, k ∈ a ↔ k ∈ xs) : a = norm xs := KT.sorted_unique ha (norm_lt xs) fun k => by
  rw [norm_sub hs]
  exact h k
theorem norm_le {a xs : List Int} (hs : ∀ k ∈ xs, k ∈ S4) (ha : a.Pairwise (· ≤ ·)) (hn : a.Nodup) (h : ∀ k, k ∈ a ↔ k ∈ xs) : a = norm xs := by
  refine norm_is hs ?_ h
  refine (ha.and hn).imp fun z => ?_
  have h1 := z.1
  have h2 := z.2
  omega
theorem norm_one {s : Int} (h : s ∈ S4) : norm [s] = [s] := by
  revert s
  decide
def deedsAll (d : Str) (xs : List Int) : List Int := xs.flatMap (deedsOf d)
def clo (d : Str) (xs : List Int) : List Int := norm (xs ++ deedsAll d xs)
/-- with_deeds -/
def wdl (d : Str) (q : Bool) (xs : List Int) : List Int := if q = true then norm xs else clo d xs
theorem deeds_s4 {d : Str} {s : Int} (hd : d ∈ DV) (h : s ∈ S4) : ∀ e ∈ deedsOf d s, e ∈ S4 := by
  have z : ∀ d ∈ DV, ∀ s ∈ S4, ∀ e ∈ deedsOf d s, e ∈ S4 := by decide +kernel
  exact z d hd s h
theorem deeds_two {d : Str} {s : Int} (hd : d ∈ DV) (h : s ∈ S4) : ∀ e ∈ deedsOf d s, ∀ f ∈ deedsOf d e, f = s := by
  have z : ∀ d ∈ DV, ∀ s ∈ S4, ∀ e ∈ deedsOf d s, ∀ f ∈ deedsOf d e, f = s := by decide +kernel
  exact z d hd s h
theorem deeds_len (d : Str) (s : Int) : (deedsOf d s).length ≤ 1 := by
  unfold deedsOf
  split <;> simp
theorem all_s4 {d : Str} {xs : List Int} (hd : d ∈ DV) (h : ∀ k ∈ xs, k ∈ S4) : ∀ k ∈ xs ++ deedsAll d xs, k ∈ S4 := fun k m => by
  rcases List.mem_append.mp m with m | m
  · exact h k m
  · obtain ⟨j, hj, e⟩ := List.mem_flatMap.mp m
    exact deeds_s4 hd (h j hj) k e
theorem mem_clo {d : Str} {xs : List Int} (hd : d ∈ DV) (h : ∀ k ∈ xs, k ∈ S4) {k : Int} : k ∈ clo d xs ↔ k ∈ xs ∨ ∃ j ∈ xs, k ∈ deedsOf d j := by
  unfold clo
  rw [norm_sub (all_s4 hd h), List.mem_append]
  unfold deedsAll
  rw [List.mem_flatMap]
theorem clo_deeds {d : Str} {xs : List Int} (hd : d ∈ DV) (h : ∀ k ∈ xs, k ∈ S4) {k e : Int} (hk : k ∈ clo d xs) (he : e ∈ deedsOf d k) : e ∈ clo d xs := by
  rw [mem_clo hd h] at hk ⊢
  rcases hk with hk | ⟨j, hj, hk⟩
  · exact .inr ⟨k, hk, he⟩
  · rw [deeds_two hd (h j hj) k hk e he]
    exact .inl hj
theorem wdl_s4 {d : Str} {q : Bool} {xs : List Int} : ∀ k ∈ wdl d q xs, k ∈ S4 := by
  unfold wdl clo
  split <;> exact norm_s4
theorem wdl_len {d : Str} {q : Bool} (xs : List Int) : (wdl d q xs).length ≤ 4 := by
  unfold wdl clo
  split <;> exact norm_len _
theorem wdl_norm {d : Str} {q : Bool} {xs : List Int} (hd : d ∈ DV) (h : ∀ k ∈ xs, k ∈ S4) : wdl d q (norm xs) = wdl d q xs := by
  unfold wdl
  split
  · exact norm_congr fun k hk => by rw [norm_sub h]
  · refine norm_congr fun k hk => ?_
    unfold deedsAll
    rw [List.mem_append, List.mem_append, List.mem_flatMap, List.mem_flatMap, norm_sub h]
    constructor
    · rintro (z | ⟨j, hj, e⟩)
      · exact .inl z
      · exact .inr ⟨j, (norm_sub h).mp hj, e⟩
    · rintro (z | ⟨j, hj, e⟩)
      · exact .inl z
      · exact .inr ⟨j, (norm_sub h).mpr hj, e⟩
/-! ### letters -/
def isLet (c : Nat) : Prop := c = 48 ∨ c = 49 ∨ c = 114
instance (c : Nat) : Decidable (isLet c) := by unfold isLet; infer_instance
def bitOf (c : Nat) : Int := if c = 49 then 1 else 0
def afterL (r w : Str) (c : Nat) (s : Int) : Int := if c = 114 then afterRead r s else afterWrite w s (bitOf c)
theorem afterL_s4 {r w : Str} {c : Nat} {s : Int} (hr : r ∈ RD) (hw : w ∈ WR) (hc : isLet c) (h : s ∈ S4) : afterL r w c s ∈ S4 := by
  have z : ∀ r ∈ RD, ∀ w ∈ WR, ∀ s ∈ S4, ∀ c ∈ [48, 49, 114], afterL r w c s ∈ S4 := by decide +kernel
  exact z r hr w hw s h c (by rcases hc with rfl | rfl | rfl <;> decide)
def stepRow (r w d : Str) (q : Bool) (row : List Int) (c : Nat) : List Int := wdl d q (row.map (afterL r w c))
def rowOf (r w d : Str) (q : Bool) (cs : List Nat) (s : Int) : List Int := cs.foldl (stepRow r w d q) (wdl d q [s])
def rowsOf (r w d : Str) (q : Bool) (cs : List Nat) : List (List Int) := (statesOf w).map (rowOf r w d q cs)
theorem rowOf_snoc (r w d : Str) (q : Bool) (cs : List Nat) (c : Nat) (s : Int) : rowOf r w d q (cs ++ [c]) s = stepRow r w d q (rowOf r w d q cs s) c := by
  unfold rowOf
  rw [List.foldl_append]
  rfl
theorem row_s4 {r w d : Str} {q : Bool} : ∀ (cs : List Nat) (row : List Int), (∀ k ∈ row, k ∈ S4) → ∀ k ∈ cs.foldl (stepRow r w d q) row, k ∈ S4
  | [], _, h => h
  | c :: cs, row, h => row_s4 cs _ wdl_s4
theorem row_len {r w d : Str} {q : Bool} : ∀ (cs : List Nat) (row : List Int), row.length ≤ 4 → (cs.foldl (stepRow r w d q) row).length ≤ 4
  | [], _, h => h
  | c :: cs, row, h => row_len cs _ (wdl_len _)
theorem rowOf_s4 {r w d : Str} {q : Bool} {cs : List Nat} {s : Int} : ∀ k ∈ rowOf r w d q cs s, k ∈ S4 := row_s4 cs _ wdl_s4
theorem rowOf_len {r w d : Str} {q : Bool} {cs : List Nat} {s : Int} : (rowOf r w d q cs s).length ≤ 4 := row_len cs _ (wdl_len _)
theorem states_s4 {w : Str} : ∀ s ∈ statesOf w, s ∈ S4 := by
  unfold statesOf
  split
  · exact fun s h => h
  · decide
theorem states_len (w : Str) : (statesOf w).length ≤ 4 := by
  unfold statesOf
  split <;> decide
/-! ### rows in the heap -/
def RowsAt (H : Hp) (a : Addr) (rows : List (List Int)) : Prop := ∃ ps : List Addr, H a = some (.tup (ps.map V.ref)) ∧ ps.length = rows.length ∧ ∀ (i : Nat) (p : Addr) (row : List Int), ps[i]? = some p → rows[i]? = some row → H p = some (.tup (row.map V.int))
theorem RowsAt.up {H H' : Hp} {a : Addr} {rows : List (List Int)} (h : RowsAt H a rows) (s : Same H H') : RowsAt H' a rows := by
  obtain ⟨ps, e, l, r⟩ := h
  exact ⟨ps, s _ _ e, l, fun i p row h1 h2 => s _ _ (r i p row h1 h2)⟩
def dRow (row : List Int) : PyData := .tuple (row.map PyData.int)
def dRows (rows : List (List Int)) : PyData := .tuple (rows.map dRow)
theorem dp_refs {K : PySem.W.Frag} {H : Hp} : ∀ (ps : List Addr) (rows : List (List Int)), ps.length = rows.length → (∀ (i : Nat) (p : Addr) (row : List Int), ps[i]? = some p → rows[i]? = some row → H p = some (.tup (row.map V.int))) → DpAll K H (ps.map V.ref) (rows.map dRow)
  | [], [], _, _ => .nil
  | p :: ps, row :: rows, l, h => .cons (.tup (SqT.of (h 0 p row rfl rfl)) (dp_ints row)) (dp_refs ps rows (by simpa using l) fun i p' row' h1 h2 => h (i + 1) p' row' h1 h2)
theorem RowsAt.dp {K : PySem.W.Frag} {H : Hp} {a : Addr} {rows : List (List Int)} (h : RowsAt H a rows) : Dp K H (.ref a) (dRows rows) := by
  obtain ⟨ps, e, l, r⟩ := h
  exact .tup (SqT.of e) (dp_refs ps rows l r)

end K16


namespace K16
open PySem L2 KB KO KV
/-! ### the dict of states that are found -/
def tkD (ks : List Int) : List (Key × V) := ks.map fun k => ((Sum.inl k : Key), V.bl true)
def ins (ks : List Int) (k : Int) : List Int := if k ∈ ks then ks else ks ++ [k]
theorem tkD_len (ks : List Int) : (tkD ks).length = ks.length := List.length_map _
theorem tkD_any (ks : List Int) (k : Int) : ((tkD ks).any fun kv => decide (kv.1 = (Sum.inl k : Key))) = decide (k ∈ ks) := by
  induction ks with
  | nil => rfl
  | cons a ks ih =>
    have e : tkD (a :: ks) = (Sum.inl a, V.bl true) :: tkD ks := rfl
    rw [e, List.any_cons, ih]
    by_cases h : a = k
    · subst h; simp
    · have h2 : ¬ k = a := fun z => h z.symm
      have h3 : ¬ (Sum.inl a : Key) = Sum.inl k := fun z => h (Sum.inl.inj z)
      simp [h2, h3]
theorem putD (ks : List Int) (k : Int) : putK (tkD ks) (Sum.inl k) (V.bl true) = tkD (ins ks k) := by
  unfold putK ins
  rw [tkD_any]
  by_cases h : k ∈ ks
  · rw [if_pos (decide_eq_true h), if_pos h]
    refine (List.map_congr_left (g := id) fun kv m => ?_).trans (List.map_id _)
    obtain ⟨j, _, rfl⟩ := List.mem_map.mp m
    by_cases e : (Sum.inl j : Key) = Sum.inl k
    · rw [if_pos e]; rfl
    · rw [if_neg e]; rfl
  · rw [if_neg (by simp [h]), if_neg h]
    unfold tkD
    rw [List.map_append]
    rfl
theorem valD (ks : List Int) (k : Int) : valV (tkD ks) (Sum.inl k) = if k ∈ ks then some (.bl true) else none := by
  induction ks with
  | nil => rfl
  | cons a ks ih =>
    have e : valV (tkD (a :: ks)) (Sum.inl k) = if (Sum.inl a : Key) = Sum.inl k then some (.bl true) else valV (tkD ks) (Sum.inl k) := by
      unfold valV
      rw [show tkD (a :: ks) = (Sum.inl a, V.bl true) :: tkD ks from rfl, List.find?_cons]
      by_cases h : (Sum.inl a : Key) = Sum.inl k
      · simp [h]
      · simp [h]
    rw [e, ih]
    by_cases h : a = k
    · subst h; simp
    · have h2 : ¬ k = a := fun z => h z.symm
      have h3 : ¬ (Sum.inl a : Key) = Sum.inl k := fun z => h (Sum.inl.inj z)
      simp [h2, h3]
theorem ins_mem {ks : List Int} {k j : Int} : j ∈ ins ks k ↔ j ∈ ks ∨ j = k := by
  unfold ins
  split
  · rename_i h
    constructor
    · exact .inl
    · rintro (z | rfl)
      · exact z
      · exact h
  · rw [List.mem_append, List.mem_singleton]
theorem ins_nd {ks : List Int} {k : Int} (h : ks.Nodup) : (ins ks k).Nodup := by
  unfold ins
  split
  · exact h
  · rename_i z
    refine List.nodup_append.mpr ⟨h, by simp, fun a ha b hb => ?_⟩
    rw [List.mem_singleton.mp hb]
    exact fun e => z (e ▸ ha)
theorem ins_len (ks : List Int) (k : Int) : (ins ks k).length ≤ ks.length + 1 := by
  unfold ins
  split
  · omega
  · simp
def dedup (xs : List Int) : List Int := xs.foldl ins []
theorem dedup_snoc (xs : List Int) (k : Int) : dedup (xs ++ [k]) = ins (dedup xs) k := by
  unfold dedup
  rw [List.foldl_append]
  rfl
theorem dedup_ok (xs : List Int) : (dedup xs).Nodup ∧ (∀ k, k ∈ dedup xs ↔ k ∈ xs) ∧ (dedup xs).length ≤ xs.length := by
  have main : ∀ (xs acc : List Int), acc.Nodup → (xs.foldl ins acc).Nodup ∧ (∀ k, k ∈ xs.foldl ins acc ↔ k ∈ acc ∨ k ∈ xs) ∧ (xs.foldl ins acc).length ≤ acc.length + xs.length := by
    intro xs
    induction xs with
    | nil => intro acc h; exact ⟨h, fun k => by simp, Nat.le_refl _⟩
    | cons a xs ih =>
      intro acc h
      obtain ⟨i1, i2, i3⟩ := ih (ins acc a) (ins_nd h)
      refine ⟨i1, fun k => ?_, ?_⟩
      · rw [show (a :: xs).foldl ins acc = xs.foldl ins (ins acc a) from rfl, i2, ins_mem, List.mem_cons]
        constructor
        · rintro ((z | z) | z)
          · exact .inl z
          · exact .inr (.inl z)
          · exact .inr (.inr z)
        · rintro (z | z | z)
          · exact .inl (.inl z)
          · exact .inl (.inr z)
          · exact .inr z
      · have := ins_len acc a
        rw [show (a :: xs).foldl ins acc = xs.foldl ins (ins acc a) from rfl, List.length_cons]
        omega
  obtain ⟨h1, h2, h3⟩ := main xs [] List.nodup_nil
  exact ⟨h1, fun k => by rw [dedup, h2]; simp, by show (xs.foldl ins []).length ≤ _; simpa using h3⟩
theorem take_snoc {xs : List Int} {i : Nat} {k : Int} (h : xs[i]? = some k) : xs.take (i + 1) = xs.take i ++ [k] := by
  rw [List.take_add_one, h]
  rfl
theorem r_dcD {K : PySem.W.Frag} {H : Hp} {Q : VK} {l : Addr} {xs : List Int} {x0 x2 x3 x4 x5 x6 : Option V} (hl : H l = some (.lst (xs.map V.int))) (few : xs.length ≤ 1000) (q : ∀ D H', H D = none → Same H H' → H' D = some (.dK (tkD (dedup xs))) → Q (.ref D) H') :
    tDc (iList K (tVar 1)) (gName 4) tYes (tVar 4) (tC (.bl true)) (List.map (fun x => x.snd) [(("state" : Str), 4)]) [x0, some (.ref l), x2, x3, x4, x5, x6] H Q := by
  refine ⟨_, rfl, l, rfl, ⟨_, SqL.of hl⟩, fun D nD => ?_⟩
  refine ⟨fun i m H' => m = xs.length - i ∧ i ≤ xs.length ∧ Same H H' ∧ H' D = some (.dK (tkD (dedup (xs.take i)))), ⟨_, rfl, Nat.zero_le _, same_new nD, upd_same⟩, ?_⟩
  rintro i m H' ⟨rfl, hi, sm, eD⟩
  by_cases lt : i < xs.length
  · refine .inr ⟨⟨_, .int xs[i], SqL.of (sm _ _ hl), by simp [lt]⟩, fun H2 => Same H H2 ∧ H2 D = some (.dK (tkD (dedup (xs.take (i + 1))))), fun H2 p => ⟨_, by omega, rfl, lt, p⟩, fun x H2 y => ?_⟩
    obtain ⟨rfl, hx⟩ := y
    have hx' := hx _ (SqL.of (sm _ _ hl))
    rw [List.getElem?_map, List.getElem?_eq_getElem lt] at hx'
    obtain rfl : V.int xs[i] = x := Option.some.inj hx'
    refine ⟨rfl, KD.r_yes (iteT ⟨_, rfl, tkD (dedup (xs.take i)), Sum.inl xs[i], rfl, eD, ?_, same_mut sm nD, ?_⟩)⟩
    · have h1 := (dedup_ok (xs.take i)).2.2
      rw [List.length_take] at h1
      rw [tkD_len]
      exact small1000' (by omega)
    · rw [upd_same, putD, take_snoc (List.getElem?_eq_getElem lt), dedup_snoc]
  · obtain rfl : i = xs.length := by omega
    rw [List.take_length] at eD
    exact .inl ⟨⟨_, SqL.of (sm _ _ hl), by simp⟩, q D H' nD sm eD⟩
/-! ### what the program's defs say -/
def spWD (C : Addr) : Sp := fun vs H Q _ => ∃ (k l : Addr) (r w d : Str) (q : Bool) (xs : List Int), vs = [.ref k, .ref l, .bl q] ∧ KindAt C H k r w d ∧ d ∈ DV ∧ H l = some (.lst (xs.map V.int)) ∧ (∀ k ∈ xs, k ∈ S4) ∧ xs.length ≤ 100 ∧
  ∀ H' a, Same H H' → H' a = some (.tup ((wdl d q xs).map V.int)) → Q (.ref a) H'
def spAL (C : Addr) : Sp := fun vs H Q _ => ∃ (k : Addr) (r w d : Str) (s : Int) (c : Nat), vs = [.ref k, .int s, .str (sign c)] ∧ KindAt C H k r w d ∧ isLet c ∧ Q (.int (afterL r w c s)) H
def spLonger (C : Addr) : Sp := fun vs H Q _ => ∃ (k e : Addr) (r w d : Str) (c : Nat) (q : Bool) (rows : List (List Int)), vs = [.ref k, .ref e, .str (sign c), .bl q] ∧ KindAt C H k r w d ∧ r ∈ RD ∧ w ∈ WR ∧ d ∈ DV ∧ isLet c ∧ RowsAt H e rows ∧ rows.length ≤ 4 ∧ (∀ row ∈ rows, row.length ≤ 4 ∧ ∀ k ∈ row, k ∈ S4) ∧
  ∀ H' a, Same H H' → RowsAt H' a (rows.map fun row => stepRow r w d q row c) → Q (.ref a) H'
/-- the loop's word: what is found, what waits -/
structure Search (d : Str) (xs ks ws : List Int) : Prop where
  nd : ks.Nodup
  s4 : ∀ k ∈ ks, k ∈ S4
  has : ∀ k ∈ xs, k ∈ ks
  sub : ∀ k ∈ ws, k ∈ ks
  todo : ∀ k ∈ ks, k ∈ ws ∨ ∀ e ∈ deedsOf d k, e ∈ ks
  only : ∀ k ∈ ks, k ∈ clo d xs
theorem nodup_len : ∀ (a b : List Int), a.Nodup → (∀ x ∈ a, x ∈ b) → a.length ≤ b.length
  | [], b, _, _ => Nat.zero_le _
  | x :: a, b, nd, h => by
    have nx := List.nodup_cons.mp nd
    have mx := h x (List.mem_cons_self ..)
    have ih := nodup_len a (b.erase x) nx.2 fun y m => (List.mem_erase_of_ne (fun (e : y = x) => nx.1 (by rw [← e]; exact m))).mpr (h y (List.mem_cons_of_mem _ m))
    rw [List.length_erase_of_mem mx] at ih
    have := List.length_pos_of_mem mx
    rw [List.length_cons]
    omega
theorem Search.len {d : Str} {xs ks ws : List Int} (h : Search d xs ks ws) : ks.length ≤ 4 := nodup_len ks S4 h.nd h.s4
theorem ins_new {ks : List Int} {e : Int} (h : ¬ e ∈ ks) : (ins ks e).length = ks.length + 1 := by
  unfold ins
  rw [if_neg h]
  simp
theorem Search.start {d : Str} {xs : List Int} (hd : d ∈ DV) (hs : ∀ k ∈ xs, k ∈ S4) : Search d xs (dedup xs) xs := by
  obtain ⟨h1, h2, h3⟩ := dedup_ok xs
  exact ⟨h1, fun k m => hs k ((h2 k).mp m), fun k m => (h2 k).mpr m, fun k m => (h2 k).mpr m, fun k m => .inl ((h2 k).mp m), fun k m => (mem_clo hd hs).mpr (.inl ((h2 k).mp m))⟩
theorem Search.done {d : Str} {xs ks : List Int} (hd : d ∈ DV) (hs : ∀ k ∈ xs, k ∈ S4) (h : Search d xs ks []) (k : Int) : k ∈ ks ↔ k ∈ clo d xs := by
  refine ⟨h.only k, fun m => ?_⟩
  rcases (mem_clo hd hs).mp m with m | ⟨j, hj, e⟩
  · exact h.has k m
  · rcases h.todo j (h.has j hj) with z | z
    · exact absurd z List.not_mem_nil
    · exact z k e
/-- the end found is new, or known -/
theorem Search.step {d : Str} {xs ks ws : List Int} {k : Int} (hd : d ∈ DV) (hs : ∀ k ∈ xs, k ∈ S4) (h : Search d xs ks (ws ++ [k])) (e : Int) (he : deedsOf d k = [e]) : Search d xs (ins ks e) (if e ∈ ks then ws else ws ++ [e]) := by
  have hk := h.sub k (by simp)
  have me : e ∈ deedsOf d k := by rw [he]; exact List.mem_singleton_self _
  refine ⟨ins_nd h.nd, fun j m => ?_, fun j m => ins_mem.mpr (.inl (h.has j m)), fun j m => ?_, fun j m => ?_, fun j m => ?_⟩
  · rcases ins_mem.mp m with m | rfl
    · exact h.s4 j m
    · exact deeds_s4 hd (h.s4 k hk) j me
  · by_cases z : e ∈ ks
    · rw [if_pos z] at m
      exact ins_mem.mpr (.inl (h.sub j (List.mem_append_left _ m)))
    · rw [if_neg z] at m
      rcases List.mem_append.mp m with m | m
      · exact ins_mem.mpr (.inl (h.sub j (List.mem_append_left _ m)))
      · exact ins_mem.mpr (.inr (List.mem_singleton.mp m))
  · rcases ins_mem.mp m with m | rfl
    · rcases h.todo j m with z | z
      · rcases List.mem_append.mp z with z | z
        · refine .inl ?_
          split
          · exact z
          · exact List.mem_append_left _ z
        · rw [List.mem_singleton.mp z, he]
          exact .inr fun y hy => by rw [List.mem_singleton.mp hy]; exact ins_mem.mpr (.inr rfl)
      · exact .inr fun y hy => ins_mem.mpr (.inl (z y hy))
    · by_cases z : j ∈ ks
      · rw [if_pos z]
        rcases h.todo j z with y | y
        · rcases List.mem_append.mp y with y | y
          · exact .inl y
          · have ej := List.mem_singleton.mp y
            rw [ej] at he
            rw [ej, he]
            exact .inr fun y hy => by rw [List.mem_singleton.mp hy]; exact ins_mem.mpr (.inl hk)
        · exact .inr fun y' hy => ins_mem.mpr (.inl (y y' hy))
      · rw [if_neg z]
        exact .inl (List.mem_append_right _ (List.mem_singleton_self _))
  · rcases ins_mem.mp m with m | rfl
    · exact h.only j m
    · exact clo_deeds hd hs (h.only k hk) me
theorem Search.skip {d : Str} {xs ks ws : List Int} {k : Int} (h : Search d xs ks (ws ++ [k])) (he : deedsOf d k = []) : Search d xs ks ws := by
  refine ⟨h.nd, h.s4, h.has, fun j m => h.sub j (List.mem_append_left _ m), fun j m => ?_, h.only⟩
  rcases h.todo j m with z | z
  · rcases List.mem_append.mp z with z | z
    · exact .inl z
    · rw [List.mem_singleton.mp z, he]
      exact .inr fun y hy => absurd hy List.not_mem_nil
  · exact .inr z
theorem keys_tk (ks : List Int) : (tkD ks).map (fun kv => kV kv.1) = ks.map V.int := by
  unfold tkD
  rw [List.map_map]
  rfl
theorem deeds_cases (d : Str) (k : Int) : deedsOf d k = [] ∨ ∃ e, deedsOf d k = [e] := by
  have h := deeds_len d k
  match hh : deedsOf d k, h with
  | [], _ => exact .inl rfl
  | [e], _ => exact .inr ⟨e, rfl⟩


section
variable {P : Program} {w : World} {K : PySem.W.Frag} {mg : Str → Option Value} {base : Heap}
theorem ok_wd {f C : Addr} {fd : FuncData} (F : Fun K "with_deeds" "with_deeds" s_with_deeds f fd) (T : Txt mg) (c_Kind_deeds : CalleeM P w K mg base CX0 1 C "deeds" ["self", "state"] (spDeedsK C)) : FnOk P w K mg base CX0 3 f fd ["kind", "states", "quiet"] (spWD C) := by
  refine F.ok sc_with_deeds (fun vs H Q E h => ?_) (fun cdv A outer s H vs Q E hr h => ?_)
  · obtain ⟨k, l, r, w, d, q, xs, rfl, _⟩ := h
    rfl
  · obtain ⟨k, l, r, wr, d, qu, xs, rfl, kd, hd, hl, hs, few, q⟩ := h
    refine ⟨_, (pss_cons (KU.ps_setDc (i := 3) (own := [("state", 4)]) (g := gName 4) (tt := tYes) (by rfl) sc_with_deeds.nd rfl rfl (KU.sw_dict rfl rfl rfl (by decide +kernel)) (pi_list (pv 1)) (blkOk_by (own := [("state", 4)]) (N := ["kind", "states", "quiet", "found", "state", "waiting", "end"]) (sc := defScope s_with_deeds) (by decide +kernel)) (fun _ _ _ _ _ => (pg_name (i := 4) sc_with_deeds.nd rfl (by first | exact Or.inl rfl | exact Or.inr rfl))) (fun _ _ _ _ _ => pts_nil) (fun _ _ _ _ _ => (pv 4)) (fun _ _ _ _ _ => pe_bl))
 (Evl.pss_cut (ps_set (i := 5) sc_with_deeds.nd rfl (by first | exact Or.inl rfl | exact Or.inr rfl) (pe_ifExp (pt_val (pv 2)) (pe_lst pa_nil) (pe_callTy call_list_of (by rfl) T.z_list (by decide +kernel) (pa_cons (pv 1) pa_nil))))
 (pss_cons (ps_while PassesOwn.never (pt_cmpR (op_neD hr.units) (pv 5) (pe_lst pa_nil) (nomark _))
 (pss_one (ps_for PassesOwn.never rfl (pi_tup (pe_methC c_Kind_deeds (pv 0) (hr.mono (by decide)) pass0 (pa_cons (pe_bm0 PySem.F.plainAttrs_list PySem.F.slot_list_pop PySem.F.type_list_pop mt_pop (pv 5)) pa_nil))) (pg_name (i := 6) sc_with_deeds.nd rfl (by first | exact Or.inl rfl | exact Or.inr rfl))
 (pss_one (ps_if (pt_cmp (pc_dnotin (hu_of hr) (pv 6) (pv 3))) (pss_cons (ps_dput (hu_of hr) (pv 3) (pv 6) pe_bl rfl)
 (pss_one (ps_expr (pe_bm PySem.F.plainAttrs_list PySem.F.slot_list_append PySem.F.type_list_append mt_append (pv 5) (pa_cons (pv 6) pa_nil)))))
 pss_nil)))))
 (pss_one (ps_ret (pe_callTy call_tuple_of (by rfl) T.z_tuple (by decide +kernel) (pa_cons (pe_callB cr_sortedI (by rfl) T.z_sorted (by decide +kernel) (pa_cons (pe_callTy (call_listD rfl) (by rfl) T.z_list (by decide +kernel) (pa_cons (pv 3) pa_nil)) pa_nil)) pa_nil))))))), at_start (σ := [some (.ref k), some (.ref l), some (.bl qu), none, none, none, none]) rfl ?_⟩
    try dsimp only [cx_K]
    walk_at "rd"
    refine r_dcD hl (by omega) fun D H1 nD s1 eD => ?_
    obtain ⟨dx, st, hk, hst⟩ := id kd
    refine ⟨fun σ' H' => ∃ W, σ' = [some (.ref k), some (.ref l), some (.bl qu), some (.ref D), none, some (.ref W), none] ∧ Same H H' ∧ H W = none ∧ W ≠ D ∧ H' D = some (.dK (tkD (dedup xs))) ∧ H' W = some (.lst ((if qu = true then [] else xs).map V.int)), ?_, ?_⟩
    · walk_at "rd"
      refine r_iteB (fun e => ?_) (fun e => ?_)
      · subst e
        walk_at "rd"
        refine ⟨by walk_at "sz", fun W nW => ?_⟩
        exact ⟨W, rfl, s1.trans (same_new nW), s1.free nW, (ne_of_none eD nW).symm, upd_new nW eD, upd_same⟩
      · subst e
        walk_at "rd"
        refine ⟨l, _, rfl, .inl (SqL.of (s1 _ _ hl)), fun W nW => ?_⟩
        exact ⟨W, rfl, s1.trans (same_new nW), s1.free nW, (ne_of_none eD nW).symm, upd_new nW eD, upd_same⟩
    rintro σ' H2 ⟨W, rfl, s2, nW, nWD, eD2, eW2⟩
    have fin : ∀ ks H3, Same H H3 → H3 D = some (.dK (tkD ks)) → ks.Nodup → (∀ k ∈ ks, k ∈ S4) → (∀ j, j ∈ ks ↔ j ∈ wdl d qu xs) → ∀ y6, tRet
          (tCB
            (fun xs H Q =>
              ∃ p ys,
                xs = [V.ref p] ∧
                  ((SqL K H p ys ∧ ∀ (l : Addr), H l = none → Q (V.ref l) (upd H l (HO.tup ys))) ∨
                    SqT K H p ys ∧ Q (V.ref p) H))
            (tCons
              (tCB (rSortedI K)
                (tCons
                  (tCB
                    (fun xs H Q =>
                      ∃ a kvs,
                        xs = [V.ref a] ∧
                          Rd H a (HO.dK kvs) ∧
                            ∀ (p : Addr),
                              H p = none → Q (V.ref p) (upd H p (HO.lst (List.map (fun kv => kV kv.fst) kvs))))
                    (tCons (tVar 3) tNil))
                  tNil))
              tNil)) { nx := fun x H' => Q V.non H', rt := Q } [some (.ref k), some (.ref l), some (.bl qu), some (.ref D), none, some (.ref W), y6] H3 := by
      intro ks H3 s3 e3 nd h4 hm y6
      walk_at "rd"
      refine ⟨D, _, rfl, .inl e3, fun p np => ?_⟩
      rw [keys_tk]
      walk_at "rd"
      refine ⟨p, ks, rfl, SqL.of upd_same, fun ns p2 pm pw np2 => ?_⟩
      have en : ns = wdl d qu xs := by
        have z : ns = norm (wdl d qu xs) := norm_le wdl_s4 pw (pm.nodup_iff.mpr nd) fun j => by rw [pm.mem_iff]; exact hm j
        rw [z]
        refine (norm_is wdl_s4 ?_ fun _ => Iff.rfl).symm
        unfold wdl clo
        split <;> exact norm_lt _
      rw [en]
      walk_at "rd"
      refine ⟨p2, _, rfl, .inl ⟨SqL.of upd_same, fun p3 np3 => ?_⟩⟩
      exact q _ p3 (((s3.trans (same_new np)).trans (same_new np2)).trans (same_new np3)) upd_same
    walk_at "rd"
    refine ⟨fun m σ' H' => ∃ ks ws y6, σ' = [some (.ref k), some (.ref l), some (.bl qu), some (.ref D), none, some (.ref W), y6] ∧ Same H H' ∧ H' D = some (.dK (tkD ks)) ∧ H' W = some (.lst (ws.map V.int)) ∧ m = 2 * (4 - ks.length) + ws.length ∧ m ≤ 200 ∧ ((qu = true ∧ ws = [] ∧ ks = dedup xs) ∨ (qu = false ∧ Search d xs ks ws)), ⟨_, dedup xs, (if qu = true then [] else xs), none, rfl, s2, eD2, eW2, rfl, ?_, ?_⟩, ?_⟩
    · split
      · simp only [List.length_nil]; omega
      · omega
    · cases qu with
      | true => exact .inl ⟨rfl, rfl, rfl⟩
      | false => exact .inr ⟨rfl, Search.start hd hs⟩
    rintro m σ' H3 ⟨ks, ws, y6, rfl, s3, eD3, eW3, rfl, hm, inv⟩
    walk_at "rd"
    refine ⟨by walk_at "sz", fun c0 n0 => ?_⟩
    refine r_neInts (ns := ws) (ms := []) (SqL.of (upd_new n0 eW3)) (SqL.of upd_same) ?_
    walk_at "rd"
    have s4 := s3.trans (same_new (o := .lst []) n0)
    have eD4 := upd_new (o := .lst []) n0 eD3
    have eW4 := upd_new (o := .lst []) n0 eW3
    generalize upd H3 c0 (.lst []) = H4 at s4 eD4 eW4 ⊢
    clear n0 s3 eD3 eW3
    refine r_iteN2 (fun hne => ?_) (fun hne => ?_)
    rotate_left
    · subst hne
      rcases inv with ⟨rfl, _, rfl⟩ | ⟨rfl, se⟩
      · obtain ⟨d1, d2, d3⟩ := dedup_ok xs
        exact fin _ _ s4 eD4 d1 (fun j m => hs j ((d2 j).mp m)) (fun j => by rw [d2]; exact (norm_sub hs).symm) _
      · exact fin _ _ s4 eD4 se.nd se.s4 (fun j => se.done hd hs j) _
    obtain ⟨rfl, se⟩ : qu = false ∧ Search d xs ks ws := by
      rcases inv with ⟨_, rfl, _⟩ | z
      · exact absurd rfl hne
      · exact z
    clear inv fin
    obtain ⟨ws0, kk, rfl⟩ : ∃ ws0 kk, ws = ws0 ++ [kk] := ⟨ws.dropLast, ws.getLast hne, (List.dropLast_concat_getLast hne).symm⟩
    have hl0 : (ws0 ++ [kk]).length = ws0.length + 1 := by simp
    refine ⟨fun σ' H' => ∃ m', m' < 2 * (4 - ks.length) + (ws0 ++ [kk]).length ∧ ∃ ks ws y6, σ' = [some (.ref k), some (.ref l), some (.bl false), some (.ref D), none, some (.ref W), y6] ∧ Same H H' ∧ H' D = some (.dK (tkD ks)) ∧ H' W = some (.lst (ws.map V.int)) ∧ m' = 2 * (4 - ks.length) + ws.length ∧ m' ≤ 200 ∧ ((false = true ∧ ws = [] ∧ ks = dedup xs) ∨ (false = false ∧ Search d xs ks ws)), fun σ' H' z => z, ?_⟩
    walk_at "rd"
    refine ⟨k, dx, _, rfl, s4 _ _ hk, rfl, ?_⟩
    walk_at "rd"
    refine ⟨_, rfl, .inl ⟨rfl, _, SqL.of eW4⟩, W, _, .int kk, rfl, rfl, eW4, by simp, ?_⟩
    have ed : ((ws0 ++ [kk]).map V.int).dropLast = ws0.map V.int := by rw [List.map_append]; exact List.dropLast_concat
    rw [ed]
    have s5 := same_mut (o := .lst (ws0.map V.int)) s4 nW
    have eD5 : upd H4 W (.lst (ws0.map V.int)) D = some (.dK (tkD ks)) := by rw [upd_ne nWD.symm]; exact eD4
    have eW5 : upd H4 W (.lst (ws0.map V.int)) W = some (.lst (ws0.map V.int)) := upd_same
    generalize upd H4 W (.lst (ws0.map V.int)) = H5 at s5 eD5 eW5 ⊢
    clear s4 eD4 eW4
    walk_at "rd"
    refine ⟨k, r, wr, d, kk, rfl, kd.up s5, hd, fun H6 a s6 ea => ?_⟩
    have s6' := s5.trans s6
    have eD6 := s6 _ _ eD5
    have eW6 := s6 _ _ eW5
    refine ⟨a, rfl, ⟨_, SqT.of ea⟩, ?_⟩
    rcases deeds_cases d kk with e0 | ⟨e, e1⟩
    · rw [e0] at ea
      refine forW (walk_tup (xs := [])) (fun i σ' H' => σ' = [some (.ref k), some (.ref l), some (.bl false), some (.ref D), none, some (.ref W), y6] ∧ H' = H6) ⟨rfl, rfl⟩ (fun i σ' H' _ z => by rw [z.2]; exact SqT.of ea) (fun i x σ' H' H'' hi _ _ => absurd hi (by simp)) ?_
      rintro σ' H' ⟨rfl, rfl⟩
      exact ⟨_, by rw [hl0]; omega, ks, ws0, _, rfl, s6', eD6, eW6, rfl, by omega, .inr ⟨rfl, se.skip e0⟩⟩
    · rw [e1] at ea
      have nD' : H D = none := nD
      have naD : a ≠ D := fun z => by rw [z, eD6] at ea; cases ea
      have naW : a ≠ W := fun z => by rw [z, eW6] at ea; cases ea
      have kl := se.len
      refine forW (walk_tup (xs := [.int e])) (fun i σ' H' => ∃ y6, σ' = [some (.ref k), some (.ref l), some (.bl false), some (.ref D), none, some (.ref W), y6] ∧ Same H H' ∧ H' a = some (.tup [.int e]) ∧ H' D = some (.dK (tkD (if i = 0 then ks else ins ks e))) ∧ H' W = some (.lst ((if i = 0 then ws0 else if e ∈ ks then ws0 else ws0 ++ [e]).map V.int))) ⟨_, rfl, s6', ea, eD6, eW6⟩ (fun i σ' H' _ ⟨_, _, _, z, _⟩ => SqT.of z) ?_ ?_
      · rintro i x σ' H7 H7' hi ⟨y, rfl, s7, ea7, eD7, eW7⟩ ⟨rfl, hx⟩
        obtain rfl : i = 0 := by simpa using hi
        obtain rfl : V.int e = x := by simpa using hx
        rw [if_pos rfl] at eD7 eW7
        walk_at "rd"
        refine ⟨_, rfl, _, rfl, D, _, rfl, DGet.k (k := .inl e) eD7, _, rfl, ?_⟩
        rw [valD]
        by_cases z : e ∈ ks
        · rw [if_pos z]
          refine iteF ?_
          walk_at "rd"
          refine ⟨_, rfl, s7, ea7, ?_, ?_⟩
          · rw [if_neg (by decide)]
            unfold ins
            rw [if_pos z]
            exact eD7
          · rw [if_neg (by decide), if_pos z]
            exact eW7
        · rw [if_neg z]
          refine iteT ?_
          walk_at "rd"
          refine ⟨D, _, rfl, DPut.k (k := .inl e) eD7 (by rw [tkD_len]; exact small1000' (by omega)), ?_⟩
          rw [putD]
          have eW8 : upd H7' D (.dK (tkD (ins ks e))) W = some (.lst (ws0.map V.int)) := by rw [upd_ne nWD]; exact eW7
          walk_at "rd"
          refine r_append eW8 (small1000' (by rw [List.length_map]; omega)) ?_
          refine ⟨_, rfl, same_mut (same_mut s7 nD') nW, ?_, ?_, ?_⟩
          · rw [upd_ne naW, upd_ne naD]; exact ea7
          · rw [upd_ne nWD.symm, upd_same, if_neg (by decide)]
          · rw [upd_same, if_neg (by decide), if_neg z, List.map_append]; rfl
      · rintro σ' H7 ⟨y, rfl, s7, ea7, eD7, eW7⟩
        rw [show ([V.int e] : List V).length = 1 from rfl, if_neg (by decide)] at eD7 eW7
        refine ⟨_, ?_, ins ks e, (if e ∈ ks then ws0 else ws0 ++ [e]), _, rfl, s7, eD7, eW7, rfl, ?_, .inr ⟨rfl, se.step hd hs e e1⟩⟩
        all_goals
          by_cases z : e ∈ ks
          · rw [if_pos z]
            unfold ins
            rw [if_pos z]
            omega
          · have l2 := (se.step hd hs e e1).len
            have l3 := ins_new z
            rw [if_neg z, l3, List.length_append, List.length_singleton]
            omega
end
end K16


namespace K16
open PySem L2 KB KO KV
theorem sign_r : ("r" : Str) = sign 114 := by decide +kernel
theorem sign_inj {a b : Nat} (h : sign a = sign b) : a = b := by
  have : #[a] = #[b] := congrArg Str.cps h
  simpa using this
theorem int_sign {c : Nat} (h : isLet c) (n : ¬ c = 114) : PySem.intText? (sign c) = some (bitOf c) := by
  rcases h with rfl | rfl | rfl
  · decide +kernel
  · decide +kernel
  · exact absurd rfl n
/-- rows that are made one by one, in a list -/
def MadeRows (H : Hp) (F : Addr) (rows : List (List Int)) (n : Nat) : Prop := ∃ qs : List Addr, H F = some (.lst (qs.map V.ref)) ∧ qs.length = n ∧ ∀ (j : Nat) (p : Addr) (row : List Int), qs[j]? = some p → rows[j]? = some row → H p = some (.tup (row.map V.int))
theorem MadeRows.up {H H' : Hp} {F : Addr} {rows : List (List Int)} {n : Nat} (h : MadeRows H F rows n) (s : Same H H') : MadeRows H' F rows n := by
  obtain ⟨qs, e, l, r⟩ := h
  exact ⟨qs, s _ _ e, l, fun j p row h1 h2 => s _ _ (r j p row h1 h2)⟩
theorem MadeRows.push {H : Hp} {F a : Addr} {rows : List (List Int)} {row : List Int} {n : Nat} {xs : List V} (h : MadeRows H F rows n) (hF : H F = some (.lst xs)) (hr : rows[n]? = some row) (ha : H a = some (.tup (row.map V.int))) : MadeRows (upd H F (.lst (xs ++ [.ref a]))) F rows (n + 1) := by
  obtain ⟨qs, e, l, r⟩ := h
  obtain rfl : xs = qs.map V.ref := by rw [hF] at e; cases e; rfl
  have ne : ∀ {p : Addr} {ys : List V}, H p = some (.tup ys) → p ≠ F := fun {p ys} z y => by rw [y, hF] at z; cases z
  refine ⟨qs ++ [a], by rw [upd_same, List.map_append]; rfl, by simp [l], fun j p row' h1 h2 => ?_⟩
  by_cases lt : j < qs.length
  · rw [List.getElem?_append_left lt] at h1
    have z := r j p row' h1 h2
    rw [upd_ne (ne z)]
    exact z
  · rw [List.getElem?_append_right (by omega)] at h1
    have h0 : j - qs.length = 0 := by
      cases q : j - qs.length with
      | zero => rfl
      | succ m => rw [q] at h1; simp at h1
    rw [h0] at h1
    obtain rfl : a = p := by simpa using h1
    obtain rfl : j = n := by omega
    rw [hr] at h2
    cases h2
    rw [upd_ne (ne ha)]
    exact ha
theorem MadeRows.rows {H : Hp} {F a : Addr} {rows : List (List Int)} {xs : List V} (h : MadeRows H F rows rows.length) (hF : H F = some (.lst xs)) (ha : H a = none) : RowsAt (upd H a (.tup xs)) a rows := by
  obtain ⟨qs, e, l, r⟩ := h
  obtain rfl : xs = qs.map V.ref := by rw [hF] at e; cases e; rfl
  exact ⟨qs, upd_same, l, fun j p row h1 h2 => upd_new ha (r j p row h1 h2)⟩
theorem getD_mem {xs : List Int} {i : Nat} (h : i < xs.length) : xs.getD i 0 ∈ xs := by
  rw [List.getD_eq_getElem?_getD, List.getElem?_eq_getElem h]
  exact List.getElem_mem h


section
variable {P : Program} {w : World} {K : PySem.W.Frag} {mg : Str → Option Value} {base : Heap}
theorem ok_al {f C : Addr} {fd : FuncData} (F : Fun K "after_letter" "after_letter" s_after_letter f fd) (T : Txt mg) (c_Kind_after_read : CalleeM P w K mg base CX0 1 C "after_read" ["self", "state"] (spRead C)) (c_Kind_after_write : CalleeM P w K mg base CX0 2 C "after_write" ["self", "state", "bit"] (spWrite C)) :
    FnOk P w K mg base CX0 3 f fd ["kind", "state", "letter"] (spAL C) := by
  refine F.ok sc_after_letter (fun vs H Q E h => ?_) (fun cdv A outer s H vs Q E hr h => ?_)
  · obtain ⟨k, r, w, d, s, c, rfl, _⟩ := h
    rfl
  · obtain ⟨k, r, wr, d, s, c, rfl, kd, lc, q⟩ := h
    obtain ⟨dx, st, hk, hst⟩ := id kd
    refine ⟨_, (pss_cons (ps_if (pt_cmpR op_eq (pv 2) pe_str (nomark _)) (pss_one (ps_ret (pe_methC c_Kind_after_read (pv 0) (hr.mono (by decide)) pass0 (pa_cons (pv 1) pa_nil))))
 pss_nil)
 (pss_one (ps_ret (pe_methC c_Kind_after_write (pv 0) (hr.mono (by decide)) pass0 (pa_cons (pv 1) (pa_cons (pe_callTy call_int_str (by rfl) T.z_int (by decide +kernel) (pa_cons (pv 2) pa_nil)) pa_nil)))))), at_start (σ := [some (.ref k), some (.int s), some (.str (sign c))]) rfl ?_⟩
    try dsimp only [cx_K]
    unfold afterL at q
    walk_at "rd"
    refine r_iteS2 (fun h => ?_) (fun h => ?_)
    · rw [if_pos (sign_inj (h.trans sign_r))] at q
      walk_at "rd"
      refine ⟨k, dx, _, rfl, hk, rfl, ?_⟩
      walk_at "rd"
      exact ⟨k, r, wr, d, s, rfl, kd, q⟩
    · have nc : ¬ c = 114 := fun z => h (by rw [z, sign_r])
      rw [if_neg nc] at q
      walk_at "rd"
      refine ⟨k, dx, _, rfl, hk, rfl, ?_⟩
      walk_at "rd"
      refine ⟨_, _, rfl, int_sign lc nc, (by show 1 ≤ 640; decide), ?_⟩
      walk_at "rd"
      exact ⟨k, r, wr, d, s, bitOf c, rfl, kd, q⟩
theorem ok_longer {f C : Addr} {fd : FuncData} (F : Fun K "longer" "longer" s_longer f fd) (T : Txt mg) (c_after_letter : KB.Callee P w K mg base CX0 3 "after_letter" ["kind", "state", "letter"] (spAL C)) (c_with_deeds : KB.Callee P w K mg base CX0 3 "with_deeds" ["kind", "states", "quiet"] (spWD C)) :
    FnOk P w K mg base CX0 4 f fd ["kind", "ends", "letter", "quiet"] (spLonger C) := by
  refine F.ok sc_longer (fun vs H Q E h => ?_) (fun cdv A outer s H vs Q E hr h => ?_)
  · obtain ⟨k, e, r, w, d, c, q, rows, rfl, _⟩ := h
    rfl
  · obtain ⟨k, e, r, wr, d, c, qu, rows, rfl, kd, hr1, hw1, hd1, lc, ra, few, rok, q⟩ := h
    obtain ⟨ps, he, lp, hp⟩ := id ra
    refine ⟨_, (pss_cons (ps_set (i := 4) sc_longer.nd rfl (by first | exact Or.inl rfl | exact Or.inr rfl) (pe_lst pa_nil))
 (pss_cons (ps_for PassesOwn.never rfl (pi_tup (pv 1)) (pg_name (i := 5) sc_longer.nd rfl (by first | exact Or.inl rfl | exact Or.inr rfl))
 (pss_cons (ps_setLc (i := 6) (own := [("state", 7)]) (g := gName 7) (tt := tYes) (by rfl) sc_longer.nd rfl rfl (sw_true rfl rfl rfl (by decide +kernel)) (pi_tup (pv 5)) (blkOk_by (own := [("state", 7)]) (N := ["kind", "ends", "letter", "quiet", "found", "row", "states", "state"]) (sc := defScope s_longer) (by decide +kernel)) (fun _ _ _ _ _ => (pg_name (i := 7) sc_longer.nd rfl (by first | exact Or.inl rfl | exact Or.inr rfl))) (fun _ _ _ _ _ => pts_nil) (fun _ _ _ _ _ => (pe_callC c_after_letter (hr.mono (by decide)) (by rfl) pass0 (pa_cons (pv 0) (pa_cons (pv 7) (pa_cons (pv 2) pa_nil))))))
 (pss_one (ps_expr (pe_bm PySem.F.plainAttrs_list PySem.F.slot_list_append PySem.F.type_list_append mt_append (pv 4) (pa_cons (pe_callC c_with_deeds (hr.mono (by decide)) (by rfl) pass0 (pa_cons (pv 0) (pa_cons (pv 6) (pa_cons (pv 3) pa_nil)))) pa_nil))))))
 (pss_one (ps_ret (pe_callTy call_tuple_of (by rfl) T.z_tuple (by decide +kernel) (pa_cons (pv 4) pa_nil)))))), at_start (σ := [some (.ref k), some (.ref e), some (.str (sign c)), some (.bl qu), none, none, none, none]) rfl ?_⟩
    try dsimp only [cx_K]
    walk_at "rd"
    refine ⟨by walk_at "sz", fun L nL => ?_⟩
    walk_at "rd"
    have s1 := same_new (o := .lst []) nL
    refine ⟨e, rfl, ⟨_, SqT.of (s1 _ _ he)⟩, ?_⟩
    refine forW (walk_tup (xs := ps.map V.ref)) (fun i σ' H' => ∃ y5 y6, σ' = [some (.ref k), some (.ref e), some (.str (sign c)), some (.bl qu), some (.ref L), y5, y6, none] ∧ Same H H' ∧ MadeRows H' L (rows.map fun row => stepRow r wr d qu row c) i) ⟨_, _, rfl, s1, [], upd_same, rfl, fun j p row h1 _ => by simp at h1⟩ (fun i σ' H' _ ⟨_, _, _, z, _⟩ => SqT.of (z _ _ he)) ?_ ?_
    · rintro i x σ' H2 H2' hi ⟨y5, y6, rfl, s2, mr⟩ ⟨rfl, hx⟩
      rw [List.getElem?_map] at hx
      obtain ⟨p, hpi, rfl⟩ := Option.map_eq_some_iff.mp hx
      have hi2 : i < rows.length := by rw [← lp]; simpa using hi
      have hrow := List.getElem?_eq_getElem hi2
      have mrow : rows[i] ∈ rows := List.getElem_mem hi2
      have erow := hp i p _ hpi hrow
      generalize rows[i] = row at hrow mrow erow
      obtain ⟨rl, r4⟩ := rok row mrow
      walk_at "rd"
      refine ⟨p, rfl, ⟨_, SqT.of (s2 _ _ erow)⟩, ?_⟩
      refine lc_all (walk_tup (xs := row.map V.int)) (j := 7) (fun i => .int (row.getD i 0)) (fun _ => true) (fun i => .int (afterL r wr c (row.getD i 0))) (by rw [List.length_map]; omega) (fun i H x H' hi y => YAt_get hi y) (fun H' s => SqT.of (s _ _ (s2 _ _ erow))) (fun x => rfl) (fun i H' hi s QT q => q _ (Same.refl _)) (fun i H' hi _ s3 Q' q' => ?_) (fun D H3 nD s3 eD => ?_)
      · walk_at "rd"
        exact ⟨k, r, wr, d, row.getD i 0, c, rfl, (kd.up s2).up s3, lc, q' _ (Same.refl _)⟩
      rw [show (row.map V.int).length = row.length from List.length_map _, given_int row 0 (fun s => afterL r wr c s)] at eD
      obtain ⟨qs3, eL3, lq3, _⟩ := id (mr.up s3)
      walk_at "rd"
      refine ⟨k, D, r, wr, d, qu, row.map (afterL r wr c), rfl, (kd.up s2).up s3, hd1, eD, fun j m => ?_, by rw [List.length_map]; omega, fun H4 a s4 ea => ?_⟩
      · obtain ⟨z, hz, rfl⟩ := List.mem_map.mp m
        exact afterL_s4 hr1 hw1 lc (r4 z hz)
      have mr4 := (mr.up s3).up s4
      obtain ⟨qs, eL, lq, _⟩ := id mr4
      walk_at "rd"
      refine r_append eL (small1000' (by rw [List.length_map]; omega)) ?_
      refine ⟨_, _, rfl, same_mut ((s2.trans s3).trans s4) nL, ?_⟩
      exact mr4.push eL (by rw [List.getElem?_map, hrow]; rfl) ea
    · rintro σ' H2 ⟨y5, y6, rfl, s2, mr⟩
      rw [List.length_map, lp] at mr
      obtain ⟨qs, eL, lq, _⟩ := id mr
      walk_at "rd"
      refine ⟨L, _, rfl, .inl ⟨SqL.of eL, fun a na => ?_⟩⟩
      refine q _ a (s2.trans (same_new na)) ?_
      refine MadeRows.rows (by rw [List.length_map]; exact mr) eL na

end
end K16


namespace K16
open PySem L2 KB KO KV
/-- what the text's class Effect is -/
structure TxtF (K : PySem.W.Frag) (wd : World) (mg : Str → Option Value) (C dM CE : Addr) : Prop extends TxtM K wd mg C dM where
  cle : Cls K CE
  n_kind : NoAttr K CE "kind"
  n_ends : NoAttr K CE "ends"
  mg_Effect : mg "Effect" = some (.ref CE)
  g_LETTERS : ∃ tk, mg "LETTERS" = some (.str "01r" tk)
  g_MOST : ∃ tk, mg "MOST_LETTERS" = some (.int 40 tk)
  tyE : ∀ {H : Hp} {a dx : Addr} {fs : List (Str × V)}, H a = some (.ins CE dx fs) → TyX K H (.ref a) (.ref CE)
  isiE : PySem.W.kitOne K (.ref CE) (.ref CE) = some true
def Lets (z : Str) : Prop := z.cps.size ≤ 40 ∧ ∀ c ∈ z.cps.toList, isLet c
def flE (k e : Addr) : List (Str × V) := [("kind", .ref k), ("ends", .ref e)]
def EffAt (C CE : Addr) (H : Hp) (p : Addr) (r w d : Str) (rows : List (List Int)) : Prop := ∃ dx k e, H p = some (.ins CE dx (flE k e)) ∧ KindAt C H k r w d ∧ RowsAt H e rows
theorem EffAt.up {C CE : Addr} {H H' : Hp} {p : Addr} {r w d : Str} {rows : List (List Int)} (h : EffAt C CE H p r w d rows) (s : Same H H') : EffAt C CE H' p r w d rows := by
  obtain ⟨dx, k, e, h1, h2, h3⟩ := h
  exact ⟨dx, k, e, s _ _ h1, h2.up s, h3.up s⟩
def spNL : Sp := fun vs H Q _ => ∃ z, vs = [.str z] ∧ Lets z ∧ ∀ H', Same H H' → Q .non H'
def spEInit (CE : Addr) : Sp := fun vs H Q _ => ∃ (p dx k e : Addr), vs = [.ref p, .ref k, .ref e] ∧ H p = some (.ins CE dx []) ∧ ∀ H', H' p = some (.ins CE dx (flE k e)) → Keep p H H' → Q .non H'
def spOf (C CE : Addr) : Sp := fun vs H Q _ => ∃ (k : Addr) (r w d : Str) (z : Str) (q : Bool), vs = [.ref CE, .ref k, .str z, .bl q] ∧ KindAt C H k r w d ∧ r ∈ RD ∧ w ∈ WR ∧ d ∈ DV ∧ Lets z ∧ ∀ H' p, Same H H' → EffAt C CE H' p r w d (rowsOf r w d q z.cps.toList) → Q (.ref p) H'
def spECall (C CE : Addr) : Sp := fun vs H Q _ => ∃ (p : Addr) (r w d : Str) (rows : List (List Int)) (n : Nat) (row : List Int), vs = [.ref p, .int n] ∧ EffAt C CE H p r w d rows ∧ rows[n]? = some row ∧ ∀ a, H a = some (.tup (row.map V.int)) → Q (.ref a) H
def spEEq (C CE : Addr) : Sp := fun vs H Q _ => ∃ (p p' : Addr) (r w d r' w' d' : Str) (rows rows' : List (List Int)), vs = [.ref p, .ref p'] ∧ EffAt C CE H p r w d rows ∧ EffAt C CE H p' r' w' d' rows' ∧ Q (.bl (decide ((r = r' ∧ w = w' ∧ d = d') ∧ rows = rows'))) H
theorem cutS_all {z : Str} {n : Nat} (h : z.cps.size ≤ n) : cutS z none (some (n : Int)) = z := by
  unfold cutS
  rw [HT.sIx_none, HT.sIx_nat, List.drop_zero, Nat.sub_zero, Nat.min_eq_right (show z.length ≤ n from h)]
  have e : z.cps.toList.take z.length = z.cps.toList := List.take_of_length_le (by show z.cps.toList.length ≤ z.cps.size; simp)
  rw [e]
theorem sign_in {c : Nat} (h : isLet c) : decide (c ∈ (Str.ofString "01r").cps.toList) = true := by
  rcases h with rfl | rfl | rfl <;> decide +kernel


section
variable {P : Program} {w : World} {K : PySem.W.Frag} {mg : Str → Option Value} {base : Heap}
theorem ok_nl {f C dM CE : Addr} {fd : FuncData} (F : Fun K "need_letters" "need_letters" s_need_letters f fd) (T : TxtF K w mg C dM CE) : FnOk P w K mg base CX0 1 f fd ["letters"] spNL := by
  refine F.ok sc_need_letters (fun vs H Q E h => ?_) (fun cdv A outer s H vs Q E hr h => ?_)
  · obtain ⟨z, rfl, _⟩ := h
    rfl
  · obtain ⟨z, rfl, ⟨lz, hz⟩, q⟩ := h
    obtain ⟨tk1, gLT⟩ := T.g_LETTERS
    obtain ⟨tk2, gML⟩ := T.g_MOST
    refine ⟨_, (pss_cons (ps_if (pt_not (pt_val (pe_callB call_isi (by rfl) T.z_isinstance (by decide +kernel) (pa_cons (pv 0) (pa_cons (pe_bltn (v := .ty "str") (by rfl) T.z_str (by decide +kernel) rfl) pa_nil))))) (pss_one ps_never)
 pss_nil)
 (pss_cons (ps_for PassesOwn.never rfl (KT.pi_enumS (by rfl) T.z_enumerate (pa_cons (pe_slice sl_str (pv 0) po_none (po_some (pe_glob (v := .int _) (by rfl) gML ⟨_, rfl⟩))) pa_nil)) (pg_tup rfl (pgs_cons (pg_name (i := 1) sc_need_letters.nd rfl (by first | exact Or.inl rfl | exact Or.inr rfl)) (pgs_cons (pg_name (i := 2) sc_need_letters.nd rfl (by first | exact Or.inl rfl | exact Or.inr rfl)) pgs_nil)))
 (pss_one (ps_if (pt_cmpR op_notIn_sign (pv 2) (pe_glob (v := .str _) (by rfl) gLT ⟨_, rfl⟩) (by rfl)) (pss_one ps_never)
 pss_nil)))
 (pss_one (ps_if (pt_cmpR op_gt (pe_callB call_len_str (by rfl) T.z_len (by decide +kernel) (pa_cons (pv 0) pa_nil)) (pe_glob (v := .int _) (by rfl) gML ⟨_, rfl⟩) (nomark _)) (pss_one ps_never)
 pss_nil)))), at_start (σ := [some (.str z), none, none]) rfl ?_⟩
    try dsimp only [cx_K]
    walk_at "rd"
    refine r_isiS ?_
    walk_at "rd"
    refine KU.r_enumS ?_
    walk_at "rd"
    refine KS.r_sls (Nat.le_trans (show z.length ≤ 40 from lz) (by decide)) ?_
    rw [show (40 : Int) = ((40 : Nat) : Int) from rfl, cutS_all lz]
    walk_at "rd"
    refine ⟨z, rfl, ?_⟩
    refine forW KT.walk_enumS (fun i σ' H' => ∃ y1 y2, σ' = [some (.str z), y1, y2] ∧ Same H H') ⟨_, _, rfl, Same.refl _⟩ (fun _ _ _ _ _ => trivial) ?_ ?_
    · rintro i x σ' H1 H2 hi ⟨y1, y2, rfl, s1⟩ ⟨t, c, rfl, nt, rfl, hc⟩
      have lc : isLet c := hz c (List.mem_of_getElem? (by rw [Array.getElem?_toList]; exact hc))
      refine r_gtup (SqT.of upd_same) rfl ?_
      walk_at "rd"
      refine ⟨c, _, rfl, rfl, ?_⟩
      rw [sign_in lc]
      walk_at "rd"
      exact ⟨_, _, rfl, s1.trans (same_new nt)⟩
    · rintro σ' H1 ⟨y1, y2, rfl, s1⟩
      walk_at "rd"
      refine ⟨z, rfl, Nat.le_trans (show z.length ≤ 40 from lz) (by decide), ?_⟩
      walk_at "rd"
      refine r_iteF (by have : z.length ≤ 40 := lz; omega) ?_
      walk_at "rd"
      exact q _ s1
theorem ok_einit {f C dM CE : Addr} {fd : FuncData} {k : Nat} (F : Fun K "__init__" "Effect.__init__" s_Effect___init__ f fd) (T : TxtF K w mg C dM CE) : FnOk P w K mg base CX0 (k + 1) f fd ["self", "kind", "ends"] (spEInit CE) := by
  refine F.ok sc_Effect___init__ (fun vs H Q E h => ?_) (fun cdv A outer s H vs Q E hr h => ?_)
  · obtain ⟨p, dx, k, e, rfl, _⟩ := h
    rfl
  · obtain ⟨p, dx, k, e, rfl, hp, q⟩ := h
    refine ⟨_, (pss_cons (ps_fld (pv 0) (pv 1) rfl)
 (pss_one (ps_fld (pv 0) (pv 2) rfl))), at_start (σ := [some (.ref p), some (.ref k), some (.ref e)]) rfl ?_⟩
    try dsimp only [cx_K]
    walk_at "rd"
    refine ⟨p, CE, dx, _, rfl, hp, T.cle, T.n_kind, by decide, ?_⟩
    walk_at "rd"
    refine ⟨p, CE, dx, _, rfl, upd_same, T.cle, T.n_ends, putF_lt0 (by decide), ?_⟩
    refine q _ upd_same fun b o x hb => ?_
    rw [upd_ne hb, upd_ne hb]
    exact x
theorem ok_ecall {f C dM CE : Addr} {fd : FuncData} {k : Nat} (F : Fun K "__call__" "Effect.__call__" s_Effect___call__ f fd) (T : TxtF K w mg C dM CE) : FnOk P w K mg base CX0 (k + 1) f fd ["self", "state"] (spECall C CE) := by
  refine F.ok sc_Effect___call__ (fun vs H Q E h => ?_) (fun cdv A outer s H vs Q E hr h => ?_)
  · obtain ⟨p, r, w, d, rows, n, row, rfl, _⟩ := h
    rfl
  · obtain ⟨p, r, wr, d, rows, n, row, rfl, ⟨dx, k, e, hp, kd, ps, he, lp, hrs⟩, hn, q⟩ := h
    refine ⟨_, (pss_one (ps_ret (pe_ix ix_tup (pe_fld (pv 0) rfl) (pv 1) (fun _ _ => rfl)))), at_start (σ := [some (.ref p), some (.int n)]) rfl ?_⟩
    try dsimp only [cx_K]
    have cl := T.cle; have n1 := T.n_ends
    walk_at "rd"
    have hl : n < ps.length := by rw [lp]; exact (List.getElem?_eq_some_iff.mp hn).1
    refine r_ixT (v := .ref ps[n]) (SqT.of he) (atI_nat (by rw [List.getElem?_map, List.getElem?_eq_getElem hl]; rfl)) ?_
    exact q _ (hrs n _ _ (List.getElem?_eq_getElem hl) hn)
end
end K16


namespace K16
open PySem L2 KB KO KV
theorem rows_of_made {H : Hp} {D a : Addr} {ys : List V} {rows : List (List Int)} (eD : H D = some (.lst ys)) (na : H a = none) (ly : ys.length = rows.length) (hy : ∀ (i : Nat) (v : V), ys[i]? = some v → ∃ (p : Addr) (row : List Int), v = .ref p ∧ rows[i]? = some row ∧ H p = some (.tup (row.map V.int))) : RowsAt (upd H a (.tup ys)) a rows := by
  have hp : ∀ (ys : List V) (rows : List (List Int)), ys.length = rows.length → (∀ (i : Nat) (v : V), ys[i]? = some v → ∃ (p : Addr) (row : List Int), v = .ref p ∧ rows[i]? = some row ∧ H p = some (.tup (row.map V.int))) → ∃ ps : List Addr, ys = ps.map V.ref ∧ ps.length = rows.length ∧ ∀ (i : Nat) (p : Addr) (row : List Int), ps[i]? = some p → rows[i]? = some row → H p = some (.tup (row.map V.int)) := by
    intro ys
    induction ys with
    | nil =>
      intro rows l h
      cases rows with
      | nil => exact ⟨[], rfl, rfl, fun i p row h1 _ => by simp at h1⟩
      | cons r rows => simp at l
    | cons y ys ih =>
      intro rows l h
      cases rows with
      | nil => simp at l
      | cons r rows =>
        obtain ⟨p, row, rfl, e1, e2⟩ := h 0 y rfl
        obtain ⟨ps, rfl, lp, hq⟩ := ih rows (by simpa using l) fun i v e => h (i + 1) v e
        refine ⟨p :: ps, rfl, by simp [lp], fun i p' row' h1 h2 => ?_⟩
        cases i with
        | zero =>
          cases h1
          rw [show (r :: rows)[0]? = some r from rfl] at e1 h2
          cases e1
          cases h2
          exact e2
        | succ i => exact hq i p' row' h1 h2
  obtain ⟨ps, rfl, lp, hq⟩ := hp ys rows ly hy
  exact ⟨ps, upd_same, lp, fun i p row h1 h2 => upd_new na (hq i p row h1 h2)⟩
theorem rows_next (r w d : Str) (q : Bool) (cs : List Nat) (c : Nat) : ((statesOf w).map (rowOf r w d q cs)).map (fun row => stepRow r w d q row c) = (statesOf w).map (rowOf r w d q (cs ++ [c])) := by
  rw [List.map_map]
  exact List.map_congr_left fun s _ => (rowOf_snoc r w d q cs c s).symm
theorem lay_rows (rows : List (List Int)) : PyData.canLayAll0 (rows.map dRow) = true := by
  induction rows with
  | nil => rfl
  | cons row rows ih =>
    show (PyData.canLay0 (dRow row) && PyData.canLayAll0 (rows.map dRow)) = true
    rw [ih, Bool.and_true]
    show PyData.canLayAll0 (row.map PyData.int) = true
    exact lay_ints row
theorem depth_rows (rows : List (List Int)) : PyData.depthAll (rows.map dRow) ≤ 1 := by
  induction rows with
  | nil => exact Nat.zero_le _
  | cons row rows ih =>
    show max (PyData.depth (dRow row)) (PyData.depthAll (rows.map dRow)) ≤ 1
    have e : PyData.depth (dRow row) = 1 := by
      show PyData.depthAll (row.map PyData.int) + 1 = 1
      rw [depth_ints]
    rw [e]
    omega
theorem shaped_rows (rows : List (List Int)) : SeqAt.shaped (dRows rows) = true := by
  show (PyData.canLayAll0 (rows.map dRow) && decide (PyData.depthAll (rows.map dRow) + 1 ≤ 64)) = true
  rw [lay_rows, Bool.true_and]
  have := depth_rows rows
  exact decide_eq_true (by omega)
theorem eqv_rows : ∀ a b : List (List Int), PyData.eqvAll (a.map dRow) (b.map dRow) = decide (a = b)
  | [], [] => rfl
  | [], _ :: _ => rfl
  | _ :: _, [] => rfl
  | x :: a, y :: b => by
    show (PyData.eqv (dRow x) (dRow y) && PyData.eqvAll (a.map dRow) (b.map dRow)) = decide (x :: a = y :: b)
    rw [eqv_rows a b]
    have e : PyData.eqv (dRow x) (dRow y) = decide (x = y) := eqv_ints x y
    rw [e]
    by_cases h1 : x = y <;> by_cases h2 : a = b <;> simp [h1, h2]
theorem r_eqRows {K : PySem.W.Frag} {H : Hp} {Q : VK} {a b : Addr} {x y : List (List Int)} (h : RowsAt H a x) (h' : RowsAt H b y) (q : Q (.bl (decide (x = y))) H) : rEqD K (.ref a) (.ref b) H Q :=
  ⟨_, _, h.dp, h'.dp, shaped_rows x, shaped_rows y, (show Q (.bl (PyData.eqvAll (x.map dRow) (y.map dRow))) H by rw [eqv_rows]; exact q)⟩
/-- the pairs of the rows -/
def pairsOf (rows : List (List Int)) : List (Int × Int) := rows.zipIdx.flatMap fun p => p.1.map fun e => ((p.2 : Int), e)
def PairsAt (H : Hp) (ys : List V) (ps : List (Int × Int)) : Prop := ys.length = ps.length ∧ ∀ (i : Nat) (v : V) (p : Int × Int), ys[i]? = some v → ps[i]? = some p → ∃ a, v = .ref a ∧ H a = some (.tup [.int p.1, .int p.2])
theorem PairsAt.up {H H' : Hp} {ys : List V} {ps : List (Int × Int)} (h : PairsAt H ys ps) (s : Same H H') : PairsAt H' ys ps := ⟨h.1, fun i v p h1 h2 => by
  obtain ⟨a, e1, e2⟩ := h.2 i v p h1 h2
  exact ⟨a, e1, s _ _ e2⟩⟩
theorem PairsAt.nil {H : Hp} : PairsAt H [] [] := ⟨rfl, fun i v p h1 _ => by simp at h1⟩
theorem PairsAt.snoc {H : Hp} {ys : List V} {ps : List (Int × Int)} {a : Addr} {p : Int × Int} (h : PairsAt H ys ps) (e : H a = some (.tup [.int p.1, .int p.2])) : PairsAt H (ys ++ [.ref a]) (ps ++ [p]) := by
  refine ⟨by simp [h.1], fun i v p' h1 h2 => ?_⟩
  by_cases lt : i < ys.length
  · rw [List.getElem?_append_left lt] at h1
    rw [List.getElem?_append_left (by rw [← h.1]; exact lt)] at h2
    exact h.2 i v p' h1 h2
  · rw [List.getElem?_append_right (by omega)] at h1
    rw [List.getElem?_append_right (by rw [← h.1]; omega), ← h.1] at h2
    have h0 : i - ys.length = 0 := by
      cases z : i - ys.length with
      | zero => rfl
      | succ m => rw [z] at h1; simp at h1
    rw [h0] at h1 h2
    obtain rfl : V.ref a = v := by simpa using h1
    obtain rfl : p = p' := by simpa using h2
    exact ⟨a, rfl, e⟩
theorem pairs_take (rows : List (List Int)) (i : Nat) (row : List Int) (h : rows[i]? = some row) : pairsOf (rows.take (i + 1)) = pairsOf (rows.take i) ++ row.map fun e => ((i : Int), e) := by
  have hl : i < rows.length := (List.getElem?_eq_some_iff.mp h).1
  unfold pairsOf
  rw [List.take_add_one, h, Option.toList_some, List.zipIdx_append, List.flatMap_append, List.length_take, Nat.min_eq_left (Nat.le_of_lt hl)]
  simp


section
variable {P : Program} {w : World} {K : PySem.W.Frag} {mg : Str → Option Value} {base : Heap}
theorem ok_of {f C dM CE : Addr} {fd : FuncData} (F : FunD K "of" "Effect.of" (defArgs s_Effect_of) (defBody s_Effect_of) (defScope s_Effect_of) [] [("quiet", .bl false)] f fd) (T : TxtF K w mg C dM CE) (c_need_letters : KB.Callee P w K mg base CX0 1 "need_letters" ["letters"] spNL)
    (c_with_deeds : KB.Callee P w K mg base CX0 3 "with_deeds" ["kind", "states", "quiet"] (spWD C)) (c_longer : KB.Callee P w K mg base CX0 4 "longer" ["kind", "ends", "letter", "quiet"] (spLonger C)) (c_Effect___init__ : CalleeI P w K mg base CX0 1 CE "Effect" ["self", "kind", "ends"] (spEInit CE)) :
    FnOk P w K mg base CX0 6 f fd ["cls", "kind", "letters", "quiet"] (spOf C CE) := by
  refine F.ok sc_Effect_of (fun vs H Q E h => ?_) (fun cdv A outer s H vs Q E hr h => ?_)
  · obtain ⟨k, r, w, d, z, q, rfl, _⟩ := h
    rfl
  · obtain ⟨k, r, wr, d, z, qu, rfl, kd, hr1, hw1, hd1, ⟨lz, hz⟩, q⟩ := h
    obtain ⟨t', drv, rdg⟩ : ∃ t', PSs (cxOf CX0 P w K mg base ["cls", "kind", "letters", "quiet", "ends", "state", "letter"] "Effect.of" (defScope s_Effect_of) f cdv A outer s H E).nox (defBody s_Effect_of) t' ∧ t' { nx := fun _ H' => Q .non H', rt := Q } (start ["cls", "kind", "letters", "quiet", "ends", "state", "letter"] [.ref CE, .ref k, .str z, .bl qu]) H := by
      refine ⟨_, (pss_cons (ps_expr (pe_callC c_need_letters (hr.mono (by decide)) (by rfl) pass0 (pa_cons (pv 2) pa_nil)))
 (pss_cons (ps_set (i := 4) sc_Effect_of.nd rfl (by first | exact Or.inl rfl | exact Or.inr rfl) (pe_callTy call_tuple_of (by rfl) T.z_tuple (by decide +kernel) (pa_cons (pe_lc (own := [("state", 5)]) (g := gName 5) (tt := tYes) (by rfl) sc_Effect_of.nd (pi_tup (pe_fld (pv 1) rfl)) (blkOk_by (own := [("state", 5)]) (N := ["cls", "kind", "letters", "quiet", "ends", "state", "letter"]) (sc := defScope s_Effect_of) (by decide +kernel)) (fun _ _ _ _ _ => (pg_name (i := 5) sc_Effect_of.nd rfl (by first | exact Or.inl rfl | exact Or.inr rfl))) (fun _ _ _ _ _ => pts_nil) (fun _ _ _ _ _ => (pe_callC c_with_deeds (hr.mono (by decide)) (by rfl) pass0 (pa_cons (pv 1) (pa_cons (pe_lst (pa_cons (pv 5) pa_nil)) (pa_cons (pv 3) pa_nil)))))) pa_nil)))
 (pss_cons (ps_for PassesOwn.never rfl (pi_str (pv 2)) (pg_name (i := 6) sc_Effect_of.nd rfl (by first | exact Or.inl rfl | exact Or.inr rfl))
 (pss_one (ps_set (i := 4) sc_Effect_of.nd rfl (by first | exact Or.inl rfl | exact Or.inr rfl) (pe_callC c_longer (hr.mono (by decide)) (by rfl) pass0 (pa_cons (pv 1) (pa_cons (pv 4) (pa_cons (pv 6) (pa_cons (pv 3) pa_nil))))))))
 (pss_one (ps_ret (KP.pe_makeL c_Effect___init__ (hr.mono (by decide)) pass0 (pv 0) (pa_cons (pv 1) (pa_cons (pv 4) pa_nil)))))))), at_start (σ := [some (.ref CE), some (.ref k), some (.str z), some (.bl qu), none, none, none]) rfl ?_⟩
      try dsimp only [cx_K]
      have cl := T.cl; have ns := T.n_states
      walk_at "rd"
      refine ⟨z, rfl, ⟨lz, hz⟩, fun H1 s1 => ?_⟩
      obtain ⟨dx, st, hk, hst⟩ := id (kd.up s1)
      have sl := states_len wr
      walk_at "rd"
      refine ⟨st, rfl, ⟨_, SqT.of hst⟩, ?_⟩
      refine KD.lc_made (walk_tup (xs := (statesOf wr).map V.int)) (fun i v H' => ∃ (p : Addr) (row : List Int), v = .ref p ∧ ((statesOf wr).map fun s => wdl d qu [s])[i]? = some row ∧ H' p = some (.tup (row.map V.int))) (by rw [List.length_map]; omega) (fun i v H H' ⟨p, row, e1, e2, e3⟩ sn => ⟨p, row, e1, e2, sn.tup e3⟩) (fun H' s => SqT.of (s _ _ hst)) (fun i x H2 H2' N B hi s2 y qN => ?_) (fun D H2 ys nD s2 eD ly hy => ?_)
      · obtain ⟨rfl, hx⟩ := y
        rw [List.getElem?_map] at hx
        obtain ⟨sv, hsv, rfl⟩ := Option.map_eq_some_iff.mp hx
        walk_at "rd"
        refine ⟨rfl, KD.r_yes (iteT ?_)⟩
        walk_at "rd"
        refine ⟨by walk_at "sz", fun l nl => ?_⟩
        walk_at "rd"
        refine ⟨k, l, r, wr, d, qu, [sv], rfl, ((kd.up s1).up s2).up (same_new nl), hd1, upd_same, fun j m => ?_, by simp, fun H3 a s3 ea => ?_⟩
        · rw [List.mem_singleton.mp m]
          exact states_s4 sv (List.mem_of_getElem? hsv)
        · exact qN _ _ ((same_new nl).trans s3) ⟨a, _, rfl, by rw [List.getElem?_map, hsv]; rfl, ea⟩
      refine ⟨D, ys, rfl, .inl ⟨SqL.of eD, fun a na => ?_⟩⟩
      have ra := rows_of_made (rows := (statesOf wr).map fun s => wdl d qu [s]) eD na (by rw [ly]; simp) hy
      have s3 := (s1.trans s2).trans (same_new (o := .tup ys) na)
      generalize upd H2 a (.tup ys) = H3 at ra s3 ⊢
      clear hy eD ly nD na s2
      walk_at "rd"
      refine forW walk_str (fun i σ' H' => ∃ e y6, σ' = [some (.ref CE), some (.ref k), some (.str z), some (.bl qu), some (.ref e), none, y6] ∧ Same H H' ∧ RowsAt H' e ((statesOf wr).map (rowOf r wr d qu (z.cps.toList.take i)))) ⟨a, _, rfl, s3, ra⟩ (fun _ _ _ _ _ => trivial) ?_ ?_
      · rintro i x σ' H4 H4' hi ⟨e, y6, rfl, s4, r4⟩ ⟨rfl, c, hc, rfl⟩
        have hc' : z.cps.toList[i]? = some c := by rw [Array.getElem?_toList]; exact hc
        have lc : isLet c := hz c (List.mem_of_getElem? hc')
        walk_at "rd"
        refine ⟨k, e, r, wr, d, c, qu, _, rfl, kd.up s4, hr1, hw1, hd1, lc, r4, by rw [List.length_map]; exact states_len wr, fun row m => ?_, fun H5 a5 s5 r5 => ?_⟩
        · obtain ⟨sv, _, rfl⟩ := List.mem_map.mp m
          exact ⟨rowOf_len, rowOf_s4⟩
        · walk_at "rd"
          rw [rows_next] at r5
          refine ⟨a5, _, rfl, s4.trans s5, ?_⟩
          rw [List.take_add_one, hc']
          exact r5
      · rintro σ' H4 ⟨e, y6, rfl, s4, r4⟩
        rw [show z.cps.toList.take z.cps.size = z.cps.toList from List.take_of_length_le (by simp)] at r4
        walk_at "rd"
        refine KP.r_makeL ?_
        walk_at "rd"
        refine ⟨rfl, ?_⟩
        walk_at "rd"
        refine fun x dx nx ndx nxd => ⟨x, dx, k, e, rfl, upd_same, fun H5 e5 kp5 => ⟨rfl, ?_⟩⟩
        have s5 : Same H4 H5 := fun b o eb => kp5 b o (by rw [upd_ne (ne_of_none eb nx), upd_ne (ne_of_none eb ndx)]; exact eb) (ne_of_none eb nx)
        exact q _ x (s4.trans s5) ⟨dx, k, e, e5, (kd.up s4).up s5, r4.up s5⟩
    exact ⟨t', drv.nox, rdg⟩
theorem ok_eeq {f C dM CE : Addr} {fd : FuncData} (F : Fun K "__eq__" "Effect.__eq__" s_Effect___eq__ f fd) (T : TxtF K w mg C dM CE) (eq_Kind : OwnM P w K mg base 1 C "__eq__" ["self", "other"] (spEq C)) (nfK : PySem.W.notFirst K C (.ref C) = true) : FnOk P w K mg base CX0 3 f fd ["self", "other"] (spEEq C CE) := by
  refine F.ok sc_Effect___eq__ (fun vs H Q E h => ?_) (fun cdv A outer s H vs Q E hr h => ?_)
  · obtain ⟨p, p', r, w, d, r', w', d', rows, rows', rfl, _⟩ := h
    rfl
  · obtain ⟨p, p', r, wr, d, r', w', d', rows, rows', rfl, ⟨dx, k, e, hp, kd, ra⟩, ⟨dx', k', e', hp', kd', ra'⟩, q⟩ := h
    refine ⟨_, (pss_one (ps_ret (pe_and (pe_callB call_isi (by rfl) T.z_isinstance (by decide +kernel) (pa_cons (pv 1) (pa_cons (pe_glob (v := .ref _) (by rfl) T.mg_Effect rfl) pa_nil))) (pe_and (pe_cmpR (KO.op_eqO eq_Kind (hr.mono (by decide))) (pe_fld (pv 0) rfl) (pe_fld (pv 1) rfl) (nomark _)) (pe_one (pe_cmpR (op_eqD hr.units) (pe_fld (pv 0) rfl) (pe_fld (pv 1) rfl) (nomark _))))))), at_start (σ := [some (.ref p), some (.ref p')]) rfl ?_⟩
    try dsimp only [cx_K]
    have cl := T.cle; have n1 := T.n_kind; have n2 := T.n_ends
    walk_at "rd"
    refine ⟨_, _, _, _, true, rfl, .own CE, T.tyE hp', T.isiE, ?_⟩
    walk_at "rd"
    obtain ⟨dk, st, hk, hst⟩ := id kd
    obtain ⟨dk', st', hk', hst'⟩ := id kd'
    refine ⟨k, dk, _, k', C, dk', _, rfl, rfl, hk, hk', nfK, k, k', r, wr, d, r', w', d', rfl, kd, kd', _, rfl, ?_⟩
    refine r_ite2 (fun h => ?_) (fun h => ?_)
    · walk_at "rd"
      refine r_eqRows ra ra' ?_
      have e : decide (rows = rows') = decide ((r = r' ∧ wr = w' ∧ d = d') ∧ rows = rows') := by
        by_cases z : rows = rows'
        · rw [decide_eq_true z, decide_eq_true ⟨h, z⟩]
        · rw [decide_eq_false z, decide_eq_false (fun y => z y.2)]
      rw [e]
      exact q
    · rw [decide_eq_false (fun y => h y.1)] at q
      exact q
end
end K16

namespace K16
open PySem L2 KB KO KV KW
/-! ### rows of letters put together (k12 M, N) -/
def mulRow (rows' : List (List Int)) (row : List Int) : List Int := norm (row.flatMap fun s => rows'.getD s.toNat [])
def mulRows (rows rows' : List (List Int)) : List (List Int) := rows.map (mulRow rows')
/-! ### the plain law of the product -/
section
variable {r w d : Str} {q : Bool}
theorem mem_wdl {xs : List Int} (hd : d ∈ DV) (h : ∀ k ∈ xs, k ∈ S4) {k : Int} : k ∈ wdl d q xs ↔ ∃ x ∈ xs, k ∈ wdl d q [x] := by
  have one : ∀ x ∈ xs, ∀ y ∈ [x], y ∈ S4 := fun x m y z => by rw [List.mem_singleton.mp z]; exact h x m
  unfold wdl
  split
  · rw [norm_sub h]
    constructor
    · exact fun m => ⟨k, m, (norm_sub (one k m)).mpr (List.mem_singleton.mpr rfl)⟩
    · rintro ⟨x, m, z⟩
      rw [List.mem_singleton.mp ((norm_sub (one x m)).mp z)]
      exact m
  · rw [mem_clo hd h]
    constructor
    · rintro (m | ⟨j, hj, z⟩)
      · exact ⟨k, m, (mem_clo hd (one k m)).mpr (.inl (List.mem_singleton.mpr rfl))⟩
      · exact ⟨j, hj, (mem_clo hd (one j hj)).mpr (.inr ⟨j, List.mem_singleton.mpr rfl, z⟩)⟩
    · rintro ⟨x, m, z⟩
      rcases (mem_clo hd (one x m)).mp z with z | ⟨j, hj, z⟩
      · rw [List.mem_singleton.mp z]; exact .inl m
      · rw [List.mem_singleton.mp hj] at z; exact .inr ⟨x, m, z⟩
/-- where letters lead to from any of some states -/
theorem mem_fold (hr : r ∈ RD) (hw : w ∈ WR) (hd : d ∈ DV) : ∀ (cs : List Nat) (xs : List Int), (∀ c ∈ cs, isLet c) → (∀ k ∈ xs, k ∈ S4) → ∀ k : Int, k ∈ cs.foldl (stepRow r w d q) xs ↔ ∃ x ∈ xs, k ∈ cs.foldl (stepRow r w d q) [x]
  | [], xs, _, _, k => by simp
  | c :: cs, xs, hc, h, k => by
    have hl : isLet c := hc c List.mem_cons_self
    have hcs : ∀ c ∈ cs, isLet c := fun x m => hc x (List.mem_cons_of_mem _ m)
    have s1 : ∀ (ys : List Int), (∀ k ∈ ys, k ∈ S4) → ∀ k ∈ ys.map (afterL r w c), k ∈ S4 := fun ys hy k m => by
      obtain ⟨y, my, rfl⟩ := List.mem_map.mp m
      exact afterL_s4 hr hw hl (hy y my)
    have one : ∀ x ∈ xs, ∀ y ∈ [x], y ∈ S4 := fun x m y z => by rw [List.mem_singleton.mp z]; exact h x m
    have step : ∀ ys : List Int, k ∈ (c :: cs).foldl (stepRow r w d q) ys ↔ ∃ x ∈ wdl d q (ys.map (afterL r w c)), k ∈ cs.foldl (stepRow r w d q) [x] := fun ys =>
      mem_fold hr hw hd cs (wdl d q (ys.map (afterL r w c))) hcs wdl_s4 k
    rw [step]
    constructor
    · rintro ⟨y, my, z⟩
      obtain ⟨v, mv, zy⟩ := (mem_wdl hd (s1 xs h)).mp my
      obtain ⟨x, mx, rfl⟩ := List.mem_map.mp mv
      refine ⟨x, mx, ?_⟩
      rw [step]
      exact ⟨y, zy, z⟩
    · rintro ⟨x, mx, z⟩
      rw [step] at z
      obtain ⟨y, my, z⟩ := z
      refine ⟨y, (mem_wdl hd (s1 xs h)).mpr ⟨afterL r w c x, List.mem_map_of_mem mx, my⟩, z⟩
end
/-! ### the rows of letters put together -/
section
variable {r w d : Str} {q : Bool}
theorem deeds_in (hw : w ∈ WR) (hd : d ∈ DV) : ∀ s ∈ statesOf w, ∀ e ∈ deedsOf d s, e ∈ statesOf w := by
  have z : ∀ w ∈ WR, ∀ d ∈ DV, ∀ s ∈ statesOf w, ∀ e ∈ deedsOf d s, e ∈ statesOf w := by decide +kernel
  exact z w hw d hd
theorem after_in (hr : r ∈ RD) (hw : w ∈ WR) {c : Nat} (hc : isLet c) : ∀ s ∈ statesOf w, afterL r w c s ∈ statesOf w := by
  have z : ∀ r ∈ RD, ∀ w ∈ WR, ∀ s ∈ statesOf w, ∀ c ∈ [48, 49, 114], afterL r w c s ∈ statesOf w := by decide +kernel
  exact fun s hs => z r hr w hw s hs c (by rcases hc with rfl | rfl | rfl <;> decide)
theorem wdl_in (hw : w ∈ WR) (hd : d ∈ DV) {xs : List Int} (h : ∀ k ∈ xs, k ∈ statesOf w) : ∀ k ∈ wdl d q xs, k ∈ statesOf w := fun k m => by
  have h4 : ∀ k ∈ xs, k ∈ S4 := fun k m => states_s4 k (h k m)
  unfold wdl at m
  split at m
  · exact h k ((norm_sub h4).mp m)
  · rcases (mem_clo hd h4).mp m with m | ⟨j, hj, e⟩
    · exact h k m
    · exact deeds_in hw hd j (h j hj) k e
theorem fold_in (hr : r ∈ RD) (hw : w ∈ WR) (hd : d ∈ DV) : ∀ (cs : List Nat) (xs : List Int), (∀ c ∈ cs, isLet c) → (∀ k ∈ xs, k ∈ statesOf w) → ∀ k ∈ cs.foldl (stepRow r w d q) xs, k ∈ statesOf w
  | [], xs, _, h => h
  | c :: cs, xs, hc, h => by
    refine fold_in hr hw hd cs (wdl d q (xs.map (afterL r w c))) (fun x m => hc x (List.mem_cons_of_mem _ m)) (wdl_in hw hd fun k m => ?_)
    obtain ⟨y, my, rfl⟩ := List.mem_map.mp m
    exact after_in hr hw (hc c List.mem_cons_self) y (h y my)
theorem row_in (hr : r ∈ RD) (hw : w ∈ WR) (hd : d ∈ DV) {cs : List Nat} (hc : ∀ c ∈ cs, isLet c) {s : Int} (hs : s ∈ statesOf w) : ∀ k ∈ rowOf r w d q cs s, k ∈ statesOf w := by
  unfold rowOf
  exact fold_in hr hw hd cs _ hc (wdl_in hw hd fun k m => by rw [List.mem_singleton.mp m]; exact hs)
theorem wdl_lt (xs : List Int) : (wdl d q xs).Pairwise (· < ·) := by
  unfold wdl clo
  split <;> exact norm_lt _
theorem fold_lt : ∀ (cs : List Nat) (xs : List Int), xs.Pairwise (· < ·) → (cs.foldl (stepRow r w d q) xs).Pairwise (· < ·)
  | [], _, h => h
  | c :: cs, xs, _ => fold_lt cs (wdl d q (xs.map (afterL r w c))) (wdl_lt _)
/-- a set that is shut stays so -/
def ShutW (d : Str) (q : Bool) (xs : List Int) : Prop := ∀ x ∈ xs, ∀ y ∈ wdl d q [x], y ∈ xs
theorem wdl_shut (hd : d ∈ DV) {xs : List Int} (h : ∀ k ∈ xs, k ∈ S4) : ShutW d q (wdl d q xs) := fun x mx y my => by
  have hx : x ∈ S4 := wdl_s4 x mx
  have one : ∀ y ∈ [x], y ∈ S4 := fun y z => by rw [List.mem_singleton.mp z]; exact hx
  unfold wdl at my mx ⊢
  split at my
  · next e =>
    rw [if_pos e] at mx ⊢
    rw [List.mem_singleton.mp ((norm_sub one).mp my)]
    exact mx
  · next e =>
    rw [if_neg e] at mx ⊢
    rcases (mem_clo hd one).mp my with z | ⟨j, hj, z⟩
    · rw [List.mem_singleton.mp z]; exact mx
    · rw [List.mem_singleton.mp hj] at z
      exact clo_deeds hd h mx z
theorem fold_shut (hr : r ∈ RD) (hw : w ∈ WR) (hd : d ∈ DV) : ∀ (cs : List Nat) (xs : List Int), (∀ c ∈ cs, isLet c) → (∀ k ∈ xs, k ∈ S4) → ShutW d q xs → ShutW d q (cs.foldl (stepRow r w d q) xs)
  | [], _, _, _, h => h
  | c :: cs, xs, hc, h4, _ => fold_shut hr hw hd cs (wdl d q (xs.map (afterL r w c))) (fun x m => hc x (List.mem_cons_of_mem _ m)) wdl_s4 (wdl_shut hd fun k m => by
      obtain ⟨y, my, rfl⟩ := List.mem_map.mp m
      exact afterL_s4 hr hw (hc c List.mem_cons_self) (h4 y my))
theorem mem_self (hd : d ∈ DV) {x : Int} (hx : x ∈ S4) : x ∈ wdl d q [x] := by
  have one : ∀ y ∈ [x], y ∈ S4 := fun y z => by rw [List.mem_singleton.mp z]; exact hx
  unfold wdl
  split
  · exact (norm_sub one).mpr (List.mem_singleton.mpr rfl)
  · exact (mem_clo hd one).mpr (.inl (List.mem_singleton.mpr rfl))
/-- the row of letters, and then of others -/
theorem mem_row_cat (hr : r ∈ RD) (hw : w ∈ WR) (hd : d ∈ DV) {cs ds : List Nat} (hc : ∀ c ∈ cs, isLet c) (hds : ∀ c ∈ ds, isLet c) {s : Int} (hs : s ∈ S4) (k : Int) : k ∈ rowOf r w d q (cs ++ ds) s ↔ ∃ t ∈ rowOf r w d q cs s, k ∈ rowOf r w d q ds t := by
  have one : ∀ {x : Int}, x ∈ S4 → ∀ y ∈ [x], y ∈ S4 := fun hx y z => by rw [List.mem_singleton.mp z]; exact hx
  have sh : ShutW d q (rowOf r w d q cs s) := fold_shut hr hw hd cs _ hc wdl_s4 (wdl_shut hd (one hs))
  have e : rowOf r w d q (cs ++ ds) s = ds.foldl (stepRow r w d q) (rowOf r w d q cs s) := by
    unfold rowOf
    rw [List.foldl_append]
  rw [e, mem_fold hr hw hd ds _ hds rowOf_s4]
  constructor
  · rintro ⟨t, mt, z⟩
    exact ⟨t, mt, (mem_fold hr hw hd ds (wdl d q [t]) hds wdl_s4 k).mpr ⟨t, mem_self hd (rowOf_s4 t mt), z⟩⟩
  · rintro ⟨t, mt, z⟩
    obtain ⟨y, my, z⟩ := (mem_fold hr hw hd ds (wdl d q [t]) hds wdl_s4 k).mp z
    exact ⟨y, sh t mt y my, z⟩
theorem state_ix {w : Str} {i : Nat} {s : Int} (h : (statesOf w)[i]? = some s) : s = (i : Int) := by
  unfold statesOf at h
  split at h
  · match i, h with
    | 0, h => cases h; rfl
    | 1, h => cases h; rfl
    | 2, h => cases h; rfl
    | 3, h => cases h; rfl
  · match i, h with
    | 0, h => cases h; rfl
    | 1, h => cases h; rfl
theorem rowsOf_at {cs : List Nat} {t : Int} (ht : t ∈ statesOf w) : (rowsOf r w d q cs).getD t.toNat [] = rowOf r w d q cs t := by
  obtain ⟨i, hi, e⟩ := List.getElem_of_mem ht
  have h : (statesOf w)[i]? = some t := by rw [List.getElem?_eq_getElem hi, e]
  have ti := state_ix h
  subst ti
  unfold rowsOf
  simp [List.getD, h]
/-- the product of the rows is the rows of the letters put together -/
theorem mul_rows (hr : r ∈ RD) (hw : w ∈ WR) (hd : d ∈ DV) {cs ds : List Nat} (hc : ∀ c ∈ cs, isLet c) (hds : ∀ c ∈ ds, isLet c) : mulRows (rowsOf r w d q cs) (rowsOf r w d q ds) = rowsOf r w d q (cs ++ ds) := by
  show (((statesOf w).map (rowOf r w d q cs)).map (mulRow (rowsOf r w d q ds))) = (statesOf w).map (rowOf r w d q (cs ++ ds))
  rw [List.map_map]
  refine List.map_congr_left fun s hs => ?_
  show norm ((rowOf r w d q cs s).flatMap fun t => (rowsOf r w d q ds).getD t.toNat []) = _
  have hin := row_in (q := q) hr hw hd hc hs
  have eqv : ∀ k, k ∈ ((rowOf r w d q cs s).flatMap fun t => (rowsOf r w d q ds).getD t.toNat []) ↔ k ∈ rowOf r w d q (cs ++ ds) s := fun k => by
    rw [List.mem_flatMap, mem_row_cat hr hw hd hc hds (states_s4 s hs)]
    constructor
    · rintro ⟨t, mt, z⟩
      rw [rowsOf_at (hin t mt)] at z
      exact ⟨t, mt, z⟩
    · rintro ⟨t, mt, z⟩
      refine ⟨t, mt, ?_⟩
      rw [rowsOf_at (hin t mt)]
      exact z
  refine (norm_is (fun k m => rowOf_s4 k ((eqv k).mp m)) ?_ fun k => (eqv k).symm).symm
  unfold rowOf
  exact fold_lt _ _ (wdl_lt _)
end

end K16


namespace K16
open PySem L2 KB KO KV KW
/-- the pairs of an effect, handed out one by one -/
def spPairsH (C CE : Addr) : KH.SpH := fun vs H rs yl en => ∃ (p : Addr) (r w d : Str) (rows : List (List Int)), vs = [.ref p] ∧ EffAt C CE H p r w d rows ∧ rows.length ≤ 4 ∧ (∀ row ∈ rows, row.length ≤ 4) ∧ (∀ j Hy H', rs j Hy H' → Same Hy H') ∧
  (∀ (j : Nat) (q : Int × Int) (H0 H1 : Hp) (a : Addr), (pairsOf rows)[j]? = some q → Same H0 H1 → H1 a = some (.tup [.int q.1, .int q.2]) → yl j H0 (.ref a) H1) ∧ ∀ H0 H1, Same H0 H1 → en (pairsOf rows).length H0 H1
def spNSK (C CE cK : Addr) : Sp := fun vs H Q E => ∃ (p p' : Addr) (r w d r' w' d' : Str) (rows rows' : List (List Int)) (k' : Addr), vs = [.ref p, .ref p'] ∧ EffAt C CE H p r w d rows ∧ EffAt C CE H p' r' w' d' rows' ∧ (∃ dx e, H p' = some (.ins CE dx (flE k' e))) ∧ ((r = r' ∧ w = w' ∧ d = d') → Q .non H) ∧ (¬ (r = r' ∧ w = w' ∧ d = d') → ∀ dd H', Same H H' → H' dd = some (.xd [("value", .ref k')]) → E (.ref cK) (some dd) H')
def orRows (rows rows' : List (List Int)) : List (List Int) := (rows.zip rows').map fun p => norm (p.1 ++ p.2)
/-- rows that may be put together: one of four states for each place, all places of the other's -/
def Shape (rows rows' : List (List Int)) : Prop := rows.length ≤ 4 ∧ rows'.length ≤ 4 ∧ (∀ row ∈ rows, row.length ≤ 4 ∧ ∀ s ∈ row, 0 ≤ s ∧ s.toNat < rows'.length) ∧ ∀ row ∈ rows', row.length ≤ 4 ∧ ∀ s ∈ row, s ∈ S4
def spMulE (C CE cK : Addr) : Sp := fun vs H Q E => ∃ (p p' : Addr) (r w d r' w' d' : Str) (rows rows' : List (List Int)) (k' : Addr), vs = [.ref p, .ref p'] ∧ EffAt C CE H p r w d rows ∧ EffAt C CE H p' r' w' d' rows' ∧ (∃ dx e, H p' = some (.ins CE dx (flE k' e))) ∧ ((r = r' ∧ w = w' ∧ d = d') → Shape rows rows') ∧
  (¬ (r = r' ∧ w = w' ∧ d = d') → ∀ dd H', Same H H' → H' dd = some (.xd [("value", .ref k')]) → E (.ref cK) (some dd) H') ∧ ((r = r' ∧ w = w' ∧ d = d') → ∀ H' x, Same H H' → EffAt C CE H' x r w d (mulRows rows rows') → Q (.ref x) H')
theorem getD_at {rows : List (List Int)} {n : Nat} (h : n < rows.length) : rows.getD n [] = rows[n] := by
  rw [List.getD_eq_getElem?_getD, List.getElem?_eq_getElem h]
  rfl
theorem sc2_rows {K : PySem.W.Frag} {w : World} {σ : L2.St} {H0 : Hp} {Q : VK} {a : Addr} {row : List Int} {f : Int → List Int} {s0 s1 : Nat} {vs vs1 : List Nat} {ta ti : TE} (h5 : ∀ R : VK, R (.ref a) H0 → ta σ H0 R) (ha : H0 a = some (.tup (row.map V.int))) (lr : row.length ≤ 4) (lf : ∀ s ∈ row, (f s).length ≤ 4)
    (hin : ∀ (s : Int) (H : Hp) (R : VK), s ∈ row → Same H0 H → (∀ b, H b = some (.tup ((f s).map V.int)) → R (.ref b) H) → ti ((wipe σ vs).set s0 (some (.int s))) H R)
    (w1 : ∀ x, wipe ((wipe σ vs).set s0 (some x)) vs = wipe σ vs) (w2 : ∀ x y, wipe ((wipe ((wipe σ vs).set s0 (some x)) vs1).set s1 (some y)) vs1 = wipe ((wipe σ vs).set s0 (some x)) vs1) (w3 : ∀ x y, ((wipe ((wipe σ vs).set s0 (some x)) vs1).set s1 (some y))[s1]? = some (some y))
    (q : ∀ D S c H', Same H0 H' → H' D = some (SetO w D S c) → c ≤ 16 → (∀ k : Int, S k = true ↔ k ∈ row.flatMap f) → Q (.ref D) H') : KH.tSc2 w (iTup K ta) (gName s0) (iTup K ti) (gName s1) (tVar s1) vs vs1 σ H0 Q := by
  refine h5 _ ⟨a, rfl, ⟨_, SqT.of ha⟩, fun D nD => ?_⟩
  have wk := walk_tup (K := K) (a := a) (xs := row.map V.int)
  refine ⟨fun i m H => m = row.length - i ∧ i ≤ row.length ∧ Same H0 H ∧ ∃ S c, H D = some (SetO w D S c) ∧ c ≤ 4 * i ∧ ∀ k : Int, S k = true ↔ k ∈ (row.take i).flatMap f, ⟨row.length, by simp, Nat.zero_le _, same_new nD, _, 0, upd_same, Nat.le_refl _, fun k => by simp⟩, ?_⟩
  rintro i m H ⟨rfl, hi, sm, S, c, hD, hc, hS⟩
  have hG : SqT K H a (row.map V.int) := SqT.of (sm _ _ ha)
  rcases Nat.lt_or_ge i row.length with lt | ge
  rotate_left
  · have e : i = row.length := Nat.le_antisymm hi ge
    refine .inl ⟨⟨_, hG, by rw [List.length_map]; exact ge⟩, q D S c H sm hD (by omega) fun k => ?_⟩
    rw [hS, e, List.take_length]
  · have e := List.getElem?_eq_getElem lt
    have mem : row[i] ∈ row := List.getElem_mem lt
    generalize row[i] = x0 at e mem
    refine .inr ⟨⟨_, .int x0, hG, by rw [List.getElem?_map, e]; rfl⟩, fun H' => Same H0 H' ∧ ∃ S c, H' D = some (SetO w D S c) ∧ c ≤ 4 * (i + 1) ∧ ∀ k : Int, S k = true ↔ k ∈ (row.take (i + 1)).flatMap f, fun H' z => ⟨row.length - (i + 1), by omega, rfl, lt, z⟩, fun x H' y => ?_⟩
    obtain ⟨rfl, y⟩ := y
    have y := y _ hG
    rw [List.getElem?_map, e] at y
    obtain rfl : V.int x0 = x := by cases y; rfl
    refine ⟨w1 _, hin x0 H' _ mem sm fun b hb => ?_⟩
    refine ⟨b, rfl, ⟨_, SqT.of hb⟩, ?_⟩
    have tk : (row.take (i + 1)).flatMap f = (row.take i).flatMap f ++ f x0 := by
      rw [List.take_add_one, e, List.flatMap_append]
      simp
    refine ⟨fun j m H'' => m = (f x0).length - j ∧ j ≤ (f x0).length ∧ Keep D H' H'' ∧ ∃ S c, H'' D = some (SetO w D S c) ∧ c ≤ 4 * i + j ∧ ∀ k : Int, S k = true ↔ k ∈ (row.take i).flatMap f ∨ k ∈ (f x0).take j, ⟨(f x0).length, by simp, Nat.zero_le _, fun _ _ z _ => z, S, c, hD, by omega, fun k => by rw [hS]; simp⟩, ?_⟩
    rintro j m H'' ⟨rfl, hj, sm2, S2, c2, hD2, hc2, hS2⟩
    have bD : b ≠ D := fun z => by rw [z, hD] at hb; cases hb
    have hG2 : SqT K H'' b ((f x0).map V.int) := SqT.of (sm2 _ _ hb bD)
    have sm3 : Same H0 H'' := fun x o z => sm2 _ _ (sm _ _ z) (ne_of_none z nD)
    have l4 := lf x0 mem
    rcases Nat.lt_or_ge j (f x0).length with lt2 | ge2
    rotate_left
    · have e2 : j = (f x0).length := Nat.le_antisymm hj ge2
      refine .inl ⟨⟨_, hG2, by rw [List.length_map]; exact ge2⟩, sm3, S2, c2, hD2, by omega, fun k => ?_⟩
      rw [hS2, e2, List.take_length, tk, List.mem_append]
    · have e2 := List.getElem?_eq_getElem lt2
      generalize (f x0)[j] = y0 at e2
      refine .inr ⟨⟨_, .int y0, hG2, by rw [List.getElem?_map, e2]; rfl⟩, fun H3 => Keep D H' H3 ∧ ∃ S c, H3 D = some (SetO w D S c) ∧ c ≤ 4 * i + (j + 1) ∧ ∀ k : Int, S k = true ↔ k ∈ (row.take i).flatMap f ∨ k ∈ (f x0).take (j + 1), fun H3 z => ⟨(f x0).length - (j + 1), by omega, rfl, lt2, z⟩, fun x H3 y => ?_⟩
      obtain ⟨rfl, y⟩ := y
      have y := y _ hG2
      rw [List.getElem?_map, e2] at y
      obtain rfl : V.int y0 = x := by cases y; rfl
      refine ⟨w2 _ _, _, w3 _ _, y0, S2, c2, rfl, hD2, (show c2 + 1 < scanBound from Nat.lt_of_lt_of_le (show c2 + 1 < 64 by omega) (by decide)), fun x o z ne => ?_, _, _, upd_same, ?_, fun k => ?_⟩
      · rw [upd_ne ne]; exact sm2 _ _ z ne
      · split <;> omega
      · rw [Bool.or_eq_true, hS2, decide_eq_true_eq, List.take_add_one, e2, List.mem_append]
        simp only [Option.toList_some, List.mem_singleton]
        exact or_assoc

section
variable {P : Program} {w : World} {K : PySem.W.Frag} {mg : Str → Option Value} {base : Heap}
theorem ok_nsk {f C dM CE cK : Addr} {fd : FuncData} (F : Fun K "need_same_kind" "need_same_kind" s_need_same_kind f fd) (T : TxtF K w mg C dM CE) (e_InvalidKind : KX.ErrMk P w K mg base cK "InvalidKind" "value") (eq_Kind : OwnM P w K mg base 1 C "__eq__" ["self", "other"] (spEq C)) (nfK : PySem.W.notFirst K C (.ref C) = true) : FnOk P w K mg base (L2.CX P w) 3 f fd ["first", "second"] (spNSK C CE cK) := by
  refine F.okX sc_need_same_kind (fun vs H Q E h => ?_) (fun cdv A outer s H vs Q E hr h => ?_)
  · obtain ⟨p, p', r, w, d, r', w', d', rows, rows', k', rfl, _⟩ := h
    rfl
  · obtain ⟨p, p', r, wr, d, r', w', d', rows, rows', k0, rfl, ⟨dx, k, e, hp, kd, ra⟩, ⟨dx', k', e', hp', kd', ra'⟩, ⟨dx0, e0, hp0⟩, q, x⟩ := h
    obtain rfl : k' = k0 := by
      rw [hp'] at hp0
      cases hp0
      rfl
    refine ⟨_, (pss_one (ps_if (pt_not (pt_cmpR (KO.op_eqO eq_Kind (hr.mono (by decide))) (pe_fld (pv 1) rfl) (pe_fld (pv 0) rfl) (nomark _))) (pss_one (ps_raise rfl KL.def_takes (KX.pmkC e_InvalidKind (hr.mono (by decide)) (by rfl) (pa_cons (pe_fld (pv 1) rfl) pa_nil))))
 pss_nil)), at_start (σ := [some (.ref p), some (.ref p')]) rfl ?_⟩
    try dsimp only [KC.cx_KX]
    have cl := T.cle; have n1 := T.n_kind; have n2 := T.n_ends
    walk_at "rd"
    obtain ⟨dk, st, hk, hst⟩ := id kd
    obtain ⟨dk', st', hk', hst'⟩ := id kd'
    refine ⟨k', dk', _, k, C, dk, _, rfl, rfl, hk', hk, nfK, k', k, r', w', d', r, wr, d, rfl, kd', kd, _, rfl, ?_⟩
    refine r_iteN2 (fun hne => ?_) (fun he => ?_)
    · refine KX.r_raiseO ?_ (fun Q1 Q2 hh => ?_)
      · refine ⟨_, rfl, p', CE, dx', _, _, rfl, hp', cl, n1, rfl, ?_⟩
        exact fun dd H' sm hd => x (fun z => hne ⟨z.1.symm, z.2.1.symm, z.2.2.symm⟩) dd H' sm hd
      · rintro ⟨v, e1, a, C', dx1, fs, v2, e2, e3, e4, e5, e6, e7⟩
        exact ⟨v, e1, a, C', dx1, fs, v2, e2, e3, e4, e5, e6, hh _ _ e7⟩
    · walk_at "rd"
      exact q ⟨he.1.symm, he.2.1.symm, he.2.2.symm⟩
theorem ok_mul {f C dM CE cK : Addr} {fd : FuncData} (F : Fun K "__mul__" "Effect.__mul__" s_Effect___mul__ f fd) (T : TxtF K w mg C dM CE) (c_need_same_kind : KB.Callee P w K mg base (L2.CX P w) 3 "need_same_kind" ["first", "second"] (spNSK C CE cK)) (c_Effect___init__ : CalleeI P w K mg base CX0 1 CE "Effect" ["self", "kind", "ends"] (spEInit CE)) : FnOk P w K mg base (L2.CX P w) 5 f fd ["self", "other"] (spMulE C CE cK) := by
  refine F.okX sc_Effect___mul__ (fun vs H Q E h => ?_) (fun cdv A outer s H vs Q E hr h => ?_)
  · obtain ⟨p, p', r, w, d, r', w', d', rows, rows', k', rfl, _⟩ := h
    rfl
  · obtain ⟨p, p', r, wr, d, r', w', d', rows, rows', k0, rfl, A1, A2, hk0, sh, x, q⟩ := h
    refine ⟨_, (pss_cons (ps_expr (pe_callC c_need_same_kind (hr.mono (by decide)) (by rfl) (passes_call KL.def_takes fun _ _ _ _ h => h) (pa_cons (pv 0) (pa_cons (pv 1) pa_nil))))
 (pss_cons (ps_setLc (i := 2) (own := [("row", 5)]) (g := gName 5) (tt := tYes) (by rfl) sc_Effect___mul__.nd rfl rfl (sw_true rfl rfl rfl (by decide +kernel)) (pi_tup (pe_fld (pv 0) rfl)) (blkOk_by (own := [("row", 5)]) (N := ["self", "other", "rows", "state", "end", "row"]) (sc := defScope s_Effect___mul__) (by decide +kernel)) (fun _ _ _ _ _ => (pg_name (i := 5) sc_Effect___mul__.nd rfl (by first | exact Or.inl rfl | exact Or.inr rfl))) (fun _ _ _ _ _ => pts_nil) (fun _ _ _ _ _ => (pe_callTy (KH.call_tupleW K rfl) (by rfl) T.z_tuple (by decide +kernel) (pa_cons (pe_callB (KH.cr_sortedW w rfl rfl) (by rfl) T.z_sorted (by decide +kernel) (pa_cons (KH.pe_sc2W w rfl (KH.pe_sc2 (wi := iTup K (tVar 5)) (wi1 := iTup K (tOp (rIxT K) (tFld K (tVar 1) "ends") (tVar 3))) (own := [("state", 3), ("end", 4)]) (vs1 := [4]) (g := gName 3) (g1 := gName 4) (by rfl) sc_Effect___mul__.nd (pi_tup (pv 5)) (by exact blkOk_by (own := [("state", 3), ("end", 4)]) (N := ["self", "other", "rows", "state", "end", "row"]) (by kernel_rfl)) (by decide) (fun _ _ _ _ _ => (pg_name (i := 3) sc_Effect___mul__.nd rfl (by first | exact Or.inl rfl | exact Or.inr rfl))) (fun _ _ _ _ _ => (pi_tup (pe_ix (KH.ix_tupW K rfl) (pe_fld (pv 1) rfl) (pv 3) (fun _ _ => rfl)))) (fun _ _ _ _ _ => (pg_name (i := 4) sc_Effect___mul__.nd rfl (by first | exact Or.inl rfl | exact Or.inr rfl))) (fun _ _ _ _ _ => (pv 4)))) pa_nil)) pa_nil))))
 (pss_one (ps_ret (pe_makeC c_Effect___init__ (hr.mono (by decide)) (by rfl) pass0 (pa_cons (pe_fld (pv 0) rfl) (pa_cons (pe_callTy (KH.call_tupleW K rfl) (by rfl) T.z_tuple (by decide +kernel) (pa_cons (pv 2) pa_nil)) pa_nil))))))), at_start (σ := [some (.ref p), some (.ref p'), none, none, none, none]) rfl ?_⟩
    try dsimp only [KC.cx_KX]
    have cl := T.cle; have n1 := T.n_kind; have n2 := T.n_ends
    walk_at "rd"
    refine ⟨p, p', r, wr, d, r', w', d', rows, rows', k0, rfl, A1, A2, hk0, fun same => ?_, fun ne dd H' sm hd => x ne dd H' sm hd⟩
    obtain ⟨hs1, hs2, hs3, hs4⟩ := sh same
    obtain ⟨dx, k, e, hp, kd, ra⟩ := A1
    obtain ⟨dx', k', e', hp', kd', ra'⟩ := A2
    obtain ⟨ps, he, lp, hrs⟩ := id ra
    obtain ⟨ps', he', lp', hrs'⟩ := id ra'
    walk_at "rd"
    refine ⟨e, rfl, ⟨_, SqT.of he⟩, ?_⟩
    refine KD.lc_made (walk_tup (xs := ps.map V.ref)) (fun i v H' => ∃ (a : Addr) (row : List Int), v = .ref a ∧ rows[i]? = some row ∧ H' a = some (.tup ((mulRow rows' row).map V.int))) (by rw [List.length_map]; omega) (fun i v H1 H2 z sn => ?_) (fun H' sm => SqT.of (sm _ _ he)) (fun i x0 Ha Ha' N B' hi sa y qN => ?_) (fun D H1 ys nD s1 eD ly hy => ?_)
    · obtain ⟨a, row, e1, e2, e3⟩ := z
      exact ⟨a, row, e1, e2, sn.tup e3⟩
    · obtain ⟨rfl, y⟩ := y
      rw [List.getElem?_map] at y
      obtain ⟨pi, hpi, rfl⟩ := Option.map_eq_some_iff.mp y
      have hi2 : i < rows.length := by rw [← lp]; simpa using hi
      have hrow := List.getElem?_eq_getElem hi2
      have mrow : rows[i] ∈ rows := List.getElem_mem hi2
      generalize rows[i] = row at hrow mrow
      have erow := sa _ _ (hrs i pi row hpi hrow)
      obtain ⟨l4, inr⟩ := hs3 row mrow
      walk_at "rd"
      refine ⟨rfl, KD.r_yes (iteT ?_)⟩
      walk_at "rd"
      refine sc2_rows (a := pi) (row := row) (f := fun s => rows'.getD s.toNat []) (fun R z => ⟨_, rfl, z⟩) erow l4 (fun s0 m => ?_) (fun s0 Hb R m sb z => ?_) (fun x => rfl) (fun x y => rfl) (fun x y => rfl) (fun D S c Hb sb hb cb hS => ?_)
      · obtain ⟨_, lt⟩ := inr s0 m
        rw [getD_at lt]
        exact (hs4 _ (List.getElem_mem lt)).1
      · obtain ⟨z0, lt⟩ := inr s0 m
        obtain ⟨n, rfl⟩ : ∃ n : Nat, s0 = n := ⟨s0.toNat, by omega⟩
        have lt : n < rows'.length := lt
        have ltp : n < ps'.length := by rw [lp']; exact lt
        have hpb := sb _ _ (sa _ _ hp')
        walk_at "rd"
        refine r_ixT (v := .ref ps'[n]) (SqT.of (sb _ _ (sa _ _ he'))) (atI_nat (by rw [List.getElem?_map, List.getElem?_eq_getElem ltp]; rfl)) ?_
        have er := hrs' n ps'[n] rows'[n] (List.getElem?_eq_getElem ltp) (List.getElem?_eq_getElem lt)
        refine z _ ?_
        show Hb _ = some (.tup ((rows'.getD n []).map V.int))
        rw [getD_at lt]
        exact sb _ _ (sa _ _ er)
      · walk_at "rd"
        refine ⟨D, S, c, rfl, hb, by omega, fun ns l0 asc mem ln nl0 => ?_⟩
        have en : ns = mulRow rows' row := norm_is (fun k m => by
          obtain ⟨s0, m0, m1⟩ := List.mem_flatMap.mp m
          obtain ⟨_, lt⟩ := inr s0 m0
          have m1 : k ∈ rows'.getD s0.toNat [] := m1
          rw [getD_at lt] at m1
          exact (hs4 _ (List.getElem_mem lt)).2 k m1) asc fun k => (mem k).trans (hS k)
        subst en
        walk_at "rd"
        refine ⟨l0, _, rfl, .inl ⟨SqL.of upd_same, fun l1 nl1 => ?_⟩⟩
        exact qN _ _ ((sb.trans (same_new nl0)).trans (same_new nl1)) ⟨l1, row, rfl, hrow, upd_same⟩
    obtain ⟨qs, rfl, lq, hq⟩ := choose_list (f := V.ref) (Pr := fun i a => ∃ row, rows[i]? = some row ∧ H1 a = some (.tup ((mulRow rows' row).map V.int))) ys (fun i v z => by
      obtain ⟨a, row, e1, e2, e3⟩ := hy i v z
      exact ⟨a, ⟨row, e2, e3⟩, e1⟩)
    have hp1 := s1 _ _ hp
    walk_at "rd"
    refine ⟨D, _, rfl, .inl ⟨SqL.of eD, fun l nl => ?_⟩⟩
    walk_at "rd"
    refine fun x dx2 nx ndx nxd => ⟨x, dx2, k, l, rfl, upd_same, fun H5 e5 kp5 => ⟨rfl, ?_⟩⟩
    have s5 : Same (upd H1 l (.tup (qs.map V.ref))) H5 := fun b o eb => kp5 b o (by rw [upd_ne (ne_of_none eb nx), upd_ne (ne_of_none eb ndx)]; exact eb) (ne_of_none eb nx)
    have s6 := (same_new (o := .tup (qs.map V.ref)) nl).trans s5
    refine q same H5 x (s1.trans s6) ⟨dx2, k, l, e5, kd.up (s1.trans s6), qs, s5 _ _ upd_same, ?_, fun i a row h1 h2 => ?_⟩
    · rw [List.length_map] at ly
      show qs.length = (rows.map _).length
      rw [List.length_map]
      simp at ly
      omega
    · obtain ⟨row0, g1, g2⟩ := hq i a h1
      rw [mulRows, List.getElem?_map, g1] at h2
      obtain rfl : mulRow rows' row0 = row := by cases h2; rfl
      exact s6 _ _ g2
end
end K16


namespace K16
open PySem L2 KB KO KV KY KR
def isIntD : Dt → Bool
  | .sc (.int _) => true
  | _ => false
def isBoolD : Dt → Bool
  | .sc (.bl _) => true
  | _ => false
theorem isIntD_of {t : Dt} (h : isIntD t = true) : ∃ i, t = .sc (.int i) := by
  cases t with
  | sc s => cases s with
    | int i => exact ⟨i, rfl⟩
    | non => cases h
    | bl => cases h
    | str => cases h
  | tup => cases h
  | lst => cases h
  | dct => cases h
theorem r_isIntD {K : PySem.W.Frag} {H : Hp} {Q : VK} {v : V} {t : Dt} (h : OdAt H v t) (q : Q (.bl (isIntD t || isBoolD t)) H) : rIsi K [v, .ty "int"] H Q := by
  refine ⟨v, .ty "int", _, .type "int", isIntD t || isBoolD t, rfl, .ty _, h.tyX, ?_, q⟩
  have h1 : kitB "NoneType" "int" = some false ∧ kitB "bool" "int" = some true ∧ kitB "int" "int" = some true ∧ kitB "str" "int" = some false ∧ kitB "tuple" "int" = some false ∧ kitB "list" "int" = some false ∧ kitB "dict" "int" = some false := by decide +kernel
  cases t with
  | sc s =>
    cases s with
    | non => exact kit_ty h1.1
    | bl b => exact kit_ty h1.2.1
    | int i => exact kit_ty h1.2.2.1
    | str x => exact kit_ty h1.2.2.2.1
  | tup l => exact kit_ty h1.2.2.2.2.1
  | lst l => exact kit_ty h1.2.2.2.2.2.1
  | dct l => exact kit_ty h1.2.2.2.2.2.2
theorem r_isBoolD {K : PySem.W.Frag} {H : Hp} {Q : VK} {v : V} {t : Dt} (h : OdAt H v t) (q : Q (.bl (isBoolD t)) H) : rIsi K [v, .ty "bool"] H Q := by
  refine ⟨v, .ty "bool", _, .type "bool", isBoolD t, rfl, .ty _, h.tyX, ?_, q⟩
  have h1 : kitB "NoneType" "bool" = some false ∧ kitB "bool" "bool" = some true ∧ kitB "int" "bool" = some false ∧ kitB "str" "bool" = some false ∧ kitB "tuple" "bool" = some false ∧ kitB "list" "bool" = some false ∧ kitB "dict" "bool" = some false := by decide +kernel
  cases t with
  | sc s =>
    cases s with
    | non => exact kit_ty h1.1
    | bl b => exact kit_ty h1.2.1
    | int i => exact kit_ty h1.2.2.1
    | str x => exact kit_ty h1.2.2.2.1
  | tup l => exact kit_ty h1.2.2.2.2.1
  | lst l => exact kit_ty h1.2.2.2.2.2.1
  | dct l => exact kit_ty h1.2.2.2.2.2.2
def spInt : Sp := fun vs H Q _ => ∃ (v : V) (t : Dt), vs = [v] ∧ OdAt H v t ∧ Q (.bl (isIntD t)) H

def BitAt (C : Addr) (H : Hp) (a : Addr) (s : Int) : Prop := ∃ dx, H a = some (.ins C dx [("held", .int s)])
theorem BitAt.up {C : Addr} {H H' : Hp} {a : Addr} {s : Int} (h : BitAt C H a s) (k : Same H H') : BitAt C H' a s := by
  obtain ⟨dx, e⟩ := h
  exact ⟨dx, k _ _ e⟩
/-- the state of a bit, whatever stands behind it -/
def HeldAt (C : Addr) (H : Hp) (a : Addr) (s : Int) : Prop := ∃ dx fs, H a = some (.ins C dx (("held", .int s) :: fs))
theorem BitAt.held {C : Addr} {H : Hp} {a : Addr} {s : Int} (h : BitAt C H a s) : HeldAt C H a s := by
  obtain ⟨dx, e⟩ := h
  exact ⟨dx, [], e⟩
structure TxtKB (K : PySem.W.Frag) (C : Addr) : Prop where
  cl : Cls K C
  n_held : NoAttr K C "held"
def isBit : Dt → Bool
  | .sc (.int i) => decide (i = 0 ∨ i = 1)
  | _ => false
theorem isBit_of {t : Dt} (h : isBit t = true) : ∃ i, t = .sc (.int i) ∧ (i = 0 ∨ i = 1) := by
  cases t with
  | sc s => cases s with
    | int i => exact ⟨i, rfl, of_decide_eq_true h⟩
    | non => cases h
    | bl => cases h
    | str => cases h
  | tup => cases h
  | lst => cases h
  | dct => cases h
theorem noInt_noBit {t : Dt} (h : isIntD t = false) : isBit t = false := by
  cases t with
  | sc s => cases s with
    | int i => cases h
    | non => rfl
    | bl => rfl
    | str => rfl
  | tup => rfl
  | lst => rfl
  | dct => rfl
/-- the refusal of v -/
def Bad (cR : Addr) (v : V) (t : Dt) (H : Hp) (E : XK) : Prop := isBit t = false → ∀ d H', Same H H' → H' d = some (.xd [("value", v)]) → E (.ref cR) (some d) H'
def spNeedB (cR : Addr) : Sp := fun vs H Q E => ∃ (v : V) (t : Dt), vs = [v] ∧ OdAt H v t ∧ (isBit t = true → ∀ H', Same H H' → Q .non H') ∧ Bad cR v t H E
def spBInit (C cR : Addr) : Sp := fun vs H Q E => ∃ (a dx : Addr) (v : V) (t : Dt), vs = [.ref a, v] ∧ OdAt H v t ∧ H a = some (.ins C dx []) ∧ (∀ b, t = .sc (.int b) → (b = 0 ∨ b = 1) → ∀ H', BitAt C H' a b → Keep a H H' → Q .non H') ∧ Bad cR v t H E
def spNow (C : Addr) : Sp := fun vs H Q _ => ∃ (a : Addr) (s : Int), vs = [.ref a] ∧ HeldAt C H a s ∧ Q (.int (s % 2)) H
def spState (C : Addr) : Sp := fun vs H Q _ => ∃ (a : Addr) (s : Int), vs = [.ref a] ∧ HeldAt C H a s ∧ Q (.int s) H
/-- a read: the value; the state f s behind it -/
def spRd (C : Addr) (f : Int → Int) : Sp := fun vs H Q _ => ∃ (a : Addr) (s : Int), vs = [.ref a] ∧ BitAt C H a s ∧ ∀ H', BitAt C H' a (f s) → Keep a H H' → Q (.int (s % 2)) H'
/-- a write: the state f s b behind it, or the refusal -/
def spWr (C cR : Addr) (f : Int → Int → Int) : Sp := fun vs H Q E => ∃ (a : Addr) (s : Int) (v : V) (t : Dt), vs = [.ref a, v] ∧ OdAt H v t ∧ BitAt C H a s ∧ (∀ b, t = .sc (.int b) → (b = 0 ∨ b = 1) → ∀ H', BitAt C H' a (f s b) → Keep a H H' → Q .non H') ∧ Bad cR v t H E
/-- a deed: whether there was one, the state behind it -/
def spDe (C : Addr) (g : Int → Bool) (f : Int → Int) : Sp := fun vs H Q _ => ∃ (a : Addr) (s : Int), vs = [.ref a] ∧ BitAt C H a s ∧ ∀ H', BitAt C H' a (f s) → Keep a H H' → Q (.bl (g s)) H'
abbrev SF (P : Program) (K : PySem.W.Frag) (f : Addr) (fd : FuncData) (n q : Str) (st : Stmt) (cda cc D : Addr) : Prop := KN.SupF P K f fd n q (defArgs st) (defBody st) (defScope st) cda cc D
theorem cx_sup {CX : CXT} {P : Program} {w : World} {K : PySem.W.Frag} {mg : Str → Option Value} {base : Heap} {N : List Str} {ql : Str} {sc : Scope} {f cda cc : Addr} {A : Around} {out : List Env} {st : Shared} {h : Hp} {W : XK} : (KX.supCx CX P w K mg base N ql sc f cda cc A out st h W).K = K := rfl
/-- what such a def that may raise lets out -/
theorem sup_takes {P : Program} {w : World} {K : PySem.W.Frag} {mg : Str → Option Value} {base : Heap} {N : List Str} {ql : Str} {sc : Scope} {f cda cc : Addr} {A : Around} {out : List Env} {st : Shared} {h : Hp} {E : XK} : Takes (KX.supCx (L2.CX P w) P w K mg base N ql sc f cda cc A out st h E) (fun cls d _ H' => E cls d H') := takes_of rfl rfl rfl rfl
def spKInit (C cR : Addr) : Sp := fun vs H Q E => ∃ (a dx k : Addr) (v : V) (t : Dt), vs = [.ref a, .ref k, v] ∧ OdAt H v t ∧ H a = some (.ins C dx []) ∧ (∀ b, t = .sc (.int b) → (b = 0 ∨ b = 1) → ∀ H' dx', H' a = some (.ins C dx' [("held", .int b), ("kind", .ref k)]) → Keep a H H' → Q .non H') ∧ Bad cR v t H E
/-- a bit of a kind -/
def KBAt (C CK : Addr) (H : Hp) (a : Addr) (s : Int) (k : Addr) (r w d : Str) : Prop := (∃ dx, H a = some (.ins C dx [("held", .int s), ("kind", .ref k)])) ∧ KindAt CK H k r w d
theorem KBAt.held {C CK : Addr} {H : Hp} {a : Addr} {s : Int} {k : Addr} {r w d : Str} (h : KBAt C CK H a s k r w d) : HeldAt C H a s := by
  obtain ⟨⟨dx, e⟩, _⟩ := h
  exact ⟨dx, _, e⟩
theorem KBAt.up {C CK : Addr} {H H' : Hp} {a : Addr} {s : Int} {k : Addr} {r w d : Str} (h : KBAt C CK H a s k r w d) (m : Same H H') : KBAt C CK H' a s k r w d := by
  obtain ⟨⟨dx, e⟩, kd⟩ := h
  exact ⟨⟨dx, m _ _ e⟩, kd.up m⟩
theorem KBAt.set {C CK : Addr} {H : Hp} {a dx : Addr} {s s' : Int} {k : Addr} {r w d : Str} (e : H a = some (.ins C dx [("held", .int s), ("kind", .ref k)])) (kd : KindAt CK H k r w d) (n : k ≠ a) : KBAt C CK (upd H a (.ins C dx [("held", .int s'), ("kind", .ref k)])) a s' k r w d := by
  obtain ⟨dy, st, h1, h2⟩ := kd
  refine ⟨⟨dx, upd_same⟩, dy, st, by rw [upd_ne n]; exact h1, ?_⟩
  have : st ≠ a := fun z => by rw [z, e] at h2; cases h2
  rw [upd_ne this]
  exact h2
def spKRd (C CK : Addr) : Sp := fun vs H Q _ => ∃ (a k : Addr) (s : Int) (r w d : Str), vs = [.ref a] ∧ k ≠ a ∧ KBAt C CK H a s k r w d ∧ ∀ H', KBAt C CK H' a (afterRead r s) k r w d → Keep a H H' → Q (.int (s % 2)) H'
def spKWr (C CK cR : Addr) : Sp := fun vs H Q E => ∃ (a k : Addr) (s : Int) (r w d : Str) (v : V) (t : Dt), vs = [.ref a, v] ∧ OdAt H v t ∧ k ≠ a ∧ KBAt C CK H a s k r w d ∧ (∀ b, t = .sc (.int b) → (b = 0 ∨ b = 1) → ∀ H', KBAt C CK H' a (afterWrite w s b) k r w d → Keep a H H' → Q .non H') ∧ Bad cR v t H E
def spKDe (C CK : Addr) : Sp := fun vs H Q _ => ∃ (a k : Addr) (s : Int) (r w d : Str), vs = [.ref a] ∧ k ≠ a ∧ d ∈ DV ∧ KBAt C CK H a s k r w d ∧ ∀ H', KBAt C CK H' a ((deedsOf d s ++ [s]).headD 0) k r w d → Keep a H H' → Q (.bl (decide (deedsOf d s ≠ []))) H'
theorem deeds_one (d : Str) (s : Int) : deedsOf d s = [] ∨ ∃ t, deedsOf d s = [t] := by
  unfold deedsOf
  split
  · exact .inr ⟨_, rfl⟩
  · exact .inl rfl
theorem r_eqIntsT {K : PySem.W.Frag} {H : Hp} {Q : VK} {a b : Addr} {ns ms : List Int} (h : SqT K H a (ns.map V.int)) (h' : SqT K H b (ms.map V.int)) (q : Q (.bl (decide (ns = ms))) H) : rEqD K (.ref a) (.ref b) H Q :=
  ⟨_, _, .tup h (dp_ints ns), .tup h' (dp_ints ms), shaped_ints ns, shaped_ints ms, (show Q (.bl (PyData.eqvAll (ns.map PyData.int) (ms.map PyData.int))) H by rw [eqv_ints]; exact q)⟩

section
variable {P : Program} {w : World} {K : PySem.W.Frag} {mg : Str → Option Value} {base : Heap}
theorem ok_int {f : Addr} {fd : FuncData} {k : Nat} (F : Fun K "is_integer" "is_integer" s_is_integer f fd) (T : Txt mg) : FnOk P w K mg base CX0 (k + 1) f fd ["value"] spInt := by
  refine F.ok sc_is_integer (fun vs H Q E h => ?_) (fun cdv A outer s H vs Q E hr h => ?_)
  · obtain ⟨v, t, rfl, _⟩ := h
    rfl
  · obtain ⟨v, t, rfl, od, q⟩ := h
    refine ⟨_, (pss_one (ps_ret (pe_and (pe_callB call_isi (by rfl) T.z_isinstance (by decide +kernel) (pa_cons (pv 0) (pa_cons (pe_bltn (v := .ty "int") (by rfl) T.z_int (by decide +kernel) rfl) pa_nil))) (pe_one (pe_not (pe_callB call_isi (by rfl) T.z_isinstance (by decide +kernel) (pa_cons (pv 0) (pa_cons (pe_bltn (v := .ty "bool") (by rfl) T.z_bool (by decide +kernel) rfl) pa_nil)))))))), at_start (σ := [some v]) rfl ?_⟩
    try dsimp only [cx_K]
    walk_at "rd"
    refine r_isIntD od ?_
    walk_at "rd"
    refine r_iteB (fun h => ?_) (fun h => ?_)
    · walk_at "rd"
      refine r_isBoolD od ?_
      walk_at "rd"
      have e : (!isBoolD t) = isIntD t := by
        cases t with
        | sc s => cases s <;> first | rfl | cases h
        | tup => cases h
        | lst => cases h
        | dct => cases h
      rw [e]
      exact q
    · have e : isIntD t = false := by
        cases hh : isIntD t with
        | false => rfl
        | true => rw [hh] at h; cases h
      rw [e] at q
      walk_at "rd"
      exact q

theorem ok_needB {f cR : Addr} {fd : FuncData} (F : Fun K "need_bit" "need_bit" s_need_bit f fd) (e_InvalidWord : KX.ErrMk P w K mg base cR "InvalidWord" "value") (c_is_integer : KB.Callee P w K mg base CX0 1 "is_integer" ["value"] spInt) : FnOk P w K mg base (L2.CX P w) 3 f fd ["value"] (spNeedB cR) := by
  refine F.okX sc_need_bit (fun vs H Q E h => ?_) (fun cdv A outer s H vs Q E hr h => ?_)
  · obtain ⟨v, t, rfl, _⟩ := h
    rfl
  · obtain ⟨v, t, rfl, od, q, x⟩ := h
    refine ⟨_, (pss_one (ps_if (PW.pt (pw_or (pt_not (pt_val (pe_callC c_is_integer (hr.mono (by decide)) (by rfl) pass0 (pa_cons (pv 0) pa_nil)))) (pw_or1 (pt_cmpR op_notIn_seq (pv 0) (pe_tup (pa_cons pe_int (pa_cons pe_int pa_nil))) (by rfl))))) (pss_one (ps_raise rfl KL.def_takes (KX.pmkC e_InvalidWord (hr.mono (by decide)) (by rfl) (pa_cons (pv 0) pa_nil))))
 pss_nil)), at_start (σ := [some v]) rfl ?_⟩
    try dsimp only [KC.cx_KX]
    walk_at "rd"
    refine ⟨v, t, rfl, od, ?_⟩
    walk_at "rd"
    refine r_iteBN (fun z => ?_) (fun z => ?_)
    · walk_at "rd"
      refine KX.r_raiseO ?_ KX.mono_var
      walk_at "rd"
      exact fun d H' sm hd => x (noInt_noBit z) d H' sm hd
    obtain ⟨i, rfl⟩ := isIntD_of z
    obtain rfl : v = .int i := od
    walk_at "rd"
    refine ⟨by walk_at "sz", fun c1 n1 => ?_⟩
    refine r_notInI (zs := [0, 1]) (.inr (SqT.of upd_same)) ?_
    walk_at "rd"
    refine r_iteN2 (fun hi => ?_) (fun hi => ?_)
    · walk_at "rd"
      refine KX.r_raiseO ?_ KX.mono_var
      walk_at "rd"
      exact fun d H' sm hd => x (decide_eq_false (by simpa using hi)) d H' ((same_new n1).trans sm) hd
    walk_at "rd"
    exact q (decide_eq_true (by simpa using hi)) _ (same_new n1)
theorem ok_binit {f C cR : Addr} {fd : FuncData} (F : FunD K "__init__" "Bit.__init__" (defArgs s_Bit___init__) (defBody s_Bit___init__) (defScope s_Bit___init__) [.int 0] [] f fd) (T : TxtKB K C) (c_need_bit : KB.Callee P w K mg base (L2.CX P w) 3 "need_bit" ["value"] (spNeedB cR)) : FnOk P w K mg base (L2.CX P w) 4 f fd ["self", "value"] (spBInit C cR) := by
  refine F.ok sc_Bit___init__ (fun vs H Q E h => ?_) (fun cdv A outer s H vs Q E hr h => ?_)
  · obtain ⟨a, dx, v, t, rfl, _⟩ := h
    rfl
  · obtain ⟨a, dx, v, t, rfl, od, ha, q, x⟩ := h
    refine ⟨_, (pss_cons (ps_expr (pe_callC c_need_bit (hr.mono (by decide)) (by rfl) (passes_call KL.def_takes fun _ _ _ _ h => h) (pa_cons (pv 1) pa_nil)))
 (pss_one (ps_fld (pv 0) (pv 1) rfl))), at_start (σ := [some (.ref a), some v]) rfl ?_⟩
    try dsimp only [KC.cx_KX]
    walk_at "rd"
    refine ⟨v, t, rfl, od, fun hb H1 s1 => ?_, x⟩
    obtain ⟨b, rfl, hb01⟩ := isBit_of hb
    obtain rfl : v = .int b := od
    walk_at "rd"
    refine ⟨a, C, dx, _, rfl, s1 _ _ ha, T.cl, T.n_held, (by simp), ?_⟩
    exact q b rfl hb01 _ ⟨dx, upd_same⟩ fun b o e hb => by rw [upd_ne hb]; exact s1 _ _ e
theorem ok_bnow {f C : Addr} {fd : FuncData} {k : Nat} (F : Fun K "now" "Bit.now" s_Bit_now f fd) (T : TxtKB K C) : FnOk P w K mg base CX0 (k + 1) f fd ["self"] (spNow C) := by
  refine F.ok sc_Bit_now (fun vs H Q E h => ?_) (fun cdv A outer s H vs Q E hr h => ?_)
  · obtain ⟨a, t, rfl, _⟩ := h
    rfl
  · obtain ⟨a, t, rfl, ⟨dx, fs, ha⟩, q⟩ := h
    have cl := T.cl; have nh := T.n_held
    refine ⟨_, (pss_one (ps_ret (pe_op op_mod (pe_fld (pv 0) rfl) pe_int))), at_start (σ := [some (.ref a)]) rfl ?_⟩
    try dsimp only [cx_K]
    walk_at "rd"
    exact q
theorem ok_bstate {f C : Addr} {fd : FuncData} {k : Nat} (F : Fun K "state" "Bit.state" s_Bit_state f fd) (T : TxtKB K C) : FnOk P w K mg base CX0 (k + 1) f fd ["self"] (spState C) := by
  refine F.ok sc_Bit_state (fun vs H Q E h => ?_) (fun cdv A outer s H vs Q E hr h => ?_)
  · obtain ⟨a, t, rfl, _⟩ := h
    rfl
  · obtain ⟨a, t, rfl, ⟨dx, fs, ha⟩, q⟩ := h
    have cl := T.cl; have nh := T.n_held
    refine ⟨_, (pss_one (ps_ret (pe_fld (pv 0) rfl))), at_start (σ := [some (.ref a)]) rfl ?_⟩
    try dsimp only [cx_K]
    walk_at "rd"
    exact q
theorem ok_kinit {f C cR cda cc D : Addr} {fd : FuncData} (F : SF P K f fd "__init__" "KindBit.__init__" s_KindBit___init__ cda cc D) (T : TxtKB K C) (n_kind : NoAttr K C "kind") (hm : mg "super" = none) (cs : KN.SupM P w K mg base (L2.CX P w) 4 C D "__init__" ["self", "value"] (spBInit C cR)) : FnOk P w K mg base (L2.CX P w) 6 f fd ["self", "kind", "value"] (spKInit C cR) := by
  refine F.ok sc_KindBit___init__ (fun vs H Q E h => ?_) (fun A outer s H vs Q E hr h => ?_)
  · obtain ⟨a, dx, k, v, t, rfl, _⟩ := h
    rfl
  · obtain ⟨a, dx, k, v, t, rfl, od, ha, q, x⟩ := h
    refine ⟨_, (KN.pssa_cons (KN.psa_expr (KN.pea_super F sc_KindBit___init__ rfl rfl (by decide) hm cs (hr.mono (by decide)) (passes_call sup_takes fun _ _ _ _ h => h) (pa_cons (pv 2) pa_nil)) rfl) (KN.pssa_any (pss_one (ps_fld (pv 0) (pv 1) rfl)))), at_start (σ := [some (.ref a), some (.ref k), some v]) rfl ?_⟩
    try dsimp only [cx_sup]
    walk_at "rd"
    refine KN.r_sup rfl ha ?_
    walk_at "rd"
    refine ⟨a, dx, v, t, rfl, od, ha, fun b eb hb H1 b1 k1 => ?_, x⟩
    obtain ⟨dx1, ha1⟩ := b1
    walk_at "rd"
    refine ⟨a, C, dx1, _, rfl, ha1, T.cl, n_kind, (by simp), ?_⟩
    walk_at "rd"
    exact q b eb hb _ dx1 upd_same fun b o e hb => by rw [upd_ne hb]; exact k1 _ _ e hb
theorem ok_kread {f C CK : Addr} {fd : FuncData} (F : Fun K "read" "KindBit.read" s_KindBit_read f fd) (T : TxtKB K C) (n_kind : NoAttr K C "kind") (p_KB_now : KW.OwnP P w K mg base 1 C "now" ["self"] (spNow C)) (c_Kind_after_read : CalleeM P w K mg base CX0 1 CK "after_read" ["self", "state"] (spRead CK)) : FnOk P w K mg base CX0 3 f fd ["self"] (spKRd C CK) := by
  refine F.ok sc_KindBit_read (fun vs H Q E h => ?_) (fun cdv A outer s H vs Q E hr h => ?_)
  · obtain ⟨a, k, s, r, w, d, rfl, _⟩ := h
    rfl
  · obtain ⟨a, k, t, r, wr, d, rfl, nk, kb, q⟩ := h
    have cl := T.cl; have nh := T.n_held
    have kb' := kb
    obtain ⟨⟨dx, ha⟩, kd⟩ := kb'
    obtain ⟨dy, st, hk, hst⟩ := id kd
    refine ⟨_, (pss_cons (ps_set (i := 1) sc_KindBit_read.nd rfl (by first | exact Or.inl rfl | exact Or.inr rfl) (KW.pe_propO p_KB_now (pv 0) (hr.mono (by decide))))
 (pss_cons (ps_fld (pv 0) (pe_methC c_Kind_after_read (pe_fld (pv 0) rfl) (hr.mono (by decide)) pass0 (pa_cons (pe_fld (pv 0) rfl) pa_nil)) rfl)
 (pss_one (ps_ret (pv 1))))), at_start (σ := [some (.ref a), none]) rfl ?_⟩
    try dsimp only [cx_K]
    walk_at "rd"
    refine KW.r_prop ?_
    walk_at "rd"
    refine ⟨a, dx, _, rfl, ha, a, t, rfl, kb.held, ?_⟩
    walk_at "rd"
    refine ⟨k, dy, _, rfl, hk, rfl, ?_⟩
    walk_at "rd"
    refine ⟨k, r, wr, d, t, rfl, kd, ?_⟩
    walk_at "rd"
    refine ⟨a, C, dx, _, rfl, ha, T.cl, T.n_held, (by simp), ?_⟩
    walk_at "rd"
    exact q _ (KBAt.set ha kd nk) fun b o e hb => by rw [upd_ne hb]; exact e
theorem ok_kwrite {f C CK cR : Addr} {fd : FuncData} (F : Fun K "write" "KindBit.write" s_KindBit_write f fd) (T : TxtKB K C) (n_kind : NoAttr K C "kind") (c_need_bit : KB.Callee P w K mg base (L2.CX P w) 3 "need_bit" ["value"] (spNeedB cR)) (c_Kind_after_write : CalleeM P w K mg base CX0 2 CK "after_write" ["self", "state", "bit"] (spWrite CK)) : FnOk P w K mg base (L2.CX P w) 4 f fd ["self", "bit"] (spKWr C CK cR) := by
  refine F.okX sc_KindBit_write (fun vs H Q E h => ?_) (fun cdv A outer s H vs Q E hr h => ?_)
  · obtain ⟨a, k, s, r, w, d, v, t, rfl, _⟩ := h
    rfl
  · obtain ⟨a, k, s0, r, wr, d, v, t, rfl, od, nk, kb, q, x⟩ := h
    have cl := T.cl; have nh := T.n_held
    refine ⟨_, (pss_cons (ps_expr (pe_callC c_need_bit (hr.mono (by decide)) (by rfl) (passes_call KL.def_takes fun _ _ _ _ h => h) (pa_cons (pv 1) pa_nil)))
 (pss_one (ps_fld (pv 0) (pe_methC c_Kind_after_write (pe_fld (pv 0) rfl) (hr.mono (by decide)) pass0 (pa_cons (pe_fld (pv 0) rfl) (pa_cons (pv 1) pa_nil))) rfl))), at_start (σ := [some (.ref a), some v]) rfl ?_⟩
    try dsimp only [KC.cx_KX]
    walk_at "rd"
    refine ⟨v, t, rfl, od, fun hb H1 s1 => ?_, x⟩
    obtain ⟨b, rfl, hb01⟩ := isBit_of hb
    obtain rfl : v = .int b := od
    replace q := q b rfl hb01
    have kb1 := kb.up s1
    obtain ⟨⟨dx, ha⟩, kd⟩ := id kb1
    obtain ⟨dy, st, hk, hst⟩ := id kd
    walk_at "rd"
    refine ⟨k, dy, _, rfl, hk, rfl, ?_⟩
    walk_at "rd"
    refine ⟨k, r, wr, d, s0, b, rfl, kd, ?_⟩
    walk_at "rd"
    refine ⟨a, C, dx, _, rfl, ha, T.cl, T.n_held, (by simp), ?_⟩
    exact q _ (KBAt.set ha kd nk) fun b o e hb => by rw [upd_ne hb]; exact s1 _ _ e
theorem ok_kdeed {f C CK : Addr} {fd : FuncData} (F : Fun K "deed" "KindBit.deed" s_KindBit_deed f fd) (T : TxtKB K C) (n_kind : NoAttr K C "kind") (c_Kind_deeds : CalleeM P w K mg base CX0 1 CK "deeds" ["self", "state"] (spDeedsK CK)) : FnOk P w K mg base CX0 3 f fd ["self"] (spKDe C CK) := by
  refine F.ok sc_KindBit_deed (fun vs H Q E h => ?_) (fun cdv A outer s H vs Q E hr h => ?_)
  · obtain ⟨a, k, s, r, w, d, rfl, _⟩ := h
    rfl
  · obtain ⟨a, k, s0, r, wr, d, rfl, nk, hd, kb, q⟩ := h
    have cl := T.cl; have nh := T.n_held
    obtain ⟨⟨dx, ha⟩, kd⟩ := id kb
    obtain ⟨dy, st, hk, hst⟩ := id kd
    refine ⟨_, (pss_cons (ps_set (i := 1) sc_KindBit_deed.nd rfl (by first | exact Or.inl rfl | exact Or.inr rfl) (pe_methC c_Kind_deeds (pe_fld (pv 0) rfl) (hr.mono (by decide)) pass0 (pa_cons (pe_fld (pv 0) rfl) pa_nil)))
 (pss_cons (ps_if (pt_cmpR (op_eqD hr.units) (pv 1) (pe_tup pa_nil) (nomark _)) (pss_one (ps_ret pe_bl))
 pss_nil)
 (pss_cons (ps_fld (pv 0) (pe_ix ix_tup (pv 1) pe_int (fun _ _ => rfl)) rfl)
 (pss_one (ps_ret pe_bl))))), at_start (σ := [some (.ref a), none]) rfl ?_⟩
    try dsimp only [cx_K]
    walk_at "rd"
    refine ⟨k, dy, _, rfl, hk, rfl, ?_⟩
    walk_at "rd"
    refine ⟨k, r, wr, d, s0, rfl, kd, hd, fun H1 e1 s1 g1 => ?_⟩
    have kb1 := kb.up s1
    walk_at "rd"
    refine ⟨by walk_at "sz", fun c1 n1 => ?_⟩
    refine r_eqIntsT (ns := deedsOf d s0) (ms := []) (SqT.of (upd_new n1 g1)) (SqT.of upd_same) ?_
    walk_at "rd"
    rcases deeds_one d s0 with e0 | ⟨t, e0⟩
    · rw [e0] at q ⊢
      refine r_iteT rfl ?_
      walk_at "rd"
      exact q _ (kb1.up (same_new n1)) (Keep.same (s1.trans (same_new n1)))
    · rw [e0] at q g1 ⊢
      refine r_iteF (by simp) ?_
      have kb2 := kb1.up (same_new (o := .tup []) n1)
      have g2 := upd_new (o := .tup []) n1 g1
      have s2 := s1.trans (same_new (o := .tup []) n1)
      generalize upd H1 c1 (.tup []) = H2 at kb2 g2 s2 ⊢
      obtain ⟨⟨dx2, ha2⟩, kd2⟩ := id kb2
      walk_at "rd"
      refine ⟨a, C, dx2, _, rfl, ha2, T.cl, T.n_held, (by simp), ?_⟩
      walk_at "rd"
      exact q _ (KBAt.set ha2 kd2 nk) fun b o e hb => by rw [upd_ne hb]; exact s2 _ _ e
end
/-- where a promise leaves no refusal, the def raises nothing -/
theorem calm_of {P : Program} {w : World} {K : PySem.W.Frag} {mg : Str → Option Value} {base : Heap} {k : Nat} {f : Addr} {fd : FuncData} {ps : List Str} {sp sp0 : Sp} (F : FnOk P w K mg base (L2.CX P w) k f fd ps sp) (h : ∀ vs H Q E, sp0 vs H Q E → sp vs H Q fun _ _ _ => False) : FnOk P w K mg base CX0 k f fd ps sp0 :=
  ⟨fun vs H Q E q => F.len _ _ _ _ (h _ _ _ _ q), fun A outer s H args us vs Q E hr he hb hv q => codeAny_mono (F.run A outer s H args us vs Q (fun _ _ _ => False) hr he hb hv (h _ _ _ _ q)) fun res st z => by
    match res, z with
    | .error e, z =>
      obtain ⟨_, _, _, _, _, _, _, _, _, _, _, _, x⟩ := z
      exact x.elim
    | .ok fl, z => cases fl <;> exact z⟩
def spKWr0 (C CK : Addr) : Sp := fun vs H Q _ => ∃ (a k : Addr) (s b : Int) (r w d : Str), vs = [.ref a, .int b] ∧ (b = 0 ∨ b = 1) ∧ k ≠ a ∧ KBAt C CK H a s k r w d ∧ ∀ H', KBAt C CK H' a (afterWrite w s b) k r w d → Keep a H H' → Q .non H'
theorem kwr_calm {P : Program} {w : World} {K : PySem.W.Frag} {mg : Str → Option Value} {base : Heap} {k : Nat} {g C CK cR : Addr} {fd : FuncData} {ps : List Str} (F : FnOk P w K mg base (L2.CX P w) k g fd ps (spKWr C CK cR)) : FnOk P w K mg base CX0 k g fd ps (spKWr0 C CK) := by
  refine calm_of F fun vs H Q E h => ?_
  obtain ⟨a, k, s, b, r, wr, d, rfl, hb, nk, kb, q⟩ := h
  refine ⟨a, k, s, r, wr, d, .int b, .sc (.int b), rfl, rfl, nk, kb, fun b' eb _ H' b1 k1 => ?_, fun z => ?_⟩
  · cases eb
    exact q H' b1 k1
  · have : isBit (.sc (.int b)) = true := decide_eq_true hb
    rw [this] at z
    cases z
end K16

namespace K16
open PySem L2 KB KO KV KY
/-! ### rows of ends are closed under deeds -/
theorem rowOf_nil (r w d : Str) (q : Bool) (s : Int) : rowOf r w d q [] s = wdl d q [s] := rfl
theorem row_start {r w d : Str} {s : Int} (hd : d ∈ DV) (hs : s ∈ S4) : s ∈ rowOf r w d false [] s := by
  rw [rowOf_nil]
  unfold wdl
  rw [if_neg (by decide)]
  exact (mem_clo hd (fun k m => by rw [List.mem_singleton.mp m]; exact hs)).mpr (.inl List.mem_cons_self)
theorem row_step {r w d : Str} {cs : List Nat} {c : Nat} {s s0 : Int} (hr : r ∈ RD) (hw : w ∈ WR) (hd : d ∈ DV) (hc : isLet c) (h : s ∈ rowOf r w d false cs s0) : afterL r w c s ∈ rowOf r w d false (cs ++ [c]) s0 := by
  rw [rowOf_snoc]
  unfold stepRow wdl
  rw [if_neg (by decide)]
  refine (mem_clo hd (fun k m => ?_)).mpr (.inl (List.mem_map_of_mem h))
  obtain ⟨j, hj, rfl⟩ := List.mem_map.mp m
  exact afterL_s4 hr hw hc (rowOf_s4 j hj)
theorem row_deed {r w d : Str} {cs : List Nat} {s e s0 : Int} (hr : r ∈ RD) (hw : w ∈ WR) (hd : d ∈ DV) (hcs : ∀ c ∈ cs, isLet c) (h0 : s0 ∈ S4) (h : s ∈ rowOf r w d false cs s0) (he : e ∈ deedsOf d s) : e ∈ rowOf r w d false cs s0 := by
  rcases List.eq_nil_or_concat cs with rfl | ⟨cs', c, rfl⟩
  · rw [rowOf_nil] at h ⊢
    unfold wdl at h ⊢
    rw [if_neg (by decide)] at h ⊢
    exact clo_deeds hd (fun k m => by rw [List.mem_singleton.mp m]; exact h0) h he
  · rw [List.concat_eq_append] at h ⊢
    rw [rowOf_snoc] at h ⊢
    unfold stepRow wdl at h ⊢
    rw [if_neg (by decide)] at h ⊢
    refine clo_deeds hd (fun k m => ?_) h he
    obtain ⟨j, hj, rfl⟩ := List.mem_map.mp m
    exact afterL_s4 hr hw (hcs c (by simp)) (rowOf_s4 j hj)
theorem row_deeds {r w d : Str} {cs : List Nat} {s s0 : Int} (hr : r ∈ RD) (hw : w ∈ WR) (hd : d ∈ DV) (hcs : ∀ c ∈ cs, isLet c) (h0 : s0 ∈ S4) (h : s ∈ rowOf r w d false cs s0) : (deedsOf d s ++ [s]).headD 0 ∈ rowOf r w d false cs s0 := by
  rcases deeds_one d s with e | ⟨t, e⟩
  · rw [e]; exact h
  · rw [e]
    exact row_deed hr hw hd hcs h0 h (by rw [e]; exact List.mem_singleton.mpr rfl)

/-! ### bits that are led -/
/-- one deed, if there is one -/
def dd (d : Str) (s : Int) : Int := (deedsOf d s ++ [s]).headD 0
def ddN (d : Str) : Nat → Int → Int
  | 0, s => s
  | n + 1, s => ddN d n (dd d s)
theorem ddN_succ (d : Str) : ∀ (n : Nat) (s : Int), ddN d (n + 1) s = dd d (ddN d n s)
  | 0, _ => rfl
  | n + 1, s => by
    show ddN d (n + 1) (dd d s) = _
    rw [ddN_succ d n]
    rfl
/-- the state ahead of the deeds that stand ahead of letter i -/
def ledP (r w d : Str) (cs ds : List Nat) (s : Int) : Nat → Int
  | 0 => s
  | i + 1 => afterL r w (cs.getD i 0) (ddN d (ds.getD i 0) (ledP r w d cs ds s i))
def ledE (r w d : Str) (cs ds : List Nat) (s : Int) : Int := ddN d (ds.getD cs.length 0) (ledP r w d cs ds s cs.length)
theorem ledP_snoc {r w d : Str} {cs ds : List Nat} {x : Nat} {s : Int} : ∀ {i : Nat}, i ≤ ds.length → ledP r w d cs (ds ++ [x]) s i = ledP r w d cs ds s i
  | 0, _ => rfl
  | i + 1, h => by
    show afterL r w _ (ddN d ((ds ++ [x]).getD i 0) (ledP r w d cs (ds ++ [x]) s i)) = afterL r w _ (ddN d (ds.getD i 0) (ledP r w d cs ds s i))
    rw [ledP_snoc (i := i) (by omega)]
    congr 2
    rw [List.getD_eq_getElem?_getD, List.getD_eq_getElem?_getD, List.getElem?_append_left (by omega)]
theorem getD_snoc {ds : List Nat} {x : Nat} : (ds ++ [x]).getD ds.length 0 = x := by
  rw [List.getD_eq_getElem?_getD, List.getElem?_append_right (Nat.le_refl _), Nat.sub_self]
  rfl
theorem take_next {cs : List Nat} {i : Nat} (h : i < cs.length) : cs.take (i + 1) = cs.take i ++ [cs.getD i 0] := by
  rw [List.take_add_one, List.getD_eq_getElem?_getD, List.getElem?_eq_getElem h]
  rfl
section
variable {r w d : Str} {cs ds : List Nat} {s : Int}
theorem take_let (hc : ∀ c ∈ cs, isLet c) (i : Nat) : ∀ c ∈ cs.take i, isLet c := fun c m => hc c (List.mem_of_mem_take m)
theorem getD_let (hc : ∀ c ∈ cs, isLet c) {i : Nat} (h : i < cs.length) : isLet (cs.getD i 0) := by
  rw [List.getD_eq_getElem?_getD, List.getElem?_eq_getElem h]
  exact hc _ (List.getElem_mem h)
theorem ddN_row (hr : r ∈ RD) (hw : w ∈ WR) (hd : d ∈ DV) (hc : ∀ c ∈ cs, isLet c) (hs : s ∈ S4) : ∀ (n : Nat) (t : Int), t ∈ rowOf r w d false cs s → ddN d n t ∈ rowOf r w d false cs s
  | 0, _, h => h
  | n + 1, t, h => ddN_row hr hw hd hc hs n (dd d t) (row_deeds hr hw hd hc hs h)
theorem ledP_row (hr : r ∈ RD) (hw : w ∈ WR) (hd : d ∈ DV) (hc : ∀ c ∈ cs, isLet c) (hs : s ∈ S4) : ∀ i, i ≤ cs.length → ledP r w d cs ds s i ∈ rowOf r w d false (cs.take i) s
  | 0, _ => row_start hd hs
  | i + 1, h => by
    rw [take_next (by omega)]
    exact row_step hr hw hd (getD_let hc (by omega)) (ddN_row hr hw hd (take_let hc i) hs _ _ (ledP_row hr hw hd hc hs i (by omega)))
/-- where a bit comes to is an end that is told -/
theorem led_row (hr : r ∈ RD) (hw : w ∈ WR) (hd : d ∈ DV) (hc : ∀ c ∈ cs, isLet c) (hs : s ∈ S4) : ledE r w d cs ds s ∈ rowOf r w d false cs s := by
  have h := ledP_row (ds := ds) hr hw hd hc hs cs.length (Nat.le_refl _)
  rw [List.take_length] at h
  exact ddN_row hr hw hd hc hs _ _ h
theorem ledP_s4 (hr : r ∈ RD) (hw : w ∈ WR) (hd : d ∈ DV) (hc : ∀ c ∈ cs, isLet c) (hs : s ∈ S4) {i : Nat} (h : i ≤ cs.length) : ledP r w d cs ds s i ∈ S4 := rowOf_s4 _ (ledP_row hr hw hd hc hs i h)
theorem ledP_idle (hr : r ∈ RD) (hw : w ∈ WR) (hd : d ∈ DV) (hc : ∀ c ∈ cs, isLet c) (hs : s ∈ S4) (h0 : ∀ i, ds.getD i 0 = 0) : ∀ i, i ≤ cs.length → rowOf r w d true (cs.take i) s = [ledP r w d cs ds s i]
  | 0, _ => by
    show wdl d true [s] = [s]
    unfold wdl
    rw [if_pos rfl]
    exact norm_one hs
  | i + 1, h => by
    rw [take_next (by omega), rowOf_snoc, ledP_idle hr hw hd hc hs h0 i (by omega)]
    show wdl d true [afterL r w (cs.getD i 0) (ledP r w d cs ds s i)] = [afterL r w (cs.getD i 0) (ddN d (ds.getD i 0) (ledP r w d cs ds s i))]
    rw [h0 i]
    unfold wdl
    rw [if_pos rfl]
    exact norm_one (afterL_s4 hr hw (getD_let hc (by omega)) (ledP_s4 hr hw hd hc hs (by omega)))
/-- without deeds -/
theorem led_idle (hr : r ∈ RD) (hw : w ∈ WR) (hd : d ∈ DV) (hc : ∀ c ∈ cs, isLet c) (hs : s ∈ S4) (h0 : ∀ i, ds.getD i 0 = 0) : rowOf r w d true cs s = [ledE r w d cs ds s] := by
  have h := ledP_idle hr hw hd hc hs h0 cs.length (Nat.le_refl _)
  rw [List.take_length] at h
  unfold ledE
  rw [h0]
  exact h
end
/-! ### the search -/
/-- the states that are come to ahead of letter i, at most one deed ahead of each letter -/
def Rch (r w d : Str) (cs : List Nat) (s : Int) : Nat → Int → Prop
  | 0, t => t = s
  | i + 1, t => ∃ u, Rch r w d cs s i u ∧ ∃ e ∈ u :: deedsOf d u, t = afterL r w (cs.getD i 0) e
section
variable {r w d : Str} {cs : List Nat} {s : Int}
theorem rch_row (hr : r ∈ RD) (hw : w ∈ WR) (hd : d ∈ DV) (hc : ∀ c ∈ cs, isLet c) (hs : s ∈ S4) : ∀ i, i ≤ cs.length → ∀ t ∈ rowOf r w d false (cs.take i) s, ∃ u, Rch r w d cs s i u ∧ t ∈ u :: deedsOf d u
  | 0, _, t, h => by
    refine ⟨s, rfl, ?_⟩
    have h' : t ∈ wdl d false [s] := h
    unfold wdl at h'
    rw [if_neg (by decide)] at h'
    rcases (mem_clo hd (fun k m => by rw [List.mem_singleton.mp m]; exact hs)).mp h' with z | ⟨j, hj, z⟩
    · rw [List.mem_singleton.mp z]; exact List.mem_cons_self
    · rw [List.mem_singleton.mp hj] at z
      exact List.mem_cons_of_mem _ z
  | i + 1, hi, t, h => by
    rw [take_next (by omega), rowOf_snoc] at h
    unfold stepRow wdl at h
    rw [if_neg (by decide)] at h
    have s4 : ∀ k ∈ (rowOf r w d false (cs.take i) s).map (afterL r w (cs.getD i 0)), k ∈ S4 := fun k m => by
      obtain ⟨j, hj, rfl⟩ := List.mem_map.mp m
      exact afterL_s4 hr hw (getD_let hc (by omega)) (rowOf_s4 j hj)
    have key : ∀ j ∈ (rowOf r w d false (cs.take i) s).map (afterL r w (cs.getD i 0)), Rch r w d cs s (i + 1) j := fun j m => by
      obtain ⟨e, he, rfl⟩ := List.mem_map.mp m
      obtain ⟨u, hu, hm⟩ := rch_row hr hw hd hc hs i (by omega) e he
      exact ⟨u, hu, e, hm, rfl⟩
    rcases (mem_clo hd s4).mp h with z | ⟨j, hj, z⟩
    · exact ⟨t, key t z, List.mem_cons_self⟩
    · exact ⟨j, key j hj, List.mem_cons_of_mem _ z⟩
theorem rch_end (hr : r ∈ RD) (hw : w ∈ WR) (hd : d ∈ DV) (hc : ∀ c ∈ cs, isLet c) (hs : s ∈ S4) {t : Int} (h : t ∈ rowOf r w d false cs s) : ∃ u, Rch r w d cs s cs.length u ∧ t ∈ u :: deedsOf d u := by
  refine rch_row hr hw hd hc hs cs.length (Nat.le_refl _) t ?_
  rw [List.take_length]
  exact h
end
/-- the choices behind a state: none or one deed -/
def opts (d : Str) (u : Int) : List (Int × Nat) := (u, 0) :: (deedsOf d u).map fun e => (e, 1)
theorem opts_ok {d : Str} {u e : Int} {n : Nat} (h : (e, n) ∈ opts d u) : ddN d n u = e ∧ e ∈ u :: deedsOf d u ∧ n ≤ 1 := by
  rcases List.mem_cons.mp h with h | h
  · cases h
    exact ⟨rfl, List.mem_cons_self, Nat.zero_le _⟩
  · obtain ⟨x, hx, hh⟩ := List.mem_map.mp h
    cases hh
    refine ⟨?_, List.mem_cons_of_mem _ hx, Nat.le_refl _⟩
    show dd d u = e
    unfold dd
    rcases deeds_one d u with z | ⟨t, z⟩
    · rw [z] at hx; cases hx
    · rw [z] at hx ⊢
      rw [List.mem_singleton.mp hx]
      rfl
theorem opts_has {d : Str} {u e : Int} (h : e ∈ u :: deedsOf d u) : ∃ n, (e, n) ∈ opts d u := by
  rcases List.mem_cons.mp h with h | h
  · exact ⟨0, by rw [h]; exact List.mem_cons_self⟩
  · exact ⟨1, List.mem_cons_of_mem _ (List.mem_map.mpr ⟨e, h, rfl⟩)⟩
end K16


namespace K16
open PySem L2 KB KO KV
/-! ### the law's own closing -/
structure Shut (d : Str) (xs fs : List Int) (i : Nat) : Prop where
  nd : fs.Nodup
  has : ∀ k ∈ xs, k ∈ fs
  only : ∀ k ∈ fs, k ∈ clo d xs
  le : i ≤ fs.length
  done : ∀ (j : Nat) (k : Int), j < i → fs[j]? = some k → ∀ e ∈ deedsOf d k, e ∈ fs
theorem Shut.start {d : Str} {xs fs : List Int} (hd : d ∈ DV) (hs : ∀ k ∈ xs, k ∈ S4) (lt : fs.Pairwise (· < ·)) (hm : ∀ k, k ∈ fs ↔ k ∈ xs) : Shut d xs fs 0 :=
  ⟨lt.imp fun h => by omega, fun k m => (hm k).mpr m, fun k m => (mem_clo hd hs).mpr (.inl ((hm k).mp m)), Nat.zero_le _, fun j k h => absurd h (by omega)⟩
theorem Shut.len {d : Str} {xs fs : List Int} {i : Nat} (h : Shut d xs fs i) : fs.length ≤ 4 := nodup_len fs S4 h.nd fun k m => norm_s4 k (h.only k m)
theorem Shut.step {d : Str} {xs fs : List Int} {i : Nat} {k : Int} (hd : d ∈ DV) (hs : ∀ k ∈ xs, k ∈ S4) (h : Shut d xs fs i) (hk : fs[i]? = some k) : Shut d xs (fs ++ (deedsOf d k).filter fun e => !decide (e ∈ fs)) (i + 1) := by
  have lt : i < fs.length := (List.getElem?_eq_some_iff.mp hk).1
  have mk : k ∈ fs := List.mem_of_getElem? hk
  refine ⟨?_, fun j m => List.mem_append_left _ (h.has j m), fun j m => ?_, ?_, fun j k' hj e e' he => ?_⟩
  · refine List.nodup_append.mpr ⟨h.nd, ?_, fun a ha b hb => ?_⟩
    · refine List.Pairwise.filter _ ?_
      rcases deeds_cases d k with z | ⟨e, z⟩ <;> rw [z] <;> simp
    · rintro rfl
      have z := (List.mem_filter.mp hb).2
      simp [ha] at z
  · rcases List.mem_append.mp m with m | m
    · exact h.only j m
    · exact clo_deeds hd hs (h.only k mk) (List.mem_filter.mp m).1
  · rw [List.length_append]; omega
  · rw [List.getElem?_append_left (by omega)] at e
    by_cases hji : j < i
    · exact List.mem_append_left _ (h.done j k' hji e e' he)
    · obtain rfl : j = i := by omega
      rw [hk] at e
      cases e
      by_cases z : e' ∈ fs
      · exact List.mem_append_left _ z
      · exact List.mem_append_right _ (List.mem_filter.mpr ⟨he, by simp [z]⟩)
theorem Shut.fin {d : Str} {xs fs : List Int} {i : Nat} (hd : d ∈ DV) (hs : ∀ k ∈ xs, k ∈ S4) (h : Shut d xs fs i) (hi : ¬ i < fs.length) (k : Int) : k ∈ fs ↔ k ∈ clo d xs := by
  refine ⟨h.only k, fun m => ?_⟩
  rcases (mem_clo hd hs).mp m with m | ⟨j, hj, e⟩
  · exact h.has k m
  · obtain ⟨n, hn, ej⟩ := List.getElem_of_mem (h.has j hj)
    exact h.done n j (by have := h.le; omega) (by rw [List.getElem?_eq_getElem hn, ej]) k e
theorem clo_norm (d : Str) (xs : List Int) : norm (clo d xs) = clo d xs := (norm_is (fun k m => norm_s4 k m) (norm_lt _) fun _ => Iff.rfl).symm
theorem write_same4 : ∀ w ∈ WR, ∀ s ∈ S4, ∀ b ∈ ([0, 1] : List Int), afterWrite w s b = lw w s b := by decide +kernel
def spClosed : Sp := fun vs H Q _ => ∃ (l : Addr) (d : Str) (xs : List Int), vs = [.str d, .ref l] ∧ d ∈ DV ∧ H l = some (.lst (xs.map V.int)) ∧ (∀ k ∈ xs, k ∈ S4) ∧ xs.length ≤ 60 ∧ ∀ H' a, Same H H' → H' a = some (.lst ((clo d xs).map V.int)) → Q (.ref a) H'
def WordsAt (H : Hp) (wd : Addr) (r w d : Str) : Prop := H wd = some (.tup [.str r, .str w, .str d]) ∧ r ∈ RD ∧ w ∈ WR ∧ d ∈ DV
def spEnds : Sp := fun vs H Q _ => ∃ (wd : Addr) (r w d z : Str) (s : Int) (q : Bool), vs = [.ref wd, .int s, .str z, .bl q] ∧ WordsAt H wd r w d ∧ s ∈ S4 ∧ Lets z ∧ ∀ H' a, Same H H' → H' a = some (.tup ((rowOf r w d q z.cps.toList s).map V.int)) → Q (.ref a) H'
def spStates : Sp := fun vs H Q _ => ∃ (wd : Addr) (r w d : Str), vs = [.ref wd] ∧ WordsAt H wd r w d ∧ ∀ H' a, Same H H' → H' a = some (.tup ((statesOf w).map V.int)) → Q (.ref a) H'
def spRows : Sp := fun vs H Q _ => ∃ (wd : Addr) (r w d z : Str) (q : Bool), vs = [.ref wd, .str z, .bl q] ∧ WordsAt H wd r w d ∧ Lets z ∧ ∀ H' a, Same H H' → RowsAt H' a (rowsOf r w d q z.cps.toList) → Q (.ref a) H'
def spTold (C CE : Addr) : Sp := fun vs H Q _ => ∃ (p wd : Addr) (r w d r' w' d' : Str) (rows : List (List Int)), vs = [.ref p, .ref wd] ∧ EffAt C CE H p r' w' d' rows ∧ WordsAt H wd r w d ∧ rows.length = (statesOf w).length ∧ ∀ H' a, Same H H' → RowsAt H' a rows → Q (.ref a) H'
def spLetters : Sp := fun vs H Q _ => ∃ (pen c : Addr) (k : Nat), vs = [.ref pen, .int 40] ∧ PenC H pen c (k + 50) ∧ ∀ z H', Lets z → PenC H' pen c k → Keep pen H H' → Q (.str z) H'
theorem r_sset {K : PySem.W.Frag} {wd : World} {σ : L2.St} {H : Hp} {Q : VK} {l : Addr} {xs : List Int} (sq : SqL K H l (xs.map V.int)) (few : xs.length ≤ 60) (q : ∀ (ns : List Int) (a : Addr) H', Same H H' → ns.Pairwise (· < ·) → (∀ k, k ∈ ns ↔ k ∈ xs) → H' a = some (.lst (ns.map V.int)) → Q (.ref a) H') : KT.rSetOfI K wd [.ref l] H (fun x H1 => tNil σ H1 fun vs H2 => rSortedSet wd (x :: vs) H2 Q) := by
  refine ⟨l, xs, rfl, .inl sq, by omega, fun p n np ln => ?_⟩
  refine ⟨p, _, n, rfl, upd_same, by omega, fun ns a lt hm en na => ?_⟩
  exact q ns a _ ((same_new np).trans (same_new na)) lt (fun k => by rw [hm]; exact decide_eq_true_iff) upd_same

theorem WordsAt.up {H H' : Hp} {wd : Addr} {r w d : Str} (h : WordsAt H wd r w d) (s : Same H H') : WordsAt H' wd r w d := ⟨s _ _ h.1, h.2⟩
theorem states_at {w : Str} {i : Nat} {s : Int} (h : (statesOf w)[i]? = some s) : s = (i : Int) := by
  unfold statesOf at h
  split at h
  · match i, h with
    | 0, h => cases h; rfl
    | 1, h => cases h; rfl
    | 2, h => cases h; rfl
    | 3, h => cases h; rfl
  · match i, h with
    | 0, h => cases h; rfl
    | 1, h => cases h; rfl
def SIGNS : List Str := ["01r", "01r", "011r", "00r", "rr01", "1r"]
theorem signs_ok : ∀ sg ∈ SIGNS, 0 < sg.length ∧ sg.length ≤ 4 ∧ ∀ c ∈ sg.cps.toList, isLet c := by decide +kernel

end K16


namespace K16
open PySem L2 KB KO KY KV KW
theorem cut_one {z : Str} {i : Nat} : cutS z (some (i : Int)) (some ((i : Int) + 1)) = if h : i < z.cps.toList.length then sign z.cps.toList[i] else "" := by
  unfold cutS
  rw [show ((i : Int) + 1) = ((i + 1 : Nat) : Int) by omega, HT.sIx_nat, HT.sIx_nat]
  have lz : z.length = z.cps.toList.length := by rw [Array.length_toList]; rfl
  split
  · rename_i h
    rw [Nat.min_eq_left (show i ≤ z.length by omega), Nat.min_eq_left (show i + 1 ≤ z.length by omega), show i + 1 - i = 1 by omega]
    rw [List.drop_eq_getElem_cons h]
    rfl
  · rename_i h
    have e : ∀ n, ((z.cps.toList.drop n).take (min (i + 1) z.length - min i z.length)) = [] := fun n => by
      rw [show min (i + 1) z.length - min i z.length = 0 by omega]
      rfl
    rw [e]
    rfl
theorem nat_at {cs : List Nat} {i : Nat} (h : i < cs.length) : cs.getD i 0 = cs[i] := by
  rw [List.getD_eq_getElem?_getD, List.getElem?_eq_getElem h]
  rfl
theorem once_back {w : Str} {s : Int} (h : s ∈ statesOf w) (g : s > 1) : afterWrite w (s % 2) (s % 2) = s := by
  unfold statesOf at h
  split at h
  · rename_i e
    subst e
    simp only [List.mem_cons, List.not_mem_nil, or_false] at h
    rcases h with rfl | rfl | rfl | rfl
    · omega
    · omega
    · rfl
    · rfl
  · simp only [List.mem_cons, List.not_mem_nil, or_false] at h
    omega
theorem bit_of (c : Nat) : bitOf c = 0 ∨ bitOf c = 1 := by
  unfold bitOf
  split
  · exact .inr rfl
  · exact .inl rfl
def ledQ (r w d : Str) (cs ds : List Nat) (s : Int) (i : Nat) : Int := if i ≤ cs.length then ledP r w d cs ds s i else ledE r w d cs ds s
def spSetUp (CB C : Addr) : Sp := fun vs H Q _ => ∃ (k : Addr) (r w d : Str) (s : Int), vs = [.ref k, .int s] ∧ KindAt C H k r w d ∧ s ∈ statesOf w ∧ ∀ (b : Addr) H', Same H H' → k ≠ b → KBAt CB C H' b s k r w d → H b = none → Q (.ref b) H'
/-- a list or a tuple of counts -/
def Counts (H : Hp) (a : Addr) (ds : List Nat) : Prop := H a = some (.lst (ds.map fun n => .int (n : Nat))) ∨ H a = some (.tup (ds.map fun n => .int (n : Nat)))
def spLed (CB C : Addr) : Sp := fun vs H Q _ => ∃ (b k D : Addr) (r w d z : Str) (s : Int) (ds : List Nat), vs = [.ref b, .str z, .ref D] ∧ KBAt CB C H b s k r w d ∧ k ≠ b ∧ d ∈ DV ∧ Lets z ∧ Counts H D ds ∧ ds.length = z.cps.toList.length + 1 ∧ (∀ n ∈ ds, n ≤ 10) ∧
  ∀ H', Keep b H H' → Q (.int (ledE r w d z.cps.toList ds s)) H'
def spLetter : Sp := fun vs H Q _ => ∃ (a : Addr) (r w d : Str) (s : Int) (c : Nat), vs = [.ref a, .int s, .str (sign c)] ∧ H a = some (.tup [.str r, .str w, .str d]) ∧ r ∈ RD ∧ w ∈ WR ∧ isLet c ∧ s ∈ S4 ∧ ∀ H', Same H H' → Q (.int (afterL r w c s)) H'
theorem counts_at {K : PySem.W.Frag} {H : Hp} {a : Addr} {ds : List Nat} {i : Nat} {Q : VK} (h : Counts H a ds) (hi : i < ds.length) (q : Q (.int (ds.getD i 0 : Nat)) H) : KH.rIxS K (.ref a) (.int (i : Nat)) H Q := by
  have e : atI (ds.map fun n => V.int (n : Nat)) (i : Int) = some (.int (ds.getD i 0 : Nat)) := atI_nat (by rw [List.getElem?_map, List.getD_eq_getElem?_getD, List.getElem?_eq_getElem hi]; rfl)
  rcases h with h | h
  · exact .inl (KB.r_ixL (SqL.of h) e q)
  · exact .inr (KB.r_ixT (SqT.of h) e q)

section
variable {P : Program} {w : World} {K : PySem.W.Frag} {mg : Str → Option Value} {base : Heap}
theorem ok_setup {f CB C cR : Addr} {fd : FuncData} (F : Fun K "_law_set_up" "_law_set_up" s__law_set_up f fd) (cl : Cls K CB) (c_KindBit___init__ : CalleeI P w K mg base (L2.CX P w) 6 CB "KindBit" ["self", "kind", "value"] (spKInit CB cR))
    (c_KindBit_write : CalleeM P w K mg base (L2.CX P w) 4 CB "write" ["self", "bit"] (spKWr CB C cR)) (p_KindBit_state : KW.OwnP P w K mg base 1 CB "state" ["self"] (spState CB)) : FnOk P w K mg base CX0 8 f fd ["_law_kind", "_law_state"] (spSetUp CB C) := by
  refine F.ok sc__law_set_up (fun vs H Q E h => ?_) (fun cdv A outer s H vs Q E hr h => ?_)
  · obtain ⟨k, r, w, d, s, rfl, _⟩ := h
    rfl
  · obtain ⟨k, r, wr, d, s, rfl, kd, hs, q⟩ := h
    refine ⟨_, (pss_cons (ps_set (i := 2) sc__law_set_up.nd rfl (by first | exact Or.inl rfl | exact Or.inr rfl) (pe_makeC c_KindBit___init__ (hr.mono (by decide)) (by rfl) passL (pa_cons (pv 0) (pa_cons (pe_op op_mod (pv 1) pe_int) pa_nil))))
 (Evl.pss_cut (ps_if (pt_cmpR op_gt (pv 1) pe_int (nomark _)) (pss_one (ps_expr (pe_methC c_KindBit_write (pv 2) (hr.mono (by decide)) passL (pa_cons (pe_op op_mod (pv 1) pe_int) pa_nil))))
 pss_nil)
 (pss_one (ps_ret (pe_ifExp (pt_cmpR op_eq (KW.pe_propO p_KindBit_state (pv 2) (hr.mono (by decide))) (pv 1) (nomark _)) (pv 2) pe_non))))), at_start (σ := [some (.ref k), some (.int s), none]) rfl ?_⟩
    try dsimp only [cx_K]
    obtain ⟨dk, st, hk, hst⟩ := id kd
    have h01 : s % 2 = 0 ∨ s % 2 = 1 := by omega
    have bt : isBit (.sc (.int (s % 2))) = true := decide_eq_true h01
    walk_at "rd"
    refine fun b dx nb ndx nbd => ⟨b, dx, k, .int (s % 2), .sc (.int (s % 2)), rfl, rfl, upd_same, fun z ez hz Hb dx' eb kpb => ⟨rfl, ?_⟩, fun z => by rw [bt] at z; cases z⟩
    obtain rfl : s % 2 = z := by injection ez with ez; injection ez
    have sb : Same H Hb := fun c o e => kpb c o (by rw [upd_ne (ne_of_none e nb), upd_ne (ne_of_none e ndx)]; exact e) (ne_of_none e nb)
    have nk : k ≠ b := ne_of_none hk nb
    have kb : KBAt CB C Hb b (s % 2) k r wr d := ⟨⟨dx', eb⟩, kd.up sb⟩
    refine ⟨fun σ H' => σ = [some (.ref k), some (.int s), some (.ref b)] ∧ Same H H' ∧ KBAt CB C H' b s k r wr d, ?_, ?_⟩
    · walk_at "rd"
      refine r_ite2 (fun g => ?_) (fun g => ?_)
      · walk_at "rd"
        refine ⟨b, dx', _, rfl, eb, rfl, ?_⟩
        walk_at "rd"
        refine ⟨b, k, s % 2, r, wr, d, .int (s % 2), .sc (.int (s % 2)), rfl, rfl, nk, kb, fun v ev hv H2 kb2 kp2 => ?_, fun z => by rw [bt] at z; cases z⟩
        obtain rfl : s % 2 = v := by injection ev with ev; injection ev
        rw [once_back hs g] at kb2
        exact ⟨rfl, fun c o e => kp2 c o (sb c o e) (ne_of_none e nb), kb2⟩
      · walk_at "rd"
        have e : s % 2 = s := by
          have := states_s4 s hs
          simp only [S4, List.mem_cons, List.not_mem_nil, or_false] at this
          omega
        rw [e] at kb
        exact ⟨rfl, sb, kb⟩
    rintro σ H2 ⟨rfl, s2, kb2⟩
    obtain ⟨⟨dx2, hb2⟩, _⟩ := id kb2
    walk_at "rd"
    refine KW.r_prop ?_
    walk_at "rd"
    refine ⟨b, dx2, _, rfl, hb2, b, s, rfl, kb2.held, ?_⟩
    walk_at "rd"
    rw [decide_eq_true rfl]
    walk_at "rd"
    exact q b H2 s2 nk kb2 nb
theorem ok_letter {f : Addr} {fd : FuncData} (F : Fun K "_law_letter" "_law_letter" s__law_letter f fd) (T : Txt mg) (c__law_read : KB.Callee P w K mg base CX0 1 "_law_read" ["_law_reading", "_law_state"] spLR) (c__law_write : KB.Callee P w K mg base CX0 1 "_law_write" ["_law_writing", "_law_state", "_law_bit"] spLW) : FnOk P w K mg base CX0 3 f fd ["_law_words_here", "_law_state", "_law_letter_here"] spLetter := by
  refine F.ok sc__law_letter (fun vs H Q E h => ?_) (fun cdv A outer s H vs Q E hr h => ?_)
  · obtain ⟨a, r, w, d, s, c, rfl, _⟩ := h
    rfl
  · obtain ⟨a, r, wr, d, s, c, rfl, ha, hr1, hw1, lc, hs, q⟩ := h
    refine ⟨_, (pss_cons (ps_if (pt_cmpR op_eq (pv 2) pe_str (nomark _)) (pss_one (ps_ret (pe_callC c__law_read (hr.mono (by decide)) (by rfl) pass0 (pa_cons (pe_ix ix_tup (pv 0) pe_int (fun _ _ => rfl)) (pa_cons (pv 1) pa_nil)))))
 pss_nil)
 (pss_one (ps_ret (pe_callC c__law_write (hr.mono (by decide)) (by rfl) pass0 (pa_cons (pe_ix ix_tup (pv 0) pe_int (fun _ _ => rfl)) (pa_cons (pv 1) (pa_cons (pe_callTy call_int_str (by rfl) T.z_int (by decide +kernel) (pa_cons (pv 2) pa_nil)) pa_nil))))))), at_start (σ := [some (.ref a), some (.int s), some (.str (sign c))]) rfl ?_⟩
    try dsimp only [cx_K]
    unfold afterL at q
    walk_at "rd"
    refine r_iteS2 (fun h => ?_) (fun h => ?_)
    · rw [if_pos (sign_inj (h.trans sign_r))] at q
      walk_at "rd"
      exact ⟨r, s, rfl, q _ (Same.refl _)⟩
    · have nc : ¬ c = 114 := fun z => h (by rw [z, sign_r])
      rw [if_neg nc] at q
      walk_at "rd"
      refine ⟨_, _, rfl, int_sign lc nc, (by show 1 ≤ 640; decide), ?_⟩
      walk_at "rd"
      refine ⟨wr, s, _, rfl, hw1, bit_of c, fun H' s' => ?_⟩
      rw [← write_same4 wr hw1 s hs (bitOf c) (by rcases bit_of c with e | e <;> rw [e] <;> decide)]
      exact q H' s'
theorem ok_led {f CB C cR : Addr} {fd : FuncData} (F : Fun K "_law_led" "_law_led" s__law_led f fd) (T : Txt mg) (c_KindBit_deed : CalleeM P w K mg base CX0 3 CB "deed" ["self"] (spKDe CB C)) (c_KindBit_read : CalleeM P w K mg base CX0 3 CB "read" ["self"] (spKRd CB C))
    (c_KindBit_write : CalleeM P w K mg base (L2.CX P w) 4 CB "write" ["self", "bit"] (spKWr CB C cR)) (p_KindBit_state : KW.OwnP P w K mg base 1 CB "state" ["self"] (spState CB)) : FnOk P w K mg base CX0 8 f fd ["_law_bit", "_law_letters_here", "_law_deeds_here"] (spLed CB C) := by
  refine F.ok sc__law_led (fun vs H Q E h => ?_) (fun cdv A outer s H vs Q E hr h => ?_)
  · obtain ⟨b, k, D, r, w, d, z, s, ds, rfl, _⟩ := h
    rfl
  · obtain ⟨b, k, D, r, wr, d, z, s, ds, rfl, kb, nk, hd, ⟨lz, hz⟩, hD, lds, few, q⟩ := h
    refine ⟨_, (pss_cons (ps_for PassesOwn.never rfl (pi_range1 rfl T.z_range (pa_cons (pe_op op_add (pe_callB call_len_str (by rfl) T.z_len (by decide +kernel) (pa_cons (pv 1) pa_nil)) pe_int) pa_nil)) (pg_name (i := 3) sc__law_led.nd rfl (by first | exact Or.inl rfl | exact Or.inr rfl))
 (pss_cons (ps_for PassesOwn.never rfl (pi_range1 rfl T.z_range (pa_cons (pe_ix KH.ix_seq (pv 2) (pv 3) (fun _ _ => rfl)) pa_nil)) (pg_name (i := 4) sc__law_led.nd rfl (by first | exact Or.inl rfl | exact Or.inr rfl))
 (pss_one (ps_expr (pe_methC0 c_KindBit_deed (pv 0) (hr.mono (by decide)) pass0))))
 (pss_one (ps_if (pt_cmpR op_eq (pe_slice sl_str (pv 1) (po_some (pv 3)) (po_some (pe_op op_add (pv 3) pe_int))) pe_str (nomark _)) (pss_one (ps_expr (pe_methC0 c_KindBit_read (pv 0) (hr.mono (by decide)) pass0)))
 (pss_one (ps_if (pt_cmpR op_lt (pv 3) (pe_callB call_len_str (by rfl) T.z_len (by decide +kernel) (pa_cons (pv 1) pa_nil)) (nomark _)) (pss_one (ps_expr (pe_methC c_KindBit_write (pv 0) (hr.mono (by decide)) passL (pa_cons (pe_callTy call_int_str (by rfl) T.z_int (by decide +kernel) (pa_cons (pe_ix ix_str (pv 1) (pv 3) (fun _ _ => rfl)) pa_nil)) pa_nil))))
 pss_nil))))))
 (pss_one (ps_ret (KW.pe_propO p_KindBit_state (pv 0) (hr.mono (by decide)))))), at_start (σ := [some (.ref b), some (.str z), some (.ref D), none, none]) rfl ?_⟩
    try dsimp only [cx_K]
    obtain ⟨⟨dx0, hb0⟩, _⟩ := id kb
    have lcs : z.cps.toList.length = z.length := by rw [Array.length_toList]; rfl
    have lz40 : z.length ≤ 40 := lz
    obtain ⟨cs, ecs⟩ : ∃ cs, z.cps.toList = cs := ⟨_, rfl⟩
    rw [ecs] at lcs lds hz
    have cd : ∀ H', Keep b H H' → Counts H' D ds := fun H' kp => by
      rcases hD with e | e
      · exact .inl (kp _ _ e (fun y => by rw [y, hb0] at e; cases e))
      · exact .inr (kp _ _ e (fun y => by rw [y, hb0] at e; cases e))
    walk_at "rd"
    refine ⟨z, rfl, Nat.le_trans lz40 (by decide), ?_⟩
    walk_at "rd"
    refine ⟨by omega, by omega, ?_⟩
    rw [show ((z.length : Int) + 1).toNat = cs.length + 1 by omega]
    refine forW (walk_range (lo := 0) (n := cs.length + 1)) (fun i σ' H' => ∃ y3 y4, σ' = [some (.ref b), some (.str z), some (.ref D), y3, y4] ∧ KBAt CB C H' b (ledQ r wr d cs ds s i) k r wr d ∧ Keep b H H') ⟨_, _, rfl, kb, fun _ _ e _ => e⟩ (fun _ _ _ _ _ => trivial) ?_ ?_
    · rintro i x σ' _ H1 hi ⟨y3, y4, rfl, kb1, kp1⟩ ⟨rfl, rfl⟩
      have hi' : i ≤ cs.length := by omega
      unfold ledQ at kb1
      rw [if_pos hi'] at kb1
      walk_at "rd"
      rw [show (0 : Int) + (i : Int) = (i : Int) by omega]
      refine counts_at (cd H1 kp1) (by omega) ?_
      have fn : ds.getD i 0 ≤ 10 := by
        rw [List.getD_eq_getElem?_getD, List.getElem?_eq_getElem (show i < ds.length by omega)]
        exact few _ (List.getElem_mem _)
      walk_at "rd"
      refine ⟨by omega, by omega, ?_⟩
      rw [Int.toNat_natCast]
      refine forW (walk_range (lo := 0) (n := ds.getD i 0)) (fun j σ' H' => ∃ y4, σ' = [some (.ref b), some (.str z), some (.ref D), some (.int (i : Nat)), y4] ∧ KBAt CB C H' b (ddN d j (ledP r wr d cs ds s i)) k r wr d ∧ Keep b H H') ⟨_, rfl, kb1, kp1⟩ (fun _ _ _ _ _ => trivial) ?_ ?_
      · rintro j x σ' _ H2 hj ⟨y4, rfl, kb2, kp2⟩ ⟨rfl, rfl⟩
        obtain ⟨⟨dx, hb⟩, _⟩ := id kb2
        walk_at "rd"
        refine ⟨b, dx, _, rfl, hb, rfl, ?_⟩
        walk_at "rd"
        refine ⟨b, k, _, _, _, _, rfl, nk, hd, kb2, fun H3 kb3 kp3 => ?_⟩
        exact ⟨_, rfl, by rw [ddN_succ]; exact kb3, fun c o e n => kp3 c o (kp2 c o e n) n⟩
      · rintro σ' H2 ⟨y4, rfl, kb2, kp2⟩
        clear kb1 kp1
        obtain ⟨⟨dx, hb⟩, _⟩ := id kb2
        walk_at "rd"
        refine KS.r_sls (Nat.le_trans lz40 (by decide)) ?_
        rw [cut_one, ecs]
        by_cases hl : i < cs.length
        · rw [dif_pos hl]
          have ex : ledQ r wr d cs ds s (i + 1) = afterL r wr cs[i] (ddN d (ds.getD i 0) (ledP r wr d cs ds s i)) := by
            unfold ledQ
            rw [if_pos (by omega)]
            show afterL r wr (cs.getD i 0) _ = _
            rw [nat_at hl]
          have lc : isLet cs[i] := hz _ (List.getElem_mem hl)
          rw [ex]
          unfold afterL
          walk_at "rd"
          refine r_iteS2 (fun h => ?_) (fun h => ?_)
          · rw [if_pos (sign_inj (h.trans sign_r))]
            walk_at "rd"
            refine ⟨b, dx, _, rfl, hb, rfl, ?_⟩
            walk_at "rd"
            refine ⟨b, k, _, _, _, _, rfl, nk, kb2, fun H3 kb3 kp3 => ?_⟩
            exact ⟨_, _, rfl, kb3, fun c o e n => kp3 c o (kp2 c o e n) n⟩
          · have nc : ¬ cs[i] = 114 := fun z => h (by rw [z, sign_r])
            rw [if_neg nc]
            walk_at "rd"
            refine ⟨z, rfl, Nat.le_trans lz40 (by decide), ?_⟩
            walk_at "rd"
            refine r_ite2 (fun _ => ?_) (fun h => absurd h (by omega))
            walk_at "rd"
            refine ⟨b, dx, _, rfl, hb, rfl, ?_⟩
            walk_at "rd"
            refine KB.r_ixS (Nat.le_trans lz40 (by decide)) (c := cs[i]) (by rw [ecs]; exact atI_nat (List.getElem?_eq_getElem hl)) ?_
            walk_at "rd"
            refine ⟨_, _, rfl, int_sign lc nc, (by show 1 ≤ 640; decide), ?_⟩
            walk_at "rd"
            refine ⟨b, k, _, _, _, _, _, .sc (.int (bitOf cs[i])), rfl, rfl, nk, kb2, fun v ev hv H3 kb3 kp3 => ?_, fun z => ?_⟩
            · obtain rfl : bitOf cs[i] = v := by injection ev with ev; injection ev
              exact ⟨_, _, rfl, kb3, fun c o e n => kp3 c o (kp2 c o e n) n⟩
            · rw [show isBit (.sc (.int (bitOf cs[i]))) = true from decide_eq_true (bit_of _)] at z
              cases z
        · rw [dif_neg hl]
          have ei : i = cs.length := by omega
          have ex : ledQ r wr d cs ds s (i + 1) = ddN d (ds.getD i 0) (ledP r wr d cs ds s i) := by
            unfold ledQ ledE
            rw [if_neg (by omega), ei]
          rw [ex]
          walk_at "rd"
          rw [decide_eq_false (show ¬ V.str (Str.ofString "") = V.str (Str.ofString "r") by decide +kernel)]
          walk_at "rd"
          refine ⟨z, rfl, Nat.le_trans lz40 (by decide), ?_⟩
          walk_at "rd"
          refine r_ite2 (fun h => absurd h (by omega)) (fun _ => ?_)
          walk_at "rd"
          exact ⟨_, _, rfl, kb2, kp2⟩
    · rintro σ' H1 ⟨y3, y4, rfl, kb1, kp1⟩
      unfold ledQ at kb1
      rw [if_neg (by omega)] at kb1
      obtain ⟨⟨dx, hb⟩, _⟩ := id kb1
      walk_at "rd"
      refine KW.r_prop ?_
      walk_at "rd"
      refine ⟨b, dx, _, rfl, hb, b, _, rfl, kb1.held, ?_⟩
      rw [ecs] at q
      exact q H1 kp1
end
end K16


namespace K16
open PySem L2 KB KO KY KV KW
/-! ### the search for a way -/
structure Fo where
  at_ : Nat
  st : Int
  key : Addr
  cnt : Addr
abbrev cI (ds : List Nat) : List V := ds.map fun n => .int (n : Nat)
def FdAt (r w d : Str) (cs : List Nat) (s : Int) (H : Hp) (p : Fo) : Prop := H p.key = some (.tup [.int (p.at_ : Nat), .int p.st]) ∧ Rch r w d cs s p.at_ p.st ∧ ∃ ds : List Nat, H p.cnt = some (.tup (cI ds)) ∧ ds.length = p.at_ ∧ (∀ n ∈ ds, n ≤ 1) ∧ ledP r w d cs ds s p.at_ = p.st
/-- tuples stay -/
def TupK (H H' : Hp) : Prop := ∀ a xs, H a = some (.tup xs) → H' a = some (.tup xs)
theorem TupK.same {H H' : Hp} (s : Same H H') : TupK H H' := fun a xs e => s _ _ e
theorem FdAt.up {r w d : Str} {cs : List Nat} {s : Int} {H H' : Hp} {p : Fo} (h : FdAt r w d cs s H p) (t : TupK H H') : FdAt r w d cs s H' p := by
  obtain ⟨h1, h2, ds, h3, h4⟩ := h
  exact ⟨t _ _ h1, h2, ds, t _ _ h3, h4⟩
def kvO (Fd : List Fo) : List (List L2.Key × V) := Fd.map fun p => ([.inl (p.at_ : Int), .inl p.st], V.ref p.cnt)
structure Wy (r w d : Str) (cs : List Nat) (s : Int) (F O : Addr) (Fd : List Fo) (H : Hp) : Prop where
  hF : H F = some (.dT (kvO Fd))
  hO : H O = some (.lst (Fd.map fun p => V.ref p.key))
  at_ : ∀ p ∈ Fd, FdAt r w d cs s H p
  nd : (Fd.map fun p => (p.at_, p.st)).Nodup
theorem Wy.up {r w d : Str} {cs : List Nat} {s : Int} {F O : Addr} {Fd : List Fo} {H H' : Hp} (h : Wy r w d cs s F O Fd H) (e : Same H H') : Wy r w d cs s F O Fd H' := ⟨e _ _ h.hF, e _ _ h.hO, fun p m => (h.at_ p m).up (.same e), h.nd⟩
theorem kv_some {Fd : List Fo} {a : Nat} {t : Int} {v : V} (h : valV (kvO Fd) [.inl (a : Int), .inl t] = some v) : ∃ p ∈ Fd, p.at_ = a ∧ p.st = t ∧ v = .ref p.cnt := by
  unfold valV at h
  obtain ⟨x, hx, rfl⟩ := Option.map_eq_some_iff.mp h
  have hm := List.mem_of_find?_eq_some hx
  have hk := List.find?_some hx
  obtain ⟨p, mp, rfl⟩ := List.mem_map.mp hm
  have e := of_decide_eq_true hk
  dsimp only at e
  injection e with e1 e2
  injection e2 with e2 _
  injection e1 with e1
  injection e2 with e2
  exact ⟨p, mp, Int.ofNat_inj.mp e1, e2, rfl⟩
theorem kv_has {Fd : List Fo} {p : Fo} (m : p ∈ Fd) : ∃ v, valV (kvO Fd) [.inl (p.at_ : Int), .inl p.st] = some v := by
  cases h : valV (kvO Fd) [.inl (p.at_ : Int), .inl p.st] with
  | some v => exact ⟨v, rfl⟩
  | none =>
    unfold valV at h
    rw [Option.map_eq_none_iff, List.find?_eq_none] at h
    exact absurd (decide_eq_true rfl) (h _ (List.mem_map.mpr ⟨p, m, rfl⟩))
theorem nodup_pairs {α : Type} [BEq α] [LawfulBEq α] : ∀ (a b : List α), a.Nodup → (∀ x ∈ a, x ∈ b) → a.length ≤ b.length
  | [], _, _, _ => Nat.zero_le _
  | x :: a, b, nd, h => by
    have nx := List.nodup_cons.mp nd
    have mx := h x List.mem_cons_self
    have ih := nodup_pairs a (b.erase x) nx.2 fun y m => (List.mem_erase_of_ne (fun (e : y = x) => nx.1 (by rw [← e]; exact m))).mpr (h y (List.mem_cons_of_mem _ m))
    rw [List.length_erase_of_mem mx] at ih
    have : 0 < b.length := List.length_pos_of_mem mx
    rw [List.length_cons]
    omega
theorem few_keys {ks : List (Nat × Int)} {n : Nat} (nd : ks.Nodup) (h : ∀ x ∈ ks, x.1 ≤ n ∧ x.2 ∈ S4) : ks.length ≤ (n + 1) * 4 := by
  have l : ((List.range (n + 1)).flatMap fun i => S4.map fun s => (i, s)).length = (n + 1) * 4 := by
    rw [List.length_flatMap]
    have e : ((List.range (n + 1)).map fun i => (S4.map fun s => (i, s)).length) = List.replicate (n + 1) 4 := by
      refine List.eq_replicate_iff.mpr ⟨by rw [List.length_map, List.length_range], fun b m => ?_⟩
      obtain ⟨i, _, rfl⟩ := List.mem_map.mp m
      rw [List.length_map]
      rfl
    rw [e, List.sum_replicate_nat]
  rw [← l]
  refine nodup_pairs _ _ nd fun x m => ?_
  obtain ⟨h1, h2⟩ := h x m
  exact List.mem_flatMap.mpr ⟨x.1, List.mem_range.mpr (by omega), List.mem_map.mpr ⟨x.2, h2, rfl⟩⟩
theorem rch_s4 {r w d : Str} {cs : List Nat} {s : Int} (hr : r ∈ RD) (hw : w ∈ WR) (hd : d ∈ DV) (hc : ∀ c ∈ cs, isLet c) (hs : s ∈ S4) : ∀ i, i ≤ cs.length → ∀ t, Rch r w d cs s i t → t ∈ S4
  | 0, _, t, h => by rw [show t = s from h]; exact hs
  | i + 1, hi, t, h => by
    obtain ⟨u, hu, e, he, rfl⟩ := h
    have u4 := rch_s4 hr hw hd hc hs i (by omega) u hu
    refine afterL_s4 hr hw (getD_let hc (by omega)) ?_
    rcases List.mem_cons.mp he with z | z
    · rw [z]; exact u4
    · exact deeds_s4 hd u4 e z
theorem r_catN {K : PySem.W.Frag} {H : Hp} {a b : Addr} {ds : List Nat} {n : Nat} {Q : VK} (ha : H a = some (.tup (cI ds))) (hb : H b = some (.tup [.int (n : Nat)])) (lz : ds.length ≤ 100) (q : ∀ c H', Same H H' → H' c = some (.tup (cI (ds ++ [n]))) → Q (.ref c) H') : rCatA K (.ref a) (.ref b) H Q := by
  refine ⟨a, b, cI ds, [.int (n : Nat)], rfl, rfl, SqT.of ha, SqT.of hb, ?_, fun e => ?_, fun _ z => (by cases z), fun _ _ p np => ?_⟩
  · rw [List.length_map]
    show ds.length + 1 ≤ sizeLine
    exact Nat.le_trans (Nat.add_le_add_right lz _) (by decide)
  · have e' : ds = [] := List.map_eq_nil_iff.mp e
    subst e'
    exact q b H (Same.refl _) hb
  · refine q p _ (same_new np) ?_
    rw [upd_same]
    unfold cI
    rw [List.map_append]
    rfl
/-- one more -/
theorem Wy.add {r w d : Str} {cs : List Nat} {s : Int} {F O : Addr} {Fd : List Fo} {H : Hp} {p : Fo} (h : Wy r w d cs s F O Fd H) (ha : FdAt r w d cs s H p) (no : valV (kvO Fd) [.inl (p.at_ : Int), .inl p.st] = none) :
    Wy r w d cs s F O (Fd ++ [p]) (upd (upd H F (.dT (putK (kvO Fd) [.inl (p.at_ : Int), .inl p.st] (.ref p.cnt)))) O (.lst ((Fd.map fun p => V.ref p.key) ++ [.ref p.key]))) := by
  have hF := h.hF
  have hO := h.hO
  have nFO : F ≠ O := fun z => by rw [z, hO] at hF; cases hF
  have pk : putK (kvO Fd) [.inl (p.at_ : Int), .inl p.st] (.ref p.cnt) = kvO (Fd ++ [p]) := by
    unfold putK
    rw [valV_any, no, if_neg (by decide)]
    unfold kvO
    rw [List.map_append]
    rfl
  have tk : TupK H (upd (upd H F (.dT (putK (kvO Fd) [.inl (p.at_ : Int), .inl p.st] (.ref p.cnt)))) O (.lst ((Fd.map fun p => V.ref p.key) ++ [.ref p.key]))) := fun a xs e => by
    rw [upd_ne (fun z => by rw [z, hO] at e; cases e), upd_ne (fun z => by rw [z, hF] at e; cases e)]
    exact e
  refine ⟨by rw [upd_ne nFO, upd_same, pk], by rw [upd_same, List.map_append]; rfl, fun x m => ?_, ?_⟩
  · rcases List.mem_append.mp m with m | m
    · exact (h.at_ x m).up tk
    · rw [List.mem_singleton.mp m]
      exact ha.up tk
  · rw [List.map_append, List.nodup_append]
    refine ⟨h.nd, by simp, fun x mx y my e => ?_⟩
    obtain ⟨p', mp', rfl⟩ := List.mem_map.mp mx
    rw [List.mem_singleton.mp my] at e
    obtain ⟨v, hv⟩ := kv_has mp'
    injection e with e1 e2
    rw [e1, e2, no] at hv
    cases hv
def spWay : Sp := fun vs H Q _ => ∃ (a : Addr) (r w d : Str) (s e : Int) (z : Str), vs = [.ref a, .int s, .int e, .str z] ∧ H a = some (.tup [.str r, .str w, .str d]) ∧ r ∈ RD ∧ w ∈ WR ∧ d ∈ DV ∧ s ∈ S4 ∧ Lets z ∧
  (∀ H', Same H H' → e ∉ rowOf r w d false z.cps.toList s → Q .non H') ∧
  ∀ (ds : List Nat) (c : Addr) H', Same H H' → H' c = some (.tup (cI ds)) → ds.length = z.cps.toList.length + 1 → (∀ n ∈ ds, n ≤ 1) → ledE r w d z.cps.toList ds s = e → Q (.ref c) H'
/-- the keys ahead of letter L are known -/
def Full (r w d : Str) (cs : List Nat) (s : Int) (L : Nat) (Fd : List Fo) : Prop := ∀ t, Rch r w d cs s L t → ∃ p ∈ Fd, p.at_ = L ∧ p.st = t
theorem cnt_next {r w d : Str} {cs ds : List Nat} {s u : Int} {L n : Nat} (h : ds.length = L) (g : ledP r w d cs ds s L = u) : ledP r w d cs (ds ++ [n]) s L = u ∧ (ds ++ [n]).getD L 0 = n := by
  subst h
  exact ⟨by rw [ledP_snoc (Nat.le_refl _)]; exact g, getD_snoc⟩
/-- the counts of a key that is known -/
theorem Wy.get {r w d : Str} {cs : List Nat} {s : Int} {F O : Addr} {Fd : List Fo} {H : Hp} {p : Fo} (h : Wy r w d cs s F O Fd H) (m : p ∈ Fd) : ∃ (c : Addr) (ds : List Nat), DGet H F (.ref p.key) (some (.ref c)) ∧ H c = some (.tup (cI ds)) ∧ ds.length = p.at_ ∧ (∀ n ∈ ds, n ≤ 1) ∧ ledP r w d cs ds s p.at_ = p.st := by
  obtain ⟨v, hv⟩ := kv_has m
  obtain ⟨p', mp', e1, e2, rfl⟩ := kv_some hv
  obtain ⟨_, _, ds, g1, g2, g3, g4⟩ := h.at_ p' mp'
  refine ⟨p'.cnt, ds, ?_, g1, by rw [g2, e1], g3, by rw [← e1, ← e2]; exact g4⟩
  rw [← hv]
  exact DGet.t (k := [.inl (p.at_ : Int), .inl p.st]) h.hF (h.at_ p m).1
/-- all but F and O stays -/
def KFO (F O : Addr) (H H' : Hp) : Prop := ∀ b o, H b = some o → b ≠ F → b ≠ O → H' b = some o
theorem KFO.same {F O : Addr} {H H' : Hp} (s : Same H H') : KFO F O H H' := fun b o e _ _ => s b o e
theorem KFO.tr {F O : Addr} {H H1 H2 : Hp} (s : KFO F O H H1) (t : KFO F O H1 H2) : KFO F O H H2 := fun b o e n1 n2 => t b o (s b o e n1 n2) n1 n2
theorem KFO.all {F O : Addr} {H H' : Hp} (s : KFO F O H H') (nF : H F = none) (nO : H O = none) : Same H H' := fun b o e => s b o e (ne_of_none e nF) (ne_of_none e nO)
theorem KFO.from_ {F O : Addr} {H H1 H2 : Hp} (s : Same H H1) (k : KFO F O H1 H2) (nF : H F = none) (nO : H O = none) : Same H H2 := fun b o e => k b o (s b o e) (ne_of_none e nF) (ne_of_none e nO)
theorem Wy.tk {r w d : Str} {cs : List Nat} {s : Int} {F O : Addr} {Fd : List Fo} {H H' : Hp} (h : Wy r w d cs s F O Fd H) (k : KFO F O H H') : TupK H H' := fun a xs e => k _ _ e (fun z => by rw [z, h.hF] at e; cases e) (fun z => by rw [z, h.hO] at e; cases e)
/-- what is behind a state is known, or is not the end -/
def Done (r w d : Str) (cs : List Nat) (e : Int) (L : Nat) (Fd : List Fo) (x : Int) : Prop := (L < cs.length → ∃ p ∈ Fd, p.at_ = L + 1 ∧ p.st = afterL r w (cs.getD L 0) x) ∧ (L = cs.length → x ≠ e)
theorem Done.mono {r w d : Str} {cs : List Nat} {e : Int} {L : Nat} {Fd Fd' : List Fo} {x : Int} (h : Done r w d cs e L Fd x) (i : ∀ p ∈ Fd, p ∈ Fd') : Done r w d cs e L Fd' x := ⟨fun g => by
  obtain ⟨p, m, z⟩ := h.1 g
  exact ⟨p, i p m, z⟩, h.2⟩

section
variable {P : Program} {wd : World} {K : PySem.W.Frag} {mg : Str → Option Value} {base : Heap}
theorem ok_way {f : Addr} {fd : FuncData} (F : Fun K "_law_way" "_law_way" s__law_way f fd) (T : Txt mg) (c__law_letter : KB.Callee P wd K mg base CX0 3 "_law_letter" ["_law_words_here", "_law_state", "_law_letter_here"] spLetter) (c__law_deeds : KB.Callee P wd K mg base CX0 1 "_law_deeds" ["_law_device", "_law_state"] spLD) :
    FnOk P wd K mg base CX0 9 f fd ["_law_words_here", "_law_state", "_law_end", "_law_letters_here"] spWay := by
  refine F.ok sc__law_way (fun vs H Q E h => ?_) (fun cdv A outer s H vs Q E hr h => ?_)
  · obtain ⟨a, r, w, d, s, e, z, rfl, _⟩ := h
    rfl
  · obtain ⟨a, r, w, d, s0, e, z, rfl, ha, hr1, hw1, hd1, hs0, ⟨lz, hz⟩, q0, q1⟩ := h
    refine ⟨_, (pss_cons (ps_set (i := 4) sc__law_way.nd rfl (by first | exact Or.inl rfl | exact Or.inr rfl) (KH.pe_dT1 (hu_of hr) (pe_tup (pa_cons pe_int (pa_cons (pv 1) pa_nil))) (pe_tup pa_nil)))
 (pss_cons (ps_set (i := 5) sc__law_way.nd rfl (by first | exact Or.inl rfl | exact Or.inr rfl) (pe_lst (pa_cons (pe_tup (pa_cons pe_int (pa_cons (pv 1) pa_nil))) pa_nil)))
 (pss_cons (ps_for PassesOwn.never rfl (pi_range1 rfl T.z_range (pa_cons (pe_op op_add (pe_callB call_len_str (by rfl) T.z_len (by decide +kernel) (pa_cons (pv 3) pa_nil)) pe_int) pa_nil)) (pg_name (i := 6) sc__law_way.nd rfl (by first | exact Or.inl rfl | exact Or.inr rfl))
 (pss_cons (ps_setLc (i := 7) (own := [("_law_key", 8)]) (g := gName 8) (tt := tTest (tOp rEq (tOp (rIxT K) (tVar 8) (tC (.int 0))) (tVar 6))) (by rfl) sc__law_way.nd rfl rfl (sw_true rfl rfl rfl (by decide +kernel)) (pi_list (pv 5)) (blkOk_by (own := [("_law_key", 8)]) (N := ["_law_words_here", "_law_state", "_law_end", "_law_letters_here", "_law_found", "_law_order", "_law_at", "_law_layer", "_law_key", "_law_ends_here", "_law_one", "_law_count", "_law_later"]) (sc := defScope s__law_way) (by decide +kernel)) (fun _ _ _ _ _ => (pg_name (i := 8) sc__law_way.nd rfl (by first | exact Or.inl rfl | exact Or.inr rfl))) (fun _ _ _ _ _ => (pts_one (pt_cmpR op_eq (pe_ix (KH.ix_tupW K rfl) (pv 8) pe_int (fun _ _ => rfl)) (pv 6) (nomark _)))) (fun _ _ _ _ _ => (pv 8)))
 (pss_one (ps_for PassesOwn.never rfl (pi_list (pv 7)) (pg_name (i := 8) sc__law_way.nd rfl (by first | exact Or.inl rfl | exact Or.inr rfl))
 (pss_cons (ps_set (i := 9) sc__law_way.nd rfl (by first | exact Or.inl rfl | exact Or.inr rfl) (pe_op op_cat (pe_lst (pa_cons (pe_tup (pa_cons (pe_ix (KH.ix_tupW K rfl) (pv 8) pe_int (fun _ _ => rfl)) (pa_cons pe_int pa_nil))) pa_nil)) (pe_lc (own := [("_law_one", 10)]) (g := gName 10) (tt := tYes) (by rfl) sc__law_way.nd (pi_tup (pe_callC c__law_deeds (hr.mono (by decide)) (by rfl) pass0 (pa_cons (pe_ix (KH.ix_tupW K rfl) (pv 0) pe_int (fun _ _ => rfl)) (pa_cons (pe_ix (KH.ix_tupW K rfl) (pv 8) pe_int (fun _ _ => rfl)) pa_nil)))) (blkOk_by (own := [("_law_one", 10)]) (N := ["_law_words_here", "_law_state", "_law_end", "_law_letters_here", "_law_found", "_law_order", "_law_at", "_law_layer", "_law_key", "_law_ends_here", "_law_one", "_law_count", "_law_later"]) (sc := defScope s__law_way) (by decide +kernel)) (fun _ _ _ _ _ => (pg_name (i := 10) sc__law_way.nd rfl (by first | exact Or.inl rfl | exact Or.inr rfl))) (fun _ _ _ _ _ => pts_nil) (fun _ _ _ _ _ => (pe_tup (pa_cons (pv 10) (pa_cons pe_int pa_nil)))))))
 (pss_one (ps_for PassesOwn.never rfl (pi_list (pv 9)) (pg_tup rfl (pgs_cons (pg_name (i := 10) sc__law_way.nd rfl (by first | exact Or.inl rfl | exact Or.inr rfl)) (pgs_cons (pg_name (i := 11) sc__law_way.nd rfl (by first | exact Or.inl rfl | exact Or.inr rfl)) pgs_nil)))
 (pss_cons (ps_if (PW.pt (pw_and (pt_cmpR op_eq (pv 6) (pe_callB call_len_str (by rfl) T.z_len (by decide +kernel) (pa_cons (pv 3) pa_nil)) (nomark _)) (pw_and1 (pt_cmpR op_eq (pv 10) (pv 2) (nomark _))))) (pss_one (ps_ret (pe_op (KH.op_catW K rfl) (pe_dget (hu_of hr) (pv 4) (pv 8) (fun _ _ => rfl)) (pe_tup (pa_cons (pv 11) pa_nil)))))
 pss_nil)
 (pss_one (ps_if (pt_cmpR op_lt (pv 6) (pe_callB call_len_str (by rfl) T.z_len (by decide +kernel) (pa_cons (pv 3) pa_nil)) (nomark _)) (pss_cons (ps_set (i := 12) sc__law_way.nd rfl (by first | exact Or.inl rfl | exact Or.inr rfl) (pe_tup (pa_cons (pe_op op_add (pv 6) pe_int) (pa_cons (pe_callC c__law_letter (hr.mono (by decide)) (by rfl) pass0 (pa_cons (pv 0) (pa_cons (pv 10) (pa_cons (pe_ix ix_str (pv 3) (pv 6) (fun _ _ => rfl)) pa_nil)))) pa_nil))))
 (pss_one (ps_if (pt_cmp (pc_dnotin (hu_of hr) (pv 12) (pv 4))) (pss_cons (ps_dput (hu_of hr) (pv 4) (pv 12) (pe_op (KH.op_catW K rfl) (pe_dget (hu_of hr) (pv 4) (pv 8) (fun _ _ => rfl)) (pe_tup (pa_cons (pv 11) pa_nil))) rfl)
 (pss_one (ps_expr (pe_bm PySem.F.plainAttrs_list PySem.F.slot_list_append PySem.F.type_list_append mt_append (pv 5) (pa_cons (pv 12) pa_nil)))))
 pss_nil)))
 pss_nil))))))))))
 (pss_one (ps_ret pe_non))))), at_start (σ := [some (.ref a), some (.int s0), some (.int e), some (.str z), none, none, none, none, none, none, none, none, none]) rfl ?_⟩
    try dsimp only [cx_K]
    have lcs : z.cps.toList.length = z.length := by rw [Array.length_toList]; rfl
    have lz40 : z.length ≤ 40 := lz
    obtain ⟨cs, ecs⟩ : ∃ cs, z.cps.toList = cs := ⟨_, rfl⟩
    rw [ecs] at lcs hz q0 q1
    walk_at "rd"
    refine fun F nF => ?_
    walk_at "rd"
    refine ⟨by walk_at "sz", fun k0 nk0 => ?_⟩
    walk_at "rd"
    refine ⟨by walk_at "sz", fun c0 nc0 => ?_⟩
    walk_at "rd"
    have hF2 := same_new (o := .tup []) nc0 _ _ (same_new (o := .tup [.int 0, .int s0]) nk0 _ _ (upd_same (H := H) (a := F) (o := .dT [])))
    refine ⟨k0, [.inl 0, .inl s0], rfl, hF2, same_new nc0 _ _ upd_same, ?_⟩
    have s2 := ((same_new (o := .dT []) nF).trans (same_new (o := .tup [.int 0, .int s0]) nk0)).trans (same_new (o := .tup []) nc0)
    have e2 : upd (upd (upd H F (.dT [])) k0 (.tup [.int 0, .int s0])) c0 (.tup []) c0 = some (.tup []) := upd_same
    generalize upd (upd (upd H F (.dT [])) k0 (.tup [.int 0, .int s0])) c0 (.tup []) = H2 at hF2 s2 e2 ⊢
    have s3 : Same H (upd H2 F (.dT [([.inl 0, .inl s0], .ref c0)])) := same_mut s2 nF
    have e3 : upd H2 F (.dT [([.inl 0, .inl s0], .ref c0)]) c0 = some (.tup []) := by
      rw [upd_ne (fun z => by rw [z, hF2] at e2; cases e2)]
      exact e2
    have hF3 : upd H2 F (.dT [([.inl 0, .inl s0], .ref c0)]) F = some (.dT [([.inl 0, .inl s0], .ref c0)]) := upd_same
    generalize upd H2 F (.dT [([.inl 0, .inl s0], .ref c0)]) = H3 at s3 e3 hF3 ⊢
    clear hF2 s2 e2 nk0 nc0
    walk_at "rd"
    refine ⟨by walk_at "sz", fun k1 nk1 => ?_⟩
    walk_at "rd"
    refine ⟨by walk_at "sz", fun O nO => ?_⟩
    have sO := same_new (o := .tup [.int 0, .int s0]) nk1
    have nOH : H O = none := s3.free (sO.free nO)
    have W5 : Wy r w d cs s0 F O [⟨0, s0, k1, c0⟩] (upd (upd H3 k1 (.tup [.int 0, .int s0])) O (.lst [.ref k1])) := by
      have s35 := sO.trans (same_new (o := .lst [.ref k1]) nO)
      refine ⟨s35 _ _ hF3, upd_same, fun p m => ?_, by simp⟩
      rw [List.mem_singleton.mp m]
      exact ⟨same_new nO _ _ upd_same, rfl, [], s35 _ _ e3, rfl, fun n m => (by cases m), rfl⟩
    have s5 := (s3.trans sO).trans (same_new (o := .lst [.ref k1]) nO)
    generalize upd (upd H3 k1 (.tup [.int 0, .int s0])) O (.lst [.ref k1]) = H5 at W5 s5 ⊢
    clear s3 e3 hF3 nk1 nO sO
    walk_at "rd"
    refine ⟨z, rfl, Nat.le_trans lz40 (by decide), ?_⟩
    walk_at "rd"
    refine ⟨by omega, by omega, ?_⟩
    rw [show ((z.length : Int) + 1).toNat = cs.length + 1 by omega]
    refine forW (walk_range (lo := 0) (n := cs.length + 1)) (fun L σ' H' => ∃ (Fd : List Fo) (y6 y7 y8 y9 y10 y11 y12 : Option V), σ' = [some (.ref a), some (.int s0), some (.int e), some (.str z), some (.ref F), some (.ref O), y6, y7, y8, y9, y10, y11, y12] ∧ KFO F O H5 H' ∧ Wy r w d cs s0 F O Fd H' ∧ (∀ p ∈ Fd, p.at_ ≤ min L cs.length) ∧ (L ≤ cs.length → Full r w d cs s0 L Fd) ∧ (L = cs.length + 1 → ∀ u, Rch r w d cs s0 cs.length u → ∀ x ∈ u :: deedsOf d u, x ≠ e))
      ⟨_, _, _, _, _, _, _, _, rfl, fun _ _ g _ _ => g, W5, fun p m => by rw [List.mem_singleton.mp m]; exact Nat.zero_le _, fun _ t ht => ⟨_, List.mem_singleton.mpr rfl, rfl, (show t = s0 from ht).symm⟩, fun g => absurd g (by omega)⟩ (fun _ _ _ _ _ => trivial) ?_ ?_
    · rintro L x σ' _ H6 hL ⟨Fd0, y6, y7, y8, y9, y10, y11, y12, rfl, k6, W6, top6, full6, _⟩ ⟨rfl, rfl⟩
      have hL' : L ≤ cs.length := by omega
      rw [Nat.min_eq_left hL'] at top6
      replace full6 := full6 hL'
      walk_at "rd"
      rw [show (0 : Int) + (L : Int) = (L : Int) by omega]
      refine ⟨O, rfl, ⟨_, SqL.of W6.hO⟩, ?_⟩
      have few0 : Fd0.length ≤ 200 := by
        have := few_keys W6.nd (n := L) fun x m => by
          obtain ⟨p, mp, rfl⟩ := List.mem_map.mp m
          exact ⟨top6 p mp, rch_s4 hr1 hw1 hd1 hz hs0 p.at_ (Nat.le_trans (top6 p mp) hL') _ (W6.at_ p mp).2.1⟩
        rw [List.length_map] at this
        omega
      have nth : ∀ i x, (Fd0.map fun p => V.ref p.key)[i]? = some x → ∃ p ∈ Fd0, Fd0[i]? = some p ∧ x = V.ref p.key := fun i x h => by
        rw [List.getElem?_map] at h
        obtain ⟨p, hp, rfl⟩ := Option.map_eq_some_iff.mp h
        exact ⟨p, List.mem_of_getElem? hp, hp, rfl⟩
      refine KB.lc_all (walk_list (xs := Fd0.map fun p => V.ref p.key)) (j := 8) (fun i => V.ref (Fd0.getD i ⟨0, 0, 0, 0⟩).key) (fun i => decide ((Fd0.getD i ⟨0, 0, 0, 0⟩).at_ = L)) (fun i => V.ref (Fd0.getD i ⟨0, 0, 0, 0⟩).key) (by rw [List.length_map]; omega) (fun i H x H' _ y => ?_) (fun H' sm => SqL.of (sm _ _ W6.hO)) (fun x => rfl) (fun i H' hi sm QT hQ => ?_) (fun i H' hi hf sm Q' hQ => ?_) (fun Lr H7 nLr s7 eLr => ?_)
      · obtain ⟨rfl, hx⟩ := y
        obtain ⟨p, _, hp, rfl⟩ := nth i x hx
        exact ⟨rfl, by rw [List.getD_eq_getElem?_getD, hp]; rfl⟩
      · rw [List.length_map] at hi
        have hp := (W6.at_ (Fd0.getD i ⟨0, 0, 0, 0⟩) (by rw [List.getD_eq_getElem?_getD, List.getElem?_eq_getElem hi]; exact List.getElem_mem hi)).1
        replace hp := sm _ _ hp
        walk_at "rd"
        rw [show decide (V.int (((Fd0.getD i ⟨0, 0, 0, 0⟩).at_ : Nat) : Int) = V.int (L : Nat)) = decide ((Fd0.getD i ⟨0, 0, 0, 0⟩).at_ = L) from decide_eq_decide.mpr ⟨fun h => by injection h with h; omega, fun h => by rw [h]⟩]
        exact hQ _ (Same.refl _)
      · walk_at "rd"
        exact hQ _ (Same.refl _)
      obtain ⟨ly, ely, sub, has⟩ : ∃ ly : List Fo, Evl.given (Fd0.map fun p => V.ref p.key).length (fun i => decide ((Fd0.getD i ⟨0, 0, 0, 0⟩).at_ = L)) (fun i => V.ref (Fd0.getD i ⟨0, 0, 0, 0⟩).key) = ly.map (fun p => V.ref p.key) ∧ (∀ p ∈ ly, p ∈ Fd0 ∧ p.at_ = L) ∧ ∀ p ∈ Fd0, p.at_ = L → p ∈ ly := by
        refine ⟨((List.range Fd0.length).filter fun i => decide ((Fd0.getD i ⟨0, 0, 0, 0⟩).at_ = L)).map fun i => Fd0.getD i ⟨0, 0, 0, 0⟩, ?_, fun p m => ?_, fun p m ep => ?_⟩
        · unfold Evl.given
          rw [List.length_map, List.map_map]
          rfl
        · obtain ⟨i, hi, rfl⟩ := List.mem_map.mp m
          obtain ⟨h1, h2⟩ := List.mem_filter.mp hi
          have h1 := List.mem_range.mp h1
          exact ⟨by rw [List.getD_eq_getElem?_getD, List.getElem?_eq_getElem h1]; exact List.getElem_mem h1, of_decide_eq_true h2⟩
        · obtain ⟨i, hi, rfl⟩ := List.getElem_of_mem m
          have e : Fd0.getD i ⟨0, 0, 0, 0⟩ = Fd0[i] := by rw [List.getD_eq_getElem?_getD, List.getElem?_eq_getElem hi]; rfl
          exact List.mem_map.mpr ⟨i, List.mem_filter.mpr ⟨List.mem_range.mpr hi, by rw [e]; exact decide_eq_true ep⟩, e⟩
      rw [ely] at eLr
      have W7 := W6.up s7
      have k7 : KFO F O H5 H7 := k6.tr (.same s7)
      have nLF : Lr ≠ F := (ne_of_none W6.hF nLr).symm
      have nLO : Lr ≠ O := (ne_of_none W6.hO nLr).symm
      clear ely nth k6 s7 W6 nLr
      walk_at "rd"
      refine ⟨Lr, rfl, ⟨_, SqL.of eLr⟩, ?_⟩
      refine forW (walk_list (xs := ly.map fun p => V.ref p.key)) (fun j σ' H' => ∃ (Fd : List Fo) (y8 y9 y10 y11 y12 : Option V), σ' = [some (.ref a), some (.int s0), some (.int e), some (.str z), some (.ref F), some (.ref O), some (.int (L : Nat)), some (.ref Lr), y8, y9, y10, y11, y12] ∧ KFO F O H7 H' ∧ Wy r w d cs s0 F O Fd H' ∧ (∀ p ∈ Fd0, p ∈ Fd) ∧ (∀ p ∈ Fd, p.at_ ≤ min (L + 1) cs.length) ∧ ∀ j' < j, ∀ p, ly[j']? = some p → ∀ x ∈ p.st :: deedsOf d p.st, Done r w d cs e L Fd x)
        ⟨_, _, _, _, _, _, rfl, fun _ _ g _ _ => g, W7, fun _ m => m, fun p m => by have := top6 p m; omega, fun j' hj => absurd hj (Nat.not_lt_zero _)⟩ (fun _ _ H' _ ⟨_, _, _, _, _, _, _, k, _⟩ => SqL.of (k _ _ eLr nLF nLO)) ?_ ?_
      · rintro j x σ' _ H8 hj ⟨Fd, y8, y9, y10, y11, y12, rfl, k8, W8, inc8, top8, dn8⟩ ⟨rfl, hx⟩
        rw [List.getElem?_map] at hx
        obtain ⟨p, hp, rfl⟩ := Option.map_eq_some_iff.mp hx
        obtain ⟨mp0, pL⟩ := sub p (List.mem_of_getElem? hp)
        have mp := inc8 p mp0
        have hkey := (W8.at_ p mp).1
        have p4 : p.st ∈ S4 := rch_s4 hr1 hw1 hd1 hz hs0 p.at_ (by omega) _ (W8.at_ p mp).2.1
        walk_at "rd"
        have sH8 : Same H H8 := (k7.tr k8).from_ s5 nF nOH
        have ha8 := sH8 _ _ ha
        refine ⟨by walk_at "sz", fun t0 nt0 => ?_⟩
        walk_at "rd"
        refine ⟨by walk_at "sz", fun E0 nE0 => ?_⟩
        have s9 := (same_new (o := .tup [.int p.st, .int 0]) nt0).trans (same_new (o := .lst [.ref t0]) nE0)
        have et0 : upd (upd H8 t0 (.tup [.int p.st, .int 0])) E0 (.lst [.ref t0]) t0 = some (.tup [.int p.st, .int 0]) := same_new nE0 _ _ upd_same
        have eE0 : upd (upd H8 t0 (.tup [.int p.st, .int 0])) E0 (.lst [.ref t0]) E0 = some (.lst [.ref t0]) := upd_same
        generalize upd (upd H8 t0 (.tup [.int p.st, .int 0])) E0 (.lst [.ref t0]) = H9 at s9 et0 eE0 ⊢
        replace ha8 := s9 _ _ ha8
        replace hkey := s9 _ _ hkey
        clear nt0 nE0
        walk_at "rd"
        refine ⟨d, p.st, rfl, hd1, fun H10 D10 s10 e10 => ?_⟩
        refine ⟨D10, rfl, ⟨_, SqT.of e10⟩, ?_⟩
        have one : (deedsOf d p.st).length ≤ 1 := by
          rcases deeds_one d p.st with h | ⟨t, h⟩ <;> rw [h]
          · exact Nat.zero_le _
          · exact Nat.le_refl _
        refine KD.lc_made (walk_tup (xs := (deedsOf d p.st).map V.int)) (fun i v H => ∃ (t : Addr) (x : Int), v = .ref t ∧ (deedsOf d p.st)[i]? = some x ∧ H t = some (.tup [.int x, .int 1])) (by rw [List.length_map]; omega) (fun i v H H' ⟨t, x, g1, g2, g3⟩ sn => ⟨t, x, g1, g2, sn.tup g3⟩) (fun H' sm => SqT.of (sm _ _ e10)) (fun i x Ha Ha' N B hi sm y qN => ?_) (fun E1 H11 ys nE1 s11 eE1 ly1 hy => ?_)
        · obtain ⟨rfl, hx⟩ := y
          rw [List.getElem?_map] at hx
          obtain ⟨x, hx2, rfl⟩ := Option.map_eq_some_iff.mp hx
          walk_at "rd"
          refine ⟨rfl, KD.r_yes (iteT ?_)⟩
          walk_at "rd"
          refine ⟨by walk_at "sz", fun t nt => ?_⟩
          exact qN _ _ (same_new nt) ⟨t, x, rfl, hx2, upd_same⟩
        rw [List.length_map] at ly1
        have eE0' := s11 _ _ (s10 _ _ eE0)
        refine ⟨E0, E1, [.ref t0], ys, rfl, rfl, eE0', eE1, ?_, fun E2 nE2 => ?_⟩
        · show 1 + ys.length ≤ sizeLine
          rw [ly1]
          exact Nat.le_trans (Nat.add_le_add_left one 1) (by decide)
        have s12 := ((s9.trans s10).trans s11).trans (same_new (o := .lst ([.ref t0] ++ ys)) nE2)
        have eE2 : upd H11 E2 (.lst ([.ref t0] ++ ys)) E2 = some (.lst ([.ref t0] ++ ys)) := upd_same
        have nth : ∀ (m : Nat) (x : V), ([V.ref t0] ++ ys)[m]? = some x → ∃ (q : Int × Nat) (t : Addr), (opts d p.st)[m]? = some q ∧ x = V.ref t ∧ upd H11 E2 (.lst ([.ref t0] ++ ys)) t = some (.tup [.int q.1, .int (q.2 : Nat)]) := fun m x hx => by
          cases m with
          | zero =>
            cases hx
            exact ⟨(p.st, 0), t0, rfl, rfl, same_new nE2 _ _ (s11 _ _ (s10 _ _ et0))⟩
          | succ m =>
            have hx' : ys[m]? = some x := hx
            obtain ⟨t, x', rfl, g2, g3⟩ := hy m x hx'
            refine ⟨(x', 1), t, ?_, rfl, same_new nE2 _ _ g3⟩
            show ((deedsOf d p.st).map fun e => (e, 1))[m]? = _
            rw [List.getElem?_map, g2]
            rfl
        have nEF : E2 ≠ F := (ne_of_none ((((s9.trans s10).trans s11)) _ _ W8.hF) nE2).symm
        have nEO : E2 ≠ O := (ne_of_none ((((s9.trans s10).trans s11)) _ _ W8.hO) nE2).symm
        have lE : ([V.ref t0] ++ ys).length = (opts d p.st).length := by
          show ys.length + 1 = ((deedsOf d p.st).map _).length + 1
          rw [ly1, List.length_map]
        generalize upd H11 E2 (.lst ([.ref t0] ++ ys)) = H12 at s12 eE2 nth ⊢
        generalize [V.ref t0] ++ ys = xsE at eE2 nth lE ⊢
        have W12 := W8.up s12
        have k12 : KFO F O H7 H12 := k8.tr (.same s12)
        have sH12 : Same H H12 := (k7.tr k12).from_ s5 nF nOH
        clear s9 s10 s11 e10 et0 eE0 eE1 eE0' nE1 nE2 hy ly1 ha8 hkey sH8
        walk_at "rd"
        refine ⟨E2, rfl, ⟨_, SqL.of eE2⟩, ?_⟩
        refine forW (walk_list (xs := xsE)) (fun m σ' H' => ∃ (Fe : List Fo) (y10 y11 y12 : Option V), σ' = [some (.ref a), some (.int s0), some (.int e), some (.str z), some (.ref F), some (.ref O), some (.int (L : Nat)), some (.ref Lr), some (.ref p.key), some (.ref E2), y10, y11, y12] ∧ KFO F O H12 H' ∧ Wy r w d cs s0 F O Fe H' ∧ (∀ p ∈ Fd, p ∈ Fe) ∧ (∀ p ∈ Fe, p.at_ ≤ min (L + 1) cs.length) ∧ ∀ m' < m, ∀ q, (opts d p.st)[m']? = some q → Done r w d cs e L Fe q.1)
          ⟨_, _, _, _, rfl, fun _ _ g _ _ => g, W12, fun _ m => m, top8, fun m' hm => absurd hm (Nat.not_lt_zero _)⟩ (fun _ _ H' _ ⟨_, _, _, _, _, k, _⟩ => SqL.of (k _ _ eE2 nEF nEO)) ?_ ?_
        · rintro m x σ' _ H13 hm ⟨Fe, y10, y11, y12, rfl, k13, W13, inc13, top13, dn13⟩ ⟨rfl, hx⟩
          obtain ⟨⟨x1, n1⟩, t, hq, rfl, ht⟩ := nth m x hx
          obtain ⟨op1, op2, op3⟩ := opts_ok (List.mem_of_getElem? hq)
          replace ht := W12.tk k13 _ _ ht
          refine r_gtup (SqT.of ht) rfl ?_
          walk_at "rd"
          refine ⟨z, rfl, Nat.le_trans lz40 (by decide), ?_⟩
          have mpe : p ∈ Fe := inc13 p mp
          obtain ⟨c13, ds, g13, ec13, lds, ds1, led13⟩ := W13.get mpe
          rw [pL] at lds led13
          obtain ⟨cn1, cn2⟩ := cnt_next (r := r) (w := w) (d := d) (cs := cs) (n := n1) lds led13
          have ds2 : ∀ n ∈ ds ++ [n1], n ≤ 1 := fun n mn => by
            rcases List.mem_append.mp mn with mn | mn
            · exact ds1 n mn
            · rw [List.mem_singleton.mp mn]; exact op3
          have step : ∀ Fe', (∀ p ∈ Fe, p ∈ Fe') → Done r w d cs e L Fe' x1 → ∀ m' < m + 1, ∀ q, (opts d p.st)[m']? = some q → Done r w d cs e L Fe' q.1 := fun Fe' inc dn m' hm' q hq' => by
            rcases Nat.lt_or_ge m' m with lt | ge
            · exact (dn13 m' lt q hq').mono inc
            · obtain rfl : m' = m := by omega
              rw [hq] at hq'
              obtain rfl := Option.some.inj hq'
              exact dn
          walk_at "rd"
          refine r_iteI2 (fun h1 => ?_) (fun h1 => ?_)
          · walk_at "rd"
            refine r_iteI2 (fun h2 => ?_) (fun h2 => ?_)
            · walk_at "rd"
              refine ⟨F, _, rfl, g13, ?_⟩
              walk_at "rd"
              refine ⟨by walk_at "sz", fun t2 nt2 => ?_⟩
              refine r_catN (same_new nt2 _ _ ec13) upd_same (by omega) fun c H14 s14 ec14 => ?_
              have eL : L = cs.length := by omega
              refine q1 (ds ++ [n1]) c H14 (fun b o g => s14 _ _ (same_new nt2 _ _ (k13.from_ sH12 nF nOH _ _ g))) ec14 (by rw [List.length_append, lds, List.length_singleton, eL]) ds2 ?_
              unfold ledE
              rw [← eL, cn1, cn2, op1, h2]
            · walk_at "rd"
              refine ⟨z, rfl, Nat.le_trans lz40 (by decide), ?_⟩
              walk_at "rd"
              refine r_ite2 (fun g => absurd g (by omega)) (fun _ => ?_)
              walk_at "rd"
              exact ⟨Fe, _, _, _, rfl, k13, W13, inc13, top13, step Fe (fun _ m => m) ⟨fun g => absurd g (by omega), fun _ => h2⟩⟩
          · walk_at "rd"
            refine ⟨z, rfl, Nat.le_trans lz40 (by decide), ?_⟩
            walk_at "rd"
            have hl : L < cs.length := by omega
            refine r_ite2 (fun _ => ?_) (fun g => absurd g (by omega))
            walk_at "rd"
            refine KB.r_ixS (Nat.le_trans lz40 (by decide)) (c := cs[L]) (by rw [ecs]; exact atI_nat (List.getElem?_eq_getElem hl)) ?_
            have x4 : x1 ∈ S4 := by
              rcases List.mem_cons.mp op2 with g | g
              · rw [g]; exact p4
              · exact deeds_s4 hd1 p4 _ g
            walk_at "rd"
            refine ⟨a, r, w, d, x1, cs[L], rfl, (k13.from_ sH12 nF nOH) _ _ ha, hr1, hw1, hz _ (List.getElem_mem hl), x4, fun H14 s14 => ?_⟩
            walk_at "rd"
            refine ⟨by walk_at "sz", fun lt nlt => ?_⟩
            obtain ⟨tn, etn⟩ : ∃ tn, afterL r w cs[L] x1 = tn := ⟨_, rfl⟩
            rw [etn]
            have elt : upd H14 lt (.tup [.int ((L : Int) + 1), .int tn]) lt = some (.tup [.int ((L + 1 : Nat) : Int), .int tn]) := upd_same
            have s15 := s14.trans (same_new (o := .tup [.int ((L : Int) + 1), .int tn]) nlt)
            generalize upd H14 lt (.tup [.int ((L : Int) + 1), .int tn]) = H15 at elt s15 ⊢
            have W15 := W13.up s15
            have k15 := k13.tr (.same s15)
            clear nlt s14
            walk_at "rd"
            unfold tDNotIn
            walk_at "rd"
            refine ⟨F, _, rfl, DGet.t (k := [.inl ((L + 1 : Nat) : Int), .inl tn]) W15.hF elt, ?_⟩
            have al : afterL r w (cs.getD L 0) x1 = tn := by rw [nat_at hl]; exact etn
            cases hv : valV (kvO Fe) [.inl ((L + 1 : Nat) : Int), .inl tn] with
            | some v =>
              obtain ⟨p2, mp2, g1, g2, _⟩ := kv_some hv
              walk_at "rd"
              exact ⟨Fe, _, _, _, rfl, k15, W15, inc13, top13, step Fe (fun _ m => m) ⟨fun _ => ⟨p2, mp2, g1, by rw [g2, al]⟩, fun g => absurd g (by omega)⟩⟩
            | none =>
              walk_at "rd"
              refine KB.iteNf ?_
              walk_at "rd"
              obtain ⟨c15, ds', g15, ec15, lds', ds1', led15⟩ := W15.get mpe
              rw [pL] at lds' led15
              obtain ⟨cn1', cn2'⟩ := cnt_next (r := r) (w := w) (d := d) (cs := cs) (n := n1) lds' led15
              refine ⟨F, _, rfl, g15, ?_⟩
              walk_at "rd"
              refine ⟨by walk_at "sz", fun t2 nt2 => ?_⟩
              refine r_catN (same_new nt2 _ _ ec15) upd_same (by omega) fun c H16 s16 ec16 => ?_
              have s16' := (same_new (o := .tup [.int (n1 : Nat)]) nt2).trans s16
              have W16 := W15.up s16'
              have k16 := k15.tr (.same s16')
              have elt16 := s16' _ _ elt
              clear nt2 s16 s16'
              walk_at "rd"
              have fk : Fe.length ≤ 200 := by
                have := few_keys W16.nd (n := cs.length) fun x m => by
                  obtain ⟨p', mp', rfl⟩ := List.mem_map.mp m
                  have tp := top13 p' mp'
                  exact ⟨by dsimp only; omega, rch_s4 hr1 hw1 hd1 hz hs0 p'.at_ (by omega) _ (W16.at_ p' mp').2.1⟩
                rw [List.length_map] at this
                omega
              refine ⟨F, _, rfl, DPut.t (k := [.inl ((L + 1 : Nat) : Int), .inl tn]) W16.hF elt16 (by unfold kvO; rw [List.length_map]; exact Nat.lt_of_le_of_lt fk (by decide)), ?_⟩
              walk_at "rd"
              have nOF : O ≠ F := fun z => by
                have g := W16.hO
                rw [z, W16.hF] at g
                cases g
              have hO17 : ∀ o, upd H16 F o O = some (.lst (Fe.map fun p => V.ref p.key)) := fun o => by rw [upd_ne nOF]; exact W16.hO
              refine KB.r_tyL (SqL.of (hO17 _)) ?_
              walk_at "rd"
              refine KB.r_append (hO17 _) (by rw [List.length_map]; exact Nat.lt_of_le_of_lt fk (by decide)) ?_
              have fa : FdAt r w d cs s0 H16 ⟨L + 1, tn, lt, c⟩ := by
                refine ⟨elt16, ⟨p.st, by rw [← pL]; exact (W16.at_ p mpe).2.1, x1, op2, al.symm⟩, ds' ++ [n1], ec16, by rw [List.length_append, lds', List.length_singleton], fun n mn => ?_, ?_⟩
                · rcases List.mem_append.mp mn with mn | mn
                  · exact ds1' n mn
                  · rw [List.mem_singleton.mp mn]; exact op3
                · show afterL r w (cs.getD L 0) (ddN d ((ds' ++ [n1]).getD L 0) (ledP r w d cs (ds' ++ [n1]) s0 L)) = tn
                  rw [cn1', cn2', op1, al]
              have W17 := W16.add fa hv
              refine ⟨Fe ++ [⟨L + 1, tn, lt, c⟩], _, _, _, rfl, ?_, W17, fun x mx => List.mem_append_left _ (inc13 x mx), fun x mx => ?_, step _ (fun x mx => List.mem_append_left _ mx) ⟨fun _ => ⟨_, List.mem_append_right _ (List.mem_singleton.mpr rfl), rfl, al.symm⟩, fun g => absurd g (by omega)⟩⟩
              · exact k16.tr fun b o g n1 n2 => by rw [upd_ne n2, upd_ne n1]; exact g
              · rcases List.mem_append.mp mx with mx | mx
                · exact top13 x mx
                · rw [List.mem_singleton.mp mx]
                  show L + 1 ≤ _
                  omega
        · rintro σ' H13 ⟨Fe, y10, y11, y12, rfl, k13, W13, inc13, top13, dn13⟩
          rw [lE] at dn13
          refine ⟨Fe, _, _, _, _, _, rfl, k12.tr k13, W13, fun p m => inc13 p (inc8 p m), top13, fun j' hj' p' hp' x hx => ?_⟩
          rcases Nat.lt_or_ge j' j with lt | ge
          · exact (dn8 j' lt p' hp' x hx).mono inc13
          · obtain rfl : j' = j := by omega
            rw [hp] at hp'
            obtain rfl := Option.some.inj hp'
            obtain ⟨n, hn⟩ := opts_has hx
            obtain ⟨m', hm', em⟩ := List.getElem_of_mem hn
            exact dn13 m' hm' (x, n) (by rw [List.getElem?_eq_getElem hm', em])
      · rintro σ' H8 ⟨Fd, y8, y9, y10, y11, y12, rfl, k8, W8, inc8, top8, dn8⟩
        rw [List.length_map] at dn8
        have fin : ∀ u, Rch r w d cs s0 L u → ∀ x ∈ u :: deedsOf d u, Done r w d cs e L Fd x := fun u hu x hx => by
          obtain ⟨p, mp, pL, rfl⟩ := full6 u hu
          obtain ⟨j', hj', ej⟩ := List.getElem_of_mem (has p mp pL)
          exact dn8 j' hj' p (by rw [List.getElem?_eq_getElem hj', ej]) x hx
        refine ⟨Fd, _, _, _, _, _, _, _, rfl, k7.tr k8, W8, top8, fun g t ht => ?_, fun g u hu x hx => ?_⟩
        · obtain ⟨u, hu, x, hx, rfl⟩ := ht
          exact (fin u hu x hx).1 (by omega)
        · have eL : L = cs.length := by omega
          subst eL
          exact (fin u hu x hx).2 rfl
    · rintro σ' H6 ⟨Fd, y6, y7, y8, y9, y10, y11, y12, rfl, k6, W6, _, _, no⟩
      walk_at "rd"
      refine q0 _ (k6.from_ s5 nF nOH) fun m => ?_
      obtain ⟨u, hu, hx⟩ := rch_end hr1 hw1 hd1 hz hs0 m
      exact no rfl u hu e hx rfl
end
end K16


namespace K16
open PySem L2 KB KO KV

section
variable {P : Program} {w : World} {K : PySem.W.Frag} {mg : Str → Option Value} {base : Heap}
theorem ok_states {f : Addr} {fd : FuncData} {k : Nat} (F : Fun K "_law_states" "_law_states" s__law_states f fd) (T : Txt mg) : FnOk P w K mg base CX0 (k + 1) f fd ["_law_words_here"] spStates := by
  refine F.ok sc__law_states (fun vs H Q E h => ?_) (fun cdv A outer s H vs Q E hr h => ?_)
  · obtain ⟨wd, r, w, d, rfl, _⟩ := h
    rfl
  · obtain ⟨wd, r, wr, d, rfl, ⟨hw, hr1, hw1, hd1⟩, q⟩ := h
    refine ⟨_, (pss_one (ps_ret (pe_ifExp (pt_cmpR op_eq (pe_ix ix_tup (pv 0) pe_int (fun _ _ => rfl)) pe_str (nomark _)) (pe_tup (pa_cons pe_int (pa_cons pe_int (pa_cons pe_int (pa_cons pe_int pa_nil))))) (pe_tup (pa_cons pe_int (pa_cons pe_int pa_nil)))))), at_start (σ := [some (.ref wd)]) rfl ?_⟩
    try dsimp only [cx_K]
    walk_at "rd"
    refine r_iteS2 (fun h => ?_) (fun h => ?_)
    · walk_at "rd"
      refine ⟨by walk_at "sz", fun a na => q _ a (same_new na) ?_⟩
      rw [upd_same, h]
      rfl
    · walk_at "rd"
      refine ⟨by walk_at "sz", fun a na => q _ a (same_new na) ?_⟩
      rw [upd_same]
      unfold statesOf
      rw [if_neg h]
      rfl

def LetsN (m : Nat) (z : Str) : Prop := z.cps.size ≤ m ∧ ∀ c ∈ z.cps.toList, isLet c
theorem LetsN.lets {m : Nat} {z : Str} (h : LetsN m z) (e : m ≤ 40) : Lets z := ⟨Nat.le_trans h.1 e, h.2⟩
def spLettersB : Sp := fun vs H Q _ => ∃ (pen c : Addr) (k m M : Nat), vs = [.ref pen, .int (m : Nat)] ∧ m ≤ M ∧ 8 ≤ M ∧ M ≤ 40 ∧ PenC H pen c (k + 50) ∧ ∀ z H', LetsN M z → PenC H' pen c k → Keep pen H H' → Q (.str z) H'
theorem ok_letters {f : Addr} {fd : FuncData} (F : Fun K "_law_letters" "_law_letters" s__law_letters f fd) (T : Txt mg) (c__law_draw : KB.Callee P w K mg base CX0 1 "_law_draw" ["_law_pen_here", "_law_many"] spDraw) : FnOk P w K mg base CX0 2 f fd ["_law_pen_here", "_law_most"] spLettersB := by
  refine F.ok sc__law_letters (fun vs H Q E h => ?_) (fun cdv A outer s H vs Q E hr h => ?_)
  · obtain ⟨pen, c, k, m, M, rfl, _⟩ := h
    rfl
  · obtain ⟨pen, c, k, m, M, rfl, mM, m8, m40, pn, q⟩ := h
    refine ⟨_, (pss_cons (ps_set (i := 2) sc__law_letters.nd rfl (by first | exact Or.inl rfl | exact Or.inr rfl) (pe_ix ix_list (pe_lst (pa_cons (pe_callC c__law_draw (hr.mono (by decide)) (by rfl) pass0 (pa_cons (pv 0) (pa_cons (pe_op op_add (pv 1) pe_int) pa_nil))) (pa_cons (pe_callC c__law_draw (hr.mono (by decide)) (by rfl) pass0 (pa_cons (pv 0) (pa_cons pe_int pa_nil))) (pa_cons (pe_callC c__law_draw (hr.mono (by decide)) (by rfl) pass0 (pa_cons (pv 0) (pa_cons pe_int pa_nil))) pa_nil)))) (pe_callC c__law_draw (hr.mono (by decide)) (by rfl) pass0 (pa_cons (pv 0) (pa_cons pe_int pa_nil))) (fun _ _ => rfl)))
 (pss_cons (ps_set (i := 3) sc__law_letters.nd rfl (by first | exact Or.inl rfl | exact Or.inr rfl) (pe_ix ix_list (pe_lst (pa_cons pe_str (pa_cons pe_str (pa_cons pe_str (pa_cons pe_str (pa_cons pe_str (pa_cons pe_str pa_nil))))))) (pe_callC c__law_draw (hr.mono (by decide)) (by rfl) pass0 (pa_cons (pv 0) (pa_cons pe_int pa_nil))) (fun _ _ => rfl)))
 (pss_one (ps_ret (pe_join pe_str (pe_lc (own := [("_law_turn", 4)]) (g := gName 4) (tt := tYes) (by rfl) sc__law_letters.nd (pi_range1 rfl T.z_range (pa_cons (pv 2) pa_nil)) (blkOk_by (own := [("_law_turn", 4)]) (N := ["_law_pen_here", "_law_most", "_law_size", "_law_signs", "_law_turn"]) (sc := defScope s__law_letters) (by decide +kernel)) (fun _ _ _ _ _ => (pg_name (i := 4) sc__law_letters.nd rfl (by first | exact Or.inl rfl | exact Or.inr rfl))) (fun _ _ _ _ _ => pts_nil) (fun _ _ _ _ _ => (pe_ix ix_str (pv 3) (pe_callC c__law_draw (hr.mono (by decide)) (by rfl) pass0 (pa_cons (pv 0) (pa_cons (pe_callB call_len_str (by rfl) T.z_len (by decide +kernel) (pa_cons (pv 3) pa_nil)) pa_nil))) (fun _ _ => rfl))))))))), at_start (σ := [some (.ref pen), some (.int (m : Nat)), none, none, none]) rfl ?_⟩
    try dsimp only [cx_K]
    walk_at "rd"
    refine ⟨pen, c, (m : Int) + 1, k + 48, rfl, by omega, by omega, pn.mono (by omega), fun r1 H1 a1 b1 pn1 kp1 => ?_⟩
    walk_at "rd"
    refine ⟨pen, c, 5, k + 47, rfl, by decide, by decide, pn1, fun r2 H2 a2 b2 pn2 kp2 => ?_⟩
    walk_at "rd"
    refine ⟨pen, c, 9, k + 46, rfl, by decide, by decide, pn2, fun r3 H3 a3 b3 pn3 kp3 => ?_⟩
    walk_at "rd"
    refine ⟨by walk_at "sz", fun c1 n1 => ?_⟩
    walk_at "rd"
    refine ⟨pen, c, 3, k + 45, rfl, by decide, by decide, pn3.up (same_new n1), fun r4 H4 a4 b4 pn4 kp4 => ?_⟩
    have e1 : H4 c1 = some (.lst ([r1, r2, r3].map V.int)) := kp4 _ _ upd_same (pn3.ne n1)
    obtain ⟨n, hn, at1⟩ := atI_map (xs := [r1, r2, r3]) (g := V.int) a4 b4
    refine r_ixL (xs := [r1, r2, r3].map V.int) (SqL.of e1) at1 ?_
    have hn0 : 0 ≤ n ∧ n ≤ M := by
      simp only [List.mem_cons, List.not_mem_nil, or_false] at hn
      rcases hn with rfl | rfl | rfl <;> omega
    have kq := ((kp1.tr kp2).tr kp3).tr ((Keep.same (same_new (o := .lst [.int r1, .int r2, .int r3]) n1)).tr kp4)
    clear kp1 kp2 kp3 kp4 e1 hn n1 pn1 pn2 pn3
    walk_at "rd"
    refine ⟨by walk_at "sz", fun c2 n2 => ?_⟩
    walk_at "rd"
    refine ⟨pen, c, 6, k + 44, rfl, by decide, by decide, pn4.up (same_new n2), fun r5 H5 a5 b5 pn5 kp5 => ?_⟩
    have e2 : H5 c2 = some (.lst (SIGNS.map V.str)) := kp5 _ _ upd_same (pn4.ne n2)
    obtain ⟨sg, hsg, at2⟩ := atI_map (xs := SIGNS) (g := V.str) a5 b5
    refine r_ixL (xs := SIGNS.map V.str) (SqL.of e2) at2 ?_
    obtain ⟨sl1, sl2, sl3⟩ := signs_ok sg hsg
    replace kq := kq.tr ((Keep.same (same_new (o := .lst (SIGNS.map V.str)) n2)).tr kp5)
    clear kp5 e2 n2 pn4
    walk_at "rd"
    refine ⟨by omega, by omega, ?_⟩
    refine lc_pen (walk_range (lo := 0) (n := n.toNat)) (pen := pen) (c := c) (fun i v _ => ∃ cc, isLet cc ∧ v = .str (sign cc)) (fun i => k + 44 - i) (by omega) (pn5.mono (by omega)) (fun i v H H' r _ => r) (fun _ _ => trivial) (fun i x Ha Ha' N B hi kpa pna y qN => ?_) (fun D Hd ys nD kpd pnd eD ly hy => ?_)
    · obtain ⟨rfl, rfl⟩ := y
      walk_at "rd"
      refine ⟨rfl, KD.r_yes (iteT ?_)⟩
      walk_at "rd"
      refine ⟨sg, rfl, Nat.le_trans sl2 (by decide), ?_⟩
      walk_at "rd"
      refine ⟨pen, c, (sg.length : Int), k + 44 - (i + 1), rfl, by omega, by omega, pna.mono (by omega), fun r H a b pn' kp' => ?_⟩
      obtain ⟨cc, hc, at3⟩ := atI_mem (xs := sg.cps.toList) a (by rw [Array.length_toList]; exact b)
      refine r_ixS (Nat.le_trans sl2 (by decide)) at3 ?_
      exact qN _ _ kp' pn' ⟨cc, sl3 cc hc, rfl⟩
    obtain ⟨cs, rfl, lc, hcs⟩ := choose_list (f := fun cc => V.str (sign cc)) (Pr := fun _ cc => isLet cc) ys hy
    refine ⟨"", D, cs.map sign, rfl, rfl, .inl (SqL.of (by rw [eD, List.map_map]; rfl)), ?_, ?_⟩
    · rw [sum_signs, List.length_map]
      rw [show (Str.ofString "").length = 0 from rfl, Nat.mul_zero]
      omega
    have ej : (Txt.join "" (cs.map sign)).cps.toList = cs := by rw [TL.join_eq]; exact join_signs cs
    refine q _ _ ⟨?_, ?_⟩ (pnd.mono (by omega)) (kq.tr kpd)
    · have := congrArg List.length ej
      rw [Array.length_toList] at this
      omega
    · rw [ej]
      intro cc m
      obtain ⟨i, hi, e⟩ := List.getElem_of_mem m
      exact hcs i cc (by rw [List.getElem?_eq_getElem hi, e])

end
end K16


namespace K16
open PySem L2 KB KO KY KV KW
def gDef (us _ws : List V) : List V := us ++ [.bl false]
def gRev1 (us ws : List V) : List V := us ++ ws
def spKR : Sp := fun vs H Q _ => ∃ (pen c : Addr) (n : Nat), vs = [.ref pen] ∧ PenC H pen c (n + 300) ∧ ∀ H', PenC H' pen c n → Keep pen H H' → Q (.bl true) H'
theorem KindAt.sn {C : Addr} {H H' : Hp} {p : Addr} {r w d : Str} (h : KindAt C H p r w d) (s : KD.SameN H H') : KindAt C H' p r w d := by
  obtain ⟨dx, st, h1, h2⟩ := h
  exact ⟨dx, st, s.ins h1, s.tup h2⟩
theorem RowsAt.sn {H H' : Hp} {a : Addr} {rows : List (List Int)} (h : RowsAt H a rows) (s : KD.SameN H H') : RowsAt H' a rows := by
  obtain ⟨ps, e, l, r⟩ := h
  exact ⟨ps, s.tup e, l, fun i p row h1 h2 => s.tup (r i p row h1 h2)⟩
theorem EffAt.sn {C CE : Addr} {H H' : Hp} {p : Addr} {r w d : Str} {rows : List (List Int)} (h : EffAt C CE H p r w d rows) (s : KD.SameN H H') : EffAt C CE H' p r w d rows := by
  obtain ⟨dx, k, e, h1, h2, h3⟩ := h
  exact ⟨dx, k, e, s.ins h1, h2.sn s, h3.sn s⟩
/-- what stays while the law goes on -/
structure Lw (C CE pen pc wd kd ef id_ : Addr) (n : Nat) (r w d : Str) (cs : List Nat) (H : Hp) : Prop where
  pn : PenC H pen pc n
  wd : H wd = some (.tup [.str r, .str w, .str d])
  kd : KindAt C H kd r w d
  ef : EffAt C CE H ef r w d (rowsOf r w d false cs)
  id_ : EffAt C CE H id_ r w d (rowsOf r w d true cs)
theorem Lw.up {C CE pen pc wd kd ef id_ : Addr} {n : Nat} {r w d : Str} {cs : List Nat} {H H' : Hp} (h : Lw C CE pen pc wd kd ef id_ n r w d cs H) (s : Same H H') : Lw C CE pen pc wd kd ef id_ n r w d cs H' := ⟨h.pn.up s, s _ _ h.wd, h.kd.up s, h.ef.up s, h.id_.up s⟩
theorem Lw.draw {C CE pen pc wd kd ef id_ : Addr} {n m : Nat} {r w d : Str} {cs : List Nat} {H H' : Hp} (h : Lw C CE pen pc wd kd ef id_ n r w d cs H) (p : PenC H' pen pc m) (k : Keep pen H H') : Lw C CE pen pc wd kd ef id_ m r w d cs H' :=
  ⟨p, (k.sn h.pn).tup h.wd, h.kd.sn (k.sn h.pn), h.ef.sn (k.sn h.pn), h.id_.sn (k.sn h.pn)⟩
theorem Lw.mono {C CE pen pc wd kd ef id_ : Addr} {n m : Nat} {r w d : Str} {cs : List Nat} {H : Hp} (h : Lw C CE pen pc wd kd ef id_ n r w d cs H) (e : m ≤ n) : Lw C CE pen pc wd kd ef id_ m r w d cs H := ⟨h.pn.mono e, h.wd, h.kd, h.ef, h.id_⟩
theorem led_same {b : Addr} {H H1 H2 : Hp} (nb : H b = none) (s : Same H H1) (k : Keep b H1 H2) : Same H H2 := fun c o e => k c o (s c o e) (ne_of_none e nb)
theorem rows_at {r w d : Str} {q : Bool} {cs : List Nat} {i : Nat} {s : Int} (h : (statesOf w)[i]? = some s) : (rowsOf r w d q cs)[i]? = some (rowOf r w d q cs s) := by
  unfold rowsOf
  rw [List.getElem?_map, h]
  rfl
theorem of_of {C CE : Addr} {r w d : Str} {H : Hp} {k : Addr} {z : Str} {qu : Bool} {Q : VK} {E : XK} (kd : KindAt C H k r w d) (hr : r ∈ RD) (hw : w ∈ WR) (hd : d ∈ DV) (hz : Lets z) (q : ∀ H' x, Same H H' → EffAt C CE H' x r w d (rowsOf r w d qu z.cps.toList) → Q (.ref x) H') : spOf C CE [.ref CE, .ref k, .str z, .bl qu] H Q E :=
  ⟨k, r, w, d, z, qu, rfl, kd, hr, hw, hd, hz, q⟩
theorem KBAt.sn {CB C : Addr} {H H' : Hp} {a : Addr} {s : Int} {k : Addr} {r w d : Str} (h : KBAt CB C H a s k r w d) (m : KD.SameN H H') : KBAt CB C H' a s k r w d := by
  obtain ⟨⟨dx, e⟩, kd⟩ := h
  exact ⟨⟨dx, m.ins e⟩, kd.sn m⟩
/-- a bit is led: all else stays -/
theorem Lw.act {C CE pen pc wd kd ef id_ b CB : Addr} {n : Nat} {r w d : Str} {cs : List Nat} {x : Int} {H H' : Hp} (h : Lw C CE pen pc wd kd ef id_ n r w d cs H) (hb : KBAt CB C H b x kd r w d) (nk : kd ≠ b) (kp : Keep b H H') : Lw C CE pen pc wd kd ef id_ n r w d cs H' := by
  obtain ⟨⟨dx, eb⟩, _⟩ := hb
  have tup : ∀ {a : Addr} {xs : List V}, H a = some (.tup xs) → H' a = some (.tup xs) := fun {a xs} e => kp _ _ e (fun z => by rw [z, eb] at e; cases e)
  have lst : ∀ {a : Addr} {xs : List V}, H a = some (.lst xs) → H' a = some (.lst xs) := fun {a xs} e => kp _ _ e (fun z => by rw [z, eb] at e; cases e)
  have kk : ∀ {a : Addr} {r w d : Str}, a ≠ b → KindAt C H a r w d → KindAt C H' a r w d := fun {a r w d} n ⟨dy, st, h1, h2⟩ => ⟨dy, st, kp _ _ h1 n, tup h2⟩
  have rr : ∀ {a : Addr} {rows : List (List Int)}, RowsAt H a rows → RowsAt H' a rows := fun {a rows} ⟨ps, e, l, q⟩ => ⟨ps, tup e, l, fun i p row h1 h2 => tup (q i p row h1 h2)⟩
  have kne : ∀ {a : Addr} {r w d : Str}, KindAt C H a r w d → a ≠ b := fun {a r w d} ⟨dy, st, h1, h2⟩ z => by
    rw [z, eb] at h1
    have := congrArg (fun o => match o with | some (HO.ins _ _ fs) => fs.length | _ => 0) h1
    simp [flds] at this
  have ee : ∀ {a : Addr} {rows : List (List Int)}, EffAt C CE H a r w d rows → EffAt C CE H' a r w d rows := fun {a rows} ⟨dy, k', e', h1, h2, h3⟩ => ⟨dy, k', e', kp _ _ h1 (fun z => by
    rw [z, eb] at h1
    injection h1 with h1
    injection h1 with _ _ h1
    injection h1 with h1 _
    injection h1 with h1 _
    exact absurd h1 (by decide +kernel)), kk (kne h2) h2, rr h3⟩
  obtain ⟨ns, at_, left, p1, p2, p3, p4, p5⟩ := h.pn
  exact ⟨⟨ns, at_, left, lst p1, lst p2, p3, p4, p5⟩, tup h.wd, kk nk h.kd, ee h.ef, ee h.id_⟩
theorem eff_eq {K : PySem.W.Frag} {C CE : Addr} {r w d : Str} {H : Hp} {p p' : Addr} {A B : List (List Int)} {Q : VK} (nf : PySem.W.notFirst K CE (.ref CE) = true) (h : EffAt C CE H p r w d A) (h' : EffAt C CE H p' r w d B) (q : Q (.bl (decide (A = B))) H) : KO.rEqOwn K CE (spEEq C CE) (.ref p) (.ref p') H Q := by
  obtain ⟨dx, k, e, h1, _⟩ := id h
  obtain ⟨dx', k', e', h2, _⟩ := id h'
  refine ⟨p, dx, _, p', CE, dx', _, rfl, rfl, h1, h2, nf, p, p', r, w, d, r, w, d, A, B, rfl, h, h', ?_⟩
  have z : decide ((r = r ∧ w = w ∧ d = d) ∧ A = B) = decide (A = B) := decide_eq_decide.mpr ⟨fun z => z.2, fun z => ⟨⟨rfl, rfl, rfl⟩, z⟩⟩
  rw [z]
  exact q
theorem rows_shape {r w d : Str} {cs ds : List Nat} (hr : r ∈ RD) (hw : w ∈ WR) (hd : d ∈ DV) (hc : ∀ c ∈ cs, isLet c) : Shape (rowsOf r w d false cs) (rowsOf r w d false ds) := by
  have ln : ∀ es, (rowsOf r w d false es).length = (statesOf w).length := fun es => by unfold rowsOf; rw [List.length_map]
  refine ⟨by rw [ln]; exact states_len w, by rw [ln]; exact states_len w, fun row m => ?_, fun row m => ?_⟩
  · obtain ⟨s, hs, rfl⟩ := List.mem_map.mp m
    refine ⟨rowOf_len, fun t ht => ?_⟩
    obtain ⟨i, hi, e⟩ := List.getElem_of_mem (row_in hr hw hd hc hs t ht)
    have h := state_ix (s := t) (by rw [List.getElem?_eq_getElem hi, e])
    rw [ln]
    omega
  · obtain ⟨s, hs, rfl⟩ := List.mem_map.mp m
    exact ⟨rowOf_len, fun t ht => rowOf_s4 t ht⟩
theorem zeros_flat (n : Nat) : (List.replicate n [V.int 0]).flatten = (List.replicate n 0).map fun m : Nat => V.int (m : Nat) := by
  induction n with
  | zero => rfl
  | succ n ih =>
    rw [List.replicate_succ, List.flatten_cons, ih, List.replicate_succ, List.map_cons]
    rfl
theorem zeros_at (n i : Nat) : (List.replicate n 0).getD i 0 = 0 := by
  rw [List.getD_eq_getElem?_getD, List.getElem?_replicate]
  split <;> rfl

section
variable {P : Program} {wd : World} {K : PySem.W.Frag} {mg : Str → Option Value} {base : Heap}
theorem ok_kr {f C dM CE CB cK : Addr} {fd : FuncData} (F : Fun K "_law_kind_right" "_law_kind_right" s__law_kind_right f fd) (T : TxtF K wd mg C dM CE) (nfE : PySem.W.notFirst K CE (.ref CE) = true)
    (eq_Effect : OwnM P wd K mg base 3 CE "__eq__" ["self", "other"] (spEEq C CE)) (b2_Effect_mul : KH.OwnB2 P wd K mg base (L2.CX P wd) 5 CE .Mult ["self", "other"] (spMulE C CE cK))
    (c__law_letters : KB.Callee P wd K mg base CX0 2 "_law_letters" ["_law_pen_here", "_law_most"] spLettersB) (c__law_states : KB.Callee P wd K mg base CX0 1 "_law_states" ["_law_words_here"] spStates)
    (c__law_led : KB.Callee P wd K mg base CX0 8 "_law_led" ["_law_bit", "_law_letters_here", "_law_deeds_here"] (spLed CB C)) (c__law_set_up : KB.Callee P wd K mg base CX0 8 "_law_set_up" ["_law_kind", "_law_state"] (spSetUp CB C))
    (call_Effect : KC.OwnC P wd K mg base CX0 1 CE ["self", "state"] (spECall C CE)) (c__law_way : KB.Callee P wd K mg base CX0 9 "_law_way" ["_law_words_here", "_law_state", "_law_end", "_law_letters_here"] spWay)
    (ck_Effect_of_2_ : KU.CalleeCK P wd K mg base CX0 6 CE "of" ["cls", "kind", "letters", "quiet"] (spOf C CE) 3 [] gDef) (ck_Effect_of_2_quiet : KU.CalleeCK P wd K mg base CX0 6 CE "of" ["cls", "kind", "letters", "quiet"] (spOf C CE) 3 ["quiet"] gRev1)
    (c_Kind___init__ : CalleeI P wd K mg base CX0 1 C "Kind" ["self", "reading", "writing", "device"] (spKind C)) (c__law_words : KB.Callee P wd K mg base CX0 2 "_law_words" ["_law_pen_here"] spWords) (c__law_draw : KB.Callee P wd K mg base CX0 1 "_law_draw" ["_law_pen_here", "_law_many"] spDraw) :
    FnOk P wd K mg base CX0 10 f fd ["_law_pen_here"] spKR := by
  refine F.ok sc__law_kind_right (fun vs H Q E h => ?_) (fun cdv A outer s H vs Q E hr h => ?_)
  · obtain ⟨pen, c, n, rfl, _⟩ := h
    rfl
  · obtain ⟨pen, c, n, rfl, pn, q⟩ := h
    refine ⟨_, (pss_cons (ps_set (i := 1) sc__law_kind_right.nd rfl (by first | exact Or.inl rfl | exact Or.inr rfl) (pe_callC c__law_words (hr.mono (by decide)) (by rfl) pass0 (pa_cons (pv 0) pa_nil)))
 (pss_cons (ps_set (i := 2) sc__law_kind_right.nd rfl (by first | exact Or.inl rfl | exact Or.inr rfl) (pe_makeC c_Kind___init__ (hr.mono (by decide)) (by rfl) pass0 (pa_cons (pe_ix (KH.ix_tupW K rfl) (pv 1) pe_int (fun _ _ => rfl)) (pa_cons (pe_ix (KH.ix_tupW K rfl) (pv 1) pe_int (fun _ _ => rfl)) (pa_cons (pe_ix (KH.ix_tupW K rfl) (pv 1) pe_int (fun _ _ => rfl)) pa_nil)))))
 (pss_cons (ps_set (i := 3) sc__law_kind_right.nd rfl (by first | exact Or.inl rfl | exact Or.inr rfl) (pe_callC c__law_letters (hr.mono (by decide)) (by rfl) pass0 (pa_cons (pv 0) (pa_cons pe_int pa_nil))))
 (pss_cons (ps_par (i := 4) (j := 5) (by rfl) sc__law_kind_right.nd rfl rfl (by decide) rfl rfl (pa_cons (KU.pe_cmethK ck_Effect_of_2_ (pe_glob (v := .ref _) (by rfl) T.mg_Effect rfl) (hr.mono (by decide)) pass0 (pa_cons (pv 2) (pa_cons (pv 3) pa_nil)) pk_nil) (pa_cons (KU.pe_cmethK ck_Effect_of_2_quiet (pe_glob (v := .ref _) (by rfl) T.mg_Effect rfl) (hr.mono (by decide)) pass0 (pa_cons (pv 2) (pa_cons (pv 3) pa_nil)) (pk_cons pe_bl pk_nil)) pa_nil)) (by rfl))
 (pss_cons (ps_for PassesOwn.never rfl (pi_tup (pe_callC c__law_states (hr.mono (by decide)) (by rfl) pass0 (pa_cons (pv 1) pa_nil))) (pg_name (i := 6) sc__law_kind_right.nd rfl (by first | exact Or.inl rfl | exact Or.inr rfl))
 (pss_cons (ps_set (i := 7) sc__law_kind_right.nd rfl (by first | exact Or.inl rfl | exact Or.inr rfl) (pe_callC c__law_set_up (hr.mono (by decide)) (by rfl) pass0 (pa_cons (pv 2) (pa_cons (pv 6) pa_nil))))
 (Evl.pss_cut (ps_if (pt_cmpR op_notN (pv 7) pe_non (nomark _)) (pss_cons (ps_setLc (i := 8) (own := [("_law_turn", 9)]) (g := gName 9) (tt := tYes) (by rfl) sc__law_kind_right.nd rfl rfl (sw_true rfl rfl rfl (by decide +kernel)) (pi_range1 rfl T.z_range (pa_cons (pe_op op_add (pe_callB call_len_str (by rfl) T.z_len (by decide +kernel) (pa_cons (pv 3) pa_nil)) pe_int) pa_nil)) (blkOk_by (own := [("_law_turn", 9)]) (N := ["_law_pen_here", "_law_words_here", "_law_kind", "_law_letters_here", "_law_effect", "_law_idle", "_law_state", "_law_bit", "_law_deeds_here", "_law_turn", "_law_end", "_law_pick", "_law_more", "_law_both"]) (sc := defScope s__law_kind_right) (by decide +kernel)) (fun _ _ _ _ _ => (pg_name (i := 9) sc__law_kind_right.nd rfl (by first | exact Or.inl rfl | exact Or.inr rfl))) (fun _ _ _ _ _ => pts_nil) (fun _ _ _ _ _ => (pe_callC c__law_draw (hr.mono (by decide)) (by rfl) pass0 (pa_cons (pv 0) (pa_cons pe_int pa_nil)))))
 (pss_cons (ps_if (pt_cmpR op_notIn_seq (pe_callC c__law_led (hr.mono (by decide)) (by rfl) pass0 (pa_cons (pv 7) (pa_cons (pv 3) (pa_cons (pv 8) pa_nil)))) (KC.pe_callO call_Effect (hr.mono (by decide)) pass0 (pv 4) (pa_cons (pv 6) pa_nil)) (by rfl)) (pss_one (ps_ret pe_bl))
 pss_nil)
 (pss_one (ps_if (pt_cmpR (op_neD hr.units) (pe_tup (pa_cons (pe_callC c__law_led (hr.mono (by decide)) (by rfl) pass0 (pa_cons (pe_callC c__law_set_up (hr.mono (by decide)) (by rfl) pass0 (pa_cons (pv 2) (pa_cons (pv 6) pa_nil))) (pa_cons (pv 3) (pa_cons (pe_op op_rep (pe_lst (pa_cons pe_int pa_nil)) (pe_op op_add (pe_callB call_len_str (by rfl) T.z_len (by decide +kernel) (pa_cons (pv 3) pa_nil)) pe_int)) pa_nil)))) pa_nil)) (KC.pe_callO call_Effect (hr.mono (by decide)) pass0 (pv 5) (pa_cons (pv 6) pa_nil)) (nomark _)) (pss_one (ps_ret pe_bl))
 pss_nil))))
 pss_nil)
 (pss_one (ps_for PassesOwn.never rfl (pi_tup (pe_callC c__law_states (hr.mono (by decide)) (by rfl) pass0 (pa_cons (pv 1) pa_nil))) (pg_name (i := 10) sc__law_kind_right.nd rfl (by first | exact Or.inl rfl | exact Or.inr rfl))
 (pss_cons (ps_set (i := 11) sc__law_kind_right.nd rfl (by first | exact Or.inl rfl | exact Or.inr rfl) (pe_callC c__law_way (hr.mono (by decide)) (by rfl) pass0 (pa_cons (pv 1) (pa_cons (pv 6) (pa_cons (pv 10) (pa_cons (pv 3) pa_nil))))))
 (pss_cons (ps_if (pt_cmpR op_ne (pe_cmpR op_notN (pv 11) pe_non (nomark _)) (pe_cmpR op_in_seq (pv 10) (KC.pe_callO call_Effect (hr.mono (by decide)) pass0 (pv 4) (pa_cons (pv 6) pa_nil)) (by rfl)) (nomark _)) (pss_one (ps_ret pe_bl))
 pss_nil)
 (pss_one (ps_if (PW.pt (pw_and (pt_cmpR op_notN (pv 11) pe_non (nomark _)) (pw_and1 (pt_cmpR op_notN (pv 7) pe_non (nomark _))))) (pss_one (ps_if (pt_cmpR op_ne (pe_callC c__law_led (hr.mono (by decide)) (by rfl) pass0 (pa_cons (pe_callC c__law_set_up (hr.mono (by decide)) (by rfl) pass0 (pa_cons (pv 2) (pa_cons (pv 6) pa_nil))) (pa_cons (pv 3) (pa_cons (pv 11) pa_nil)))) (pv 10) (nomark _)) (pss_one (ps_ret pe_bl))
 pss_nil))
 pss_nil)))))))))
 (pss_cons (ps_set (i := 12) sc__law_kind_right.nd rfl (by first | exact Or.inl rfl | exact Or.inr rfl) (pe_callC c__law_letters (hr.mono (by decide)) (by rfl) pass0 (pa_cons (pv 0) (pa_cons pe_int pa_nil))))
 (pss_cons (ps_set (i := 13) sc__law_kind_right.nd rfl (by first | exact Or.inl rfl | exact Or.inr rfl) (pe_op (KH.op_bin2 b2_Effect_mul (hr.mono (by decide)) passL) (pv 4) (KU.pe_cmethK ck_Effect_of_2_ (pe_glob (v := .ref _) (by rfl) T.mg_Effect rfl) (hr.mono (by decide)) pass0 (pa_cons (pv 2) (pa_cons (pv 12) pa_nil)) pk_nil)))
 (pss_one (ps_ret (pe_cmpR (KO.op_eqO eq_Effect (hr.mono (by decide))) (pv 13) (KU.pe_cmethK ck_Effect_of_2_ (pe_glob (v := .ref _) (by rfl) T.mg_Effect rfl) (hr.mono (by decide)) pass0 (pa_cons (pv 2) (pa_cons (pe_op op_add_str (pv 3) (pv 12)) pa_nil)) pk_nil) (nomark _))))))))))), at_start (σ := [some (.ref pen), none, none, none, none, none, none, none, none, none, none, none, none, none]) rfl ?_⟩
    try dsimp only [cx_K]
    walk_at "rd"
    refine ⟨pen, c, n + 297, rfl, pn.mono (by omega), fun r w d H1 wa hr1 hw1 hd1 pn1 kp1 ewd => ?_⟩
    walk_at "rd"
    refine fun k dx nx ndx nxd => ⟨k, dx, r, w, d, rfl, hr1, hw1, hd1, upd_same, fun H2 kd2 kpk => ⟨rfl, ?_⟩⟩
    have s2 : Same H1 H2 := fun b o e => kpk b o (by rw [upd_ne (ne_of_none e nx), upd_ne (ne_of_none e ndx)]; exact e) (ne_of_none e nx)
    have pn2 := pn1.up s2
    have kp2 := kp1.tr (Keep.same (p := pen) s2)
    have ewd2 := s2 _ _ ewd
    clear kpk nx ndx nxd s2 pn1 kp1 ewd
    walk_at "rd"
    refine ⟨pen, c, n + 240, 10, 10, rfl, Nat.le_refl 10, (show (8 : Nat) ≤ 10 by decide), (show (10 : Nat) ≤ 40 by decide), pn2.mono (by omega), fun z H3 lz pn3 kp3 => ?_⟩
    have kd3 := kd2.sn (kp3.sn pn2)
    have ewd3 := (kp3.sn pn2).tup ewd2
    have kp03 := kp2.tr kp3
    have hz := lz.lets (by decide)
    clear pn2 kp2 kp3 ewd2 kd2
    walk_at "rd"
    refine KU.r_cmethK ?_
    walk_at "rd"
    refine ⟨rfl, ?_⟩
    walk_at "rd"
    refine ⟨⟨rfl, rfl⟩, of_of kd3 hr1 hw1 hd1 hz fun H4 ef s4 E4 => ?_⟩
    refine KU.r_cmethK ?_
    walk_at "rd"
    refine ⟨rfl, ?_⟩
    walk_at "rd"
    refine ⟨⟨rfl, rfl⟩, of_of (kd3.up s4) hr1 hw1 hd1 hz fun H5 id5 s5 E5 => ?_⟩
    have S5 : Lw C CE pen c wa k ef id5 (n + 240) r w d z.cps.toList H5 := ⟨pn3.up (s4.trans s5), (s4.trans s5) _ _ ewd3, kd3.up (s4.trans s5), E4.up s5, E5⟩
    have kp5 : Keep pen H H5 := kp03.tr (Keep.same (s4.trans s5))
    clear pn3 ewd3 kd3 E4 E5 s4 s5 kp03
    have lz10 : z.cps.toList.length ≤ 10 := by rw [Array.length_toList]; exact lz.1
    walk_at "rd"
    refine ⟨_, _, rfl, ?_⟩
    walk_at "rd"
    refine ⟨wa, r, w, d, rfl, ⟨S5.wd, hr1, hw1, hd1⟩, fun H6 st s6 est => ?_⟩
    have S6 := S5.up s6
    have kp6 := kp5.tr (Keep.same (p := pen) s6)
    clear S5 kp5 s6
    refine ⟨st, rfl, ⟨_, SqT.of est⟩, ?_⟩
    have sl := states_len w
    refine forW (walk_tup (xs := (statesOf w).map V.int)) (fun i σ' H' => ∃ (y6 y7 y8 y10 y11 : Option V), σ' = [some (.ref pen), some (.ref wa), some (.ref k), some (.str z), some (.ref ef), some (.ref id5), y6, y7, y8, none, y10, y11, none, none] ∧ Lw C CE pen c wa k ef id5 (n + 240 - 20 * i) r w d z.cps.toList H' ∧ Keep pen H H' ∧ H' st = some (.tup ((statesOf w).map V.int)))
      ⟨_, _, _, _, _, rfl, S6, kp6, est⟩ (fun _ _ _ _ ⟨_, _, _, _, _, _, _, _, g⟩ => SqT.of g) ?_ ?_
    · clear S6 kp6
      rintro i x σ' _ H7 hi ⟨y6, y7, y8, y10, y11, rfl, S7, kp7, est7⟩ ⟨rfl, hx⟩
      rw [List.length_map] at hi
      rw [List.getElem?_map] at hx
      obtain ⟨sv, hsv, rfl⟩ := Option.map_eq_some_iff.mp hx
      have msv := List.mem_of_getElem? hsv
      have s4v := states_s4 sv msv
      obtain rfl := states_at hsv
      have hi4 : i < 4 := by omega
      walk_at "rd"
      refine ⟨k, r, w, d, (i : Int), rfl, S7.kd, msv, fun b H8 s8 nkb kb8 nb => ?_⟩
      have S8 := S7.up s8
      have kp8 := kp7.tr (Keep.same (p := pen) s8)
      have est8 := s8 _ _ est7
      have hb8 : H7 b = none := nb
      walk_at "rd"
      refine ⟨fun σ' H' => ∃ (y8 : Option V), σ' = [some (.ref pen), some (.ref wa), some (.ref k), some (.str z), some (.ref ef), some (.ref id5), some (.int (i : Nat)), some (.ref b), y8, none, y10, y11, none, none] ∧ Lw C CE pen c wa k ef id5 (n + 240 - 20 * (i + 1)) r w d z.cps.toList H' ∧ Keep pen H H' ∧ H' st = some (.tup ((statesOf w).map V.int)), ?_, ?_⟩
      · walk_at "rd"
        rw [decide_eq_false (show ¬ V.ref b = V.non from fun z => by cases z)]
        walk_at "rd"
        refine ⟨z, rfl, Nat.le_trans (show z.length ≤ 10 from lz.1) (by decide), ?_⟩
        have zl : z.length = z.cps.toList.length := by rw [Array.length_toList]; rfl
        walk_at "rd"
        refine ⟨by omega, by omega, ?_⟩
        rw [show ((z.length : Int) + 1).toNat = z.cps.toList.length + 1 by omega]
        refine lc_pen (walk_range (lo := 0) (n := z.cps.toList.length + 1)) (pen := pen) (c := c) (fun _ v _ => ∃ m : Nat, m ≤ 2 ∧ v = .int (m : Nat)) (fun j => n + 240 - 20 * i - j) (by omega) S8.pn (fun _ _ _ _ g _ => g) (fun _ _ => trivial) (fun j x Ha Ha' N B hj kpa pna y qN => ?_) (fun D H9 ys nD kp9 pn9 eD ly hy => ?_)
        · obtain ⟨rfl, rfl⟩ := y
          walk_at "rd"
          refine ⟨rfl, KD.r_yes (iteT ?_)⟩
          walk_at "rd"
          refine ⟨pen, c, 3, n + 240 - 20 * i - (j + 1), rfl, by decide, by decide, pna.mono (by omega), fun m Hb m0 m1 pnb kpb => ?_⟩
          exact qN _ _ kpb pnb ⟨m.toNat, by omega, by rw [Int.toNat_of_nonneg m0]⟩
        obtain ⟨ds, rfl, lds, hds⟩ := choose_list (f := fun m : Nat => V.int (m : Nat)) (Pr := fun _ m => m ≤ 2) ys hy
        rw [List.length_map] at ly
        have S9 := S8.draw (pn9.mono (show n + 240 - 20 * (i + 1) ≤ n + 240 - 20 * i - (z.cps.toList.length + 1) by omega)) kp9
        have kb9 := kb8.sn (kp9.sn S8.pn)
        have est9 := (kp9.sn S8.pn).tup est8
        have kp09 := kp8.tr kp9
        clear S8 kp9 hy pn9 nD kb8 est8 kp8
        walk_at "rd"
        refine ⟨b, k, D, r, w, d, z, (i : Int), ds, rfl, kb9, nkb, hd1, hz, .inl eD, ly, fun m mm => ?_, fun H10 kp10 => ?_⟩
        · obtain ⟨j, hj, ej⟩ := List.getElem_of_mem mm
          exact Nat.le_trans (hds j m (by rw [List.getElem?_eq_getElem hj, ej])) (by decide)
        have S10 := S9.act kb9 nkb kp10
        have kp010 : Keep pen H H10 := fun o u e n => kp10 _ _ (kp09 _ _ e n) (ne_of_none (kp7 _ _ e n) hb8)
        have est10 : H10 st = some (.tup ((statesOf w).map V.int)) := kp10 _ _ est9 (ne_of_none est7 hb8)
        clear S9 kp10 kb9 est9 kp09 eD hds ly lds
        refine KC.r_callO ?_
        obtain ⟨dxe, ke, ee, hef, kde, rae⟩ := id S10.ef
        walk_at "rd"
        refine ⟨ef, dxe, _, rfl, hef, ?_⟩
        walk_at "rd"
        refine ⟨hef, ef, _, _, _, _, i, _, rfl, S10.ef, rows_at hsv, fun e11 he11 => ?_⟩
        refine r_notInI (.inr (SqT.of he11)) ?_
        rw [decide_eq_true (led_row hr1 hw1 hd1 hz.2 s4v)]
        walk_at "rd"
        clear hef kde rae he11
        refine ⟨k, r, w, d, (i : Int), rfl, S10.kd, msv, fun b2 H11 s11 nkb2 kb11 nb2 => ?_⟩
        have S11 := S10.up s11
        have est11 := s11 _ _ est10
        walk_at "rd"
        refine ⟨by walk_at "sz", fun l1 nl1 => ?_⟩
        walk_at "rd"
        refine ⟨z, rfl, Nat.le_trans (show z.length ≤ 10 from lz.1) (by decide), ?_⟩
        walk_at "rd"
        refine ⟨l1, _, _, rfl, rfl, upd_same, by omega, by omega, ?_, fun D2 nD2 => ?_⟩
        · rw [show ((z.length : Int) + 1).toNat = z.cps.toList.length + 1 by omega]
          show 1 * (z.cps.toList.length + 1) ≤ sizeLine
          exact Nat.le_trans (show 1 * (z.cps.toList.length + 1) ≤ 11 by omega) (by decide)
        rw [show ((z.length : Int) + 1).toNat = z.cps.toList.length + 1 by omega, zeros_flat]
        have s12 := (same_new (o := .lst [.int 0]) nl1).trans (same_new (o := .lst ((List.replicate (z.cps.toList.length + 1) 0).map fun m : Nat => V.int (m : Nat))) nD2)
        have eD2 : upd (upd H11 l1 (.lst [.int 0])) D2 (.lst ((List.replicate (z.cps.toList.length + 1) 0).map fun m : Nat => V.int (m : Nat))) D2 = some (.lst ((List.replicate (z.cps.toList.length + 1) 0).map fun m : Nat => V.int (m : Nat))) := upd_same
        generalize upd (upd H11 l1 (.lst [.int 0])) D2 (.lst ((List.replicate (z.cps.toList.length + 1) 0).map fun m : Nat => V.int (m : Nat))) = H12 at s12 eD2 ⊢
        have S12 := S11.up s12
        have kb12 := kb11.up s12
        have est12 := s12 _ _ est11
        clear nl1 nD2 S11 kb11 est11
        walk_at "rd"
        refine ⟨b2, k, D2, r, w, d, z, (i : Int), List.replicate (z.cps.toList.length + 1) 0, rfl, kb12, nkb2, hd1, hz, .inl eD2, by rw [List.length_replicate], fun m mm => by rw [List.eq_of_mem_replicate mm]; exact Nat.zero_le _, fun H13 kp13 => ?_⟩
        have S13 := S12.act kb12 nkb2 kp13
        have kp013 : Keep pen H H13 := fun o u e n => kp13 _ _ (s12 _ _ (s11 _ _ (kp010 _ _ e n))) (ne_of_none (kp010 _ _ e n) nb2)
        have est13 : H13 st = some (.tup ((statesOf w).map V.int)) := kp13 _ _ est12 (ne_of_none est10 nb2)
        clear S12 kp13 kb12 est12 eD2 s12 s11 S10 kp010 est10
        walk_at "rd"
        refine ⟨by walk_at "sz", fun t nt => ?_⟩
        refine KC.r_callO ?_
        have S14 := S13.up (same_new (o := .tup [.int (ledE r w d z.cps.toList (List.replicate (z.cps.toList.length + 1) 0) (i : Int))]) nt)
        have est14 := same_new (o := .tup [.int (ledE r w d z.cps.toList (List.replicate (z.cps.toList.length + 1) 0) (i : Int))]) nt _ _ est13
        have kp014 := kp013.tr (Keep.same (p := pen) (same_new (o := .tup [.int (ledE r w d z.cps.toList (List.replicate (z.cps.toList.length + 1) 0) (i : Int))]) nt))
        obtain ⟨dxi, ki, ei, hei, kdi, rai⟩ := id S14.id_
        walk_at "rd"
        refine ⟨id5, dxi, _, rfl, hei, ?_⟩
        walk_at "rd"
        refine ⟨hei, id5, _, _, _, _, i, _, rfl, S14.id_, rows_at hsv, fun e15 he15 => ?_⟩
        refine KB.r_neIntsT (ns := [ledE r w d z.cps.toList (List.replicate (z.cps.toList.length + 1) 0) (i : Int)]) (SqT.of upd_same) (SqT.of he15) ?_
        rw [led_idle (ds := List.replicate (z.cps.toList.length + 1) 0) hr1 hw1 hd1 hz.2 s4v (zeros_at _), decide_eq_true rfl]
        walk_at "rd"
        exact ⟨_, rfl, S14, kp014, est14⟩
      · clear S8 kp8 kb8 est8 S7 kp7 est7
        rintro σ' H8 ⟨y8, rfl, S8, kp8, est8⟩
        walk_at "rd"
        refine ⟨wa, r, w, d, rfl, ⟨S8.wd, hr1, hw1, hd1⟩, fun H9 st2 s9 est2 => ?_⟩
        have S9 := S8.up s9
        have est9 := s9 _ _ est8
        have kp9 := kp8.tr (Keep.same (p := pen) s9)
        clear S8 est8 kp8 s9
        refine ⟨st2, rfl, ⟨_, SqT.of est2⟩, ?_⟩
        refine forW (walk_tup (xs := (statesOf w).map V.int)) (fun j σ' H' => ∃ (y10 y11 : Option V), σ' = [some (.ref pen), some (.ref wa), some (.ref k), some (.str z), some (.ref ef), some (.ref id5), some (.int (i : Nat)), some (.ref b), y8, none, y10, y11, none, none] ∧ Lw C CE pen c wa k ef id5 (n + 240 - 20 * (i + 1)) r w d z.cps.toList H' ∧ Keep pen H H' ∧ H' st = some (.tup ((statesOf w).map V.int)) ∧ H' st2 = some (.tup ((statesOf w).map V.int)))
          ⟨_, _, rfl, S9, kp9, est9, est2⟩ (fun _ _ _ _ ⟨_, _, _, _, _, _, g⟩ => SqT.of g) ?_ ?_
        · clear S9 kp9 est9 est2
          rintro j x σ' _ H10 hj ⟨y10, y11, rfl, S10, kp10, est10, esu10⟩ ⟨rfl, hx⟩
          rw [List.getElem?_map] at hx
          obtain ⟨ev, hev, rfl⟩ := Option.map_eq_some_iff.mp hx
          walk_at "rd"
          refine ⟨wa, r, w, d, (i : Int), ev, z, rfl, S10.wd, hr1, hw1, hd1, s4v, hz, fun H11 s11 no => ?_, fun ds D H11 s11 eD lds few led => ?_⟩
          · have S11 := S10.up s11
            walk_at "rd"
            rw [decide_eq_true rfl]
            refine KC.r_callO ?_
            obtain ⟨dxe, ke, ee, hef, kde, rae⟩ := id S11.ef
            walk_at "rd"
            refine ⟨ef, dxe, _, rfl, hef, ?_⟩
            walk_at "rd"
            refine ⟨hef, ef, _, _, _, _, i, _, rfl, S11.ef, rows_at hsv, fun e12 he12 => ?_⟩
            refine r_inI (.inr (SqT.of he12)) ?_
            rw [decide_eq_false no]
            walk_at "rd"
            rw [decide_eq_true (show V.bl (!true) = V.bl false from rfl)]
            walk_at "rd"
            exact ⟨_, _, rfl, S11, kp10.tr (Keep.same s11), s11 _ _ est10, s11 _ _ esu10⟩
          · have S11 := S10.up s11
            have kp11 := kp10.tr (Keep.same (p := pen) s11)
            have est11 := s11 _ _ est10
            have esu11 := s11 _ _ esu10
            clear S10 kp10 est10 esu10 s11
            have nD : decide (V.ref D = V.non) = false := decide_eq_false fun z => by cases z
            have nB : decide (V.ref b = V.non) = false := decide_eq_false fun z => by cases z
            walk_at "rd"
            rw [nD]
            refine KC.r_callO ?_
            obtain ⟨dxe, ke, ee, hef, kde, rae⟩ := id S11.ef
            walk_at "rd"
            refine ⟨ef, dxe, _, rfl, hef, ?_⟩
            walk_at "rd"
            refine ⟨hef, ef, _, _, _, _, i, _, rfl, S11.ef, rows_at hsv, fun e12 he12 => ?_⟩
            refine r_inI (.inr (SqT.of he12)) ?_
            rw [decide_eq_true (by rw [← led]; exact led_row hr1 hw1 hd1 hz.2 s4v)]
            clear hef kde rae he12
            walk_at "rd"
            rw [decide_eq_true (show V.bl (!false) = V.bl true from rfl)]
            walk_at "rd"
            rw [nD]
            walk_at "rd"
            rw [nB]
            walk_at "rd"
            refine ⟨k, r, w, d, (i : Int), rfl, S11.kd, msv, fun b2 H13 s13 nkb2 kb13 nb2 => ?_⟩
            have S13 := S11.up s13
            walk_at "rd"
            refine ⟨b2, k, D, r, w, d, z, (i : Int), ds, rfl, kb13, nkb2, hd1, hz, .inr (s13 _ _ eD), lds, fun m mm => Nat.le_trans (few m mm) (by decide), fun H14 kp14 => ?_⟩
            have S14 := S13.act kb13 nkb2 kp14
            have kp014 : Keep pen H H14 := fun o u e n => kp14 _ _ (s13 _ _ (kp11 _ _ e n)) (ne_of_none (kp11 _ _ e n) nb2)
            have est14 : H14 st = some (.tup ((statesOf w).map V.int)) := kp14 _ _ (s13 _ _ est11) (ne_of_none est11 nb2)
            have esu14 : H14 st2 = some (.tup ((statesOf w).map V.int)) := kp14 _ _ (s13 _ _ esu11) (ne_of_none esu11 nb2)
            rw [led]
            walk_at "rd"
            rw [decide_eq_true rfl]
            walk_at "rd"
            exact ⟨_, _, rfl, S14, kp014, est14, esu14⟩
        · rintro σ' H10 ⟨y10, y11, rfl, S10, kp10, est10, esu10⟩
          exact ⟨_, _, _, _, _, rfl, S10, kp10, est10⟩
    · rintro σ' H7 ⟨y6, y7, y8, y10, y11, rfl, S7, kp7, _⟩
      clear S6 kp6 est
      rw [List.length_map] at S7
      walk_at "rd"
      refine ⟨pen, c, n, 6, 8, rfl, (show (6 : Nat) ≤ 8 by decide), (show (8 : Nat) ≤ 8 by decide), (show (8 : Nat) ≤ 40 by decide), S7.pn.mono (by omega), fun z2 H8 lz2 pn8 kp8 => ?_⟩
      have S8 := S7.draw pn8 kp8
      have kp08 := kp7.tr kp8
      clear S7 kp7 kp8 pn8
      have hz2 := lz2.lets (by decide)
      walk_at "rd"
      refine KU.r_cmethK ?_
      walk_at "rd"
      refine ⟨rfl, ?_⟩
      walk_at "rd"
      refine ⟨⟨rfl, rfl⟩, of_of S8.kd hr1 hw1 hd1 hz2 fun H9 f2 s9 E9 => ?_⟩
      have S9 := S8.up s9
      have kp09 := kp08.tr (Keep.same (p := pen) s9)
      obtain ⟨dx1, k1, e1, h1, _⟩ := id S9.ef
      obtain ⟨dx2, k2, e2, h2, _⟩ := id E9
      refine ⟨ef, dx1, _, f2, dx2, _, rfl, h1, rfl, h2, ef, f2, r, w, d, r, w, d, _, _, k2, rfl, S9.ef, E9, ⟨dx2, e2, h2⟩, fun _ => rows_shape hr1 hw1 hd1 hz.2, fun no => absurd ⟨rfl, rfl, rfl⟩ no, fun _ H10 x s10 E10 => ?_⟩
      rw [mul_rows hr1 hw1 hd1 hz.2 hz2.2] at E10
      have S10 := S9.up s10
      have kp010 := kp09.tr (Keep.same (p := pen) s10)
      clear h1 h2 E9 S9 kp09 S8 kp08 s9 s10
      walk_at "rd"
      refine KU.r_cmethK ?_
      walk_at "rd"
      refine ⟨rfl, ?_⟩
      walk_at "rd"
      have ln : ∀ y : Str, y.length = y.cps.toList.length := fun y => by rw [Array.length_toList]; rfl
      have cat : (z ++ z2).cps.toList = z.cps.toList ++ z2.cps.toList := by
        show (z.cps ++ z2.cps).toList = _
        simp
      have hz3 : Lets (z ++ z2) := by
        refine ⟨?_, fun x m => ?_⟩
        · have := ln (z ++ z2)
          rw [cat, List.length_append] at this
          have a1 := ln z
          have a2 := ln z2
          have b1 := lz.1
          have b2 := lz2.1
          show (z ++ z2).length ≤ 40
          have c1 : z.length ≤ 10 := b1
          have c2 : z2.length ≤ 8 := b2
          omega
        · rw [cat] at m
          rcases List.mem_append.mp m with m | m
          · exact hz.2 x m
          · exact hz2.2 x m
      refine r_addS ?_ ?_
      · have c1 : z.length ≤ 10 := lz.1
        have c2 : z2.length ≤ 8 := lz2.1
        exact Nat.le_trans (Nat.add_le_add c1 c2) (by decide)
      walk_at "rd"
      refine ⟨⟨rfl, rfl⟩, of_of S10.kd hr1 hw1 hd1 hz3 fun H11 f3 s11 E11 => ?_⟩
      rw [cat] at E11
      refine eff_eq nfE (E10.up s11) E11 ?_
      rw [decide_eq_true rfl]
      exact q H11 (S10.pn.up s11) (kp010.tr (Keep.same s11))
end
end K16


namespace K16
open PySem L2 KB KO KY KV KW
def spLaw (K : PySem.W.Frag) : Sp := fun vs H Q _ => ∃ (a : Addr) (ns : List Int), vs = [.ref a] ∧ SqL K H a (ns.map V.int) ∧ ns.length ≤ 63 ∧ ∀ H', Q (.bl true) H'

section
variable {P : Program} {w : World} {K : PySem.W.Frag} {mg : Str → Option Value} {base : Heap}
theorem ok_law {f : Addr} {fd : FuncData} (F : Fun K "law" "law" s_law f fd) (T : Txt mg) (c__law_kind_right : KB.Callee P w K mg base CX0 10 "_law_kind_right" ["_law_pen_here"] spKR) (c__law_pen : KB.Callee P w K mg base CX0 1 "_law_pen" ["_law_script"] (spPen K)) :
    KG.FnG P w K mg base CX0 12 f fd ["_law_script"] (spLaw K) := by
  refine KG.fun_okG F sc_law (fun vs H Q E h => ?_) (fun cdv A outer s H vs Q E hr fr h => ?_)
  · obtain ⟨a, ns, rfl, _⟩ := h
    rfl
  · obtain ⟨a, ns, rfl, hS, hlen, q⟩ := h
    refine ⟨_, (pss_cons (ps_set (i := 1) sc_law.nd rfl (by first | exact Or.inl rfl | exact Or.inr rfl) (pe_callC c__law_pen (hr.mono (by decide)) (by rfl) pass0 (pa_cons (pv 0) pa_nil)))
 (pss_one (ps_ret (pe_and (pe_callC c__law_kind_right (hr.mono (by decide)) (by rfl) pass0 (pa_cons (pv 1) pa_nil)) (pe_one (pe_callC c__law_kind_right (hr.mono (by decide)) (by rfl) pass0 (pa_cons (pv 1) pa_nil))))))), at_start (σ := [some (.ref a), none]) rfl ?_⟩
    try dsimp only [cx_K]
    walk_at "rd"
    refine ⟨a, ns, rfl, hS, hlen, fun H1 pen pc s1 n1 n1c pn => ?_⟩
    walk_at "rd"
    refine ⟨pen, pc, 300, rfl, pn.mono (by omega), fun H2 pn2 _ => ?_⟩
    walk_at "rd"
    refine ⟨pen, pc, 0, rfl, pn2, fun H3 _ _ => ?_⟩
    exact q H3
end
end K16


namespace K16
open PySem L2 KB KO KV KW KY KR
abbrev s_I2 : Stmt := inClass (top 3) 0
abbrev s_I4 : Stmt := inClass (top 4) 0
theorem sqK {K : PySem.W.Frag} {a : Addr} {dd : Option Addr} {its : Array Value} {n : Nat} {sl : Array (Option Value)} {xs : List V} (h : K.lookup a = some ⟨.type "tuple", dd, .seq its n, sl⟩) (hz : its.size ≤ 100) (r : Vals xs its.toList) : ∀ H, SqT K H a xs :=
  fun _ => .inr ⟨_, its, n, h, rfl, rfl, Nat.le_trans hz (by decide), r⟩
theorem vals_rev : ∀ {xs : List V} {us : List Value}, Vals xs us → Vals xs.reverse us.reverse
  | _, _, .nil => .nil
  | _, _, .cons h t => by
    rw [List.reverse_cons, List.reverse_cons]
    exact (vals_rev t).append (.cons h .nil)
theorem free_only {sc : Scope} {x : Str} (h : ∀ z ∈ sc.names, z.2 = .free → z.1 = x) : ∀ y, sc.names.lookup y = some .free → y = x := fun y e => h (y, .free) (PySem.mem_of_lookup e) rfl
theorem all_mk {l : PySem.W.OpenLaw} {w : World} {K : PySem.W.Frag} {h : Heap} {mg : Str → Option Value} {fa C_Kind t_Kind_READINGS t_Kind_WRITINGS t_Kind_DEVICES C_Effect C_Bit C_KindBit f_Kind___init__ f_Kind___eq__ f_Kind_after_read f_Kind_after_write f_Kind_unguarded f_Kind_deeds f_need_letters f_need_same_kind f_with_deeds f_after_letter f_longer f_Effect___init__ f_Effect_of D_Effect_of p_Effect_of f_Effect___call__ f_Effect___mul__ f_Effect___eq__ f_is_integer f_need_bit f_Bit___init__ DT_Bit___init__ f_Bit_now p_Bit_now f_Bit_state p_Bit_state f_KindBit_read f_KindBit_write f_KindBit_deed f__law_pen f__law_draw f__law_write f__law_read f__law_deeds f__law_words f__law_states f__law_letters f__law_set_up f__law_led f__law_way f__law_letter f__law_kind_right f_law dM a_m0 a_m1 a_m2 a_m3 N_Kind N_Effect f_KindBit___init__ cda_KindBit___init__ cc_KindBit___init__ DT_KindBit___init__ e2 e4 cda2 ccell2 fI2 N_E2 cda4 ccell4 fI4 N_E4 : Addr} (X : K.In h) (G : h.Ns mainGlobals mg) (hfa : mg "law" = some (.ref fa))
    {dd_t_Kind_READINGS : Option Addr} {n_t_Kind_READINGS : Nat} {sl_t_Kind_READINGS : Array (Option Value)}
    {k_t_Kind_READINGS_0 k_t_Kind_READINGS_1 : Tok}
    {dd_t_Kind_WRITINGS : Option Addr} {n_t_Kind_WRITINGS : Nat} {sl_t_Kind_WRITINGS : Array (Option Value)}
    {k_t_Kind_WRITINGS_0 k_t_Kind_WRITINGS_1 k_t_Kind_WRITINGS_2 k_t_Kind_WRITINGS_3 k_t_Kind_WRITINGS_4 k_t_Kind_WRITINGS_5 k_t_Kind_WRITINGS_6 : Tok}
    {dd_t_Kind_DEVICES : Option Addr} {n_t_Kind_DEVICES : Nat} {sl_t_Kind_DEVICES : Array (Option Value)}
    {k_t_Kind_DEVICES_0 k_t_Kind_DEVICES_1 k_t_Kind_DEVICES_2 k_t_Kind_DEVICES_3 : Tok}
    {od_Kind___init__ an_Kind___init__ : Option Addr} {sl_Kind___init__ : Array (Option Value)} {oc_Kind___init__ kV_Kind___init__ dc_Kind___init__ pm_Kind___init__ cd_Kind___init__ ct_Kind___init__ : Value}
    {od_Kind___eq__ an_Kind___eq__ : Option Addr} {sl_Kind___eq__ : Array (Option Value)} {oc_Kind___eq__ kV_Kind___eq__ dc_Kind___eq__ pm_Kind___eq__ cd_Kind___eq__ ct_Kind___eq__ : Value}
    {od_Kind_after_read an_Kind_after_read : Option Addr} {sl_Kind_after_read : Array (Option Value)} {oc_Kind_after_read kV_Kind_after_read dc_Kind_after_read pm_Kind_after_read cd_Kind_after_read ct_Kind_after_read : Value}
    {od_Kind_after_write an_Kind_after_write : Option Addr} {sl_Kind_after_write : Array (Option Value)} {oc_Kind_after_write kV_Kind_after_write dc_Kind_after_write pm_Kind_after_write cd_Kind_after_write ct_Kind_after_write : Value}
    {od_Kind_unguarded an_Kind_unguarded : Option Addr} {sl_Kind_unguarded : Array (Option Value)} {oc_Kind_unguarded kV_Kind_unguarded dc_Kind_unguarded pm_Kind_unguarded cd_Kind_unguarded ct_Kind_unguarded : Value}
    {od_Kind_deeds an_Kind_deeds : Option Addr} {sl_Kind_deeds : Array (Option Value)} {oc_Kind_deeds kV_Kind_deeds dc_Kind_deeds pm_Kind_deeds cd_Kind_deeds ct_Kind_deeds : Value}
    {od_need_letters an_need_letters : Option Addr} {sl_need_letters : Array (Option Value)} {oc_need_letters kV_need_letters dc_need_letters pm_need_letters cd_need_letters ct_need_letters : Value}
    {od_need_same_kind an_need_same_kind : Option Addr} {sl_need_same_kind : Array (Option Value)} {oc_need_same_kind kV_need_same_kind dc_need_same_kind pm_need_same_kind cd_need_same_kind ct_need_same_kind : Value}
    {od_with_deeds an_with_deeds : Option Addr} {sl_with_deeds : Array (Option Value)} {oc_with_deeds kV_with_deeds dc_with_deeds pm_with_deeds cd_with_deeds ct_with_deeds : Value}
    {od_after_letter an_after_letter : Option Addr} {sl_after_letter : Array (Option Value)} {oc_after_letter kV_after_letter dc_after_letter pm_after_letter cd_after_letter ct_after_letter : Value}
    {od_longer an_longer : Option Addr} {sl_longer : Array (Option Value)} {oc_longer kV_longer dc_longer pm_longer cd_longer ct_longer : Value}
    {od_Effect___init__ an_Effect___init__ : Option Addr} {sl_Effect___init__ : Array (Option Value)} {oc_Effect___init__ kV_Effect___init__ dc_Effect___init__ pm_Effect___init__ cd_Effect___init__ ct_Effect___init__ : Value}
    {od_Effect_of an_Effect_of : Option Addr} {sl_Effect_of : Array (Option Value)} {oc_Effect_of dc_Effect_of pm_Effect_of cd_Effect_of ct_Effect_of : Value}
    {rs_Effect_of : List Value}
    {od_Effect___call__ an_Effect___call__ : Option Addr} {sl_Effect___call__ : Array (Option Value)} {oc_Effect___call__ kV_Effect___call__ dc_Effect___call__ pm_Effect___call__ cd_Effect___call__ ct_Effect___call__ : Value}
    {od_Effect___mul__ an_Effect___mul__ : Option Addr} {sl_Effect___mul__ : Array (Option Value)} {oc_Effect___mul__ kV_Effect___mul__ dc_Effect___mul__ pm_Effect___mul__ cd_Effect___mul__ ct_Effect___mul__ : Value}
    {od_Effect___eq__ an_Effect___eq__ : Option Addr} {sl_Effect___eq__ : Array (Option Value)} {oc_Effect___eq__ kV_Effect___eq__ dc_Effect___eq__ pm_Effect___eq__ cd_Effect___eq__ ct_Effect___eq__ : Value}
    {od_is_integer an_is_integer : Option Addr} {sl_is_integer : Array (Option Value)} {oc_is_integer kV_is_integer dc_is_integer pm_is_integer cd_is_integer ct_is_integer : Value}
    {od_need_bit an_need_bit : Option Addr} {sl_need_bit : Array (Option Value)} {oc_need_bit kV_need_bit dc_need_bit pm_need_bit cd_need_bit ct_need_bit : Value}
    {od_Bit___init__ an_Bit___init__ : Option Addr} {sl_Bit___init__ : Array (Option Value)} {oc_Bit___init__ kV_Bit___init__ dc_Bit___init__ pm_Bit___init__ cd_Bit___init__ ct_Bit___init__ : Value}
    {dd_DT_Bit___init__ : Option Addr} {n_DT_Bit___init__ : Nat} {sl_DT_Bit___init__ : Array (Option Value)} {tk_Bit___init___0 : Tok}
    {od_Bit_now an_Bit_now : Option Addr} {sl_Bit_now : Array (Option Value)} {oc_Bit_now kV_Bit_now dc_Bit_now pm_Bit_now cd_Bit_now ct_Bit_now : Value}
    {rs_Bit_now : List Value}
    {od_Bit_state an_Bit_state : Option Addr} {sl_Bit_state : Array (Option Value)} {oc_Bit_state kV_Bit_state dc_Bit_state pm_Bit_state cd_Bit_state ct_Bit_state : Value}
    {rs_Bit_state : List Value}
    {od_KindBit_read an_KindBit_read : Option Addr} {sl_KindBit_read : Array (Option Value)} {oc_KindBit_read kV_KindBit_read dc_KindBit_read pm_KindBit_read cd_KindBit_read ct_KindBit_read : Value}
    {od_KindBit_write an_KindBit_write : Option Addr} {sl_KindBit_write : Array (Option Value)} {oc_KindBit_write kV_KindBit_write dc_KindBit_write pm_KindBit_write cd_KindBit_write ct_KindBit_write : Value}
    {od_KindBit_deed an_KindBit_deed : Option Addr} {sl_KindBit_deed : Array (Option Value)} {oc_KindBit_deed kV_KindBit_deed dc_KindBit_deed pm_KindBit_deed cd_KindBit_deed ct_KindBit_deed : Value}
    {od__law_pen an__law_pen : Option Addr} {sl__law_pen : Array (Option Value)} {oc__law_pen kV__law_pen dc__law_pen pm__law_pen cd__law_pen ct__law_pen : Value}
    {od__law_draw an__law_draw : Option Addr} {sl__law_draw : Array (Option Value)} {oc__law_draw kV__law_draw dc__law_draw pm__law_draw cd__law_draw ct__law_draw : Value}
    {od__law_write an__law_write : Option Addr} {sl__law_write : Array (Option Value)} {oc__law_write kV__law_write dc__law_write pm__law_write cd__law_write ct__law_write : Value}
    {od__law_read an__law_read : Option Addr} {sl__law_read : Array (Option Value)} {oc__law_read kV__law_read dc__law_read pm__law_read cd__law_read ct__law_read : Value}
    {od__law_deeds an__law_deeds : Option Addr} {sl__law_deeds : Array (Option Value)} {oc__law_deeds kV__law_deeds dc__law_deeds pm__law_deeds cd__law_deeds ct__law_deeds : Value}
    {od__law_words an__law_words : Option Addr} {sl__law_words : Array (Option Value)} {oc__law_words kV__law_words dc__law_words pm__law_words cd__law_words ct__law_words : Value}
    {od__law_states an__law_states : Option Addr} {sl__law_states : Array (Option Value)} {oc__law_states kV__law_states dc__law_states pm__law_states cd__law_states ct__law_states : Value}
    {od__law_letters an__law_letters : Option Addr} {sl__law_letters : Array (Option Value)} {oc__law_letters kV__law_letters dc__law_letters pm__law_letters cd__law_letters ct__law_letters : Value}
    {od__law_set_up an__law_set_up : Option Addr} {sl__law_set_up : Array (Option Value)} {oc__law_set_up kV__law_set_up dc__law_set_up pm__law_set_up cd__law_set_up ct__law_set_up : Value}
    {od__law_led an__law_led : Option Addr} {sl__law_led : Array (Option Value)} {oc__law_led kV__law_led dc__law_led pm__law_led cd__law_led ct__law_led : Value}
    {od__law_way an__law_way : Option Addr} {sl__law_way : Array (Option Value)} {oc__law_way kV__law_way dc__law_way pm__law_way cd__law_way ct__law_way : Value}
    {od__law_letter an__law_letter : Option Addr} {sl__law_letter : Array (Option Value)} {oc__law_letter kV__law_letter dc__law_letter pm__law_letter cd__law_letter ct__law_letter : Value}
    {od__law_kind_right an__law_kind_right : Option Addr} {sl__law_kind_right : Array (Option Value)} {oc__law_kind_right kV__law_kind_right dc__law_kind_right pm__law_kind_right cd__law_kind_right ct__law_kind_right : Value}
    {od_law an_law : Option Addr} {sl_law : Array (Option Value)} {oc_law kV_law dc_law pm_law cd_law ct_law : Value}
    {es_M : Array DictEntry} {n_M : Nat}
    {dd_0 dd_1 dd_2 dd_3 : Option Addr} {q_0 q_1 q_2 q_3 : Nat} {sl_0 sl_1 sl_2 sl_3 : Array (Option Value)} {tk_1 tk_2 tk_3 tk_4 : Tok}
    {nm_K qq_K : Str} {bs_K : List Value} {hd_K : Bool} {sn_K : List Str} {sub_K : List Value} {ab_K : Bool} {col_K : Option Bool} {dd_K : Option Addr} {k0_K k1_K k2_K k3_K k5_K : Option Value} {nid_K : String}
    {o_K o_N : PySem.Obj}
    {nm_F qq_F : Str} {bs_F : List Value} {hd_F : Bool} {sn_F : List Str} {sub_F : List Value} {ab_F : Bool} {col_F : Option Bool} {dd_F : Option Addr} {k0_F k1_F k2_F k3_F k5_F : Option Value} {nid_F : String}
    {o_F o_M : PySem.Obj} {tkL tkM : Tok}
    {od_KindBit___init__ an_KindBit___init__ cdd_KindBit___init__ cld_KindBit___init__ : Option Addr} {sl_KindBit___init__ ccs_KindBit___init__ csl_KindBit___init__ : Array (Option Value)} {oc_KindBit___init__ kV_KindBit___init__ dc_KindBit___init__ pm_KindBit___init__ ct_KindBit___init__ ccl_KindBit___init__ cl_KindBit___init__ : Value} {vs_KindBit___init__ : Array Value} {file_KindBit___init__ : Str} {tf_KindBit___init__ : Tok}
    {dd_DT_KindBit___init__ : Option Addr} {n_DT_KindBit___init__ : Nat} {sl_DT_KindBit___init__ : Array (Option Value)} {tk_KindBit___init__ : Tok}
    {o_E2 : PySem.Obj} {nm_E2 qq_E2 : Str} {bs_E2 bm_E2 : List Value} {sn_E2 : List Str} {sub_E2 : List Value} {ab_E2 : Bool} {col_E2 : Option Bool} {dd_E2 : Option Addr} {k0_E2 k1_E2 k2_E2 k3_E2 k5_E2 : Option Value} {od_I2 an_I2 cdd_I2 cld_I2 : Option Addr} {sl_I2 ccs_I2 csl_I2 : Array (Option Value)} {oc_I2 kV_I2 dc_I2 pm_I2 ct_I2 ccl_I2 cl_I2 : Value} {vs_I2 : Array Value} {file_I2 : Str} {tf_I2 : Tok}
    {o_E4 : PySem.Obj} {nm_E4 qq_E4 : Str} {bs_E4 bm_E4 : List Value} {sn_E4 : List Str} {sub_E4 : List Value} {ab_E4 : Bool} {col_E4 : Option Bool} {dd_E4 : Option Addr} {k0_E4 k1_E4 k2_E4 k3_E4 k5_E4 : Option Value} {od_I4 an_I4 cdd_I4 cld_I4 : Option Addr} {sl_I4 ccs_I4 csl_I4 : Array (Option Value)} {oc_I4 kV_I4 dc_I4 pm_I4 ct_I4 ccl_I4 cl_I4 : Value} {vs_I4 : Array Value} {file_I4 : Str} {tf_I4 : Tok}
    (aC_Kind : PySem.W.nsIn K mainGlobals "Kind" = some (some (.ref C_Kind)))
    (pg_Kind : PySem.W.plainGet K C_Kind Str.empty = true)
    (hd_Kind : PySem.W.hasDictIn K C_Kind = true)
    (po_Kind : PySem.W.plainOver K C_Kind = true)
    (sa_Kind : PySem.W.findIn K (.ref C_Kind) "__setattr__" = some (some (.builtin "object.__setattr__")))
    (mk_Kind : PySem.W.makesIn K C_Kind = true)
    (kc_Kind : PySem.W.keepIn K (.ref C_Kind) = true)
    (n_Kind_reading : PySem.W.findIn K (.ref C_Kind) "reading" = some none)
    (n_Kind_writing : PySem.W.findIn K (.ref C_Kind) "writing" = some none)
    (n_Kind_device : PySem.W.findIn K (.ref C_Kind) "device" = some none)
    (n_Kind_states : PySem.W.findIn K (.ref C_Kind) "states" = some none)
    (rd_Kind : PySem.W.readsIn K C_Kind (.type "type") = true)
    (ga_Kind : PySem.W.specialIn K (.ref C_Kind) "__getattribute__" = some (some (.builtin "type.__getattribute__")))
    (fc_t_Kind_READINGS : PySem.W.findCls K (.ref C_Kind) (.type "type") "READINGS" = some (.val (.ref t_Kind_READINGS)))
    (lk_t_Kind_READINGS : K.lookup t_Kind_READINGS = some ⟨.type "tuple", dd_t_Kind_READINGS, .seq #[.str "keep" k_t_Kind_READINGS_0, .str "take" k_t_Kind_READINGS_1] n_t_Kind_READINGS, sl_t_Kind_READINGS⟩)
    (fc_t_Kind_WRITINGS : PySem.W.findCls K (.ref C_Kind) (.type "type") "WRITINGS" = some (.val (.ref t_Kind_WRITINGS)))
    (lk_t_Kind_WRITINGS : K.lookup t_Kind_WRITINGS = some ⟨.type "tuple", dd_t_Kind_WRITINGS, .seq #[.str "store" k_t_Kind_WRITINGS_0, .str "clear1" k_t_Kind_WRITINGS_1, .str "clear0" k_t_Kind_WRITINGS_2, .str "set1" k_t_Kind_WRITINGS_3, .str "flip1" k_t_Kind_WRITINGS_4, .str "once" k_t_Kind_WRITINGS_5, .str "none" k_t_Kind_WRITINGS_6] n_t_Kind_WRITINGS, sl_t_Kind_WRITINGS⟩)
    (fc_t_Kind_DEVICES : PySem.W.findCls K (.ref C_Kind) (.type "type") "DEVICES" = some (.val (.ref t_Kind_DEVICES)))
    (lk_t_Kind_DEVICES : K.lookup t_Kind_DEVICES = some ⟨.type "tuple", dd_t_Kind_DEVICES, .seq #[.str "still" k_t_Kind_DEVICES_0, .str "raise" k_t_Kind_DEVICES_1, .str "end" k_t_Kind_DEVICES_2, .str "drift" k_t_Kind_DEVICES_3] n_t_Kind_DEVICES, sl_t_Kind_DEVICES⟩)
    (aC_Effect : PySem.W.nsIn K mainGlobals "Effect" = some (some (.ref C_Effect)))
    (pg_Effect : PySem.W.plainGet K C_Effect Str.empty = true)
    (hd_Effect : PySem.W.hasDictIn K C_Effect = true)
    (po_Effect : PySem.W.plainOver K C_Effect = true)
    (sa_Effect : PySem.W.findIn K (.ref C_Effect) "__setattr__" = some (some (.builtin "object.__setattr__")))
    (mk_Effect : PySem.W.makesIn K C_Effect = true)
    (kc_Effect : PySem.W.keepIn K (.ref C_Effect) = true)
    (n_Effect_kind : PySem.W.findIn K (.ref C_Effect) "kind" = some none)
    (n_Effect_ends : PySem.W.findIn K (.ref C_Effect) "ends" = some none)
    (aC_Bit : PySem.W.nsIn K mainGlobals "Bit" = some (some (.ref C_Bit)))
    (pg_Bit : PySem.W.plainGet K C_Bit Str.empty = true)
    (hd_Bit : PySem.W.hasDictIn K C_Bit = true)
    (po_Bit : PySem.W.plainOver K C_Bit = true)
    (sa_Bit : PySem.W.findIn K (.ref C_Bit) "__setattr__" = some (some (.builtin "object.__setattr__")))
    (mk_Bit : PySem.W.makesIn K C_Bit = true)
    (kc_Bit : PySem.W.keepIn K (.ref C_Bit) = true)
    (aC_KindBit : PySem.W.nsIn K mainGlobals "KindBit" = some (some (.ref C_KindBit)))
    (pg_KindBit : PySem.W.plainGet K C_KindBit Str.empty = true)
    (hd_KindBit : PySem.W.hasDictIn K C_KindBit = true)
    (po_KindBit : PySem.W.plainOver K C_KindBit = true)
    (sa_KindBit : PySem.W.findIn K (.ref C_KindBit) "__setattr__" = some (some (.builtin "object.__setattr__")))
    (mk_KindBit : PySem.W.makesIn K C_KindBit = true)
    (kc_KindBit : PySem.W.keepIn K (.ref C_KindBit) = true)
    (n_KindBit_held : PySem.W.findIn K (.ref C_KindBit) "held" = some none)
    (n_KindBit_kind : PySem.W.findIn K (.ref C_KindBit) "kind" = some none)
    (a_Kind___init__ : PySem.W.findIn K (.ref C_Kind) "__init__" = some (some (.ref f_Kind___init__)))
    (i_Kind___init__ : PySem.W.isFn K (.ref f_Kind___init__) = true)
    (l_Kind___init__ : K.lookup f_Kind___init__ = some ⟨oc_Kind___init__, od_Kind___init__, .func (PySem.W.fnOf "__init__" "Kind.__init__" (defArgs s_Kind___init__) (defBody s_Kind___init__) (defScope s_Kind___init__) .none kV_Kind___init__ dc_Kind___init__ pm_Kind___init__ an_Kind___init__ cd_Kind___init__ ct_Kind___init__), sl_Kind___init__⟩)
    (c_Kind___init__ : PySem.W.codeIn K cd_Kind___init__ "Kind.__init__" = true)
    (k_Kind___init__ : PySem.W.keepIn K (.ref f_Kind___init__) = true)
    (a_Kind___eq__ : PySem.W.findIn K (.ref C_Kind) "__eq__" = some (some (.ref f_Kind___eq__)))
    (i_Kind___eq__ : PySem.W.isFn K (.ref f_Kind___eq__) = true)
    (l_Kind___eq__ : K.lookup f_Kind___eq__ = some ⟨oc_Kind___eq__, od_Kind___eq__, .func (PySem.W.fnOf "__eq__" "Kind.__eq__" (defArgs s_Kind___eq__) (defBody s_Kind___eq__) (defScope s_Kind___eq__) .none kV_Kind___eq__ dc_Kind___eq__ pm_Kind___eq__ an_Kind___eq__ cd_Kind___eq__ ct_Kind___eq__), sl_Kind___eq__⟩)
    (c_Kind___eq__ : PySem.W.codeIn K cd_Kind___eq__ "Kind.__eq__" = true)
    (k_Kind___eq__ : PySem.W.keepIn K (.ref f_Kind___eq__) = true)
    (a_Kind_after_read : PySem.W.findIn K (.ref C_Kind) "after_read" = some (some (.ref f_Kind_after_read)))
    (i_Kind_after_read : PySem.W.isFn K (.ref f_Kind_after_read) = true)
    (l_Kind_after_read : K.lookup f_Kind_after_read = some ⟨oc_Kind_after_read, od_Kind_after_read, .func (PySem.W.fnOf "after_read" "Kind.after_read" (defArgs s_Kind_after_read) (defBody s_Kind_after_read) (defScope s_Kind_after_read) .none kV_Kind_after_read dc_Kind_after_read pm_Kind_after_read an_Kind_after_read cd_Kind_after_read ct_Kind_after_read), sl_Kind_after_read⟩)
    (c_Kind_after_read : PySem.W.codeIn K cd_Kind_after_read "Kind.after_read" = true)
    (k_Kind_after_read : PySem.W.keepIn K (.ref f_Kind_after_read) = true)
    (a_Kind_after_write : PySem.W.findIn K (.ref C_Kind) "after_write" = some (some (.ref f_Kind_after_write)))
    (i_Kind_after_write : PySem.W.isFn K (.ref f_Kind_after_write) = true)
    (l_Kind_after_write : K.lookup f_Kind_after_write = some ⟨oc_Kind_after_write, od_Kind_after_write, .func (PySem.W.fnOf "after_write" "Kind.after_write" (defArgs s_Kind_after_write) (defBody s_Kind_after_write) (defScope s_Kind_after_write) .none kV_Kind_after_write dc_Kind_after_write pm_Kind_after_write an_Kind_after_write cd_Kind_after_write ct_Kind_after_write), sl_Kind_after_write⟩)
    (c_Kind_after_write : PySem.W.codeIn K cd_Kind_after_write "Kind.after_write" = true)
    (k_Kind_after_write : PySem.W.keepIn K (.ref f_Kind_after_write) = true)
    (a_Kind_unguarded : PySem.W.findIn K (.ref C_Kind) "unguarded" = some (some (.ref f_Kind_unguarded)))
    (i_Kind_unguarded : PySem.W.isFn K (.ref f_Kind_unguarded) = true)
    (l_Kind_unguarded : K.lookup f_Kind_unguarded = some ⟨oc_Kind_unguarded, od_Kind_unguarded, .func (PySem.W.fnOf "unguarded" "Kind.unguarded" (defArgs s_Kind_unguarded) (defBody s_Kind_unguarded) (defScope s_Kind_unguarded) .none kV_Kind_unguarded dc_Kind_unguarded pm_Kind_unguarded an_Kind_unguarded cd_Kind_unguarded ct_Kind_unguarded), sl_Kind_unguarded⟩)
    (c_Kind_unguarded : PySem.W.codeIn K cd_Kind_unguarded "Kind.unguarded" = true)
    (k_Kind_unguarded : PySem.W.keepIn K (.ref f_Kind_unguarded) = true)
    (a_Kind_deeds : PySem.W.findIn K (.ref C_Kind) "deeds" = some (some (.ref f_Kind_deeds)))
    (i_Kind_deeds : PySem.W.isFn K (.ref f_Kind_deeds) = true)
    (l_Kind_deeds : K.lookup f_Kind_deeds = some ⟨oc_Kind_deeds, od_Kind_deeds, .func (PySem.W.fnOf "deeds" "Kind.deeds" (defArgs s_Kind_deeds) (defBody s_Kind_deeds) (defScope s_Kind_deeds) .none kV_Kind_deeds dc_Kind_deeds pm_Kind_deeds an_Kind_deeds cd_Kind_deeds ct_Kind_deeds), sl_Kind_deeds⟩)
    (c_Kind_deeds : PySem.W.codeIn K cd_Kind_deeds "Kind.deeds" = true)
    (k_Kind_deeds : PySem.W.keepIn K (.ref f_Kind_deeds) = true)
    (a_need_letters : PySem.W.nsIn K mainGlobals "need_letters" = some (some (.ref f_need_letters)))
    (l_need_letters : K.lookup f_need_letters = some ⟨oc_need_letters, od_need_letters, .func (PySem.W.fnOf "need_letters" "need_letters" (defArgs s_need_letters) (defBody s_need_letters) (defScope s_need_letters) .none kV_need_letters dc_need_letters pm_need_letters an_need_letters cd_need_letters ct_need_letters), sl_need_letters⟩)
    (c_need_letters : PySem.W.codeIn K cd_need_letters "need_letters" = true)
    (k_need_letters : PySem.W.keepIn K (.ref f_need_letters) = true)
    (a_need_same_kind : PySem.W.nsIn K mainGlobals "need_same_kind" = some (some (.ref f_need_same_kind)))
    (l_need_same_kind : K.lookup f_need_same_kind = some ⟨oc_need_same_kind, od_need_same_kind, .func (PySem.W.fnOf "need_same_kind" "need_same_kind" (defArgs s_need_same_kind) (defBody s_need_same_kind) (defScope s_need_same_kind) .none kV_need_same_kind dc_need_same_kind pm_need_same_kind an_need_same_kind cd_need_same_kind ct_need_same_kind), sl_need_same_kind⟩)
    (c_need_same_kind : PySem.W.codeIn K cd_need_same_kind "need_same_kind" = true)
    (k_need_same_kind : PySem.W.keepIn K (.ref f_need_same_kind) = true)
    (a_with_deeds : PySem.W.nsIn K mainGlobals "with_deeds" = some (some (.ref f_with_deeds)))
    (l_with_deeds : K.lookup f_with_deeds = some ⟨oc_with_deeds, od_with_deeds, .func (PySem.W.fnOf "with_deeds" "with_deeds" (defArgs s_with_deeds) (defBody s_with_deeds) (defScope s_with_deeds) .none kV_with_deeds dc_with_deeds pm_with_deeds an_with_deeds cd_with_deeds ct_with_deeds), sl_with_deeds⟩)
    (c_with_deeds : PySem.W.codeIn K cd_with_deeds "with_deeds" = true)
    (k_with_deeds : PySem.W.keepIn K (.ref f_with_deeds) = true)
    (a_after_letter : PySem.W.nsIn K mainGlobals "after_letter" = some (some (.ref f_after_letter)))
    (l_after_letter : K.lookup f_after_letter = some ⟨oc_after_letter, od_after_letter, .func (PySem.W.fnOf "after_letter" "after_letter" (defArgs s_after_letter) (defBody s_after_letter) (defScope s_after_letter) .none kV_after_letter dc_after_letter pm_after_letter an_after_letter cd_after_letter ct_after_letter), sl_after_letter⟩)
    (c_after_letter : PySem.W.codeIn K cd_after_letter "after_letter" = true)
    (k_after_letter : PySem.W.keepIn K (.ref f_after_letter) = true)
    (a_longer : PySem.W.nsIn K mainGlobals "longer" = some (some (.ref f_longer)))
    (l_longer : K.lookup f_longer = some ⟨oc_longer, od_longer, .func (PySem.W.fnOf "longer" "longer" (defArgs s_longer) (defBody s_longer) (defScope s_longer) .none kV_longer dc_longer pm_longer an_longer cd_longer ct_longer), sl_longer⟩)
    (c_longer : PySem.W.codeIn K cd_longer "longer" = true)
    (k_longer : PySem.W.keepIn K (.ref f_longer) = true)
    (a_Effect___init__ : PySem.W.findIn K (.ref C_Effect) "__init__" = some (some (.ref f_Effect___init__)))
    (i_Effect___init__ : PySem.W.isFn K (.ref f_Effect___init__) = true)
    (l_Effect___init__ : K.lookup f_Effect___init__ = some ⟨oc_Effect___init__, od_Effect___init__, .func (PySem.W.fnOf "__init__" "Effect.__init__" (defArgs s_Effect___init__) (defBody s_Effect___init__) (defScope s_Effect___init__) .none kV_Effect___init__ dc_Effect___init__ pm_Effect___init__ an_Effect___init__ cd_Effect___init__ ct_Effect___init__), sl_Effect___init__⟩)
    (c_Effect___init__ : PySem.W.codeIn K cd_Effect___init__ "Effect.__init__" = true)
    (k_Effect___init__ : PySem.W.keepIn K (.ref f_Effect___init__) = true)
    (a_Effect_of : PySem.W.findCls K (.ref C_Effect) (.type "type") "of" = some (.get (.builtin "classmethod.__get__") (.ref p_Effect_of) .none (.ref C_Effect)))
    (rc_Effect_of : PySem.W.recIn K p_Effect_of "classmethod" = some (.ref f_Effect_of :: rs_Effect_of))
    (fi_Effect_of : PySem.W.fnIn K f_Effect_of = true)
    (l_Effect_of : K.lookup f_Effect_of = some ⟨oc_Effect_of, od_Effect_of, .func (PySem.W.fnOf "of" "Effect.of" (defArgs s_Effect_of) (defBody s_Effect_of) (defScope s_Effect_of) .none (.ref D_Effect_of) dc_Effect_of pm_Effect_of an_Effect_of cd_Effect_of ct_Effect_of), sl_Effect_of⟩)
    (kw_Effect_of_quiet : PySem.W.nsIn K D_Effect_of "quiet" = some (some (.bool false)))
    (c_Effect_of : PySem.W.codeIn K cd_Effect_of "Effect.of" = true)
    (k_Effect_of : PySem.W.keepIn K (.ref f_Effect_of) = true)
    (a_Effect___call__ : PySem.W.findIn K (.ref C_Effect) "__call__" = some (some (.ref f_Effect___call__)))
    (i_Effect___call__ : PySem.W.isFn K (.ref f_Effect___call__) = true)
    (l_Effect___call__ : K.lookup f_Effect___call__ = some ⟨oc_Effect___call__, od_Effect___call__, .func (PySem.W.fnOf "__call__" "Effect.__call__" (defArgs s_Effect___call__) (defBody s_Effect___call__) (defScope s_Effect___call__) .none kV_Effect___call__ dc_Effect___call__ pm_Effect___call__ an_Effect___call__ cd_Effect___call__ ct_Effect___call__), sl_Effect___call__⟩)
    (c_Effect___call__ : PySem.W.codeIn K cd_Effect___call__ "Effect.__call__" = true)
    (k_Effect___call__ : PySem.W.keepIn K (.ref f_Effect___call__) = true)
    (a_Effect___mul__ : PySem.W.findIn K (.ref C_Effect) "__mul__" = some (some (.ref f_Effect___mul__)))
    (i_Effect___mul__ : PySem.W.isFn K (.ref f_Effect___mul__) = true)
    (l_Effect___mul__ : K.lookup f_Effect___mul__ = some ⟨oc_Effect___mul__, od_Effect___mul__, .func (PySem.W.fnOf "__mul__" "Effect.__mul__" (defArgs s_Effect___mul__) (defBody s_Effect___mul__) (defScope s_Effect___mul__) .none kV_Effect___mul__ dc_Effect___mul__ pm_Effect___mul__ an_Effect___mul__ cd_Effect___mul__ ct_Effect___mul__), sl_Effect___mul__⟩)
    (c_Effect___mul__ : PySem.W.codeIn K cd_Effect___mul__ "Effect.__mul__" = true)
    (k_Effect___mul__ : PySem.W.keepIn K (.ref f_Effect___mul__) = true)
    (a_Effect___eq__ : PySem.W.findIn K (.ref C_Effect) "__eq__" = some (some (.ref f_Effect___eq__)))
    (i_Effect___eq__ : PySem.W.isFn K (.ref f_Effect___eq__) = true)
    (l_Effect___eq__ : K.lookup f_Effect___eq__ = some ⟨oc_Effect___eq__, od_Effect___eq__, .func (PySem.W.fnOf "__eq__" "Effect.__eq__" (defArgs s_Effect___eq__) (defBody s_Effect___eq__) (defScope s_Effect___eq__) .none kV_Effect___eq__ dc_Effect___eq__ pm_Effect___eq__ an_Effect___eq__ cd_Effect___eq__ ct_Effect___eq__), sl_Effect___eq__⟩)
    (c_Effect___eq__ : PySem.W.codeIn K cd_Effect___eq__ "Effect.__eq__" = true)
    (k_Effect___eq__ : PySem.W.keepIn K (.ref f_Effect___eq__) = true)
    (a_is_integer : PySem.W.nsIn K mainGlobals "is_integer" = some (some (.ref f_is_integer)))
    (l_is_integer : K.lookup f_is_integer = some ⟨oc_is_integer, od_is_integer, .func (PySem.W.fnOf "is_integer" "is_integer" (defArgs s_is_integer) (defBody s_is_integer) (defScope s_is_integer) .none kV_is_integer dc_is_integer pm_is_integer an_is_integer cd_is_integer ct_is_integer), sl_is_integer⟩)
    (c_is_integer : PySem.W.codeIn K cd_is_integer "is_integer" = true)
    (k_is_integer : PySem.W.keepIn K (.ref f_is_integer) = true)
    (a_need_bit : PySem.W.nsIn K mainGlobals "need_bit" = some (some (.ref f_need_bit)))
    (l_need_bit : K.lookup f_need_bit = some ⟨oc_need_bit, od_need_bit, .func (PySem.W.fnOf "need_bit" "need_bit" (defArgs s_need_bit) (defBody s_need_bit) (defScope s_need_bit) .none kV_need_bit dc_need_bit pm_need_bit an_need_bit cd_need_bit ct_need_bit), sl_need_bit⟩)
    (c_need_bit : PySem.W.codeIn K cd_need_bit "need_bit" = true)
    (k_need_bit : PySem.W.keepIn K (.ref f_need_bit) = true)
    (a_Bit___init__ : PySem.W.findIn K (.ref C_Bit) "__init__" = some (some (.ref f_Bit___init__)))
    (i_Bit___init__ : PySem.W.isFn K (.ref f_Bit___init__) = true)
    (l_Bit___init__ : K.lookup f_Bit___init__ = some ⟨oc_Bit___init__, od_Bit___init__, .func (PySem.W.fnOf "__init__" "Bit.__init__" (defArgs s_Bit___init__) (defBody s_Bit___init__) (defScope s_Bit___init__) (.ref DT_Bit___init__) kV_Bit___init__ dc_Bit___init__ pm_Bit___init__ an_Bit___init__ cd_Bit___init__ ct_Bit___init__), sl_Bit___init__⟩)
    (dt_Bit___init__ : K.lookup DT_Bit___init__ = some ⟨.type "tuple", dd_DT_Bit___init__, .seq #[.int 0 tk_Bit___init___0] n_DT_Bit___init__, sl_DT_Bit___init__⟩)
    (c_Bit___init__ : PySem.W.codeIn K cd_Bit___init__ "Bit.__init__" = true)
    (k_Bit___init__ : PySem.W.keepIn K (.ref f_Bit___init__) = true)
    (pa_Bit_now : PySem.W.findIn K (.ref C_Bit) "now" = some (some (.ref p_Bit_now)))
    (pb_Bit_now : PySem.W.specialIn K (.ref p_Bit_now) "__get__" = some (some (.builtin "property.__get__")))
    (pc_Bit_now : PySem.W.takesIn K (.ref p_Bit_now) = some true)
    (pd_Bit_now : PySem.W.recIn K p_Bit_now "property" = some (.ref f_Bit_now :: rs_Bit_now))
    (l_Bit_now : K.lookup f_Bit_now = some ⟨oc_Bit_now, od_Bit_now, .func (PySem.W.fnOf "now" "Bit.now" (defArgs s_Bit_now) (defBody s_Bit_now) (defScope s_Bit_now) .none kV_Bit_now dc_Bit_now pm_Bit_now an_Bit_now cd_Bit_now ct_Bit_now), sl_Bit_now⟩)
    (c_Bit_now : PySem.W.codeIn K cd_Bit_now "Bit.now" = true)
    (k_Bit_now : PySem.W.keepIn K (.ref f_Bit_now) = true)
    (pa_Bit_state : PySem.W.findIn K (.ref C_Bit) "state" = some (some (.ref p_Bit_state)))
    (pb_Bit_state : PySem.W.specialIn K (.ref p_Bit_state) "__get__" = some (some (.builtin "property.__get__")))
    (pc_Bit_state : PySem.W.takesIn K (.ref p_Bit_state) = some true)
    (pd_Bit_state : PySem.W.recIn K p_Bit_state "property" = some (.ref f_Bit_state :: rs_Bit_state))
    (l_Bit_state : K.lookup f_Bit_state = some ⟨oc_Bit_state, od_Bit_state, .func (PySem.W.fnOf "state" "Bit.state" (defArgs s_Bit_state) (defBody s_Bit_state) (defScope s_Bit_state) .none kV_Bit_state dc_Bit_state pm_Bit_state an_Bit_state cd_Bit_state ct_Bit_state), sl_Bit_state⟩)
    (c_Bit_state : PySem.W.codeIn K cd_Bit_state "Bit.state" = true)
    (k_Bit_state : PySem.W.keepIn K (.ref f_Bit_state) = true)
    (a_KindBit_read : PySem.W.findIn K (.ref C_KindBit) "read" = some (some (.ref f_KindBit_read)))
    (i_KindBit_read : PySem.W.isFn K (.ref f_KindBit_read) = true)
    (l_KindBit_read : K.lookup f_KindBit_read = some ⟨oc_KindBit_read, od_KindBit_read, .func (PySem.W.fnOf "read" "KindBit.read" (defArgs s_KindBit_read) (defBody s_KindBit_read) (defScope s_KindBit_read) .none kV_KindBit_read dc_KindBit_read pm_KindBit_read an_KindBit_read cd_KindBit_read ct_KindBit_read), sl_KindBit_read⟩)
    (c_KindBit_read : PySem.W.codeIn K cd_KindBit_read "KindBit.read" = true)
    (k_KindBit_read : PySem.W.keepIn K (.ref f_KindBit_read) = true)
    (a_KindBit_write : PySem.W.findIn K (.ref C_KindBit) "write" = some (some (.ref f_KindBit_write)))
    (i_KindBit_write : PySem.W.isFn K (.ref f_KindBit_write) = true)
    (l_KindBit_write : K.lookup f_KindBit_write = some ⟨oc_KindBit_write, od_KindBit_write, .func (PySem.W.fnOf "write" "KindBit.write" (defArgs s_KindBit_write) (defBody s_KindBit_write) (defScope s_KindBit_write) .none kV_KindBit_write dc_KindBit_write pm_KindBit_write an_KindBit_write cd_KindBit_write ct_KindBit_write), sl_KindBit_write⟩)
    (c_KindBit_write : PySem.W.codeIn K cd_KindBit_write "KindBit.write" = true)
    (k_KindBit_write : PySem.W.keepIn K (.ref f_KindBit_write) = true)
    (a_KindBit_deed : PySem.W.findIn K (.ref C_KindBit) "deed" = some (some (.ref f_KindBit_deed)))
    (i_KindBit_deed : PySem.W.isFn K (.ref f_KindBit_deed) = true)
    (l_KindBit_deed : K.lookup f_KindBit_deed = some ⟨oc_KindBit_deed, od_KindBit_deed, .func (PySem.W.fnOf "deed" "KindBit.deed" (defArgs s_KindBit_deed) (defBody s_KindBit_deed) (defScope s_KindBit_deed) .none kV_KindBit_deed dc_KindBit_deed pm_KindBit_deed an_KindBit_deed cd_KindBit_deed ct_KindBit_deed), sl_KindBit_deed⟩)
    (c_KindBit_deed : PySem.W.codeIn K cd_KindBit_deed "KindBit.deed" = true)
    (k_KindBit_deed : PySem.W.keepIn K (.ref f_KindBit_deed) = true)
    (a__law_pen : PySem.W.nsIn K mainGlobals "_law_pen" = some (some (.ref f__law_pen)))
    (l__law_pen : K.lookup f__law_pen = some ⟨oc__law_pen, od__law_pen, .func (PySem.W.fnOf "_law_pen" "_law_pen" (defArgs s__law_pen) (defBody s__law_pen) (defScope s__law_pen) .none kV__law_pen dc__law_pen pm__law_pen an__law_pen cd__law_pen ct__law_pen), sl__law_pen⟩)
    (c__law_pen : PySem.W.codeIn K cd__law_pen "_law_pen" = true)
    (k__law_pen : PySem.W.keepIn K (.ref f__law_pen) = true)
    (a__law_draw : PySem.W.nsIn K mainGlobals "_law_draw" = some (some (.ref f__law_draw)))
    (l__law_draw : K.lookup f__law_draw = some ⟨oc__law_draw, od__law_draw, .func (PySem.W.fnOf "_law_draw" "_law_draw" (defArgs s__law_draw) (defBody s__law_draw) (defScope s__law_draw) .none kV__law_draw dc__law_draw pm__law_draw an__law_draw cd__law_draw ct__law_draw), sl__law_draw⟩)
    (c__law_draw : PySem.W.codeIn K cd__law_draw "_law_draw" = true)
    (k__law_draw : PySem.W.keepIn K (.ref f__law_draw) = true)
    (a__law_write : PySem.W.nsIn K mainGlobals "_law_write" = some (some (.ref f__law_write)))
    (l__law_write : K.lookup f__law_write = some ⟨oc__law_write, od__law_write, .func (PySem.W.fnOf "_law_write" "_law_write" (defArgs s__law_write) (defBody s__law_write) (defScope s__law_write) .none kV__law_write dc__law_write pm__law_write an__law_write cd__law_write ct__law_write), sl__law_write⟩)
    (c__law_write : PySem.W.codeIn K cd__law_write "_law_write" = true)
    (k__law_write : PySem.W.keepIn K (.ref f__law_write) = true)
    (a__law_read : PySem.W.nsIn K mainGlobals "_law_read" = some (some (.ref f__law_read)))
    (l__law_read : K.lookup f__law_read = some ⟨oc__law_read, od__law_read, .func (PySem.W.fnOf "_law_read" "_law_read" (defArgs s__law_read) (defBody s__law_read) (defScope s__law_read) .none kV__law_read dc__law_read pm__law_read an__law_read cd__law_read ct__law_read), sl__law_read⟩)
    (c__law_read : PySem.W.codeIn K cd__law_read "_law_read" = true)
    (k__law_read : PySem.W.keepIn K (.ref f__law_read) = true)
    (a__law_deeds : PySem.W.nsIn K mainGlobals "_law_deeds" = some (some (.ref f__law_deeds)))
    (l__law_deeds : K.lookup f__law_deeds = some ⟨oc__law_deeds, od__law_deeds, .func (PySem.W.fnOf "_law_deeds" "_law_deeds" (defArgs s__law_deeds) (defBody s__law_deeds) (defScope s__law_deeds) .none kV__law_deeds dc__law_deeds pm__law_deeds an__law_deeds cd__law_deeds ct__law_deeds), sl__law_deeds⟩)
    (c__law_deeds : PySem.W.codeIn K cd__law_deeds "_law_deeds" = true)
    (k__law_deeds : PySem.W.keepIn K (.ref f__law_deeds) = true)
    (a__law_words : PySem.W.nsIn K mainGlobals "_law_words" = some (some (.ref f__law_words)))
    (l__law_words : K.lookup f__law_words = some ⟨oc__law_words, od__law_words, .func (PySem.W.fnOf "_law_words" "_law_words" (defArgs s__law_words) (defBody s__law_words) (defScope s__law_words) .none kV__law_words dc__law_words pm__law_words an__law_words cd__law_words ct__law_words), sl__law_words⟩)
    (c__law_words : PySem.W.codeIn K cd__law_words "_law_words" = true)
    (k__law_words : PySem.W.keepIn K (.ref f__law_words) = true)
    (a__law_states : PySem.W.nsIn K mainGlobals "_law_states" = some (some (.ref f__law_states)))
    (l__law_states : K.lookup f__law_states = some ⟨oc__law_states, od__law_states, .func (PySem.W.fnOf "_law_states" "_law_states" (defArgs s__law_states) (defBody s__law_states) (defScope s__law_states) .none kV__law_states dc__law_states pm__law_states an__law_states cd__law_states ct__law_states), sl__law_states⟩)
    (c__law_states : PySem.W.codeIn K cd__law_states "_law_states" = true)
    (k__law_states : PySem.W.keepIn K (.ref f__law_states) = true)
    (a__law_letters : PySem.W.nsIn K mainGlobals "_law_letters" = some (some (.ref f__law_letters)))
    (l__law_letters : K.lookup f__law_letters = some ⟨oc__law_letters, od__law_letters, .func (PySem.W.fnOf "_law_letters" "_law_letters" (defArgs s__law_letters) (defBody s__law_letters) (defScope s__law_letters) .none kV__law_letters dc__law_letters pm__law_letters an__law_letters cd__law_letters ct__law_letters), sl__law_letters⟩)
    (c__law_letters : PySem.W.codeIn K cd__law_letters "_law_letters" = true)
    (k__law_letters : PySem.W.keepIn K (.ref f__law_letters) = true)
    (a__law_set_up : PySem.W.nsIn K mainGlobals "_law_set_up" = some (some (.ref f__law_set_up)))
    (l__law_set_up : K.lookup f__law_set_up = some ⟨oc__law_set_up, od__law_set_up, .func (PySem.W.fnOf "_law_set_up" "_law_set_up" (defArgs s__law_set_up) (defBody s__law_set_up) (defScope s__law_set_up) .none kV__law_set_up dc__law_set_up pm__law_set_up an__law_set_up cd__law_set_up ct__law_set_up), sl__law_set_up⟩)
    (c__law_set_up : PySem.W.codeIn K cd__law_set_up "_law_set_up" = true)
    (k__law_set_up : PySem.W.keepIn K (.ref f__law_set_up) = true)
    (a__law_led : PySem.W.nsIn K mainGlobals "_law_led" = some (some (.ref f__law_led)))
    (l__law_led : K.lookup f__law_led = some ⟨oc__law_led, od__law_led, .func (PySem.W.fnOf "_law_led" "_law_led" (defArgs s__law_led) (defBody s__law_led) (defScope s__law_led) .none kV__law_led dc__law_led pm__law_led an__law_led cd__law_led ct__law_led), sl__law_led⟩)
    (c__law_led : PySem.W.codeIn K cd__law_led "_law_led" = true)
    (k__law_led : PySem.W.keepIn K (.ref f__law_led) = true)
    (a__law_way : PySem.W.nsIn K mainGlobals "_law_way" = some (some (.ref f__law_way)))
    (l__law_way : K.lookup f__law_way = some ⟨oc__law_way, od__law_way, .func (PySem.W.fnOf "_law_way" "_law_way" (defArgs s__law_way) (defBody s__law_way) (defScope s__law_way) .none kV__law_way dc__law_way pm__law_way an__law_way cd__law_way ct__law_way), sl__law_way⟩)
    (c__law_way : PySem.W.codeIn K cd__law_way "_law_way" = true)
    (k__law_way : PySem.W.keepIn K (.ref f__law_way) = true)
    (a__law_letter : PySem.W.nsIn K mainGlobals "_law_letter" = some (some (.ref f__law_letter)))
    (l__law_letter : K.lookup f__law_letter = some ⟨oc__law_letter, od__law_letter, .func (PySem.W.fnOf "_law_letter" "_law_letter" (defArgs s__law_letter) (defBody s__law_letter) (defScope s__law_letter) .none kV__law_letter dc__law_letter pm__law_letter an__law_letter cd__law_letter ct__law_letter), sl__law_letter⟩)
    (c__law_letter : PySem.W.codeIn K cd__law_letter "_law_letter" = true)
    (k__law_letter : PySem.W.keepIn K (.ref f__law_letter) = true)
    (a__law_kind_right : PySem.W.nsIn K mainGlobals "_law_kind_right" = some (some (.ref f__law_kind_right)))
    (l__law_kind_right : K.lookup f__law_kind_right = some ⟨oc__law_kind_right, od__law_kind_right, .func (PySem.W.fnOf "_law_kind_right" "_law_kind_right" (defArgs s__law_kind_right) (defBody s__law_kind_right) (defScope s__law_kind_right) .none kV__law_kind_right dc__law_kind_right pm__law_kind_right an__law_kind_right cd__law_kind_right ct__law_kind_right), sl__law_kind_right⟩)
    (c__law_kind_right : PySem.W.codeIn K cd__law_kind_right "_law_kind_right" = true)
    (k__law_kind_right : PySem.W.keepIn K (.ref f__law_kind_right) = true)
    (a_law : PySem.W.nsIn K mainGlobals "law" = some (some (.ref f_law)))
    (l_law : K.lookup f_law = some ⟨oc_law, od_law, .func (PySem.W.fnOf "law" "law" (defArgs s_law) (defBody s_law) (defScope s_law) .none kV_law dc_law pm_law an_law cd_law ct_law), sl_law⟩)
    (c_law : PySem.W.codeIn K cd_law "law" = true)
    (k_law : PySem.W.keepIn K (.ref f_law) = true)
    (mM : PySem.W.nsIn K mainGlobals "MOVABLE" = some (some (.ref dM)))
    (lM : K.lookup dM = some ⟨.type "dict", none, .dict es_M n_M, #[]⟩)
    (litM : PySem.W.KeysLit w.params es_M.toList)
    (lowM : (dM == sysModules) = false)
    (iM0 : PySem.W.nsIn K dM "still" = some (some (.ref a_m0)))
    (iM1 : PySem.W.nsIn K dM "raise" = some (some (.ref a_m1)))
    (iM2 : PySem.W.nsIn K dM "end" = some (some (.ref a_m2)))
    (iM3 : PySem.W.nsIn K dM "drift" = some (some (.ref a_m3)))
    (tM0 : K.lookup a_m0 = some ⟨.type "tuple", dd_0, .seq #[] q_0, sl_0⟩)
    (tM1 : K.lookup a_m1 = some ⟨.type "tuple", dd_1, .seq #[.int 0 tk_1] q_1, sl_1⟩)
    (tM2 : K.lookup a_m2 = some ⟨.type "tuple", dd_2, .seq #[.int 1 tk_2] q_2, sl_2⟩)
    (tM3 : K.lookup a_m3 = some ⟨.type "tuple", dd_3, .seq #[.int 0 tk_3, .int 1 tk_4] q_3, sl_3⟩)
    (tyc : PySem.W.findIn K (.ref C_Kind) "__class__" = some (some (.builtin "object.__class__")))
    (tyg : PySem.W.specialIn K (.builtin "object.__class__") "__get__" = some (some (.builtin "getset_descriptor.__get__")))
    (tyt : PySem.W.takesIn K (.builtin "object.__class__") = some true)
    (tym : PySem.W.mroIn K C_Kind (.type "object") = some true)
    (tyi : PySem.W.kitOne K (.ref C_Kind) (.ref C_Kind) = some true)
    (lkK : K.lookup C_Kind = some o_K)
    (lkO : o_K = (excClassObj nm_K qq_K C_Kind N_Kind bs_K [.type "object"] hd_K sn_K sub_K ab_K col_K dd_K k0_K k1_K k2_K k3_K k5_K nid_K))
    (nsK : K.lookup N_Kind = some o_N)
    (nsO : ∀ K2 : PySem.W.Frag, K2.lookup N_Kind = some o_N → PySem.W.nsOkIn K2 N_Kind = true)
    (neq : PySem.W.nsIn K N_Kind "__eq__" = some (some (.ref f_Kind___eq__)))
    (nne : PySem.W.nsIn K N_Kind "__ne__" = some none)
    (foK : oc_Kind___eq__ = .type "function")
    (tycF : PySem.W.findIn K (.ref C_Effect) "__class__" = some (some (.builtin "object.__class__")))
    (tymF : PySem.W.mroIn K C_Effect (.type "object") = some true)
    (tyiF : PySem.W.kitOne K (.ref C_Effect) (.ref C_Effect) = some true)
    (lkKF : K.lookup C_Effect = some o_F)
    (lkOF : o_F = (excClassObj nm_F qq_F C_Effect N_Effect bs_F [.type "object"] hd_F sn_F sub_F ab_F col_F dd_F k0_F k1_F k2_F k3_F k5_F nid_F))
    (nsKF : K.lookup N_Effect = some o_M)
    (nsOF : ∀ K2 : PySem.W.Frag, K2.lookup N_Effect = some o_M → PySem.W.nsOkIn K2 N_Effect = true)
    (neqF : PySem.W.nsIn K N_Effect "__eq__" = some (some (.ref f_Effect___eq__)))
    (nneF : PySem.W.nsIn K N_Effect "__ne__" = some none)
    (foKF : oc_Effect___eq__ = .type "function")
    (fnC : PySem.W.fnIn K f_Effect___call__ = true)
    (rdF : PySem.W.readsIn K C_Effect (.type "type") = true)
    (gaF : PySem.W.specialIn K (.ref C_Effect) "__getattribute__" = some (some (.builtin "type.__getattribute__")))
    (gLT : PySem.W.nsIn K mainGlobals "LETTERS" = some (some (.str "01r" tkL)))
    (gML : PySem.W.nsIn K mainGlobals "MOST_LETTERS" = some (some (.int 40 tkM)))
    (nfK : PySem.W.notFirst K C_Kind (.ref C_Kind) = true)
    (sf_Effect : PySem.W.selfFirst K C_Effect = true)
    (d_Effect_mul : PySem.W.findIn K (.ref C_Effect) (PySem.dunder Operator.Mult.info.2) = some (some (.ref f_Effect___mul__)))
    (nfE : PySem.W.notFirst K C_Effect (.ref C_Effect) = true)
    (in_KB : PySem.W.findIn K (.ref C_KindBit) "__init__" = some (some (.ref f_KindBit___init__)))
    (l_KindBit___init__ : K.lookup f_KindBit___init__ = some ⟨oc_KindBit___init__, od_KindBit___init__, .func (PySem.W.ksFn "__init__" "KindBit.__init__" (defArgs s_KindBit___init__) (defBody s_KindBit___init__) (defScope s_KindBit___init__) (.ref DT_KindBit___init__) kV_KindBit___init__ dc_KindBit___init__ pm_KindBit___init__ an_KindBit___init__ (.ref cda_KindBit___init__) ct_KindBit___init__ cc_KindBit___init__), sl_KindBit___init__⟩)
    (c_KindBit___init__ : PySem.W.codeIn K (.ref cda_KindBit___init__) "KindBit.__init__" = true)
    (ld_KindBit___init__ : K.lookup cda_KindBit___init__ = some ⟨ccl_KindBit___init__, cdd_KindBit___init__, .fields vs_KindBit___init__, ccs_KindBit___init__⟩)
    (vs2_KindBit___init__ : vs_KindBit___init__[2]? = some (.str file_KindBit___init__ tf_KindBit___init__))
    (fi2_KindBit___init__ : ((l.prog.main.file : Str) == file_KindBit___init__) = true)
    (lc_KindBit___init__ : K.lookup cc_KindBit___init__ = some ⟨cl_KindBit___init__, cld_KindBit___init__, .cell (some (.ref C_KindBit)), csl_KindBit___init__⟩)
    (dcl_KindBit___init__ : ∃ cd, PySem.W.clsIn K C_KindBit = some cd)
    (i_KindBit___init__ : PySem.W.isFn K (.ref f_KindBit___init__) = true)
    (k_KindBit___init__ : PySem.W.keepIn K (.ref f_KindBit___init__) = true)
    (dt_KindBit___init__ : K.lookup DT_KindBit___init__ = some ⟨.type "tuple", dd_DT_KindBit___init__, .seq #[.int 0 tk_KindBit___init__] n_DT_KindBit___init__, sl_DT_KindBit___init__⟩)
    (nw_KB : PySem.W.findIn K (.ref C_KindBit) "now" = some (some (.ref p_Bit_now)))
    (st_KB : PySem.W.findIn K (.ref C_KindBit) "state" = some (some (.ref p_Bit_state)))
    (ti_Bi : PySem.W.typeIn K (.ref f_Bit___init__) = some (.type "function"))
    (fn_Bi : PySem.W.fnIn K f_Bit___init__ = true)
    (su_KB : PySem.W.ks_superIn K C_KindBit C_KindBit "__init__" = some (some (.ref f_Bit___init__)))
    (sb_KB : PySem.W.mroIn K C_KindBit (.ref C_KindBit) = some true)
    (aE2 : PySem.W.nsIn K mainGlobals "InvalidWord" = some (some (.ref e2)))
    (xs2 : PySem.W.subIn K (.ref e2) (.type "BaseException") = some true)
    (xv2 : PySem.W.findIn K (.ref e2) "value" = some none)
    (lkE2 : K.lookup e2 = some o_E2)
    (lkF2 : o_E2 = (excClassObj nm_E2 qq_E2 e2 N_E2 bs_E2 bm_E2 true sn_E2 sub_E2 ab_E2 col_E2 dd_E2 k0_E2 k1_E2 k2_E2 k3_E2 k5_E2 "ValueError.__new__"))
    (rvE2 : PySem.HandSPX.refsVE bm_E2 = true)
    (saE2 : PySem.W.findIn K (.ref e2) "__setattr__" = some (some (.builtin "object.__setattr__")))
    (tyE2 : PySem.W.typeIn K (.ref e2) = some (.type "type"))
    (kpE2 : PySem.W.keepIn K (.ref e2) = true)
    (inE2 : PySem.W.findIn K (.ref e2) "__init__" = some (some (.ref fI2)))
    (tiE2 : PySem.W.typeIn K (.ref fI2) = some (.type "function"))
    (lIK2 : K.lookup fI2 = some ⟨oc_I2, od_I2, .func (PySem.W.ksFn "__init__" "InvalidWord.__init__" (defArgs s_I2) (defBody s_I2) (defScope s_I2) .none kV_I2 dc_I2 pm_I2 an_I2 (.ref cda2) ct_I2 ccell2), sl_I2⟩)
    (cIK2 : PySem.W.codeIn K (.ref cda2) "InvalidWord.__init__" = true)
    (lcd2 : K.lookup cda2 = some ⟨ccl_I2, cdd_I2, .fields vs_I2, ccs_I2⟩)
    (vsI2 : vs_I2[2]? = some (.str file_I2 tf_I2))
    (fiI2 : ((l.prog.main.file : Str) == file_I2) = true)
    (lcc2 : K.lookup ccell2 = some ⟨cl_I2, cld_I2, .cell (some (.ref e2)), csl_I2⟩)
    (sbI2 : PySem.W.mroIn K e2 (.ref e2) = some true)
    (veI2 : PySem.W.mroIn K e2 (.type "ValueError") = some true)
    (suI2 : PySem.W.ks_superIn K e2 e2 "__init__" = some (some (.builtin "ValueError.__init__")))
    (aE4 : PySem.W.nsIn K mainGlobals "InvalidKind" = some (some (.ref e4)))
    (xs4 : PySem.W.subIn K (.ref e4) (.type "BaseException") = some true)
    (xv4 : PySem.W.findIn K (.ref e4) "value" = some none)
    (lkE4 : K.lookup e4 = some o_E4)
    (lkF4 : o_E4 = (excClassObj nm_E4 qq_E4 e4 N_E4 bs_E4 bm_E4 true sn_E4 sub_E4 ab_E4 col_E4 dd_E4 k0_E4 k1_E4 k2_E4 k3_E4 k5_E4 "ValueError.__new__"))
    (rvE4 : PySem.HandSPX.refsVE bm_E4 = true)
    (saE4 : PySem.W.findIn K (.ref e4) "__setattr__" = some (some (.builtin "object.__setattr__")))
    (tyE4 : PySem.W.typeIn K (.ref e4) = some (.type "type"))
    (kpE4 : PySem.W.keepIn K (.ref e4) = true)
    (inE4 : PySem.W.findIn K (.ref e4) "__init__" = some (some (.ref fI4)))
    (tiE4 : PySem.W.typeIn K (.ref fI4) = some (.type "function"))
    (lIK4 : K.lookup fI4 = some ⟨oc_I4, od_I4, .func (PySem.W.ksFn "__init__" "InvalidKind.__init__" (defArgs s_I4) (defBody s_I4) (defScope s_I4) .none kV_I4 dc_I4 pm_I4 an_I4 (.ref cda4) ct_I4 ccell4), sl_I4⟩)
    (cIK4 : PySem.W.codeIn K (.ref cda4) "InvalidKind.__init__" = true)
    (lcd4 : K.lookup cda4 = some ⟨ccl_I4, cdd_I4, .fields vs_I4, ccs_I4⟩)
    (vsI4 : vs_I4[2]? = some (.str file_I4 tf_I4))
    (fiI4 : ((l.prog.main.file : Str) == file_I4) = true)
    (lcc4 : K.lookup ccell4 = some ⟨cl_I4, cld_I4, .cell (some (.ref e4)), csl_I4⟩)
    (sbI4 : PySem.W.mroIn K e4 (.ref e4) = some true)
    (veI4 : PySem.W.mroIn K e4 (.type "ValueError") = some true)
    (suI4 : PySem.W.ks_superIn K e4 e4 "__init__" = some (some (.builtin "ValueError.__init__")))
    (tpI : (l.prog.main.scope.names.lookup ("super" : Str)).isSome = false)
    (opI : PySem.W.nsIn K cStatics "thirdparty.any" = some none)
    (z_int : PySem.W.nsIn K mainGlobals "int" = some none)
    (z_bool : PySem.W.nsIn K mainGlobals "bool" = some none)
    (z_abs : PySem.W.nsIn K mainGlobals "abs" = some none)
    (z_len : PySem.W.nsIn K mainGlobals "len" = some none)
    (z_list : PySem.W.nsIn K mainGlobals "list" = some none)
    (z_tuple : PySem.W.nsIn K mainGlobals "tuple" = some none)
    (z_max : PySem.W.nsIn K mainGlobals "max" = some none)
    (z_range : PySem.W.nsIn K mainGlobals "range" = some none)
    (z_isinstance : PySem.W.nsIn K mainGlobals "isinstance" = some none)
    (z_repr : PySem.W.nsIn K mainGlobals "repr" = some none)
    (z_str : PySem.W.nsIn K mainGlobals "str" = some none)
    (z_sorted : PySem.W.nsIn K mainGlobals "sorted" = some none)
    (z_set : PySem.W.nsIn K mainGlobals "set" = some none)
    (z_zip : PySem.W.nsIn K mainGlobals "zip" = some none)
    (z_enumerate : PySem.W.nsIn K mainGlobals "enumerate" = some none)
    (z_all : PySem.W.nsIn K mainGlobals "all" = some none)
    (z_ValueError : PySem.W.nsIn K mainGlobals "ValueError" = some none)
    (z_super : PySem.W.nsIn K mainGlobals "super" = some none)
    : ∃ fd : FuncData, (∀ (s : Shared) (v : Value), BindsTo s fd ⟨[v], []⟩ [("_law_script", v)]) ∧ ∀ base : Heap, K.In base → base.Ns mainGlobals mg → KG.FnG l.prog w K mg base CX0 12 fa fd ["_law_script"] (spLaw K) := by
  have e := hfa.symm.trans (PySem.W.mg_of X G a_law)
  cases e
  have F_Kind___init__ := fun_mk (st := s_Kind___init__) l_Kind___init__ c_Kind___init__ k_Kind___init__
  have b_Kind___init__ := F_Kind___init__.binds (ps := ["self", "reading", "writing", "device"]) fun _ _ _ _ _ _ us hl => match us, hl with | [_, _, _, _], _ => rfl
  have F_Kind___eq__ := fun_mk (st := s_Kind___eq__) l_Kind___eq__ c_Kind___eq__ k_Kind___eq__
  have b_Kind___eq__ := F_Kind___eq__.binds (ps := ["self", "other"]) fun _ _ _ _ _ _ us hl => match us, hl with | [_, _], _ => rfl
  have F_Kind_after_read := fun_mk (st := s_Kind_after_read) l_Kind_after_read c_Kind_after_read k_Kind_after_read
  have b_Kind_after_read := F_Kind_after_read.binds (ps := ["self", "state"]) fun _ _ _ _ _ _ us hl => match us, hl with | [_, _], _ => rfl
  have F_Kind_after_write := fun_mk (st := s_Kind_after_write) l_Kind_after_write c_Kind_after_write k_Kind_after_write
  have b_Kind_after_write := F_Kind_after_write.binds (ps := ["self", "state", "bit"]) fun _ _ _ _ _ _ us hl => match us, hl with | [_, _, _], _ => rfl
  have F_Kind_unguarded := fun_mk (st := s_Kind_unguarded) l_Kind_unguarded c_Kind_unguarded k_Kind_unguarded
  have b_Kind_unguarded := F_Kind_unguarded.binds (ps := ["self", "state", "bit"]) fun _ _ _ _ _ _ us hl => match us, hl with | [_, _, _], _ => rfl
  have F_Kind_deeds := fun_mk (st := s_Kind_deeds) l_Kind_deeds c_Kind_deeds k_Kind_deeds
  have b_Kind_deeds := F_Kind_deeds.binds (ps := ["self", "state"]) fun _ _ _ _ _ _ us hl => match us, hl with | [_, _], _ => rfl
  have F_need_letters := fun_mk (st := s_need_letters) l_need_letters c_need_letters k_need_letters
  have b_need_letters := F_need_letters.binds (ps := ["letters"]) fun _ _ _ _ _ _ us hl => match us, hl with | [_], _ => rfl
  have F_need_same_kind := fun_mk (st := s_need_same_kind) l_need_same_kind c_need_same_kind k_need_same_kind
  have b_need_same_kind := F_need_same_kind.binds (ps := ["first", "second"]) fun _ _ _ _ _ _ us hl => match us, hl with | [_, _], _ => rfl
  have F_with_deeds := fun_mk (st := s_with_deeds) l_with_deeds c_with_deeds k_with_deeds
  have b_with_deeds := F_with_deeds.binds (ps := ["kind", "states", "quiet"]) fun _ _ _ _ _ _ us hl => match us, hl with | [_, _, _], _ => rfl
  have F_after_letter := fun_mk (st := s_after_letter) l_after_letter c_after_letter k_after_letter
  have b_after_letter := F_after_letter.binds (ps := ["kind", "state", "letter"]) fun _ _ _ _ _ _ us hl => match us, hl with | [_, _, _], _ => rfl
  have F_longer := fun_mk (st := s_longer) l_longer c_longer k_longer
  have b_longer := F_longer.binds (ps := ["kind", "ends", "letter", "quiet"]) fun _ _ _ _ _ _ us hl => match us, hl with | [_, _, _, _], _ => rfl
  have F_Effect___init__ := fun_mk (st := s_Effect___init__) l_Effect___init__ c_Effect___init__ k_Effect___init__
  have b_Effect___init__ := F_Effect___init__.binds (ps := ["self", "kind", "ends"]) fun _ _ _ _ _ _ us hl => match us, hl with | [_, _, _], _ => rfl
  have F_Effect_of := fun_mk (st := s_Effect_of) l_Effect_of c_Effect_of k_Effect_of
  have F_Effect___call__ := fun_mk (st := s_Effect___call__) l_Effect___call__ c_Effect___call__ k_Effect___call__
  have b_Effect___call__ := F_Effect___call__.binds (ps := ["self", "state"]) fun _ _ _ _ _ _ us hl => match us, hl with | [_, _], _ => rfl
  have F_Effect___mul__ := fun_mk (st := s_Effect___mul__) l_Effect___mul__ c_Effect___mul__ k_Effect___mul__
  have b_Effect___mul__ := F_Effect___mul__.binds (ps := ["self", "other"]) fun _ _ _ _ _ _ us hl => match us, hl with | [_, _], _ => rfl
  have F_Effect___eq__ := fun_mk (st := s_Effect___eq__) l_Effect___eq__ c_Effect___eq__ k_Effect___eq__
  have b_Effect___eq__ := F_Effect___eq__.binds (ps := ["self", "other"]) fun _ _ _ _ _ _ us hl => match us, hl with | [_, _], _ => rfl
  have F_is_integer := fun_mk (st := s_is_integer) l_is_integer c_is_integer k_is_integer
  have b_is_integer := F_is_integer.binds (ps := ["value"]) fun _ _ _ _ _ _ us hl => match us, hl with | [_], _ => rfl
  have F_need_bit := fun_mk (st := s_need_bit) l_need_bit c_need_bit k_need_bit
  have b_need_bit := F_need_bit.binds (ps := ["value"]) fun _ _ _ _ _ _ us hl => match us, hl with | [_], _ => rfl
  have F_Bit_now := fun_mk (st := s_Bit_now) l_Bit_now c_Bit_now k_Bit_now
  have b_Bit_now := F_Bit_now.binds (ps := ["self"]) fun _ _ _ _ _ _ us hl => match us, hl with | [_], _ => rfl
  have F_Bit_state := fun_mk (st := s_Bit_state) l_Bit_state c_Bit_state k_Bit_state
  have b_Bit_state := F_Bit_state.binds (ps := ["self"]) fun _ _ _ _ _ _ us hl => match us, hl with | [_], _ => rfl
  have F_KindBit_read := fun_mk (st := s_KindBit_read) l_KindBit_read c_KindBit_read k_KindBit_read
  have b_KindBit_read := F_KindBit_read.binds (ps := ["self"]) fun _ _ _ _ _ _ us hl => match us, hl with | [_], _ => rfl
  have F_KindBit_write := fun_mk (st := s_KindBit_write) l_KindBit_write c_KindBit_write k_KindBit_write
  have b_KindBit_write := F_KindBit_write.binds (ps := ["self", "bit"]) fun _ _ _ _ _ _ us hl => match us, hl with | [_, _], _ => rfl
  have F_KindBit_deed := fun_mk (st := s_KindBit_deed) l_KindBit_deed c_KindBit_deed k_KindBit_deed
  have b_KindBit_deed := F_KindBit_deed.binds (ps := ["self"]) fun _ _ _ _ _ _ us hl => match us, hl with | [_], _ => rfl
  have F__law_pen := fun_mk (st := s__law_pen) l__law_pen c__law_pen k__law_pen
  have b__law_pen := F__law_pen.binds (ps := ["_law_script"]) fun _ _ _ _ _ _ us hl => match us, hl with | [_], _ => rfl
  have F__law_draw := fun_mk (st := s__law_draw) l__law_draw c__law_draw k__law_draw
  have b__law_draw := F__law_draw.binds (ps := ["_law_pen_here", "_law_many"]) fun _ _ _ _ _ _ us hl => match us, hl with | [_, _], _ => rfl
  have F__law_write := fun_mk (st := s__law_write) l__law_write c__law_write k__law_write
  have b__law_write := F__law_write.binds (ps := ["_law_writing", "_law_state", "_law_bit"]) fun _ _ _ _ _ _ us hl => match us, hl with | [_, _, _], _ => rfl
  have F__law_read := fun_mk (st := s__law_read) l__law_read c__law_read k__law_read
  have b__law_read := F__law_read.binds (ps := ["_law_reading", "_law_state"]) fun _ _ _ _ _ _ us hl => match us, hl with | [_, _], _ => rfl
  have F__law_deeds := fun_mk (st := s__law_deeds) l__law_deeds c__law_deeds k__law_deeds
  have b__law_deeds := F__law_deeds.binds (ps := ["_law_device", "_law_state"]) fun _ _ _ _ _ _ us hl => match us, hl with | [_, _], _ => rfl
  have F__law_words := fun_mk (st := s__law_words) l__law_words c__law_words k__law_words
  have b__law_words := F__law_words.binds (ps := ["_law_pen_here"]) fun _ _ _ _ _ _ us hl => match us, hl with | [_], _ => rfl
  have F__law_states := fun_mk (st := s__law_states) l__law_states c__law_states k__law_states
  have b__law_states := F__law_states.binds (ps := ["_law_words_here"]) fun _ _ _ _ _ _ us hl => match us, hl with | [_], _ => rfl
  have F__law_letters := fun_mk (st := s__law_letters) l__law_letters c__law_letters k__law_letters
  have b__law_letters := F__law_letters.binds (ps := ["_law_pen_here", "_law_most"]) fun _ _ _ _ _ _ us hl => match us, hl with | [_, _], _ => rfl
  have F__law_set_up := fun_mk (st := s__law_set_up) l__law_set_up c__law_set_up k__law_set_up
  have b__law_set_up := F__law_set_up.binds (ps := ["_law_kind", "_law_state"]) fun _ _ _ _ _ _ us hl => match us, hl with | [_, _], _ => rfl
  have F__law_led := fun_mk (st := s__law_led) l__law_led c__law_led k__law_led
  have b__law_led := F__law_led.binds (ps := ["_law_bit", "_law_letters_here", "_law_deeds_here"]) fun _ _ _ _ _ _ us hl => match us, hl with | [_, _, _], _ => rfl
  have F__law_way := fun_mk (st := s__law_way) l__law_way c__law_way k__law_way
  have b__law_way := F__law_way.binds (ps := ["_law_words_here", "_law_state", "_law_end", "_law_letters_here"]) fun _ _ _ _ _ _ us hl => match us, hl with | [_, _, _, _], _ => rfl
  have F__law_letter := fun_mk (st := s__law_letter) l__law_letter c__law_letter k__law_letter
  have b__law_letter := F__law_letter.binds (ps := ["_law_words_here", "_law_state", "_law_letter_here"]) fun _ _ _ _ _ _ us hl => match us, hl with | [_, _, _], _ => rfl
  have F__law_kind_right := fun_mk (st := s__law_kind_right) l__law_kind_right c__law_kind_right k__law_kind_right
  have b__law_kind_right := F__law_kind_right.binds (ps := ["_law_pen_here"]) fun _ _ _ _ _ _ us hl => match us, hl with | [_], _ => rfl
  have F_law := fun_mk (st := s_law) l_law c_law k_law
  have b_law := F_law.binds (ps := ["_law_script"]) fun _ _ _ _ _ _ us hl => match us, hl with | [_], _ => rfl

  have cK : Cls K C_Kind := ⟨pg_Kind, hd_Kind, po_Kind, sa_Kind⟩
  have cE : Cls K C_Effect := ⟨pg_Effect, hd_Effect, po_Effect, sa_Effect⟩
  have TM : TxtM K w mg C_Kind dM := {
    z_int := PySem.W.mg_none_of X G z_int, z_bool := PySem.W.mg_none_of X G z_bool, z_abs := PySem.W.mg_none_of X G z_abs, z_len := PySem.W.mg_none_of X G z_len, z_list := PySem.W.mg_none_of X G z_list, z_tuple := PySem.W.mg_none_of X G z_tuple, z_max := PySem.W.mg_none_of X G z_max, z_range := PySem.W.mg_none_of X G z_range, z_isinstance := PySem.W.mg_none_of X G z_isinstance, z_repr := PySem.W.mg_none_of X G z_repr, z_str := PySem.W.mg_none_of X G z_str, z_sorted := PySem.W.mg_none_of X G z_sorted, z_set := PySem.W.mg_none_of X G z_set, z_zip := PySem.W.mg_none_of X G z_zip, z_enumerate := PySem.W.mg_none_of X G z_enumerate, z_all := PySem.W.mg_none_of X G z_all, z_ValueError := PySem.W.mg_none_of X G z_ValueError
    cl := cK, n_reading := n_Kind_reading, n_writing := n_Kind_writing, n_device := n_Kind_device, n_states := n_Kind_states, mg_Kind := PySem.W.mg_of X G aC_Kind
    con := ⟨.type "type", t_Kind_READINGS, t_Kind_WRITINGS, t_Kind_DEVICES, _, _, _, ⟨rd_Kind, ga_Kind⟩, ⟨fc_t_Kind_READINGS, rfl⟩, ⟨fc_t_Kind_WRITINGS, rfl⟩, ⟨fc_t_Kind_DEVICES, rfl⟩,
      sqK lk_t_Kind_READINGS (by simp) (.cons ⟨_, rfl⟩ (.cons ⟨_, rfl⟩ .nil)),
      sqK lk_t_Kind_WRITINGS (by simp) (.cons ⟨_, rfl⟩ (.cons ⟨_, rfl⟩ (.cons ⟨_, rfl⟩ (.cons ⟨_, rfl⟩ (.cons ⟨_, rfl⟩ (.cons ⟨_, rfl⟩ (.cons ⟨_, rfl⟩ .nil))))))),
      sqK lk_t_Kind_DEVICES (by simp) (.cons ⟨_, rfl⟩ (.cons ⟨_, rfl⟩ (.cons ⟨_, rfl⟩ (.cons ⟨_, rfl⟩ .nil))))⟩
    ty := fun e => .base (.ins e cK tyc tyg tyt tym), isi := tyi, mg_MOVABLE := PySem.W.mg_of X G mM, mov := ⟨es_M, n_M, lM, litM, lowM⟩
    item := fun d hd => by
      simp only [DV, List.mem_cons, List.not_mem_nil, or_false] at hd
      rcases hd with rfl | rfl | rfl | rfl
      · exact ⟨a_m0, iM0, sqK tM0 (by simp) .nil⟩
      · exact ⟨a_m1, iM1, sqK tM1 (by simp) (.cons ⟨_, rfl⟩ .nil)⟩
      · exact ⟨a_m2, iM2, sqK tM2 (by simp) (.cons ⟨_, rfl⟩ .nil)⟩
      · exact ⟨a_m3, iM3, sqK tM3 (by simp) (.cons ⟨_, rfl⟩ (.cons ⟨_, rfl⟩ .nil))⟩ }
  have T : TxtF K w mg C_Kind dM C_Effect := {
    toTxtM := TM, cle := cE, n_kind := n_Effect_kind, n_ends := n_Effect_ends, mg_Effect := PySem.W.mg_of X G aC_Effect
    g_LETTERS := ⟨_, PySem.W.mg_of X G gLT⟩, g_MOST := ⟨_, PySem.W.mg_of X G gML⟩
    tyE := fun e => .base (.ins e cE tycF tyg tyt tymF), isiE := tyiF }
  have TK := TM.toTxtK
  have T0 := TK.toTxt
  have OX2 : OexC K e2 := ⟨⟨nm_E2, qq_E2, N_E2, bs_E2, bm_E2, sn_E2, sub_E2, ab_E2, col_E2, dd_E2, k0_E2, k1_E2, k2_E2, k3_E2, k5_E2, lkE2.trans (congrArg some lkF2), rvE2⟩, saE2, xs2, tyE2, kpE2⟩
  have SF2 : KX.SupFn K l.prog fI2 (PySem.W.ksFn "__init__" "InvalidWord.__init__" (defArgs s_I2) (defBody s_I2) (defScope s_I2) .none kV_I2 dc_I2 pm_I2 an_I2 (.ref cda2) ct_I2 ccell2) e2 "value" "value" := {
    ex := ⟨"InvalidWord.__init__", defArgs s_I2, defScope s_I2, .none, kV_I2, dc_I2, pm_I2, ct_I2, oc_I2, ccl_I2, cl_I2, an_I2, od_I2, cdd_I2, cld_I2, sl_I2, ccs_I2, csl_I2, cda2, ccell2, vs_I2, file_I2, tf_I2, _, _, _, _, _, _, _, _, _, _, _, _, _, _, rfl, lIK2, cIK2, lcd2, vsI2, fiI2, lcc2, rfl, rfl, rfl, rfl, rfl, by decide +kernel, free_only (by decide +kernel), rfl, rfl, rfl, rfl, fun en => rfl⟩
    top := tpI, nv := ⟨by decide, by decide, by decide⟩, opq := opI, sub := sbI2, ve := veI2, sup := suI2, nof := xv2 }
  have OX4 : OexC K e4 := ⟨⟨nm_E4, qq_E4, N_E4, bs_E4, bm_E4, sn_E4, sub_E4, ab_E4, col_E4, dd_E4, k0_E4, k1_E4, k2_E4, k3_E4, k5_E4, lkE4.trans (congrArg some lkF4), rvE4⟩, saE4, xs4, tyE4, kpE4⟩
  have SF4 : KX.SupFn K l.prog fI4 (PySem.W.ksFn "__init__" "InvalidKind.__init__" (defArgs s_I4) (defBody s_I4) (defScope s_I4) .none kV_I4 dc_I4 pm_I4 an_I4 (.ref cda4) ct_I4 ccell4) e4 "value" "value" := {
    ex := ⟨"InvalidKind.__init__", defArgs s_I4, defScope s_I4, .none, kV_I4, dc_I4, pm_I4, ct_I4, oc_I4, ccl_I4, cl_I4, an_I4, od_I4, cdd_I4, cld_I4, sl_I4, ccs_I4, csl_I4, cda4, ccell4, vs_I4, file_I4, tf_I4, _, _, _, _, _, _, _, _, _, _, _, _, _, _, rfl, lIK4, cIK4, lcd4, vsI4, fiI4, lcc4, rfl, rfl, rfl, rfl, rfl, by decide +kernel, free_only (by decide +kernel), rfl, rfl, rfl, rfl, fun en => rfl⟩
    top := tpI, nv := ⟨by decide, by decide, by decide⟩, opq := opI, sub := sbI4, ve := veI4, sup := suI4, nof := xv4 }
  have tk : TxtKB K C_KindBit := ⟨⟨pg_KindBit, hd_KindBit, po_KindBit, sa_KindBit⟩, n_KindBit_held⟩
  have hsup : mg "super" = none := PySem.W.mg_none_of X G z_super
  have SFK : SF l.prog K f_KindBit___init__ (PySem.W.ksFn "__init__" "KindBit.__init__" (defArgs s_KindBit___init__) (defBody s_KindBit___init__) (defScope s_KindBit___init__) (.ref DT_KindBit___init__) kV_KindBit___init__ dc_KindBit___init__ pm_KindBit___init__ an_KindBit___init__ (.ref cda_KindBit___init__) ct_KindBit___init__ cc_KindBit___init__) "__init__" "KindBit.__init__" s_KindBit___init__ cda_KindBit___init__ cc_KindBit___init__ C_KindBit := ⟨⟨_, _, _, _, _, _, _, _, _, rfl, l_KindBit___init__⟩, c_KindBit___init__, ⟨_, _, _, _, _, _, ld_KindBit___init__, vs2_KindBit___init__, fi2_KindBit___init__⟩, ⟨_, _, _, lc_KindBit___init__⟩, tpI, opI, dcl_KindBit___init__⟩
  have b3K : Binds K (PySem.W.ksFn "__init__" "KindBit.__init__" (defArgs s_KindBit___init__) (defBody s_KindBit___init__) (defScope s_KindBit___init__) (.ref DT_KindBit___init__) kV_KindBit___init__ dc_KindBit___init__ pm_KindBit___init__ an_KindBit___init__ (.ref cda_KindBit___init__) ct_KindBit___init__ cc_KindBit___init__) ["self", "kind", "value"] [] := fun s us hX hl => match us, (show us.length = 3 by simpa using hl) with
    | [u1, u2, u3], _ => by
      obtain ⟨k, e1, e2⟩ : ∃ k, bindArgs (PySem.W.ksFn "__init__" "KindBit.__init__" (defArgs s_KindBit___init__) (defBody s_KindBit___init__) (defScope s_KindBit___init__) (.ref DT_KindBit___init__) kV_KindBit___init__ dc_KindBit___init__ pm_KindBit___init__ an_KindBit___init__ (.ref cda_KindBit___init__) ct_KindBit___init__ cc_KindBit___init__) ⟨[u1, u2, u3], []⟩ = seqItems? (.ref DT_KindBit___init__) >>= k ∧ k (some #[.int 0 tk_KindBit___init__]) = pure ((["self", "kind", "value"] : List Str).zip [u1, u2, u3]) := ⟨_, rfl, rfl⟩
      refine BindsTo.of_looks fun M => ?_
      show PySem.W.Looks M s.heap (bindArgs _ ⟨[u1, u2, u3], []⟩) _
      rw [e1]
      exact looks_items hX dt_KindBit___init__ rfl (.of_pure e2)
  refine ⟨PySem.W.fnOf "law" "law" (defArgs s_law) (defBody s_law) (defScope s_law) .none kV_law dc_law pm_law an_law cd_law ct_law, fun s v => .of_eq rfl, fun base _ _ => ?_⟩
  have em2 : KX.ErrMk l.prog w K mg base e2 "InvalidWord" "value" := ⟨fI2, _, "value", OX2, inE2, tiE2, KX.sup_ok SF2 OX2 (PySem.W.mg_none_of X G z_super) (by decide +kernel), .all fun us hl => (match us, hl with | [_, _], _ => rfl), PySem.W.mg_of X G aE2⟩
  have em4 : KX.ErrMk l.prog w K mg base e4 "InvalidKind" "value" := ⟨fI4, _, "value", OX4, inE4, tiE4, KX.sup_ok SF4 OX4 (PySem.W.mg_none_of X G z_super) (by decide +kernel), .all fun us hl => (match us, hl with | [_, _], _ => rfl), PySem.W.mg_of X G aE4⟩
  have mu : CalleeM l.prog w K mg base CX0 1 C_Kind "unguarded" ["self", "state", "bit"] (spUng C_Kind) := ⟨⟨_, _, ok_unguarded F_Kind_unguarded TK, ⟨a_Kind_unguarded, i_Kind_unguarded, k_Kind_unguarded⟩, b_Kind_unguarded⟩, cK⟩
  have ow : FnOk l.prog w K mg base CX0 2 f_Kind_after_write _ ["self", "state", "bit"] (spWrite C_Kind) := ok_after_write (k := 0) (j := 0) F_Kind_after_write TK mu
  have mw : CalleeM l.prog w K mg base CX0 2 C_Kind "after_write" ["self", "state", "bit"] (spWrite C_Kind) := ⟨⟨_, _, ow, ⟨a_Kind_after_write, i_Kind_after_write, k_Kind_after_write⟩, b_Kind_after_write⟩, cK⟩
  have mr : CalleeM l.prog w K mg base CX0 1 C_Kind "after_read" ["self", "state"] (spRead C_Kind) := ⟨⟨_, _, ok_after_read F_Kind_after_read TK, ⟨a_Kind_after_read, i_Kind_after_read, k_Kind_after_read⟩, b_Kind_after_read⟩, cK⟩
  have md : CalleeM l.prog w K mg base CX0 1 C_Kind "deeds" ["self", "state"] (spDeedsK C_Kind) := ⟨⟨_, _, ok_deedsK F_Kind_deeds TM, ⟨a_Kind_deeds, i_Kind_deeds, k_Kind_deeds⟩, b_Kind_deeds⟩, cK⟩
  have ci : CalleeI l.prog w K mg base CX0 1 C_Kind "Kind" ["self", "reading", "writing", "device"] (spKind C_Kind) := ⟨⟨_, _, ok_kind F_Kind___init__ TK, ⟨mk_Kind, a_Kind___init__, i_Kind___init__, kc_Kind⟩, TM.mg_Kind, b_Kind___init__⟩⟩
  have oe : OwnM l.prog w K mg base 1 C_Kind "__eq__" ["self", "other"] (spEq C_Kind) := ⟨⟨_, _, a_Kind___eq__, i_Kind___eq__, ok_eqK F_Kind___eq__ TM, b_Kind___eq__⟩⟩
  have on_ : OwnNe l.prog w K mg base 1 C_Kind ["self", "other"] (spEq C_Kind) := ⟨⟨_, _, ⟨⟨_, _, _, _, _, _, _, _, _, _, _, _, _, _, _, _, lkK.trans (congrArg some lkO), nsO K nsK, neq, nne⟩, ⟨_, l_Kind___eq__, foK⟩⟩, ok_eqK F_Kind___eq__ TM, b_Kind___eq__⟩⟩
  have cnl : KB.Callee l.prog w K mg base CX0 1 "need_letters" ["letters"] (spNL) := ⟨⟨_, _, ok_nl F_need_letters T, PySem.W.mg_of X G a_need_letters, k_need_letters, b_need_letters⟩⟩
  have cwd : KB.Callee l.prog w K mg base CX0 3 "with_deeds" ["kind", "states", "quiet"] (spWD C_Kind) := ⟨⟨_, _, ok_wd F_with_deeds T0 md, PySem.W.mg_of X G a_with_deeds, k_with_deeds, b_with_deeds⟩⟩
  have cal_ : KB.Callee l.prog w K mg base CX0 3 "after_letter" ["kind", "state", "letter"] (spAL C_Kind) := ⟨⟨_, _, ok_al F_after_letter T0 mr mw, PySem.W.mg_of X G a_after_letter, k_after_letter, b_after_letter⟩⟩
  have clo_ : KB.Callee l.prog w K mg base CX0 4 "longer" ["kind", "ends", "letter", "quiet"] (spLonger C_Kind) := ⟨⟨_, _, ok_longer F_longer T0 cal_ cwd, PySem.W.mg_of X G a_longer, k_longer, b_longer⟩⟩
  have cei : CalleeI l.prog w K mg base CX0 1 C_Effect "Effect" ["self", "kind", "ends"] (spEInit C_Effect) := ⟨⟨_, _, ok_einit F_Effect___init__ T, ⟨mk_Effect, a_Effect___init__, i_Effect___init__, kc_Effect⟩, T.mg_Effect, b_Effect___init__⟩⟩
  have FO : FunD K "of" "Effect.of" (defArgs s_Effect_of) (defBody s_Effect_of) (defScope s_Effect_of) [] [("quiet", .bl false)] f_Effect_of _ := ⟨⟨_, _, _, _, _, _, _, _, _, _, rfl, l_Effect_of, c_Effect_of, .inl ⟨rfl, rfl⟩, .inr ⟨D_Effect_of, rfl, fun q hq => by
    rw [List.mem_singleton.mp hq]
    exact ⟨_, kw_Effect_of_quiet, rfl⟩⟩⟩, k_Effect_of⟩
  have okO : FnOk l.prog w K mg base CX0 6 f_Effect_of _ ["cls", "kind", "letters", "quiet"] (spOf C_Kind C_Effect) := ok_of FO T cnl cwd clo_ cei
  have crE : ClX.CRead K C_Effect (.type "type") := ⟨rdF, gaF⟩
  have cmE : ClX.CMet K C_Effect (.type "type") "of" p_Effect_of f_Effect_of := ⟨a_Effect_of, ⟨_, rc_Effect_of⟩, fi_Effect_of⟩
  have ck2 : KU.CalleeCK l.prog w K mg base CX0 6 C_Effect "of" ["cls", "kind", "letters", "quiet"] (spOf C_Kind C_Effect) 3 ["quiet"] gRev1 := ⟨⟨_, p_Effect_of, f_Effect_of, _, fun us ws => us ++ ws, crE, cmE, okO,
    ⟨fun s us ws _ l1 l2 => .of_eq (match us, ws, l1, l2 with | [_, _, _], [_], _, _ => rfl), fun r1 r2 => r1.append r2⟩⟩⟩
  obtain ⟨gg, kb2⟩ := kbn_def (ps := ["cls", "kind", "letters", "quiet"]) FO 3 (by simp) rfl fun D doc pm an cdv ct us ks hu hk => match us, ks, hu, hk with
    | [_, _, _], [_], _, _ => ⟨_, _, _, _, _, _, rfl, rfl, rfl⟩
  have ckd : KU.CalleeCK l.prog w K mg base CX0 6 C_Effect "of" ["cls", "kind", "letters", "quiet"] (spOf C_Kind C_Effect) 3 [] gDef := ⟨⟨_, p_Effect_of, f_Effect_of, _, gg, crE, cmE, okO, kb2⟩⟩
  have ocE : KC.OwnC l.prog w K mg base CX0 1 C_Effect ["self", "state"] (spECall C_Kind C_Effect) := ⟨⟨_, _, a_Effect___call__, i_Effect___call__, fnC, ok_ecall F_Effect___call__ T, b_Effect___call__⟩⟩
  have oeE : OwnM l.prog w K mg base 3 C_Effect "__eq__" ["self", "other"] (spEEq C_Kind C_Effect) := ⟨⟨_, _, a_Effect___eq__, i_Effect___eq__, ok_eeq F_Effect___eq__ T oe nfK, b_Effect___eq__⟩⟩
  have onE : OwnNe l.prog w K mg base 3 C_Effect ["self", "other"] (spEEq C_Kind C_Effect) := ⟨⟨_, _, ⟨⟨_, _, _, _, _, _, _, _, _, _, _, _, _, _, _, _, lkKF.trans (congrArg some lkOF), nsOF K nsKF, neqF, nneF⟩, ⟨_, l_Effect___eq__, foKF⟩⟩, ok_eeq F_Effect___eq__ T oe nfK, b_Effect___eq__⟩⟩
  have cns : KB.Callee l.prog w K mg base (L2.CX l.prog w) 3 "need_same_kind" ["first", "second"] (spNSK C_Kind C_Effect e4) := ⟨⟨_, _, ok_nsk F_need_same_kind T em4 oe nfK, PySem.W.mg_of X G a_need_same_kind, k_need_same_kind, b_need_same_kind⟩⟩
  have b2_mul : KH.OwnB2 l.prog w K mg base (L2.CX l.prog w) 5 C_Effect .Mult ["self", "other"] (spMulE C_Kind C_Effect e4) := ⟨⟨_, _, sf_Effect, d_Effect_mul, i_Effect___mul__, ok_mul F_Effect___mul__ T cns cei, b_Effect___mul__⟩⟩
  have cI : KB.Callee l.prog w K mg base CX0 1 "is_integer" ["value"] (spInt) := ⟨⟨_, _, ok_int F_is_integer T0, PySem.W.mg_of X G a_is_integer, k_is_integer, b_is_integer⟩⟩
  have FDK : FunD K "__init__" "Bit.__init__" (defArgs s_Bit___init__) (defBody s_Bit___init__) (defScope s_Bit___init__) [.int 0] [] f_Bit___init__ _ := ⟨⟨_, _, _, _, _, _, _, _, _, _, rfl, l_Bit___init__, c_Bit___init__, .inr ⟨by simp, DT_Bit___init__, _, [.int 0 tk_Bit___init___0], _, rfl, dt_Bit___init__, rfl, .cons ⟨_, rfl⟩ .nil⟩, .inl rfl⟩, k_Bit___init__⟩
  obtain ⟨dsK, vdK, bdK⟩ := FDK.binds1 (ps := ["self", "value"]) 2 1 (by simp) rfl fun T kV doc pm an cdv ct us its hu hi => match us, its, hu, hi with
    | [_, _], [_], _, _ => ⟨_, rfl, rfl⟩
  obtain rfl : dsK = [] := by
    cases vdK
    rfl
  have cNB : KB.Callee l.prog w K mg base (L2.CX l.prog w) 3 "need_bit" ["value"] (spNeedB e2) := ⟨⟨_, _, ok_needB F_need_bit em2 cI, PySem.W.mg_of X G a_need_bit, k_need_bit, b_need_bit⟩⟩
  have pnow : KW.OwnP l.prog w K mg base 1 C_KindBit "now" ["self"] (spNow C_KindBit) := ⟨⟨_, _, _, ⟨nw_KB, pb_Bit_now, pc_Bit_now, ⟨_, pd_Bit_now⟩⟩, ok_bnow F_Bit_now tk, b_Bit_now⟩, tk.cl⟩
  have pstate : KW.OwnP l.prog w K mg base 1 C_KindBit "state" ["self"] (spState C_KindBit) := ⟨⟨_, _, _, ⟨st_KB, pb_Bit_state, pc_Bit_state, ⟨_, pd_Bit_state⟩⟩, ok_bstate F_Bit_state tk, b_Bit_state⟩, tk.cl⟩
  have fk : FnOk l.prog w K mg base (L2.CX l.prog w) 6 f_KindBit___init__ _ ["self", "kind", "value"] (spKInit C_KindBit e2) := ok_kinit SFK tk n_KindBit_kind hsup ⟨⟨_, _, su_KB, ti_Bi, fn_Bi, ok_binit FDK tk cNB, bdK⟩, sb_KB⟩
  have mkK : Mk K C_KindBit f_KindBit___init__ := ⟨mk_KindBit, in_KB, i_KindBit___init__, kc_KindBit⟩
  have ciK : CalleeI l.prog w K mg base (L2.CX l.prog w) 6 C_KindBit "KindBit" ["self", "kind", "value"] (spKInit C_KindBit e2) := ⟨⟨_, _, fk, mkK, PySem.W.mg_of X G aC_KindBit, b3K⟩⟩
  have kbr : CalleeM l.prog w K mg base CX0 3 C_KindBit "read" ["self"] (spKRd C_KindBit C_Kind) := ⟨⟨_, _, ok_kread F_KindBit_read tk n_KindBit_kind pnow mr, ⟨a_KindBit_read, i_KindBit_read, k_KindBit_read⟩, b_KindBit_read⟩, tk.cl⟩
  have kbd : CalleeM l.prog w K mg base CX0 3 C_KindBit "deed" ["self"] (spKDe C_KindBit C_Kind) := ⟨⟨_, _, ok_kdeed F_KindBit_deed tk n_KindBit_kind md, ⟨a_KindBit_deed, i_KindBit_deed, k_KindBit_deed⟩, b_KindBit_deed⟩, tk.cl⟩
  have kbw : CalleeM l.prog w K mg base (L2.CX l.prog w) 4 C_KindBit "write" ["self", "bit"] (spKWr C_KindBit C_Kind e2) := ⟨⟨_, _, ok_kwrite F_KindBit_write tk n_KindBit_kind cNB mw, ⟨a_KindBit_write, i_KindBit_write, k_KindBit_write⟩, b_KindBit_write⟩, tk.cl⟩
  have cd : KB.Callee l.prog w K mg base CX0 1 "_law_draw" ["_law_pen_here", "_law_many"] (spDraw) := ⟨⟨_, _, ok_draw F__law_draw T0, PySem.W.mg_of X G a__law_draw, k__law_draw, b__law_draw⟩⟩
  have cp : KB.Callee l.prog w K mg base CX0 1 "_law_pen" ["_law_script"] (spPen K) := ⟨⟨_, _, ok_pen F__law_pen T0, PySem.W.mg_of X G a__law_pen, k__law_pen, b__law_pen⟩⟩
  have cw : KB.Callee l.prog w K mg base CX0 1 "_law_write" ["_law_writing", "_law_state", "_law_bit"] (spLW) := ⟨⟨_, _, ok_lw F__law_write T0, PySem.W.mg_of X G a__law_write, k__law_write, b__law_write⟩⟩
  have cr : KB.Callee l.prog w K mg base CX0 1 "_law_read" ["_law_reading", "_law_state"] (spLR) := ⟨⟨_, _, ok_lr F__law_read T0, PySem.W.mg_of X G a__law_read, k__law_read, b__law_read⟩⟩
  have ce : KB.Callee l.prog w K mg base CX0 1 "_law_deeds" ["_law_device", "_law_state"] (spLD) := ⟨⟨_, _, ok_ld F__law_deeds T0, PySem.W.mg_of X G a__law_deeds, k__law_deeds, b__law_deeds⟩⟩
  have cq : KB.Callee l.prog w K mg base CX0 2 "_law_words" ["_law_pen_here"] (spWords) := ⟨⟨_, _, ok_words F__law_words T0 cd, PySem.W.mg_of X G a__law_words, k__law_words, b__law_words⟩⟩
  have cs : KB.Callee l.prog w K mg base CX0 1 "_law_states" ["_law_words_here"] (spStates) := ⟨⟨_, _, ok_states F__law_states T0, PySem.W.mg_of X G a__law_states, k__law_states, b__law_states⟩⟩
  have clt : KB.Callee l.prog w K mg base CX0 2 "_law_letters" ["_law_pen_here", "_law_most"] (spLettersB) := ⟨⟨_, _, ok_letters F__law_letters T0 cd, PySem.W.mg_of X G a__law_letters, k__law_letters, b__law_letters⟩⟩
  have csu : KB.Callee l.prog w K mg base CX0 8 "_law_set_up" ["_law_kind", "_law_state"] (spSetUp C_KindBit C_Kind) := ⟨⟨_, _, ok_setup F__law_set_up tk.cl ciK kbw pstate, PySem.W.mg_of X G a__law_set_up, k__law_set_up, b__law_set_up⟩⟩
  have cld : KB.Callee l.prog w K mg base CX0 8 "_law_led" ["_law_bit", "_law_letters_here", "_law_deeds_here"] (spLed C_KindBit C_Kind) := ⟨⟨_, _, ok_led F__law_led T0 kbd kbr kbw pstate, PySem.W.mg_of X G a__law_led, k__law_led, b__law_led⟩⟩
  have cle : KB.Callee l.prog w K mg base CX0 3 "_law_letter" ["_law_words_here", "_law_state", "_law_letter_here"] (spLetter) := ⟨⟨_, _, ok_letter F__law_letter T0 cr cw, PySem.W.mg_of X G a__law_letter, k__law_letter, b__law_letter⟩⟩
  have cwy : KB.Callee l.prog w K mg base CX0 9 "_law_way" ["_law_words_here", "_law_state", "_law_end", "_law_letters_here"] (spWay) := ⟨⟨_, _, ok_way F__law_way T0 cle ce, PySem.W.mg_of X G a__law_way, k__law_way, b__law_way⟩⟩
  have ckr : KB.Callee l.prog w K mg base CX0 10 "_law_kind_right" ["_law_pen_here"] (spKR) := ⟨⟨_, _, ok_kr (cK := e4) F__law_kind_right T nfE oeE b2_mul clt cs cld csu ocE cwy ckd ck2 ci cq cd, PySem.W.mg_of X G a__law_kind_right, k__law_kind_right, b__law_kind_right⟩⟩
  exact ok_law F_law T0 ckr cp
end K16


open PySem PySem.W PyProof.Rows
set_option maxRecDepth 100000 in
set_option maxHeartbeats 0 in
theorem PySem.Challenge.cw_keptbits_k16_whole_runs_of_bits_and_effe_holds : PySem.Challenge.rw_keptbits_k16_whole_runs_of_bits_and_effe.Holds := by
  w_on; o_law; k_head; (case hw => w_witness2)
  k_fill
  refine KG.walkG (l := PySem.Challenge.rw_keptbits_k16_whole_runs_of_bits_and_effe) (n := 63) (k := 12) (x := "_law_script") (sp := fun w => K16.spLaw _) rfl (by decide) rfl ⟨rfl, by decide, by decide⟩ (fun w h Y => PySem.W.kIn_of Y) ?F (fun _ _ a ns hl hS => ⟨a, ns, rfl, hS, hl, fun _ => rfl⟩)
  case F =>
    intro w mg fa h KX G hmg
    refine' K16.all_mk KX G hmg ?aC_Kind ?pg_Kind ?hd_Kind ?po_Kind ?sa_Kind ?mk_Kind ?kc_Kind ?n_Kind_reading ?n_Kind_writing ?n_Kind_device ?n_Kind_states ?rd_Kind ?ga_Kind ?fc_t_Kind_READINGS ?lk_t_Kind_READINGS ?fc_t_Kind_WRITINGS ?lk_t_Kind_WRITINGS ?fc_t_Kind_DEVICES ?lk_t_Kind_DEVICES ?aC_Effect ?pg_Effect ?hd_Effect ?po_Effect ?sa_Effect ?mk_Effect ?kc_Effect ?n_Effect_kind ?n_Effect_ends ?aC_Bit ?pg_Bit ?hd_Bit ?po_Bit ?sa_Bit ?mk_Bit ?kc_Bit ?aC_KindBit ?pg_KindBit ?hd_KindBit ?po_KindBit ?sa_KindBit ?mk_KindBit ?kc_KindBit ?n_KindBit_held ?n_KindBit_kind ?a_Kind___init__ ?i_Kind___init__ ?l_Kind___init__ ?c_Kind___init__ ?k_Kind___init__ ?a_Kind___eq__ ?i_Kind___eq__ ?l_Kind___eq__ ?c_Kind___eq__ ?k_Kind___eq__ ?a_Kind_after_read ?i_Kind_after_read ?l_Kind_after_read ?c_Kind_after_read ?k_Kind_after_read ?a_Kind_after_write ?i_Kind_after_write ?l_Kind_after_write ?c_Kind_after_write ?k_Kind_after_write ?a_Kind_unguarded ?i_Kind_unguarded ?l_Kind_unguarded ?c_Kind_unguarded ?k_Kind_unguarded ?a_Kind_deeds ?i_Kind_deeds ?l_Kind_deeds ?c_Kind_deeds ?k_Kind_deeds ?a_need_letters ?l_need_letters ?c_need_letters ?k_need_letters ?a_need_same_kind ?l_need_same_kind ?c_need_same_kind ?k_need_same_kind ?a_with_deeds ?l_with_deeds ?c_with_deeds ?k_with_deeds ?a_after_letter ?l_after_letter ?c_after_letter ?k_after_letter ?a_longer ?l_longer ?c_longer ?k_longer ?a_Effect___init__ ?i_Effect___init__ ?l_Effect___init__ ?c_Effect___init__ ?k_Effect___init__ ?a_Effect_of ?rc_Effect_of ?fi_Effect_of ?l_Effect_of ?kw_Effect_of_quiet ?c_Effect_of ?k_Effect_of ?a_Effect___call__ ?i_Effect___call__ ?l_Effect___call__ ?c_Effect___call__ ?k_Effect___call__ ?a_Effect___mul__ ?i_Effect___mul__ ?l_Effect___mul__ ?c_Effect___mul__ ?k_Effect___mul__ ?a_Effect___eq__ ?i_Effect___eq__ ?l_Effect___eq__ ?c_Effect___eq__ ?k_Effect___eq__ ?a_is_integer ?l_is_integer ?c_is_integer ?k_is_integer ?a_need_bit ?l_need_bit ?c_need_bit ?k_need_bit ?a_Bit___init__ ?i_Bit___init__ ?l_Bit___init__ ?dt_Bit___init__ ?c_Bit___init__ ?k_Bit___init__ ?pa_Bit_now ?pb_Bit_now ?pc_Bit_now ?pd_Bit_now ?l_Bit_now ?c_Bit_now ?k_Bit_now ?pa_Bit_state ?pb_Bit_state ?pc_Bit_state ?pd_Bit_state ?l_Bit_state ?c_Bit_state ?k_Bit_state ?a_KindBit_read ?i_KindBit_read ?l_KindBit_read ?c_KindBit_read ?k_KindBit_read ?a_KindBit_write ?i_KindBit_write ?l_KindBit_write ?c_KindBit_write ?k_KindBit_write ?a_KindBit_deed ?i_KindBit_deed ?l_KindBit_deed ?c_KindBit_deed ?k_KindBit_deed ?a__law_pen ?l__law_pen ?c__law_pen ?k__law_pen ?a__law_draw ?l__law_draw ?c__law_draw ?k__law_draw ?a__law_write ?l__law_write ?c__law_write ?k__law_write ?a__law_read ?l__law_read ?c__law_read ?k__law_read ?a__law_deeds ?l__law_deeds ?c__law_deeds ?k__law_deeds ?a__law_words ?l__law_words ?c__law_words ?k__law_words ?a__law_states ?l__law_states ?c__law_states ?k__law_states ?a__law_letters ?l__law_letters ?c__law_letters ?k__law_letters ?a__law_set_up ?l__law_set_up ?c__law_set_up ?k__law_set_up ?a__law_led ?l__law_led ?c__law_led ?k__law_led ?a__law_way ?l__law_way ?c__law_way ?k__law_way ?a__law_letter ?l__law_letter ?c__law_letter ?k__law_letter ?a__law_kind_right ?l__law_kind_right ?c__law_kind_right ?k__law_kind_right ?a_law ?l_law ?c_law ?k_law ?mM ?lM ?litM ?lowM ?iM0 ?iM1 ?iM2 ?iM3 ?tM0 ?tM1 ?tM2 ?tM3 ?tyc ?tyg ?tyt ?tym ?tyi ?lkK ?lkO ?nsK ?nsO ?neq ?nne ?foK ?tycF ?tymF ?tyiF ?lkKF ?lkOF ?nsKF ?nsOF ?neqF ?nneF ?foKF ?fnC ?rdF ?gaF ?gLT ?gML ?nfK ?sf_Effect ?d_Effect_mul ?nfE ?in_KB ?l_KindBit___init__ ?c_KindBit___init__ ?ld_KindBit___init__ ?vs2_KindBit___init__ ?fi2_KindBit___init__ ?lc_KindBit___init__ ?dcl_KindBit___init__ ?i_KindBit___init__ ?k_KindBit___init__ ?dt_KindBit___init__ ?nw_KB ?st_KB ?ti_Bi ?fn_Bi ?su_KB ?sb_KB ?aE2 ?xs2 ?xv2 ?lkE2 ?lkF2 ?rvE2 ?saE2 ?tyE2 ?kpE2 ?inE2 ?tiE2 ?lIK2 ?cIK2 ?lcd2 ?vsI2 ?fiI2 ?lcc2 ?sbI2 ?veI2 ?suI2 ?aE4 ?xs4 ?xv4 ?lkE4 ?lkF4 ?rvE4 ?saE4 ?tyE4 ?kpE4 ?inE4 ?tiE4 ?lIK4 ?cIK4 ?lcd4 ?vsI4 ?fiI4 ?lcc4 ?sbI4 ?veI4 ?suI4 ?tpI ?opI ?z_int ?z_bool ?z_abs ?z_len ?z_list ?z_tuple ?z_max ?z_range ?z_isinstance ?z_repr ?z_str ?z_sorted ?z_set ?z_zip ?z_enumerate ?z_all ?z_ValueError ?z_super
    (case aC_Kind => k_is)
    (case pg_Kind => k_is)
    (case hd_Kind => k_is)
    (case po_Kind => k_is)
    (case sa_Kind => k_is)
    (case mk_Kind => k_is)
    (case kc_Kind => k_is)
    (case n_Kind_reading => k_is)
    (case n_Kind_writing => k_is)
    (case n_Kind_device => k_is)
    (case n_Kind_states => k_is)
    (case rd_Kind => k_is)
    (case ga_Kind => k_is)
    (case fc_t_Kind_READINGS => k_is)
    (case lk_t_Kind_READINGS => k_is)
    (case fc_t_Kind_WRITINGS => k_is)
    (case lk_t_Kind_WRITINGS => k_is)
    (case fc_t_Kind_DEVICES => k_is)
    (case lk_t_Kind_DEVICES => k_is)
    (case aC_Effect => k_is)
    (case pg_Effect => k_is)
    (case hd_Effect => k_is)
    (case po_Effect => k_is)
    (case sa_Effect => k_is)
    (case mk_Effect => k_is)
    (case kc_Effect => k_is)
    (case n_Effect_kind => k_is)
    (case n_Effect_ends => k_is)
    (case aC_Bit => k_is)
    (case pg_Bit => k_is)
    (case hd_Bit => k_is)
    (case po_Bit => k_is)
    (case sa_Bit => k_is)
    (case mk_Bit => k_is)
    (case kc_Bit => k_is)
    (case aC_KindBit => k_is)
    (case pg_KindBit => k_is)
    (case hd_KindBit => k_is)
    (case po_KindBit => k_is)
    (case sa_KindBit => k_is)
    (case mk_KindBit => k_is)
    (case kc_KindBit => k_is)
    (case n_KindBit_held => k_is)
    (case n_KindBit_kind => k_is)
    (case a_Kind___init__ => k_is)
    (case i_Kind___init__ => k_is)
    (case l_Kind___init__ => k_is)
    (case c_Kind___init__ => k_is)
    (case k_Kind___init__ => k_is)
    (case a_Kind___eq__ => k_is)
    (case i_Kind___eq__ => k_is)
    (case l_Kind___eq__ => k_is)
    (case c_Kind___eq__ => k_is)
    (case k_Kind___eq__ => k_is)
    (case a_Kind_after_read => k_is)
    (case i_Kind_after_read => k_is)
    (case l_Kind_after_read => k_is)
    (case c_Kind_after_read => k_is)
    (case k_Kind_after_read => k_is)
    (case a_Kind_after_write => k_is)
    (case i_Kind_after_write => k_is)
    (case l_Kind_after_write => k_is)
    (case c_Kind_after_write => k_is)
    (case k_Kind_after_write => k_is)
    (case a_Kind_unguarded => k_is)
    (case i_Kind_unguarded => k_is)
    (case l_Kind_unguarded => k_is)
    (case c_Kind_unguarded => k_is)
    (case k_Kind_unguarded => k_is)
    (case a_Kind_deeds => k_is)
    (case i_Kind_deeds => k_is)
    (case l_Kind_deeds => k_is)
    (case c_Kind_deeds => k_is)
    (case k_Kind_deeds => k_is)
    (case a_need_letters => k_is)
    (case l_need_letters => k_is)
    (case c_need_letters => k_is)
    (case k_need_letters => k_is)
    (case a_need_same_kind => k_is)
    (case l_need_same_kind => k_is)
    (case c_need_same_kind => k_is)
    (case k_need_same_kind => k_is)
    (case a_with_deeds => k_is)
    (case l_with_deeds => k_is)
    (case c_with_deeds => k_is)
    (case k_with_deeds => k_is)
    (case a_after_letter => k_is)
    (case l_after_letter => k_is)
    (case c_after_letter => k_is)
    (case k_after_letter => k_is)
    (case a_longer => k_is)
    (case l_longer => k_is)
    (case c_longer => k_is)
    (case k_longer => k_is)
    (case a_Effect___init__ => k_is)
    (case i_Effect___init__ => k_is)
    (case l_Effect___init__ => k_is)
    (case c_Effect___init__ => k_is)
    (case k_Effect___init__ => k_is)
    (case a_Effect_of => k_is)
    (case rc_Effect_of => k_is)
    (case fi_Effect_of => k_is)
    (case l_Effect_of => k_is)
    (case kw_Effect_of_quiet => k_is)
    (case c_Effect_of => k_is)
    (case k_Effect_of => k_is)
    (case a_Effect___call__ => k_is)
    (case i_Effect___call__ => k_is)
    (case l_Effect___call__ => k_is)
    (case c_Effect___call__ => k_is)
    (case k_Effect___call__ => k_is)
    (case a_Effect___mul__ => k_is)
    (case i_Effect___mul__ => k_is)
    (case l_Effect___mul__ => k_is)
    (case c_Effect___mul__ => k_is)
    (case k_Effect___mul__ => k_is)
    (case a_Effect___eq__ => k_is)
    (case i_Effect___eq__ => k_is)
    (case l_Effect___eq__ => k_is)
    (case c_Effect___eq__ => k_is)
    (case k_Effect___eq__ => k_is)
    (case a_is_integer => k_is)
    (case l_is_integer => k_is)
    (case c_is_integer => k_is)
    (case k_is_integer => k_is)
    (case a_need_bit => k_is)
    (case l_need_bit => k_is)
    (case c_need_bit => k_is)
    (case k_need_bit => k_is)
    (case a_Bit___init__ => k_is)
    (case i_Bit___init__ => k_is)
    (case l_Bit___init__ => k_is)
    (case dt_Bit___init__ => k_is)
    (case c_Bit___init__ => k_is)
    (case k_Bit___init__ => k_is)
    (case pa_Bit_now => k_is)
    (case pb_Bit_now => k_is)
    (case pc_Bit_now => k_is)
    (case pd_Bit_now => k_is)
    (case l_Bit_now => k_is)
    (case c_Bit_now => k_is)
    (case k_Bit_now => k_is)
    (case pa_Bit_state => k_is)
    (case pb_Bit_state => k_is)
    (case pc_Bit_state => k_is)
    (case pd_Bit_state => k_is)
    (case l_Bit_state => k_is)
    (case c_Bit_state => k_is)
    (case k_Bit_state => k_is)
    (case a_KindBit_read => k_is)
    (case i_KindBit_read => k_is)
    (case l_KindBit_read => k_is)
    (case c_KindBit_read => k_is)
    (case k_KindBit_read => k_is)
    (case a_KindBit_write => k_is)
    (case i_KindBit_write => k_is)
    (case l_KindBit_write => k_is)
    (case c_KindBit_write => k_is)
    (case k_KindBit_write => k_is)
    (case a_KindBit_deed => k_is)
    (case i_KindBit_deed => k_is)
    (case l_KindBit_deed => k_is)
    (case c_KindBit_deed => k_is)
    (case k_KindBit_deed => k_is)
    (case a__law_pen => k_is)
    (case l__law_pen => k_is)
    (case c__law_pen => k_is)
    (case k__law_pen => k_is)
    (case a__law_draw => k_is)
    (case l__law_draw => k_is)
    (case c__law_draw => k_is)
    (case k__law_draw => k_is)
    (case a__law_write => k_is)
    (case l__law_write => k_is)
    (case c__law_write => k_is)
    (case k__law_write => k_is)
    (case a__law_read => k_is)
    (case l__law_read => k_is)
    (case c__law_read => k_is)
    (case k__law_read => k_is)
    (case a__law_deeds => k_is)
    (case l__law_deeds => k_is)
    (case c__law_deeds => k_is)
    (case k__law_deeds => k_is)
    (case a__law_words => k_is)
    (case l__law_words => k_is)
    (case c__law_words => k_is)
    (case k__law_words => k_is)
    (case a__law_states => k_is)
    (case l__law_states => k_is)
    (case c__law_states => k_is)
    (case k__law_states => k_is)
    (case a__law_letters => k_is)
    (case l__law_letters => k_is)
    (case c__law_letters => k_is)
    (case k__law_letters => k_is)
    (case a__law_set_up => k_is)
    (case l__law_set_up => k_is)
    (case c__law_set_up => k_is)
    (case k__law_set_up => k_is)
    (case a__law_led => k_is)
    (case l__law_led => k_is)
    (case c__law_led => k_is)
    (case k__law_led => k_is)
    (case a__law_way => k_is)
    (case l__law_way => k_is)
    (case c__law_way => k_is)
    (case k__law_way => k_is)
    (case a__law_letter => k_is)
    (case l__law_letter => k_is)
    (case c__law_letter => k_is)
    (case k__law_letter => k_is)
    (case a__law_kind_right => k_is)
    (case l__law_kind_right => k_is)
    (case c__law_kind_right => k_is)
    (case k__law_kind_right => k_is)
    (case a_law => k_is)
    (case l_law => k_is)
    (case c_law => k_is)
    (case k_law => k_is)
    (case mM => k_is)
    (case lM => k_is)
    (case litM => exact ⟨⟨_, _, rfl, rfl⟩, ⟨_, _, rfl, rfl⟩, ⟨_, _, rfl, rfl⟩, ⟨_, _, rfl, rfl⟩, trivial⟩)
    (case lowM => exact rfl)
    (case iM0 => k_is)
    (case iM1 => k_is)
    (case iM2 => k_is)
    (case iM3 => k_is)
    (case tM0 => k_is)
    (case tM1 => k_is)
    (case tM2 => k_is)
    (case tM3 => k_is)
    (case tyc => k_is)
    (case tyg => k_is)
    (case tyt => k_is)
    (case tym => k_is)
    (case tyi => exact rfl)
    (case lkK => k_is)
    (case lkO => exact rfl)
    (case nsK => k_is)
    (case nsO => (clear KX G hmg; intro K2 e; unfold PySem.W.nsOkIn; rw [e]; first | rfl | decide | simp))
    (case neq => k_is)
    (case nne => k_is)
    (case foK => exact rfl)
    (case tycF => k_is)
    (case tymF => k_is)
    (case tyiF => exact rfl)
    (case lkKF => k_is)
    (case lkOF => exact rfl)
    (case nsKF => k_is)
    (case nsOF => (clear KX G hmg; intro K2 e; unfold PySem.W.nsOkIn; rw [e]; first | rfl | decide | simp))
    (case neqF => k_is)
    (case nneF => k_is)
    (case foKF => exact rfl)
    (case fnC => exact rfl)
    (case rdF => k_is)
    (case gaF => k_is)
    (case gLT => k_is)
    (case gML => k_is)
    (case nfK => exact rfl)
    (case sf_Effect => exact rfl)
    (case d_Effect_mul => exact rfl)
    (case nfE => exact rfl)
    (case in_KB => k_is)
    (case l_KindBit___init__ => k_is)
    (case c_KindBit___init__ => k_is)
    (case ld_KindBit___init__ => k_is)
    (case vs2_KindBit___init__ => exact rfl)
    (case fi2_KindBit___init__ => exact rfl)
    (case lc_KindBit___init__ => k_is)
    (case dcl_KindBit___init__ => (exact ⟨_, rfl⟩))
    (case i_KindBit___init__ => k_is)
    (case k_KindBit___init__ => k_is)
    (case dt_KindBit___init__ => k_is)
    (case nw_KB => k_is)
    (case st_KB => k_is)
    (case ti_Bi => exact rfl)
    (case fn_Bi => exact rfl)
    (case su_KB => exact rfl)
    (case sb_KB => k_is)
    (case aE2 => k_is)
    (case xs2 => exact rfl)
    (case xv2 => k_is)
    (case lkE2 => k_is)
    (case lkF2 => exact rfl)
    (case rvE2 => exact rfl)
    (case saE2 => k_is)
    (case tyE2 => exact rfl)
    (case kpE2 => k_is)
    (case inE2 => k_is)
    (case tiE2 => exact rfl)
    (case lIK2 => k_is)
    (case cIK2 => k_is)
    (case lcd2 => k_is)
    (case vsI2 => exact rfl)
    (case fiI2 => exact rfl)
    (case lcc2 => k_is)
    (case sbI2 => k_is)
    (case veI2 => k_is)
    (case suI2 => exact rfl)
    (case aE4 => k_is)
    (case xs4 => exact rfl)
    (case xv4 => k_is)
    (case lkE4 => k_is)
    (case lkF4 => exact rfl)
    (case rvE4 => exact rfl)
    (case saE4 => k_is)
    (case tyE4 => exact rfl)
    (case kpE4 => k_is)
    (case inE4 => k_is)
    (case tiE4 => exact rfl)
    (case lIK4 => k_is)
    (case cIK4 => k_is)
    (case lcd4 => k_is)
    (case vsI4 => exact rfl)
    (case fiI4 => exact rfl)
    (case lcc4 => k_is)
    (case sbI4 => k_is)
    (case veI4 => k_is)
    (case suI4 => exact rfl)
    (case tpI => exact rfl)
    (case opI => k_is)
    (case z_int => k_is)
    (case z_bool => k_is)
    (case z_abs => k_is)
    (case z_len => k_is)
    (case z_list => k_is)
    (case z_tuple => k_is)
    (case z_max => k_is)
    (case z_range => k_is)
    (case z_isinstance => k_is)
    (case z_repr => k_is)
    (case z_str => k_is)
    (case z_sorted => k_is)
    (case z_set => k_is)
    (case z_zip => k_is)
    (case z_enumerate => k_is)
    (case z_all => k_is)
    (case z_ValueError => k_is)
    (case z_super => k_is)

