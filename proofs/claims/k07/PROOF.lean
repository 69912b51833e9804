import PyProof.Rows.All
import Wide.All
import OpenK.AllK
import Wide.FinOn
import HandS.ForMost
import HandS.Evl
import HandS.IsInst
import HandS.ClsMeth
import HandS.Flow
import HandS.TupAny
import HandS.Walk
import HandS.Defaults
import HandS.Deep
import PyProof.ReprReads
import HandS.SlotsOwn
import HandS.MakeKw
import HandS.MakeKwOnly
import HandS.FStr
import HandS.More
import KE.KCallOwn
import PyProof.InstNe
import PySem.Challenge.RW_keptbits_k07_kinds_walked
set_option Elab.async false
set_option linter.all false
set_option maxRecDepth 100000
set_option maxHeartbeats 4000000
/-! KB: own helpers over the hand layer: callees bundled, match, readings as steps. -/
namespace KB
open PySem PySem.Spec PyProof.Rows L2

section
variable {X : Cx}
/-! ### callees -/
structure Callee (P : Program) (w : World) (K : PySem.W.Frag) (mg : Str → Option Value) (base : Heap) (CX : CXT) (k : Nat) (x : Str) (ps : List Str) (sp : Sp) : Prop where
  ex : ∃ (f : Addr) (fd : FuncData), FnOk P w K mg base CX k f fd ps sp ∧ mg x = some (.ref f) ∧ PySem.W.keepIn K (.ref f) = true ∧ Binds K fd ps []
structure CalleeM (P : Program) (w : World) (K : PySem.W.Frag) (mg : Str → Option Value) (base : Heap) (CX : CXT) (k : Nat) (C : Addr) (m : Str) (ps : List Str) (sp : Sp) : Prop where
  ex : ∃ (f : Addr) (fd : FuncData), FnOk P w K mg base CX k f fd ps sp ∧ Meth K C m f ∧ Binds K fd ps []
  cl : Cls K C
structure CalleeI (P : Program) (w : World) (K : PySem.W.Frag) (mg : Str → Option Value) (base : Heap) (CX : CXT) (k : Nat) (C : Addr) (x : Str) (ps : List Str) (sp : Sp) : Prop where
  ex : ∃ (f : Addr) (fd : FuncData), FnOk P w K mg base CX k f fd ps sp ∧ Mk K C f ∧ mg x = some (.ref C) ∧ Binds K fd ps []
theorem pe_callC {CX : CXT} {k : Nat} {x : Str} {ps : List Str} {sp : Sp} {E : XK} {e : Expr} {es : List Expr} {p pos : Pos} {t : TA} (c : Callee X.prog X.w X.K X.mg X.base CX k x ps sp) (hr : Room k X.A) (hg : Gl X x) (hx : Passes CX X E) (ha : PA X (e :: es) t)
    (hdb : (x == ("__debug__" : Str)) = false := by decide) (he : starEach (e :: es) X.env = (false, eval e X.env) :: starEach es X.env := by rfl) (hpl : (backTo pos (starEach es X.env)).any (·.1) = false := by rfl) :
    PE X (.Call (.Name x p) (e :: es) [] pos) (tCall sp [] E t) := by
  obtain ⟨f, fd, F, hm, hk, hb⟩ := c.ex
  exact pe_call F hr hg hm hk hb .nil hx ha hdb he hpl
theorem pe_callC0 {CX : CXT} {k : Nat} {x : Str} {ps : List Str} {sp : Sp} {E : XK} {p pos : Pos} (c : Callee X.prog X.w X.K X.mg X.base CX k x ps sp) (hr : Room k X.A) (hg : Gl X x) (hx : Passes CX X E)
    (hdb : (x == ("__debug__" : Str)) = false := by decide) :
    PE X (.Call (.Name x p) [] [] pos) (tCall sp [] E tNil) := by
  obtain ⟨f, fd, F, hm, hk, hb⟩ := c.ex
  exact pe_call0 F hr hg hm hk hb .nil hx hdb
theorem pe_methC {pl : Sem Bool} {CX : CXT} {k : Nat} {C : Addr} {m : Str} {ps : List Str} {sp : Sp} {E : XK} {o e : Expr} {es : List Expr} {apos pos : Pos} {ta : TE} {t : TA} (c : CalleeM X.prog X.w X.K X.mg X.base CX k C m ps sp) (ho : PE X o ta) (hr : Room k X.A) (hx : Passes CX X E) (ha : PA X (e :: es) t)
    (hst : starEach (e :: es) X.env = (false, eval e X.env) :: starEach es X.env := by rfl) (hpl : (backTo pos (starEach es X.env)).any (·.1) = false := by rfl)
    (ht : eval (.Call (.Attribute o m apos) (e :: es) [] pos) X.env = (do
      let ov ← eval o X.env
      standAt apos.atName
      let (f, first) ← holding [ov] (getMethod ov m pl)
      callWith pos f first (backTo pos (starEach (e :: es) X.env)) (backToKw pos (keywordEach [] X.env))) := by rfl) :
    PE X (.Call (.Attribute o m apos) (e :: es) [] pos) (tMeth C m sp [] E ta t) := by
  obtain ⟨f, fd, F, hm, hb⟩ := c.ex
  exact pe_meth ho c.cl hm F hr hb .nil hx ha hst hpl ht
theorem pe_methC0 {pl : Sem Bool} {CX : CXT} {k : Nat} {C : Addr} {m : Str} {ps : List Str} {sp : Sp} {E : XK} {o : Expr} {apos pos : Pos} {ta : TE} (c : CalleeM X.prog X.w X.K X.mg X.base CX k C m ps sp) (ho : PE X o ta) (hr : Room k X.A) (hx : Passes CX X E)
    (ht : eval (.Call (.Attribute o m apos) [] [] pos) X.env = (do
      let ov ← eval o X.env
      standAt apos.atName
      let (f, first) ← holding [ov] (getMethod ov m pl)
      callWith pos f first [] (backToKw pos (keywordEach [] X.env))) := by rfl) :
    PE X (.Call (.Attribute o m apos) [] [] pos) (tMeth C m sp [] E ta tNil) := by
  obtain ⟨f, fd, F, hm, hb⟩ := c.ex
  exact pe_meth0 ho c.cl hm F hr hb .nil hx ht
theorem pe_makeC {CX : CXT} {k : Nat} {C : Addr} {x : Str} {ps : List Str} {sp : Sp} {E : XK} {e : Expr} {es : List Expr} {p pos : Pos} {t : TA} (c : CalleeI X.prog X.w X.K X.mg X.base CX k C x ps sp) (hr : Room (k + 1) X.A) (hg : Gl X x) (hx : Passes CX X E) (ha : PA X (e :: es) t)
    (hdb : (x == ("__debug__" : Str)) = false := by decide) (he : starEach (e :: es) X.env = (false, eval e X.env) :: starEach es X.env := by rfl) (hpl : (backTo pos (starEach es X.env)).any (·.1) = false := by rfl) :
    PE X (.Call (.Name x p) (e :: es) [] pos) (tMake C sp [] E t) := by
  obtain ⟨f, fd, F, M, hm, hb⟩ := c.ex
  exact pe_make M F hr hg hm hb .nil hx ha hdb he hpl

/-- a def with defaults, called without them; called by keywords -/
structure CalleeD (P : Program) (w : World) (K : PySem.W.Frag) (mg : Str → Option Value) (base : Heap) (CX : CXT) (k : Nat) (x : Str) (ps : List Str) (sp : Sp) (dvs : List V) : Prop where
  ex : ∃ (f : Addr) (fd : FuncData) (ds : List Value), FnOk P w K mg base CX k f fd ps sp ∧ mg x = some (.ref f) ∧ PySem.W.keepIn K (.ref f) = true ∧ Binds K fd ps ds ∧ Vals dvs ds
structure CalleeKw (P : Program) (w : World) (K : PySem.W.Frag) (mg : Str → Option Value) (base : Heap) (CX : CXT) (k : Nat) (x : Str) (ps : List Str) (sp : Sp) (n : Nat) (ks : List Str) (gV : List V → List V → List V) : Prop where
  ex : ∃ (f : Addr) (fd : FuncData) (g : List Value → List Value → List Value), FnOk P w K mg base CX k f fd ps sp ∧ mg x = some (.ref f) ∧ PySem.W.keepIn K (.ref f) = true ∧ KBn K fd ps n ks g gV
theorem pe_callD {CX : CXT} {k : Nat} {x : Str} {ps : List Str} {sp : Sp} {dvs : List V} {E : XK} {e : Expr} {es : List Expr} {p pos : Pos} {t : TA} (c : CalleeD X.prog X.w X.K X.mg X.base CX k x ps sp dvs) (hr : Room k X.A) (hg : Gl X x) (hx : Passes CX X E) (ha : PA X (e :: es) t)
    (hdb : (x == ("__debug__" : Str)) = false := by decide) (he : starEach (e :: es) X.env = (false, eval e X.env) :: starEach es X.env := by rfl) (hpl : (backTo pos (starEach es X.env)).any (·.1) = false := by rfl) :
    PE X (.Call (.Name x p) (e :: es) [] pos) (tCall sp dvs E t) := by
  obtain ⟨f, fd, ds, F, hm, hk, hb, hd⟩ := c.ex
  exact pe_call F hr hg hm hk hb hd hx ha hdb he hpl
theorem pe_callKw {CX : CXT} {k n : Nat} {x : Str} {ps ks : List Str} {sp : Sp} {gV : List V → List V → List V} {E : XK} {e : Expr} {es : List Expr} {kws : List Keyword} {p pos : Pos} {t tk : TA} (c : CalleeKw X.prog X.w X.K X.mg X.base CX k x ps sp n ks gV) (hr : Room k X.A) (hg : Gl X x) (hx : Passes CX X E)
    (ha : PA X (e :: es) t) (hkw : PK X kws tk) (hall : (backToKw pos (keywordEach kws X.env)).all (·.1.isSome) = true := by rfl) (hks : (backToKw pos (keywordEach kws X.env)).filterMap (·.1) = ks := by rfl)
    (hdb : (x == ("__debug__" : Str)) = false := by decide) (he : starEach (e :: es) X.env = (false, eval e X.env) :: starEach es X.env := by rfl)
    (hpl : ((backTo pos (starEach (e :: es) X.env)).any (·.1) || (backToKw pos (keywordEach kws X.env)).any (·.1.isNone)) = false := by rfl) :
    PE X (.Call (.Name x p) (e :: es) kws pos) (tCallN n ks.length sp gV E t tk) := by
  obtain ⟨f, fd, g, F, hm, hk, hb⟩ := c.ex
  exact pe_callN F hr hg hm hk hb hx ha hkw hall hks hdb he hpl
theorem hu65 {A : Around} {k : Nat} (hr : Room k A) : A.units + 65 < cLine := by have := hr.un; omega
/-! ### match over written texts -/
structure PM (X : Cx) (cs : List MatchCase) (tm : V → TS) : Prop where
  run : ∀ (pins : List (Addr × Obj)) (s : Shared) (σ : L2.St) (H : Hp) (D : Ends) (v : V) (u : Value) (first : Bool), Inv X pins σ H s → RelV v u → tm v D σ H → wpAny (model X.prog X.w) X.A (matchCases cs X.env u first) (SP X pins D) X.xe s
def tmNil : V → TS := fun _ D σ H => D.nx σ H
def tmStr (x : Str) (t : TS) (tr : V → TS) : V → TS := fun v D σ H => ∃ y, v = .str y ∧ if decide (y = x) = true then t D σ H else tr v D σ H
def tMatch (te : TE) (tm : V → TS) : TS := fun D σ H => te σ H fun x H1 => tm x D σ H1
theorem pm_nil : PM X [] tmNil := ⟨fun _ _ σ H _ _ _ _ I _ h => wpAny_matchCases_nil ⟨σ, H, I, h⟩⟩
theorem pm_str {x : Str} {j : _} {pos pos' : Pos} {body : List Stmt} {rest : List MatchCase} {t : TS} {tr : V → TS} (hb : PSs X body t) (hr : PM X rest tr) : PM X (⟨.MatchValue (.Constant (.str x) j pos) pos', none, body⟩ :: rest) (tmStr x t tr) := by
  refine ⟨fun pins s σ H D v u first I r h => ?_⟩
  obtain ⟨y, rfl, h⟩ := h
  refine wpAny_matchCases_cons (wpAny_matchPattern_Value ?_)
  refine thn (pe_str.run pins s σ H (fun v' H' => v' = .str x ∧ H' = H) I ⟨rfl, rfl⟩) fun u1 s1 ⟨v1, H1, I1, r1, e1, e2⟩ => ?_
  subst e1 e2
  refine thn (op_eq pins s1 σ H1 (.str y) (.str x) u u1 (fun v' H' => v' = .bl (decide (y = x)) ∧ H' = H1) I1 r r1 ⟨rfl, ?_, rfl⟩) fun u2 s2 ⟨v2, H2, I2, r2, e3, e4⟩ => ?_
  · congr 1
    by_cases e : y = x
    · subst e; simp
    · simp [e]
  subst e3 e4
  obtain rfl : u2 = Value.bool (decide (y = x)) := r2
  refine wpAny_truthy_bool ?_
  by_cases e : y = x
  · rw [if_pos (decide_eq_true e)]
    rw [if_pos (decide_eq_true e)] at h
    refine wpAny_assignInOrder_none ?_
    exact hb.run pins s2 σ H2 D I2 h
  · rw [if_neg (by simp [e])]
    rw [if_neg (by simp [e])] at h
    exact hr.run pins s2 σ H2 D _ u false I2 r h
theorem ps_match {e : Expr} {cs : List MatchCase} {pos : Pos} {te : TE} {tm : V → TS} (he : PE X e te) (hm : PM X cs tm) : PS X (.Match e cs pos) (tMatch te tm) := by
  refine ⟨fun pins s σ H D I h => ?_⟩
  refine wpAny_Match (thn (he.run pins s σ H _ I h) fun u s1 ⟨x, H1, I1, r1, q1⟩ => ?_)
  exact hm.run pins s1 σ H1 D x u true I1 r1 q1
end

/-! ### readings as steps -/
def ForW (J : It) (g : TG) (tb : TS) (D : Ends) (σ : L2.St) (H : Hp) : Prop := ∃ W : Nat → Nat → L2.St → Hp → Prop, (∃ m, W 0 m σ H) ∧ ∀ i m σ H, W i m σ H →
      (J.stop i H ∧ D.nx σ H) ∨ (J.go i H ∧ ∃ N : L2.St → Hp → Prop, (∀ σ' H', N σ' H' → ∃ m', m' < m ∧ W (i + 1) m' σ' H') ∧ ∀ x H', J.yld i H x H' → g x σ H' fun σ2 H2 => tb { D with nx := N, ct := N, bk := D.nx } σ2 H2)
def LcW (J : It) (g : TG) (tt : TT) (te : TE) (vs : List Nat) (σ : L2.St) (H1 : Hp) (Q : VK) : Prop := ∀ D, H1 D = none → ∃ W : Nat → Nat → Hp → Prop, (∃ m, W 0 m (upd H1 D (.lst []))) ∧ ∀ i m H, W i m H →
  (J.stop i H ∧ Q (.ref D) H) ∨ (J.go i H ∧ ∃ Nx : Hp → Prop, (∀ H', Nx H' → ∃ m', m' < m ∧ W (i + 1) m' H') ∧ ∀ x H', J.yld i H x H' → g x (wipe σ vs) H' fun σ2 H2 => wipe σ2 vs = wipe σ vs ∧ tt σ2 H2 fun b H3 =>
    if b = true then te σ2 H3 fun y H4 => ∃ acc, H4 D = some (.lst acc) ∧ acc.length < sizeLine ∧ Nx (upd H4 D (.lst (acc ++ [y]))) else Nx H3)
theorem forW {J : It} {n : Nat} {G : Hp → Prop} {Y : Nat → Hp → V → Hp → Prop} (wk : Walk J n G Y) {g : TG} {tb : TS} {D : Ends} {σ : L2.St} {H : Hp} (Pv : Nat → L2.St → Hp → Prop) (h0 : Pv 0 σ H) (hG : ∀ i σ H, i ≤ n → Pv i σ H → G H)
    (hs : ∀ i x σ H H', i < n → Pv i σ H → Y i H x H' → g x σ H' fun σ2 H2 => tb { D with nx := Pv (i + 1), ct := Pv (i + 1), bk := D.nx } σ2 H2) (hd : ∀ σ H, Pv n σ H → D.nx σ H) : ForW J g tb D σ H := for_it wk Pv h0 hG hs hd
section
variable {K : PySem.W.Frag} {σ : L2.St} {H : Hp} {D : Ends} {ta tb tc te : TE} {tA tr : TA} {t u : TT} {t1 t2 tu : TS} {x y v : V} {Q : VK} {QT : Bool → Hp → Prop} {QA : List V → Hp → Prop} {R : It → Hp → Prop} {i : Nat} {a p : Addr} {xs ys : List V}
theorem r_var (h : σ[i]? = some (some v)) (q : Q v H) : tVar i σ H Q := ⟨v, h, q⟩
theorem r_c (q : Q v H) : tC v σ H Q := q
theorem r_op {r : R2} (q : ta σ H fun x H1 => tb σ H1 fun y H2 => r x y H2 Q) : tOp r ta tb σ H Q := q
theorem r_un {r : V → Hp → VK → Prop} (q : ta σ H fun x H1 => r x H1 Q) : tUn r ta σ H Q := q
theorem r_I0 {g : Int → Int → V} {m n : Int} (q : Q (g m n) H) : rI0 g (.int m) (.int n) H Q := ⟨m, n, rfl, rfl, q⟩
theorem r_I {C : Int → Int → Prop} {g : Int → Int → V} {m n : Int} (hc : C m n) (q : Q (g m n) H) : rI C g (.int m) (.int n) H Q := ⟨m, n, rfl, rfl, hc, q⟩
theorem r_U {g : Int → V} {m : Int} (q : Q (g m) H) : rU g (.int m) H Q := ⟨m, rfl, q⟩
theorem r_eq (h : scal x y = true) (q : Q (.bl (decide (x = y))) H) : rEq x y H Q := ⟨h, q⟩
theorem r_ne (h : scal x y = true) (q : Q (.bl (!decide (x = y))) H) : rNe x y H Q := ⟨h, q⟩
theorem r_test (q : te σ H fun x H' => ∃ k, x = .bl k ∧ QT k H') : tTest te σ H QT := q
theorem r_B (q : te σ H fun x H' => ∃ k, x = .bl k ∧ QT k H') : tB te σ H QT := q
theorem r_bl {b : Bool} {q : Bool → Prop} (h : q b) : ∃ k, V.bl b = .bl k ∧ q k := ⟨b, rfl, h⟩
theorem r_and (q : t σ H fun c H1 => if c = true then u σ H1 QT else QT false H1) : tAnd t u σ H QT := q
theorem r_or (q : t σ H fun c H1 => if c = true then QT true H1 else u σ H1 QT) : tOr t u σ H QT := q
theorem r_not (q : t σ H fun c H1 => QT (!c) H1) : tNot t σ H QT := q
theorem r_andV (q : ta σ H fun x H1 => ∃ c, x = .bl c ∧ if c = true then tb σ H1 Q else Q (.bl false) H1) : tAndV ta tb σ H Q := q
theorem r_orV (q : ta σ H fun x H1 => ∃ c, x = .bl c ∧ if c = true then Q (.bl true) H1 else tb σ H1 Q) : tOrV ta tb σ H Q := q
theorem r_notV (q : ta σ H fun x H1 => ∃ c, x = .bl c ∧ Q (.bl (!c)) H1) : tNotV ta σ H Q := q
theorem r_if (q : t σ H fun c H1 => if c = true then ta σ H1 Q else tb σ H1 Q) : tIf t ta tb σ H Q := q
theorem r_nil (q : QA [] H) : tNil σ H QA := q
theorem r_cons (q : ta σ H fun x H1 => tr σ H1 fun xs H2 => QA (x :: xs) H2) : tCons ta tr σ H QA := q
theorem r_tup (q : tA σ H fun xs H1 => xs.length ≤ sizeLine ∧ ∀ p, H1 p = none → Q (.ref p) (upd H1 p (.tup xs))) : tTup tA σ H Q := q
theorem r_lst (q : tA σ H fun xs H1 => xs.length ≤ sizeLine ∧ ∀ p, H1 p = none → Q (.ref p) (upd H1 p (.lst xs))) : tLst tA σ H Q := q
theorem r_call {sp : Sp} {E : XK} (q : tA σ H fun vs H1 => sp (vs ++ []) H1 Q E) : tCall sp [] E tA σ H Q := q
theorem r_cb {r : List V → Hp → VK → Prop} (q : tA σ H fun vs H1 => r vs H1 Q) : tCB r tA σ H Q := q
theorem r_ixL {n : Int} (h : SqL K H p xs) (ha : atI xs n = some v) (q : Q v H) : rIxL K (.ref p) (.int n) H Q := ⟨p, xs, n, v, rfl, rfl, h, ha, q⟩
theorem r_ixT {n : Int} (h : SqT K H p xs) (ha : atI xs n = some v) (q : Q v H) : rIxT K (.ref p) (.int n) H Q := ⟨p, xs, n, v, rfl, rfl, h, ha, q⟩
theorem r_ixS {z : Str} {n : Int} {c : Nat} (hz : z.length ≤ sizeLine) (ha : atI z.cps.toList n = some c) (q : Q (.str ⟨#[c]⟩) H) : rIxS (.str z) (.int n) H Q := ⟨z, n, c, rfl, rfl, hz, ha, q⟩
theorem r_setL {n : Int} {j : Nat} {QH : Hp → Prop} (h : H p = some (.lst xs)) (hj : ixN xs.length n = some j) (q : QH (upd H p (.lst (xs.set j v)))) : rSetL (.ref p) (.int n) v H QH := ⟨p, xs, n, j, rfl, rfl, h, hj, q⟩
theorem r_fld {f : Str} (q : ta σ H fun x H1 => ∃ a C dx fs v, x = .ref a ∧ H1 a = some (.ins C dx fs) ∧ Cls K C ∧ NoAttr K C f ∧ fs.lookup f = some v ∧ Q v H1) : tFld K ta f σ H Q := q
theorem r_meth {C : Addr} {m : Str} {sp : Sp} {E : XK} (q : ta σ H fun x H1 => ∃ a dx fs, x = .ref a ∧ H1 a = some (.ins C dx fs) ∧ fs.lookup m = none ∧ tA σ H1 fun vs H2 => sp (x :: (vs ++ [])) H2 Q E) : tMeth C m sp [] E ta tA σ H Q := q
theorem r_cval {C : Addr} {mc : Value} {f : Str} {uu : Value} (h1 : ClX.CRead K C mc) (h2 : ClX.CVal K C mc f v uu) (q : Q v H) : ClX.tCVal K (tC (.ref C)) f σ H Q := ⟨C, mc, v, uu, rfl, h1, h2, q⟩
theorem r_fldV {C dx : Addr} {fs : List (Str × V)} {f : Str} (hp : H a = some (.ins C dx fs)) (hc : Cls K C) (hn : NoAttr K C f) (hl : fs.lookup f = some v) (hv : σ[i]? = some (some (.ref a))) (q : Q v H) : tFld K (tVar i) f σ H Q := ⟨.ref a, hv, a, C, dx, fs, v, rfl, hp, hc, hn, hl, q⟩
theorem r_sfld {f : Str} {tv : TE} (q : tv σ H fun y H1 => ta σ H1 fun x H2 => ∃ a C dx fs, x = .ref a ∧ H2 a = some (.ins C dx fs) ∧ Cls K C ∧ NoAttr K C f ∧ fs.length < 1000 ∧ D.nx σ (upd H2 a (.ins C dx (putF f y fs)))) : sFld K ta tv f D σ H := q
theorem r_itup (q : te σ H fun x H1 => ∃ a, x = .ref a ∧ (∃ xs, SqT K H1 a xs) ∧ R (Itt K a) H1) : iTup K te σ H R := q
theorem r_ilist (q : te σ H fun x H1 => ∃ a, x = .ref a ∧ (∃ xs, SqL K H1 a xs) ∧ R (Itl K a) H1) : iList K te σ H R := q
theorem r_istr (q : te σ H fun v H1 => ∃ x, v = .str x ∧ R (Its x) H1) : iStr te σ H R := q
theorem r_m1 {r : V → List V → Hp → VK → Prop} (q : ta σ H fun x H1 => (∃ a, x = .str a) ∧ te σ H1 fun y H2 => r x [y] H2 Q) : tM1 r ta te σ H Q := q
theorem r_m0 {r : V → List V → Hp → VK → Prop} (q : ta σ H fun x H1 => (∃ a, x = .str a) ∧ r x [] H1 Q) : tM0 r ta σ H Q := q
theorem r_isStr {z : Str} {B : Prop} (g : B) : (∃ a, V.str z = .str a) ∧ B := ⟨⟨z, rfl⟩, g⟩
theorem r_exStr {z : Str} {q : Str → Prop} (g : q z) : ∃ x, V.str z = .str x ∧ q x := ⟨z, rfl, g⟩
theorem r_gname {QG : L2.St → Hp → Prop} (q : QG (σ.set i (some v)) H) : gName i v σ H QG := q
theorem r_callD {sp : Sp} {dvs : List V} {E : XK} (q : tA σ H fun vs H1 => sp (vs ++ dvs) H1 Q E) : tCall sp dvs E tA σ H Q := q
theorem r_callN {n m : Nat} {sp : Sp} {gV : List V → List V → List V} {E : XK} {tk : TA} (q : tA σ H fun vs H1 => tk σ H1 fun zs H2 => vs.length = n ∧ zs.length = m ∧ sp (gV vs zs) H2 Q E) : tCallN n m sp gV E tA tk σ H Q := q
theorem r_dget1 (q : ta σ H fun x H1 => ∃ a, x = .ref a ∧ IsD H1 a ∧ tb σ H1 fun y H2 => ∃ o, DGet H2 a y o ∧ Q (o.getD .non) H2) : tDGet1 ta tb σ H Q := q
theorem r_dget (q : ta σ H fun x H1 => tb σ H1 fun y H2 => ∃ a v, x = .ref a ∧ DGet H2 a y (some v) ∧ Q v H2) : tDGet ta tb σ H Q := q
theorem r_disp {trs : List (TE × TE)} (q : ∀ p, H p = none → tPairs trs σ (upd H p (.dK [])) fun ps H2 => H2 p = some (.dK []) ∧ ∃ kvs : List (Key × V), ps = kvs.map (fun kv => (kV kv.1, kv.2)) ∧ kvs.length ≤ 15 ∧ Q (.ref p) (upd H2 p (.dK (mergeK [] kvs)))) : tDisp trs σ H Q := q
theorem r_pairs {trs : List (TE × TE)} {QP : List (V × V) → Hp → Prop} (q : ta σ H fun x H1 => tb σ H1 fun y H2 => tPairs trs σ H2 fun ps H3 => QP ((x, y) :: ps) H3) : tPairs ((ta, tb) :: trs) σ H QP := q
theorem r_pairs0 {QP : List (V × V) → Hp → Prop} (q : QP [] H) : tPairs [] σ H QP := q
theorem r_fldK {C dx : Addr} {fs : List (Str × V)} {f : Str} {G : V → Prop} (hp : H p = some (.ins C dx fs)) (hc : Cls K C) (hn : NoAttr K C f) (hl : fs.lookup f = some v) (q : G v) :
    ∃ a C dx fs v, V.ref p = .ref a ∧ H a = some (.ins C dx fs) ∧ Cls K C ∧ NoAttr K C f ∧ fs.lookup f = some v ∧ G v := ⟨p, C, dx, fs, v, rfl, hp, hc, hn, hl, q⟩
theorem r_gtup {n : Nat} {gs : TGs} {QG : L2.St → Hp → Prop} (h : SqT K H a xs) (hn : xs.length = n) (q : gs xs σ H QG) : gTup K n gs (.ref a) σ H QG := ⟨a, xs, rfl, h, hn, q⟩
theorem r_gcons {g : TG} {gs : TGs} {QG : L2.St → Hp → Prop} (q : g v σ H fun σ' H' => gs xs σ' H' QG) : gCons g gs (v :: xs) σ H QG := ⟨v, xs, rfl, q⟩
theorem r_gnil {QG : L2.St → Hp → Prop} (q : QG σ H) : gNil [] σ H QG := ⟨rfl, q⟩
theorem r_asgG {g : TG} (q : te σ H fun x H1 => g x σ H1 D.nx) : tAsg te g D σ H := q
theorem r_rng2 {m n : Int} {q : Int → Int → Prop} (h : q m n) : ∃ i j : Int, [V.int m, V.int n] = [.int i, .int j] ∧ q i j := ⟨m, n, rfl, h⟩
theorem r_irng2 (q : tA σ H fun vs H1 => ∃ i j : Int, vs = [.int i, .int j] ∧ (-(2 ^ 62) ≤ i ∧ i < 2 ^ 62 ∧ -(2 ^ 62) ≤ j ∧ j < 2 ^ 62) ∧ R (Itr i (j - i).toNat) H1) : iRng2 tA σ H R := q
theorem r_cat {p' : Addr} (h : H p = some (.lst xs)) (h' : H p' = some (.lst ys)) (hl : xs.length + ys.length ≤ sizeLine) (g : ∀ c, H c = none → Q (.ref c) (upd H c (.lst (xs ++ ys)))) : rCat (.ref p) (.ref p') H Q := ⟨p, p', xs, ys, rfl, rfl, h, h', hl, g⟩
theorem r_bm {T : String} {r : V → List V → Hp → VK → Prop} (q : ta σ H fun x H1 => tyV K T x H1 ∧ tA σ H1 fun xs H2 => r x xs H2 Q) : tBM K T r ta tA σ H Q := q
theorem r_tyL {B : Prop} (h : SqL K H p xs) (g : B) : tyV K "list" (.ref p) H ∧ B := ⟨.inl ⟨rfl, xs, h⟩, g⟩
theorem r_append (h : H p = some (.lst xs)) (hl : xs.length < sizeLine) (q : Q .non (upd H p (.lst (xs ++ [v])))) : rAppend (.ref p) [v] H Q := ⟨p, xs, v, rfl, rfl, h, hl, q⟩
theorem r_seq (q : t1 { D with nx := t2 D } σ H) : tSeq t1 t2 D σ H := q
theorem r_next (q : D.nx σ H) : tNext D σ H := q
theorem r_asg (q : te σ H fun x H1 => D.nx (σ.set i (some x)) H1) : tAsg te (gName i) D σ H := q
theorem r_asgS {s : TSet} (q : te σ H fun v H1 => ta σ H1 fun o H2 => tb σ H2 fun i H3 => s o i v H3 fun H4 => D.nx σ H4) : tAsg te (gSub ta tb s) D σ H := q
theorem r_ifS (q : t σ H fun b H1 => if b = true then t1 D σ H1 else t2 D σ H1) : tIfS t t1 t2 D σ H := q
theorem r_dput (q : tc σ H fun v H1 => ta σ H1 fun x H2 => tb σ H2 fun y H3 => ∃ a H4, x = .ref a ∧ DPut H3 a y v H4 ∧ D.nx σ H4) : sDPut ta tb tc D σ H := q
theorem r_ret (q : te σ H D.rt) : tRet te D σ H := q
theorem r_drop (q : te σ H fun _ H1 => D.nx σ H1) : tDrop te D σ H := q
theorem r_par {k j : Nat} (q : tA σ H fun vs H1 => ∃ v w, vs = [v, w] ∧ D.nx ((σ.set k (some v)).set j (some w)) H1) : tPar k j tA D σ H := q
theorem r_aug {tip : TIp} (h : σ[i]? = some (some x)) (q : te σ H fun y H1 => tip x y H1 fun z H2 => D.nx (σ.set i (some z)) H2) : tAug i te tip D σ H := ⟨x, h, q⟩
theorem r_match {tm : V → TS} (q : te σ H fun x H1 => tm x D σ H1) : tMatch te tm D σ H := q
theorem r_mstr {x y : Str} {tm : V → TS} (q : if decide (y = x) = true then t1 D σ H else tm (.str y) D σ H) : tmStr x t1 tm (.str y) D σ H := ⟨y, rfl, q⟩
theorem r_mnil (q : D.nx σ H) : tmNil v D σ H := q
theorem r_sl {r : V → Option Int → Option Int → Hp → VK → Prop} {tl th : TO} (q : te σ H fun x H1 => tl σ H1 fun l H2 => th σ H2 fun u H3 => r x l u H3 Q) : tSl r te tl th σ H Q := q
theorem r_nopart {QO : Option Int → Hp → Prop} (q : QO none H) : tNoPart σ H QO := q
theorem r_part {QO : Option Int → Hp → Prop} (q : te σ H fun x H1 => ∃ i, x = .int i ∧ QO (some i) H1) : tPart te σ H QO := q
theorem r_int {m : Int} {q : Int → Prop} (h : q m) : ∃ k, V.int m = .int k ∧ q k := ⟨m, rfl, h⟩
theorem r_int1 {m : Int} {q : Int → Prop} {B : Prop} (h : q m) : (∃ i, [V.int m] = [V.int i] ∧ q i) ∨ B := .inl ⟨m, rfl, h⟩
theorem r_bl1 {b : Bool} {q : Bool → Prop} {A : Prop} (h : q b) : A ∨ ∃ k, [V.bl b] = [V.bl k] ∧ q k := .inr ⟨b, rfl, h⟩
theorem r_ex1 {m : Int} {q : Int → Prop} (h : q m) : ∃ i, [V.int m] = [V.int i] ∧ q i := ⟨m, rfl, h⟩
theorem r_ex2 {m n : Int} {q : Int → Int → Prop} (h : q m n) : ∃ i j, [V.int m, V.int n] = [V.int i, V.int j] ∧ q i j := ⟨m, n, rfl, h⟩
theorem r_lenS {q : List V → Prop} (h : SqL K H p xs) (g : q xs) : ∃ a ys, [V.ref p] = [V.ref a] ∧ (SqL K H a ys ∨ SqT K H a ys) ∧ q ys := ⟨p, xs, rfl, .inl h, g⟩
theorem r_slL {lo hi : Option Int} (h : SqL K H p xs) (q : ∀ c, H c = none → Q (.ref c) (upd H c (.lst (cutV xs lo hi)))) : rSlL K (.ref p) lo hi H Q := ⟨p, xs, rfl, h, q⟩
theorem r_for {wi : TI} {g : TG} (q : wi σ H fun J H1 => ForW J g t1 D σ H1) : tFor wi g t1 D σ H := q
theorem r_lc {wi : TI} {g : TG} {tt : TT} {vs : List Nat} (q : wi σ H fun J H1 => LcW J g tt te vs σ H1 Q) : tLc wi g tt te vs σ H Q := q
theorem r_irng1 (q : tA σ H fun vs H1 => ∃ j : Int, vs = [.int j] ∧ -(2 ^ 62) ≤ j ∧ j < 2 ^ 62 ∧ R (Itr 0 j.toNat) H1) : iRng1 tA σ H R := q
theorem r_iteT {c : Prop} [Decidable c] {A B : Prop} (h : c) (q : A) : if decide c = true then A else B := by rw [if_pos (decide_eq_true h)]; exact q
theorem r_iteF {c : Prop} [Decidable c] {A B : Prop} (h : ¬ c) (q : B) : if decide c = true then A else B := by rw [if_neg (by simpa using h)]; exact q
theorem r_iteNT {c : Prop} [Decidable c] {A B : Prop} (h : ¬ c) (q : A) : if (!decide c) = true then A else B := by rw [if_pos (by simpa using h)]; exact q
theorem r_iteNF {c : Prop} [Decidable c] {A B : Prop} (h : c) (q : B) : if (!decide c) = true then A else B := by rw [if_neg (by simpa using h)]; exact q
theorem ite_join {c : Prop} [Decidable c] (Z : VK) (h1 : c → ∀ Q : VK, (∀ v H', Z v H' → Q v H') → ta σ H Q) (h2 : ¬ c → ∀ Q : VK, (∀ v H', Z v H' → Q v H') → tb σ H Q) (q : ∀ v H', Z v H' → Q v H') : if decide c = true then ta σ H Q else tb σ H Q := by
  by_cases h : c
  · rw [if_pos (decide_eq_true h)]; exact h1 h Q q
  · rw [if_neg (by simpa using h)]; exact h2 h Q q
theorem r_make {C : Addr} {sp : Sp} {E : XK} (q : tA σ H fun vs H1 => ∀ x dx, H1 x = none → H1 dx = none → dx ≠ x → sp (.ref x :: (vs ++ [])) (upd (upd H1 dx (.own x)) x (.ins C dx [])) (fun v H2 => v = .non ∧ Q (.ref x) H2) E) : tMake C sp [] E tA σ H Q := q
theorem r_addS {m n : Str} {q : Str → Str → Prop} (h : m.length + n.length ≤ sizeLine) (g : q m n) : ∃ i j, V.str m = .str i ∧ V.str n = .str j ∧ i.length + j.length ≤ sizeLine ∧ q i j := ⟨m, n, rfl, rfl, h, g⟩
theorem iteNt {A B : Prop} (h : B) : if (!true) = true then A else B := h
theorem iteNf {A B : Prop} (h : A) : if (!false) = true then A else B := h
theorem r_ite2 {c : Prop} [Decidable c] {A B : Prop} (h1 : c → A) (h2 : ¬ c → B) : if decide c = true then A else B := by
  by_cases h : c
  · exact r_iteT h (h1 h)
  · exact r_iteF h (h2 h)
theorem r_iteN2 {c : Prop} [Decidable c] {A B : Prop} (h1 : ¬ c → A) (h2 : c → B) : if (!decide c) = true then A else B := by
  by_cases h : c
  · exact r_iteNF h (h2 h)
  · exact r_iteNT h (h1 h)
end

theorem at_start {t : TS} {D : Ends} {σ σ0 : L2.St} {H : Hp} (h : σ0 = σ) (q : t D σ H) : t D σ0 H := h ▸ q
theorem cx_K {CX : CXT} {P : Program} {w : World} {K : PySem.W.Frag} {mg : Str → Option Value} {base : Heap} {N : List Str} {qual : Str} {sc : Scope} {f : Addr} {cd : Value} {A : Around} {outer : List Env} {s : Shared} {H : Hp} {E : XK} : (cxOf CX P w K mg base N qual sc f cd A outer s H E).nox.K = K := rfl
theorem mul_bd {x y A B : Int} (h0 : 0 ≤ x) (h1 : x ≤ A) (h2 : 0 ≤ y) (h3 : y ≤ B) : 0 ≤ x * y ∧ x * y ≤ A * B := ⟨Int.mul_nonneg h0 h2, Int.mul_le_mul h1 h3 h2 (Int.le_trans h0 h1)⟩
/-! ### flat lists compared -/
theorem dp_ints {K : PySem.W.Frag} {H : Hp} : ∀ ns : List Int, DpAll K H (ns.map V.int) (ns.map PyData.int)
  | [] => .nil
  | n :: r => .cons (.int n) (dp_ints r)
theorem lay_ints : ∀ ns : List Int, PyData.canLayAll0 (ns.map PyData.int) = true
  | [] => rfl
  | n :: r => by
    show (PyData.canLay0 (.int n) && PyData.canLayAll0 (r.map PyData.int)) = true
    rw [lay_ints r]; rfl
theorem depth_ints : ∀ ns : List Int, PyData.depthAll (ns.map PyData.int) = 0
  | [] => rfl
  | n :: r => by
    show max (PyData.depth (.int n)) (PyData.depthAll (r.map PyData.int)) = 0
    rw [depth_ints r]; rfl
theorem shaped_ints (ns : List Int) : SeqAt.shaped (.list (ns.map PyData.int)) = true := by
  show (PyData.canLayAll0 (ns.map PyData.int) && decide (PyData.depthAll (ns.map PyData.int) + 1 ≤ 64)) = true
  rw [lay_ints, depth_ints]; rfl
theorem eqv_ints : ∀ ns ms : List Int, PyData.eqvAll (ns.map PyData.int) (ms.map PyData.int) = decide (ns = ms)
  | [], [] => rfl
  | [], _ :: _ => rfl
  | _ :: _, [] => rfl
  | n :: r, m :: q => by
    show ((n == m) && PyData.eqvAll (r.map PyData.int) (q.map PyData.int)) = decide (n :: r = m :: q)
    rw [eqv_ints r q]
    by_cases h1 : n = m <;> by_cases h2 : r = q <;> simp [h1, h2]
theorem eqT_shaped (ns : List Int) : SeqAt.shaped (.tuple (ns.map PyData.int)) = true := by
  show (PyData.canLayAll0 (ns.map PyData.int) && decide (PyData.depthAll (ns.map PyData.int) + 1 ≤ 64)) = true
  rw [lay_ints, depth_ints]; rfl
theorem r_neIntsT {K : PySem.W.Frag} {H : Hp} {Q : VK} {a b : Addr} {ns ms : List Int} (h : SqT K H a (ns.map V.int)) (h' : SqT K H b (ms.map V.int)) (q : Q (.bl (!decide (ns = ms))) H) : rNeD K (.ref a) (.ref b) H Q :=
  ⟨_, _, .tup h (dp_ints ns), .tup h' (dp_ints ms), eqT_shaped ns, eqT_shaped ms, (show Q (.bl (!PyData.eqvAll (ns.map PyData.int) (ms.map PyData.int))) H by rw [eqv_ints]; exact q)⟩
theorem r_eqInts {K : PySem.W.Frag} {H : Hp} {Q : VK} {a b : Addr} {ns ms : List Int} (h : SqL K H a (ns.map V.int)) (h' : SqL K H b (ms.map V.int)) (q : Q (.bl (decide (ns = ms))) H) : rEqD K (.ref a) (.ref b) H Q :=
  ⟨_, _, .lst h (dp_ints ns), .lst h' (dp_ints ms), shaped_ints ns, shaped_ints ms, (show Q (.bl (PyData.eqvAll (ns.map PyData.int) (ms.map PyData.int))) H by rw [eqv_ints]; exact q)⟩
theorem r_neInts {K : PySem.W.Frag} {H : Hp} {Q : VK} {a b : Addr} {ns ms : List Int} (h : SqL K H a (ns.map V.int)) (h' : SqL K H b (ms.map V.int)) (q : Q (.bl (!decide (ns = ms))) H) : rNeD K (.ref a) (.ref b) H Q :=
  ⟨_, _, .lst h (dp_ints ns), .lst h' (dp_ints ms), shaped_ints ns, shaped_ints ms, (show Q (.bl (!PyData.eqvAll (ns.map PyData.int) (ms.map PyData.int))) H by rw [eqv_ints]; exact q)⟩
theorem inV_strs {z : Str} : ∀ zs : List Str, inV (.str z) (zs.map V.str) = decide (z ∈ zs)
  | [] => by simp [inV]
  | y :: r => by
    have ih := inV_strs (z := z) r
    unfold inV at ih ⊢
    rw [List.map_cons, List.any_cons, ih]
    show (decide (y = z) || decide (z ∈ r)) = decide (z ∈ y :: r)
    by_cases e : y = z
    · subst e; simp
    · have e' : ¬ z = y := fun q => e q.symm
      simp [e, e']
theorem inV_ints {z : Int} : ∀ zs : List Int, inV (.int z) (zs.map V.int) = decide (z ∈ zs)
  | [] => by simp [inV]
  | y :: r => by
    have ih := inV_ints (z := z) r
    unfold inV at ih ⊢
    rw [List.map_cons, List.any_cons, ih]
    show ((y == z) || decide (z ∈ r)) = decide (z ∈ y :: r)
    by_cases e : y = z
    · subst e; simp
    · have e' : ¬ z = y := fun q => e q.symm
      simp [e, e']
theorem flat_ints : ∀ zs : List Int, (zs.map V.int).all flatV = true
  | [] => rfl
  | y :: r => by rw [List.map_cons, List.all_cons, flat_ints r]; rfl
theorem r_notInI {K : PySem.W.Frag} {H : Hp} {Q : VK} {p : Addr} {z : Int} {zs : List Int} (h : SqL K H p (zs.map V.int) ∨ SqT K H p (zs.map V.int)) (q : Q (.bl (!decide (z ∈ zs))) H) : rIn K true (.int z) (.ref p) H Q :=
  ⟨p, _, rfl, h, rfl, flat_ints zs, (show Q (.bl (!inV (.int z) (zs.map V.int))) H by rw [inV_ints]; exact q)⟩
theorem r_inI {K : PySem.W.Frag} {H : Hp} {Q : VK} {p : Addr} {z : Int} {zs : List Int} (h : SqL K H p (zs.map V.int) ∨ SqT K H p (zs.map V.int)) (q : Q (.bl (decide (z ∈ zs))) H) : rIn K false (.int z) (.ref p) H Q :=
  ⟨p, _, rfl, h, rfl, flat_ints zs, (show Q (.bl (inV (.int z) (zs.map V.int))) H by rw [inV_ints]; exact q)⟩
theorem flat_strs : ∀ zs : List Str, (zs.map V.str).all flatV = true
  | [] => rfl
  | y :: r => by rw [List.map_cons, List.all_cons, flat_strs r]; rfl
theorem r_notInS {K : PySem.W.Frag} {H : Hp} {Q : VK} {p : Addr} {z : Str} {zs : List Str} (h : SqL K H p (zs.map V.str) ∨ SqT K H p (zs.map V.str)) (q : Q (.bl (!decide (z ∈ zs))) H) : rIn K true (.str z) (.ref p) H Q :=
  ⟨p, _, rfl, h, rfl, flat_strs zs, (show Q (.bl (!inV (.str z) (zs.map V.str))) H by rw [inV_strs]; exact q)⟩
theorem r_inS {K : PySem.W.Frag} {H : Hp} {Q : VK} {p : Addr} {z : Str} {zs : List Str} (h : SqL K H p (zs.map V.str) ∨ SqT K H p (zs.map V.str)) (q : Q (.bl (decide (z ∈ zs))) H) : rIn K false (.str z) (.ref p) H Q :=
  ⟨p, _, rfl, h, rfl, flat_strs zs, (show Q (.bl (inV (.str z) (zs.map V.str))) H by rw [inV_strs]; exact q)⟩
/-! ### heaps -/
theorem upd_new {H : Hp} {a p : Addr} {o u : HO} (hn : H p = none) (h : H a = some u) : upd H p o a = some u := by rw [upd_ne (ne_of_none h hn)]; exact h
theorem same_new {H : Hp} {p : Addr} {o : HO} (hn : H p = none) : Same H (upd H p o) := fun _ _ e => upd_new hn e
theorem Same.up {H H' : Hp} {a : Addr} {o : HO} (s : Same H H') (h : H a = some o) : H' a = some o := s a o h
theorem same_mut {H H' : Hp} {p : Addr} {o : HO} (s : Same H H') (hn : H p = none) : Same H (upd H' p o) := fun _ _ e => by rw [upd_ne (ne_of_none e hn)]; exact s _ _ e
theorem same_seqT {K : PySem.W.Frag} {H H' : Hp} {a : Addr} {xs : List V} (e : Same H H') (h : SqT K H a xs) : SqT K H' a xs := by
  rcases h with (h | ⟨o, h⟩) | h
  · exact .inl (.inl (e _ _ h))
  · exact .inl (.inr ⟨o, e _ _ h⟩)
  · exact .inr h
theorem small1000' {n : Nat} (h : n ≤ 10000) : n < sizeLine := Nat.lt_of_le_of_lt h (by decide)
/-- a comprehension whose test and element are pure -/
theorem lc_all {J : It} {n : Nat} {G : Hp → Prop} {Y : Nat → Hp → V → Hp → Prop} (wk : Walk J n G Y) {tt : TT} {te : TE} {vs : List Nat} {σ : L2.St} {H1 : Hp} {Q : VK} {j : Nat} (yv : Nat → V) (f : Nat → Bool) (v : Nat → V) (hn : n ≤ 10000)
    (hY : ∀ i H x H', i < n → Y i H x H' → H' = H ∧ x = yv i) (hG : ∀ H', Same H1 H' → G H') (hw : ∀ x, wipe ((wipe σ vs).set j (some x)) vs = wipe σ vs)
    (ht : ∀ i H', i < n → Same H1 H' → ∀ QT : Bool → Hp → Prop, (∀ H2, Same H' H2 → QT (f i) H2) → tt ((wipe σ vs).set j (some (yv i))) H' QT)
    (he : ∀ i H', i < n → f i = true → Same H1 H' → ∀ Q : VK, (∀ H2, Same H' H2 → Q (v i) H2) → te ((wipe σ vs).set j (some (yv i))) H' Q)
    (hd : ∀ D H', H1 D = none → Same H1 H' → H' D = some (.lst (Evl.given n f v)) → Q (.ref D) H') :
    LcW J (gName j) tt te vs σ H1 Q := by
  intro D hD
  refine lc_it wk (Qd := fun H => Q (.ref D) H) (fun i H => Same H1 H ∧ H D = some (.lst (Evl.given i f v))) ⟨same_new hD, upd_same⟩ (fun i H _ p => hG H p.1) (fun i x H H' hi p y => ?_) (fun H p => hd D H hD p.1 p.2)
  obtain ⟨rfl, rfl⟩ := hY i H x H' hi y
  refine ⟨hw _, ?_⟩
  refine ht i _ hi p.1 _ fun H2 s2 => ?_
  cases e : f i with
  | true =>
    refine iteT ?_
    refine he i H2 hi e (p.1.trans s2) _ fun H3 s3 => ?_
    refine ⟨_, s3 _ _ (s2 _ _ p.2), small1000' (Nat.le_trans (Evl.given_len i f v) (by omega)), same_mut ((p.1.trans s2).trans s3) hD, ?_⟩
    rw [upd_same, Evl.given_yes e]
  | false =>
    refine iteF ?_
    refine ⟨p.1.trans s2, ?_⟩
    rw [s2 _ _ p.2, Evl.given_no e]
theorem range_get {α : Type} (xs : List α) (d : α) : (List.range xs.length).map (fun i => xs.getD i d) = xs := by
  refine List.ext_getElem (by simp) fun i h1 h2 => ?_
  simp [List.getElem?_eq_getElem h2]
theorem given_filter {α : Type} (xs : List α) (d : α) (p : α → Bool) (g : α → V) : Evl.given xs.length (fun i => p (xs.getD i d)) (fun i => g (xs.getD i d)) = (xs.filter p).map g := by
  unfold Evl.given
  have e := range_get xs d
  have h2 : (List.range xs.length).filter (fun i => p (xs.getD i d)) = (List.range xs.length).filter (p ∘ fun i => xs.getD i d) := rfl
  have h3 : ((List.range xs.length).filter (p ∘ fun i => xs.getD i d)).map (g ∘ fun i => xs.getD i d) = (xs.filter p).map g := by
    rw [← List.map_map, ← List.filter_map, e]
  exact h3
theorem given_map {α : Type} (xs : List α) (d : α) (g : α → V) : Evl.given xs.length (fun _ => true) (fun i => g (xs.getD i d)) = xs.map g := by
  have h := given_filter xs d (fun _ => true) g
  rw [List.filter_eq_self.mpr (fun _ _ => rfl)] at h
  exact h
theorem atI_map {α : Type} {xs : List α} {g : α → V} {r : Int} (h0 : 0 ≤ r) (h1 : r < (xs.length : Int)) : ∃ x ∈ xs, atI (xs.map g) r = some (g x) := by
  obtain ⟨n, rfl⟩ : ∃ n : Nat, r = (n : Int) := ⟨r.toNat, by omega⟩
  have hl : n < xs.length := by omega
  refine ⟨xs[n], List.getElem_mem hl, ?_⟩
  exact atI_nat (by simp [hl])
theorem YAt_get {α : Type} {xs : List α} {d : α} {g : α → V} {i : Nat} {H : Hp} {x : V} {H' : Hp} (hi : i < (xs.map g).length) (y : YAt (xs.map g) i H x H') : H' = H ∧ x = g (xs.getD i d) := by
  obtain ⟨rfl, e⟩ := y
  refine ⟨rfl, ?_⟩
  have hl : i < xs.length := by simpa using hi
  rw [List.getElem?_map, List.getElem?_eq_getElem hl] at e
  have e' : g xs[i] = x := Option.some.inj e
  rw [← e', List.getD_eq_getElem?_getD, List.getElem?_eq_getElem hl]
  rfl
theorem r_isiS {K : PySem.W.Frag} {H : Hp} {Q : VK} {z : Str} (q : Q (.bl true) H) : rIsi K [.str z, .ty "str"] H Q := ⟨_, _, .type "str", _, _, rfl, .ty _, .base (.str z), kit_ty (by decide +kernel), q⟩
theorem cutV_take (xs : List V) (n : Nat) : cutV xs none (some (n : Int)) = xs.take n := by
  unfold cutV
  rw [HT.sIx_none, HT.sIx_nat]
  simp only [List.drop_zero, Nat.sub_zero]
  by_cases h : n ≤ xs.length
  · rw [Nat.min_eq_left h]
  · rw [Nat.min_eq_right (by omega), List.take_length, List.take_of_length_le (by omega)]
theorem decI {a b : Int} : decide (V.int a = V.int b) = decide (a = b) := by
  by_cases h : a = b
  · rw [h]; simp
  · rw [decide_eq_false h, decide_eq_false fun z => h (V.int.inj z)]
theorem decS {a b : Str} : decide (V.str a = V.str b) = decide (a = b) := by
  by_cases h : a = b
  · rw [h]; simp
  · rw [decide_eq_false h, decide_eq_false fun z => h (V.str.inj z)]
/-- a list of truths made by a comprehension -/
theorem given_bl {α : Type} (xs : List α) (d : α) (p : α → Bool) : Evl.given xs.length (fun _ => true) (fun i => V.bl (p (xs.getD i d))) = (xs.map p).map V.bl := by
  rw [given_map xs d (fun x => V.bl (p x)), List.map_map]
  rfl
theorem given_int {α : Type} (xs : List α) (d : α) (p : α → Int) : Evl.given xs.length (fun _ => true) (fun i => V.int (p (xs.getD i d))) = (xs.map p).map V.int := by
  rw [given_map xs d (fun x => V.int (p x)), List.map_map]
  rfl
theorem all_id {α : Type} (xs : List α) (p : α → Bool) : (xs.map p).all id = xs.all p := by
  rw [List.all_map]
  rfl
def optV : Option Int → V
  | none => .non
  | some i => .int i
theorem strEq {a b : Str} (h : V.str a = V.str b) : a = b := V.str.inj h
theorem strNe {a b : Str} (h : ¬ V.str a = V.str b) : ¬ a = b := fun z => h (by rw [z])
theorem intEq {a b : Int} (h : V.int a = V.int b) : a = b := V.int.inj h
theorem intNe {a b : Int} (h : ¬ V.int a = V.int b) : ¬ a = b := fun z => h (by rw [z])
theorem r_iteS2 {a b : Str} {A B : Prop} (h1 : a = b → A) (h2 : ¬ a = b → B) : if decide (V.str a = V.str b) = true then A else B := r_ite2 (fun h => h1 (strEq h)) (fun h => h2 (strNe h))
theorem r_iteI2 {a b : Int} {A B : Prop} (h1 : a = b → A) (h2 : ¬ a = b → B) : if decide (V.int a = V.int b) = true then A else B := r_ite2 (fun h => h1 (intEq h)) (fun h => h2 (intNe h))
theorem r_iteB {b : Bool} {A B : Prop} (h1 : b = true → A) (h2 : b = false → B) : if b = true then A else B := by
  cases b
  · exact iteF (h2 rfl)
  · exact iteT (h1 rfl)
theorem r_iteBN {b : Bool} {A B : Prop} (h1 : b = false → A) (h2 : b = true → B) : if (!b) = true then A else B := by
  cases b
  · exact iteT (h1 rfl)
  · exact iteF (h2 rfl)
theorem val_to {Q : VK} {v v' : V} {H : Hp} (z : Q v H) (e : v = v') : Q v' H := e ▸ z
theorem r_isiO {K : PySem.W.Frag} {H : Hp} {Q : VK} {o : Option Int} (q : Q (.bl false) H) : rIsi K [optV o, .ty "bool"] H Q := by
  cases o with
  | none => exact ⟨_, _, .type "NoneType", _, _, rfl, .ty _, .base .non, kit_ty (by decide +kernel), q⟩
  | some i => exact ⟨_, _, .type "int", _, _, rfl, .ty _, .base (.int i), kit_ty (by decide +kernel), q⟩
theorem r_neO {H : Hp} {Q : VK} {o : Option Int} (q : Q (.bl false) H) : rNe (optV o) (optV o) H Q := by
  refine ⟨by cases o <;> rfl, ?_⟩
  rw [decide_eq_true rfl]
  exact q
theorem r_isNone {B : Prop} (q : B) : V.non = V.non ∧ B := ⟨rfl, q⟩
theorem r_neB {H : Hp} {Q : VK} {b : Bool} (q : Q (.bl false) H) : rNe (.bl b) (.bl b) H Q := by
  refine ⟨rfl, ?_⟩
  rw [decide_eq_true rfl]
  exact q
theorem putF_le (f : Str) (v : V) : ∀ fs : List (Str × V), (putF f v fs).length ≤ fs.length + 1
  | [] => Nat.le_refl _
  | (g, x) :: r => by
    unfold putF
    split
    · simp
    · have := putF_le f v r
      simp only [List.length_cons]
      omega
theorem putF_lt {f : Str} {v : V} {fs : List (Str × V)} {n m : Nat} (h : fs.length + (n + 1) < m) : (putF f v fs).length + n < m := by
  have := putF_le f v fs
  omega
theorem putF_lt0 {f : Str} {v : V} {fs : List (Str × V)} {m : Nat} (h : fs.length + 1 < m) : (putF f v fs).length < m := putF_lt (n := 0) h
theorem sz_lit {n : Nat} (h : n ≤ 1000) : n ≤ sizeLine := Nat.le_of_lt (small1000 h)
end KB

/-! KG: own layer: defs called while no repr is under way (A.guards = some []); repr of data. -/
namespace KG
open PySem PySem.Spec PyProof.Rows L2 KB
abbrev Free (A : Around) : Prop := A.guards = some []
theorem free_deeper {A : Around} (g : Free A) (env : Env) : Free (A.deeper env) := g
/-- as FnOk, asked only where no repr is under way -/
structure FnG (P : Program) (w : World) (K : PySem.W.Frag) (mg : Str → Option Value) (base : Heap) (CX : CXT) (k : Nat) (f : Addr) (fd : FuncData) (ps : List Str) (sp : Sp) : Prop where
  size : ∀ xs h Z W, sp xs h Z W → xs.length = ps.length
  go : ∀ (A : Around), Free A → ∀ (out : List Env) (st : Shared) (h : Hp) (ar : Args) (ws : List Value) (xs : List V) (Z : VK) (W : XK), Room k A → Env0 P w K mg base A out st h → BindsTo st fd ar (ps.zip ws) → Vals xs ws → sp xs h Z W →
    codeAny (model P w) A (.call (.ref f) ar) (CR CX out P w h st Z W) st
theorem FnG.of {P : Program} {w : World} {K : PySem.W.Frag} {mg : Str → Option Value} {base : Heap} {CX : CXT} {k : Nat} {f : Addr} {fd : FuncData} {ps : List Str} {sp : Sp} (F : FnOk P w K mg base CX k f fd ps sp) : FnG P w K mg base CX k f fd ps sp :=
  ⟨F.len, fun A _ => F.run A⟩
section
variable {P : Program} {w : World} {K : PySem.W.Frag} {mg : Str → Option Value} {base : Heap} {CX : CXT}
theorem fnG_body {k : Nat} {f : Addr} {nm ql : Str} {pr : Arguments} {bd : List Stmt} {sc : Scope} {v1 v2 v3 v4 cv v5 v6 : Value} {a1 a2 : Option Addr} {slots : Array (Option Value)} {N ps : List Str} {sp : Sp}
    (look : K.lookup f = some ⟨v6, a2, .func (PySem.W.fnOf nm ql pr bd sc v1 v2 v3 v4 a1 cv v5), slots⟩) (code : PySem.W.codeIn K cv ql = true) (S : FnScope N ps sc) (size : ∀ xs h Z W, sp xs h Z W → xs.length = ps.length)
    (body : ∀ (A : Around) (out : List Env) (st : Shared) (h : Hp) (xs : List V) (Z : VK) (W : XK), Room k (A.deeper (envOfC ql sc st.heap.objs.size f cv)) → Free A → sp xs h Z W →
      ∃ t, PSs (cxOf CX P w K mg base N ql sc f cv A out st h W) bd t ∧ t { nx := fun _ h' => Z .non h', rt := Z } (start N xs) h) :
    FnG P w K mg base CX (k + 1) f (PySem.W.fnOf nm ql pr bd sc v1 v2 v3 v4 a1 cv v5) ps sp := by
  refine ⟨size, fun A fr out st h ar ws xs Z W room env bind vals pre => ?_⟩
  have kin : K.In st.heap := env.mod.kin.keeps fun b o q => (env.bs b o q).1
  have nolim : st.heap.NoLimit := env.mod.nolimit.keeps fun b o q => (env.bs b o q).1
  have kinds : ∀ y ∈ ps.zip ws, sc.names.lookup y.1 = some .local ∨ (sc.names.lookup y.1 = some .cell ∧ ((cellsFrom (st.heap.objs.size + 1) sc.names []).lookup y.1).isSome = true) := by
    intro y hy
    obtain ⟨n, v⟩ := y
    cases S.par n (List.of_mem_zip hy).1 with
    | inl z => exact .inl z
    | inr z => exact .inr ⟨z, PySem.W.cellsFrom_some _ _ _ (.inl z)⟩
  refine codeAny_call_function room.depth (kin _ _ look) rfl S.co S.gen rfl (PySem.W.codeRec_of kin code) (bind _ _ _ _ ?_)
  refine wpAny_newFunctionEnv_cells S.kind kinds fun en he st1 inc => ?_
  subst he
  refine ⟨nolim.keeps inc.toInCall.keep, codeAny_func ?_⟩
  obtain ⟨t, drv, rdg⟩ := body A out st h xs Z W (room.deeper _) fr pre
  have inv : Inv (cxOf CX P w K mg base N ql sc f cv A out st h W) [] (start N xs) h st1 := inv_start S room.hd env (size _ _ _ _ pre) vals inc
  refine wpAny_mono (drv.run [] st1 (start N xs) h _ inv rdg) (fun flow st2 res => ?_) fun _ _ z => z
  cases flow with
  | ret u => exact let ⟨v, _, h2, J, rel, z⟩ := res; ⟨v, h2, J.os, J.bare, J.base, J.hok, rel, z⟩
  | next => exact let ⟨_, h2, J, z⟩ := res; ⟨.non, h2, J.os, J.bare, J.base, J.hok, rfl, z⟩
  | brk => exact (let ⟨_, _, _, z⟩ := res; z : False).elim
  | cont => exact (let ⟨_, _, _, z⟩ := res; z : False).elim
/-- the rule for a def of the text, nothing raised out of it -/
theorem fun_okG {x ql : Str} {stm : Stmt} {f : Addr} {fd : FuncData} {N ps : List Str} {k : Nat} {sp : Sp} (F : Fun K x ql stm f fd) (S : FnScope N ps (defScope stm)) (size : ∀ xs h Z W, sp xs h Z W → xs.length = ps.length)
    (body : ∀ (cv : Value) (A : Around) (out : List Env) (st : Shared) (h : Hp) (xs : List V) (Z : VK) (W : XK), Room k (A.deeper (envOfC ql (defScope stm) st.heap.objs.size f cv)) → Free A → sp xs h Z W →
      ∃ t, PSs (cxOf CX0 P w K mg base N ql (defScope stm) f cv A out st h W).nox (defBody stm) t ∧ t { nx := fun _ h' => Z .non h', rt := Z } (start N xs) h) : FnG P w K mg base CX0 (k + 1) f fd ps sp := by
  obtain ⟨c1, c2, c3, c4, c5, c6, cv, c8, c9, rfl, look, code⟩ := F.ex
  refine fnG_body look code S size fun A out st h xs Z W room fr pre => ?_
  obtain ⟨t, drv, rdg⟩ := body cv A out st h xs Z W room fr pre
  exact ⟨t, drv.nox, rdg⟩
end
/-! ### calls -/
section
variable {X : Cx} {CX : CXT}
theorem runG {k : Nat} {f : Addr} {fd : FuncData} {ps : List Str} {sp : Sp} {E : XK} {dv : List V} {dw : List Value} {pins : List (Addr × Obj)} {σ : L2.St} {h : Hp} {st : Shared} {Z : VK} {ws : List Value} {xs : List V} (F : FnG X.prog X.w X.K X.mg X.base CX k f fd ps sp) (fr : Free X.A) (room : Room k X.A)
    (bind : Binds X.K fd ps dw) (dr : Vals dv dw) (pass : Passes CX X E) (inv : Inv X pins σ h st) (rel : Vals xs ws) (pre : sp (xs ++ dv) h Z E) : wpAny (model X.prog X.w) X.A (call (.ref f) ws) (EP X pins σ Z) X.xe st := by
  have rel2 := rel.append dr
  have size : (ws ++ dw).length = ps.length := rel2.length.symm.trans (F.size _ _ _ _ pre)
  refine wpAny_call (codeAny_mono (F.go X.A fr X.stack st h ⟨ws, []⟩ _ _ Z E room inv.env0 (bind st ws inv.kIn size) rel2 pre) fun res st2 z => ?_)
  match res, z with
  | .error e, z => exact pass pins σ h st e st2 inv z
  | .ok (.ret u), z => exact inv.after z
  | .ok .next, z => exact z.elim
  | .ok .brk, z => exact z.elim
  | .ok .cont, z => exact z.elim
structure CalleeG (P : Program) (w : World) (K : PySem.W.Frag) (mg : Str → Option Value) (base : Heap) (CX : CXT) (k : Nat) (x : Str) (ps : List Str) (sp : Sp) : Prop where
  ex : ∃ (f : Addr) (fd : FuncData), FnG P w K mg base CX k f fd ps sp ∧ mg x = some (.ref f) ∧ PySem.W.keepIn K (.ref f) = true ∧ Binds K fd ps []
theorem pe_callG {k : Nat} {x : Str} {ps : List Str} {sp : Sp} {E : XK} {e : Expr} {es : List Expr} {p pos : Pos} {t : TA} (c : CalleeG X.prog X.w X.K X.mg X.base CX k x ps sp) (fr : Free X.A) (room : Room k X.A) (gl : Gl X x) (pass : Passes CX X E) (ha : PA X (e :: es) t)
    (d1 : (x == ("__debug__" : Str)) = false := by decide) (d2 : starEach (e :: es) X.env = (false, eval e X.env) :: starEach es X.env := by rfl) (d3 : (backTo pos (starEach es X.env)).any (·.1) = false := by rfl) :
    PE X (.Call (.Name x p) (e :: es) [] pos) (tCall sp [] E t) := by
  obtain ⟨f, fd, F, look, keep, bind⟩ := c.ex
  refine ⟨fun pins st σ h Z inv pre => wpAny_Call_Name_kw (ld_glob inv gl look ?_ d1)⟩
  refine PySem.W.callWith_K (h₀ := X.base) inv.ok.mod.kin keep (thn (ha.run pos pins st σ h _ inv pre) fun ws st1 res => ?_) d2 d3
  obtain ⟨xs, h1, inv1, rel, z⟩ := res
  exact ⟨inv1.kIn, runG F fr room bind .nil pass inv1 rel z⟩
end
/-! ### repr of data -/
section
variable {P : Program} {w : World} {A : Around} {E : Value → Shared → Prop} {s : Shared} {Z : Value → Shared → Prop}
theorem repr_slot {v : Value} {T id : String} (hu : A.units + 2 < cLine) (ty : s.TypeIs v T) (slot : SlotG T "__repr__" id)
    (h : wpAny (model P w) A.in1 (callSpecialIfBound? v (Str.ofString "__repr__")) (fun r st => ∃ (y : Str) (u : Tok), r = some (.str y u) ∧ Z (.str y u) st) E s) : wpAny (model P w) A (call (.builtin "repr") [v]) Z E s := by
  refine (Calls.call_function_entry F.kind_repr F.plain_repr F.entry_repr (F.args_repr1 _) ?_); unfold Builtin.«repr»
  refine (wpAny_bind (m := oneArg "repr" _) (wpAny_pure ?_))
  refine (wpAny_bind (wpAny_cRoomFor (show A.units + 1 < cLine by omega) ?_))
  refine (wpAny_bind (wpAny_specialOf (name := Str.ofString "__repr__") ty slot.lookup ?_))
  refine (wpAny_bind (m := callSpecialIfBound? v (Str.ofString "__repr__")) (wpAny_mono h (fun r st z => ?_) fun _ _ z => z))
  obtain ⟨y, u, rfl, z⟩ := z
  refine (wpAny_bind (wpAny_isInstance (T := "str") (b := true) rfl isSubtype_str_str ?_))
  exact (wpAny_pure ⟨.str y u, rfl, z⟩)
theorem repr_data {v : Value} {d : PyData} {as : List Addr} (r : Reads s.heap v d as) (ok : d.showable = true) (nod : d.hasDict = false) (sz : d.shown.length ≤ sizeLine) (fr : Free A) (hu : A.units + d.depth + 3 < cLine)
    (q : ∀ h' u tk, (∀ b o, s.heap.get? b = some o → h'.get? b = some o) → Z (.str d.shown u) { s with heap := h', toks := tk }) : wpAny (model P w) A (call (.builtin "repr") [v]) Z E s := by
  have nosys : d.hasDict = true → sysModules ∉ as := fun z => by rw [nod] at z; cases z
  cases r with
  | none =>
    simp only [PyData.shown] at q
    exact PySem.P.repr_of_none (q s.heap _ _ fun _ _ e => e)
  | bool b =>
    simp only [PyData.shown] at q
    exact PySem.P.repr_of_bool (q s.heap _ _ fun _ _ e => e)
  | int i t =>
    simp only [PyData.shown] at q
    exact PySem.P.repr_of_int (by simpa [PyData.showable] using ok) (q s.heap _ _ fun _ _ e => e)
  | str x t =>
    simp only [PyData.shown] at q sz
    exact PySem.P.repr_of_str (q s.heap _ _ fun _ _ e => e) sz
  | @list a o vs n xs as1 h1 h2 h3 h4 =>
    have sz' : (listText (PyData.shownAll xs)).length ≤ sizeLine := by simpa only [PyData.shown] using sz
    have ok' : PyData.showableAll xs = true := by simpa [PyData.showable] using ok
    have whole : Reads s.heap (.ref a) (.list xs) _ := .list h1 h2 h3 h4
    obtain ⟨bs, lim, kids⟩ := ReprAllK.of_readsAll (prog := P) (w := w) h4 ok' (fun z m => nosys (by simpa [PyData.hasDict] using z) (List.mem_cons_of_mem _ m)) (fun t ht => Nat.le_trans (listText_mem_le ht) sz')
    have off : a ∉ bs := not_mem_of_deeper whole (by simp only [PyData.depth]; omega) lim
    simp only [PyData.depth] at hu
    simp only [PyData.shown] at q
    have ty : s.TypeIs (.ref a) "list" := ⟨_, h1, h2⟩
    refine repr_slot (by omega) ty F.slot_list_repr.toG ?_
    obtain ⟨l⟩ := vs
    cases l with
    | nil =>
      have h4' : ReadsAll s.heap [] xs _ := h4
      cases h4'
      simp only [PyData.shownAll, listText_nil] at q
      refine (wpAny_callSpecialIfBound?_slot (name := Str.ofString "__repr__") ty F.slot_list_repr (call_list_repr_empty ty h1 h3 ?_))
      exact ⟨_, _, rfl, q s.heap _ _ fun _ _ e => e⟩
    | cons x l =>
      refine (wpAny_callSpecialIfBound?_slot (name := Str.ofString "__repr__") ty F.slot_list_repr (call_list_reprK h1 h2 h3 off (by simpa using kids.length_eq) (fun i y e => kids.item i y (by simpa using e)) fr (fun b _ => Clear.nil b) (show A.units + 1 + _ < cLine by omega) (fun _ _ e => e) (fun h' u tk kp => ?_) sz'))
      exact ⟨_, _, rfl, q h' u tk kp⟩
  | @tuple a o vs n xs as1 h1 h2 h3 h4 =>
    have sz' : (tupleText (PyData.shownAll xs)).length ≤ sizeLine := by simpa only [PyData.shown] using sz
    have ok' : PyData.showableAll xs = true := by simpa [PyData.showable] using ok
    have whole : Reads s.heap (.ref a) (.tuple xs) _ := .tuple h1 h2 h3 h4
    obtain ⟨bs, lim, kids⟩ := ReprAllK.of_readsAll (prog := P) (w := w) h4 ok' (fun z m => nosys (by simpa [PyData.hasDict] using z) m) (fun t ht => Nat.le_trans (tupleText_mem_le ht) sz')
    have off : a ∉ bs := not_mem_of_deeper whole (by simp only [PyData.depth]; omega) lim
    simp only [PyData.depth] at hu
    simp only [PyData.shown] at q
    have ty : s.TypeIs (.ref a) "tuple" := ⟨_, h1, h2⟩
    refine repr_slot (by omega) ty F.slot_tuple_repr ?_
    refine (wpAny_callSpecialIfBound?_slotG (name := Str.ofString "__repr__") ty F.slot_tuple_repr (call_tuple_reprK h1 h2 h3 off kids fr (fun b _ => Clear.nil b) (show A.units + 1 + _ < cLine by omega) (fun _ _ e => e) (fun h' u tk kp => ?_) sz'))
    exact ⟨_, _, rfl, q h' u tk kp⟩
  | dict => simp [PyData.hasDict] at nod
end
section
variable {X : Cx}
theorem vals_one {x : V} {us : List Value} (r : Vals [x] us) : ∃ u, us = [u] ∧ RelV x u := by
  cases r with
  | cons h t => cases t; exact ⟨_, rfl, h⟩
def rRepr (K : PySem.W.Frag) : List V → Hp → VK → Prop := fun xs H Q => ∃ (v : V) (d : PyData), xs = [v] ∧ Dp K H v d ∧ d.showable = true ∧ d.hasDict = false ∧ d.depth ≤ 60 ∧ d.shown.length ≤ sizeLine ∧ Q (.str d.shown) H
theorem call_reprD {k : Nat} (fr : Free X.A) (room : Room k X.A) : CallR X (.builtin "repr") (rRepr X.K) := by
  intro pins st σ h xs us Z inv rel pre
  obtain ⟨v, d, rfl, dp, ok, nod, deep, sz, z⟩ := pre
  obtain ⟨u, rfl, rv⟩ := vals_one rel
  obtain ⟨as, rd⟩ := Dp.reads inv d v u dp rv
  refine repr_data rd ok nod sz fr (by have := room.un; omega) fun h' t tk kp => ?_
  exact ⟨.str d.shown, h, inv.kept kp, ⟨t, rfl⟩, z⟩
end
/-! ### the law's end -/
theorem law_G {P : Program} {w : World} {K : PySem.W.Frag} {mg bm : Str → Option Value} {k : Nat} {fa a : Addr} {fd : FuncData} {x : Str} {sp : Sp} {st : Shared} {us : List Value} {ns : List Int}
    (kin : K.In st.heap) (gl : st.heap.Ns mainGlobals mg) (bl : st.heap.Ns builtinsNs bm) (bb : ∀ y : Str, y ≠ "__name__" → bm y = bootBuiltins y) (nolim : st.heap.NoLimit) (nogen : st.gens = #[])
    (at_ : st.heap.get? a = some { cls := .type "list", data := .seq us.toArray }) (allInt : IntsAre us ns) (few : ns.length ≤ sizeLine) (room : Room k callerA)
    (F : ∀ base : Heap, K.In base → base.Ns mainGlobals mg → FnG P w K mg base CX0 k fa fd [x] sp) (bind : ∀ (s : Shared) (u : Value), BindsTo s fd ⟨[u], []⟩ [(x, u)])
    (pre : ∀ H : Hp, SqL K H a (ns.map V.int) → sp [.ref a] H (fun v _ => v = .bl true) fun _ _ _ => False) :
    codeAny (model P w) callerA (.call (.ref fa) ⟨[.ref a], []⟩) (fun r s2 => r = .ok (.ret (.bool true)) ∧ OldK st.heap s2.heap ∧ s2.os = st.os ∧ AllBare s2.gens) st := by
  have main : ∀ H : Hp, (∀ b, H b = none ∨ ∃ o ys, H b = some (.frz o (.lst ys))) → SqL K H a (ns.map V.int) → HOk P w H st.heap → (∀ b, H b ≠ none → b = a) → (H a ≠ none → K.lookup a = none) →
      codeAny (model P w) callerA (.call (.ref fa) ⟨[.ref a], []⟩) (fun r s2 => r = .ok (.ret (.bool true)) ∧ OldK st.heap s2.heap ∧ s2.os = st.os ∧ AllBare s2.gens) st := by
    intro H only sq hok isA noK
    have free_of : ∀ {b : Addr} {o : Obj}, st.heap.get? b = some o → (∀ ys m, o.data ≠ .seq ys m) → H b = none := by
      intro b o e nd
      cases q : H b with
      | none => rfl
      | some z =>
        have eb := isA b (by rw [q]; simp)
        rw [eb, at_] at e
        exact absurd (congrArg Obj.data (Option.some.inj e)).symm (nd _ _)
    have kb : K.In (hidT st.heap H) := by
      intro b o e
      refine hidT_get (kin b o e) ?_
      cases q : H b with
      | none => rfl
      | some z =>
        have eb := isA b (by rw [q]; simp)
        rw [eb] at e q
        rw [noK (by rw [q]; simp)] at e
        cases e
    have ns_of : ∀ {b : Addr} {m : Str → Option Value}, st.heap.Ns b m → (hidT st.heap H).Ns b m := by
      intro b m h
      obtain ⟨o, es, ep, e, d, r⟩ := h
      exact ⟨o, es, ep, hidT_get e (free_of e (fun ys n z => by rw [d] at z; cases z)), d, r⟩
    have hm : Mod K mg (hidT st.heap H) := ⟨kb, ns_of gl, ⟨bm, ns_of bl, bb⟩, by obtain ⟨mc, z1, z2⟩ := nolim; exact ⟨mc, ns_of z1, z2⟩⟩
    have env : Env0 P w K mg (hidT st.heap H) callerA [] st H := ⟨rfl, hm, fun b o e => of_hidT e, Nat.le_of_eq (hidT_size _ _), trivial, fun b z => (List.not_mem_nil z).elim, hok, .of_eq nogen⟩
    refine codeAny_mono ((F _ kb (ns_of gl)).go callerA rfl [] st H ⟨[.ref a], []⟩ [.ref a] [.ref a] _ _ room env (bind st (.ref a)) (.cons rfl .nil) (pre H sq)) fun res s2 z => ?_
    match res, z with
    | .error e, z => exact z.elim
    | .ok .next, z => exact z.elim
    | .ok .brk, z => exact z.elim
    | .ok .cont, z => exact z.elim
    | .ok (.ret u), z =>
      obtain ⟨v, H2, z1, z2, un, hok2, rel, rfl⟩ := z
      obtain rfl : u = Value.bool true := rel
      refine ⟨rfl, OldK.of_keep fun b o e => ?_, z1, z2⟩
      cases q : H b with
      | none => exact un.keep b o e q (fun y => List.not_mem_nil y) (fun y => List.not_mem_nil y)
      | some y =>
        rcases only b with y1 | ⟨o1, ys, y1⟩
        · rw [q] at y1; cases y1
        · have y2 := (hok b _ y1).1
          have y3 := (hok2 b _ (un.frzs b o1 _ y1)).1
          rw [e] at y2
          rw [Option.some.inj y2]
          exact y3
  have vals := vals_ints allInt
  have lens := allInt.length
  cases look : K.lookup a with
  | some o =>
    have e := kin a o look
    rw [at_] at e
    obtain rfl := Option.some.inj e
    exact main (fun _ => none) (fun _ => .inl rfl) (.inr ⟨_, us.toArray, _, look, rfl, rfl, rfl, by rw [List.size_toArray, lens]; exact few, by simpa using vals⟩) (fun _ _ z => nomatch z) (fun _ z => (z rfl).elim) (fun z => (z rfl).elim)
  | none =>
    refine main (upd (fun _ => none) a (.frz { cls := .type "list", data := .seq us.toArray } (.lst (ns.map V.int)))) (fun b => ?_) (.inl (.inr ⟨_, upd_same⟩)) (fun b y z => ?_) (fun b z => ?_) fun _ => look
    · by_cases eb : b = a
      · rw [eb, upd_same]; exact .inr ⟨_, _, rfl⟩
      · rw [upd_ne eb]; exact .inl rfl
    · by_cases eb : b = a
      · subst eb
        rw [upd_same] at z
        obtain rfl := Option.some.inj z
        exact ⟨at_, by rw [List.length_map]; exact few, us, _, vals, at_⟩
      · rw [upd_ne eb] at z; cases z
    · by_cases eb : b = a
      · exact eb
      · exact absurd (upd_ne eb) z
/-- the goal that the head leaves, from the law's own promise -/
theorem walkG {l : PySem.W.OpenLaw} {n k : Nat} {q : Program} {loose : List Str} {XP : (Str → Option Value) → Heap → Prop} {YP : World → Heap → Prop} {d : DefRec} {K : Params → PySem.W.Frag} {sp : World → Sp} {x : Str}
    (hn : l.most = some n) (n2 : n ≤ sizeLine) (nodef : d.params.defaults = []) (room : Room k callerA) (hY : ∀ (w : World) (h : Heap), YP w h → (K w.params).In h)
    (F : ∀ (w : World) (mg : Str → Option Value) (fa : Addr) (h : Heap), (K w.params).In h → h.Ns mainGlobals mg → mg d.name = some (.ref fa) →
      ∃ fd : FuncData, (∀ (s : Shared) (u : Value), BindsTo s fd ⟨[u], []⟩ [(x, u)]) ∧ ∀ base : Heap, (K w.params).In base → base.Ns mainGlobals mg → FnG l.prog w (K w.params) mg base CX0 k fa fd [x] (sp w))
    (pre : ∀ (w : World) (H : Hp) (a : Addr) (ns : List Int), ns.length ≤ n → SqL (K w.params) H a (ns.map V.int) → sp w [.ref a] H (fun v _ => v = .bl true) fun _ _ _ => False) :
    PySem.W.WalkO q loose XP YP l.row.toRowW d [] (fun f vs => PySem.call f vs) := by
  refine Att.attach_call hn nodef fun w s0 st mg bm fa o pm cd doc a us ns G Y ho hd hcd hmg hobj allInt size nogen => ?_
  obtain ⟨fd, bind, hF⟩ := F w mg fa _ (hY w _ Y) G.T.g hmg
  exact law_G (hY w _ Y) G.T.g G.T.b G.T.builtins G.T.nolimit nogen hobj allInt (Nat.le_trans size n2) room hF bind fun H sq => pre w H a ns size sq
end KG

/-! KO: own objects: methods called by keywords, own ==, != by own ==, str by own __str__. -/
namespace KO
open PySem PySem.Spec PyProof.Rows L2 KB
section
variable {X : Cx}
/-- a def run in another Around, nothing raised out of it -/
theorem run0 {A' : Around} {k : Nat} {f : Addr} {fd : FuncData} {ps : List Str} {sp : Sp} {pins : List (Addr × Obj)} {σ : L2.St} {h : Hp} {st : Shared} {Z : VK} {ws : List Value} {xs : List V} {E' : Value → Shared → Prop} (F : FnOk X.prog X.w X.K X.mg X.base CX0 k f fd ps sp) (room : Room k A')
    (env : Env0 X.prog X.w X.K X.mg X.base A' X.stack st h) (bind : Binds X.K fd ps []) (inv : Inv X pins σ h st) (rel : Vals xs ws) (pre : sp xs h Z E0) : wpAny (model X.prog X.w) A' (call (.ref f) ws) (EP X pins σ Z) E' st := by
  have size : (ws ++ []).length = ps.length := by rw [List.append_nil, ← rel.length]; exact F.len _ _ _ _ pre
  have bd := bind st ws inv.kIn size
  rw [List.append_nil] at bd
  refine wpAny_call (codeAny_mono (F.run A' X.stack st h ⟨ws, []⟩ _ _ Z E0 room env bd rel pre) fun res st2 z => ?_)
  match res, z with
  | .error e, z => exact z.elim
  | .ok (.ret u), z => exact inv.after z
  | .ok .next, z => exact z.elim
  | .ok .brk, z => exact z.elim
  | .ok .cont, z => exact z.elim
theorem inst_of {pins : List (Addr × Obj)} {σ : L2.St} {h : Hp} {st : Shared} {a C dx : Addr} {fs : List (Str × V)} (inv : Inv X pins σ h st) (e : h a = some (.ins C dx fs)) : ∃ od, PySem.W.InstAt st.heap a (PySem.W.instObj C dx) C (some od) := by
  obtain ⟨mA, O, _⟩ := ins_get inv.hok e
  obtain ⟨od, J, _⟩ := O.look
  exact ⟨od, J⟩
/-! ### own == -/
def rEqOwn (K : PySem.W.Frag) (C : Addr) (sp : Sp) : R2 := fun x y H Q => ∃ a dx fs b C' dy gs, x = .ref a ∧ y = .ref b ∧ H a = some (.ins C dx fs) ∧ H b = some (.ins C' dy gs) ∧ PySem.W.notFirst K C (.ref C') = true ∧ sp [x, y] H Q E0
theorem op_eqOwn {C g : Addr} {fd : FuncData} {ps : List Str} {sp : Sp} {n : Nat} (hs : PySem.W.findIn X.K (.ref C) "__eq__" = some (some (.ref g))) (hf : PySem.W.isFn X.K (.ref g) = true) (F : FnOk X.prog X.w X.K X.mg X.base CX0 n g fd ps sp) (bind : Binds X.K fd ps [])
    (room : Room n X.A) : OpR X (compareOp .Eq) (rEqOwn X.K C sp) := by
  intro pins st σ h x y v u Z inv rx ry pre
  obtain ⟨a, dx, fs, b, C', dy, gs, rfl, rfl, ha, hb, nf, z⟩ := pre
  obtain rfl : v = Value.ref a := rx
  obtain rfl : u = Value.ref b := ry
  obtain ⟨od, J⟩ := inst_of inv ha
  obtain ⟨od', J'⟩ := inst_of inv hb
  obtain ⟨m, hF⟩ := inv.fr
  rw [show compareOp .Eq (.ref a) (.ref b) = richCompare .Eq (.ref a) (.ref b) from rfl]
  refine PySem.W.cmp_K (op := .Eq) (tb := .ref C') room.units0 hF inv.ok.mod.kin J J'.type nf hs hf ?_
  refine wpAny_mono (run0 (E' := X.xe) (xs := [.ref a, .ref b]) F room inv.env0 bind inv (.cons rfl (.cons rfl .nil)) z) (fun w s2 r => ?_) fun _ _ z => z
  obtain ⟨z', h2, inv2, rz, qz⟩ := r
  exact SlX.cmpback rz ⟨z', h2, inv2, rz, qz⟩
/-! ### != by own == -/
/-- what the text's class must be for it -/
structure NeCls (K : PySem.W.Frag) (C g : Addr) : Prop where
  ex : ∃ (nm q : Str) (N : Addr) (bs : List Value) (hd : Bool) (sn : List Str) (sub : List Value) (ab : Bool) (col : Option Bool) (dd : Option Addr) (k0 k1 k2 k3 k5 : Option Value) (nid : String),
    K.lookup C = some (excClassObj nm q C N bs [.type "object"] hd sn sub ab col dd k0 k1 k2 k3 k5 nid) ∧ PySem.W.nsOkIn K N = true ∧ PySem.W.nsIn K N "__eq__" = some (some (.ref g)) ∧ PySem.W.nsIn K N "__ne__" = some none
  fn : ∃ o : Obj, K.lookup g = some o ∧ o.cls = .type "function"
theorem ns_val {K : PySem.W.Frag} {h : Heap} {N : Addr} {m : Str → Option Value} {x : Str} {v : Value} (kin : K.In h) (G : h.Ns N m) (e : PySem.W.nsIn K N x = some (some v)) : m x = some v := by
  obtain ⟨o, es, ep, e1, e2, _, e3⟩ := G
  unfold PySem.W.nsIn at e
  split at e
  · rename_i q
    have z := kin _ _ q
    rw [e1] at z
    cases z
    cases e2
    split at e
    · rename_i w
      rw [← e3]
      unfold nsFind findBy
      rw [← Array.find?_toList, w]
      simpa using e
    · split at e <;> cases e
  · cases e
theorem NeCls.at {K : PySem.W.Frag} {C g a dx : Addr} {h : Heap} (c : NeCls K C g) (kin : K.In h) (ha : h.get? a = some (PySem.W.instObj C dx)) : h.OwnEqNoNe a C g "object" [.type "object"] := by
  obtain ⟨nm, q, N, bs, hd, sn, sub, ab, col, dd, k0, k1, k2, k3, k5, nid, e1, e2, e3, e4⟩ := c.ex
  obtain ⟨o, e5, e6⟩ := c.fn
  have hN : h.Ns N (h.nsMap N) := .of_isNs (PySem.W.isNs_of_in kin e2)
  exact ⟨_, o, nm, q, N, bs, hd, sn, sub, ab, col, dd, k0, k1, k2, k3, k5, nid, h.nsMap N, _, ha, rfl, kin _ _ e1, hN, ns_val kin hN e3, kin _ _ e5, e6, F.cmp_object.mro, F.cmp_object.eq.lookup, PySem.W.ns_none_of kin hN e4⟩
def rNeOwn (C : Addr) (sp : Sp) : R2 := fun x y H Q => ∃ a dx fs b dy gs, x = .ref a ∧ y = .ref b ∧ H a = some (.ins C dx fs) ∧ H b = some (.ins C dy gs) ∧ sp [x, y] H (fun v H' => ∃ c, v = .bl c ∧ Q (.bl (!c)) H') E0
theorem op_neOwn {C g : Addr} {fd : FuncData} {ps : List Str} {sp : Sp} {n : Nat} (c : NeCls X.K C g) (F : FnOk X.prog X.w X.K X.mg X.base CX0 n g fd ps sp) (bind : Binds X.K fd ps []) (room : Room (n + 1) X.A) : OpR X (compareOp .NotEq) (rNeOwn C sp) := by
  intro pins st σ h x y v u Z inv rx ry pre
  obtain ⟨a, dx, fs, b, dy, gs, rfl, rfl, ha, hb, z⟩ := pre
  obtain rfl : v = Value.ref a := rx
  obtain rfl : u = Value.ref b := ry
  obtain ⟨_, _, _, ga, _⟩ := inv.hok a _ ha
  obtain ⟨_, _, _, gb, _⟩ := inv.hok b _ hb
  have un := room.un
  refine compareOp_ne_ownEq (h := st.heap) (g := st.gens) (d := st.drawn) (t := st.toks) (os := st.os) PySem.F.cmp_object (c.at inv.kIn ga) gb rfl (by omega) ?_
  refine wpAny_mono (run0 (E' := X.xe) (xs := [.ref a, .ref b]) F room.in1 inv.env0.in1 bind inv (.cons rfl (.cons rfl .nil)) z) (fun w s2 r => ?_) fun _ _ z => z
  obtain ⟨v', h2, inv2, rz, cc, rfl, q2⟩ := r
  obtain rfl : w = Value.bool cc := rz
  exact ⟨cc, rfl, ⟨.bl (!cc), h2, inv2, rfl, q2⟩⟩
/-! ### str(o) by own __str__ -/
def rStrOwn (C : Addr) (sp : Sp) : List V → Hp → VK → Prop := fun xs H Q => ∃ a dx fs, xs = [.ref a] ∧ H a = some (.ins C dx fs) ∧ sp [.ref a] H (fun v H' => ∃ t, v = .str t ∧ Q (.str t) H') E0
theorem call_strOwn {C g : Addr} {fd : FuncData} {ps : List Str} {sp : Sp} {n : Nat} (hs : PySem.W.findIn X.K (.ref C) "__str__" = some (some (.ref g))) (hf : PySem.W.isFn X.K (.ref g) = true) (F : FnOk X.prog X.w X.K X.mg X.base CX0 n g fd ps sp) (bind : Binds X.K fd ps [])
    (room : Room (n + 2) X.A) : CallR X (.type "str") (rStrOwn C sp) := by
  intro pins st σ h xs us Z inv rel pre
  obtain ⟨a, dx, fs, rfl, ha, z⟩ := pre
  obtain ⟨u, rfl, ru⟩ : ∃ u, us = [u] ∧ RelV (.ref a) u := by
    cases rel with
    | cons e t => cases t; exact ⟨_, rfl, e⟩
  obtain rfl : u = Value.ref a := ru
  obtain ⟨od, J⟩ := inst_of inv ha
  have un := room.un
  refine PySem.W.kso_call (show X.A.units + 1 + 1 < cLine by omega) inv.kIn J hs hf ?_
  refine wpAny_mono (run0 (E' := X.xe) (xs := [.ref a]) F room.in1.in1 inv.env0.in1.in1 bind inv (.cons rfl .nil) z) (fun w s2 r => ?_) fun _ _ z => z
  obtain ⟨v', h2, inv2, rz, t, rfl, q2⟩ := r
  obtain ⟨tk, rfl⟩ : ∃ tk, w = Value.str t tk := rz
  exact ⟨.str t, h2, inv2, ⟨tk, rfl⟩, q2⟩
/-! ### o.m(.., k = v, ..) -/
structure CalleeMK (P : Program) (w : World) (K : PySem.W.Frag) (mg : Str → Option Value) (base : Heap) (k : Nat) (C : Addr) (m : Str) (ps : List Str) (sp : Sp) (n : Nat) (ks : List Str) (gV : List V → List V → List V) : Prop where
  ex : ∃ (f : Addr) (fd : FuncData) (g : List Value → List Value → List Value), FnOk P w K mg base CX0 k f fd ps sp ∧ Meth K C m f ∧ KBn K fd ps (n + 1) ks g gV
  cl : Cls K C
def tMethK0 (C : Addr) (m : Str) (n : Nat) (sp : Sp) (gV : List V → List V → List V) (ta : TE) (tk : TA) : TE := fun σ H Q => ta σ H fun x H1 => ∃ a dx fs, x = .ref a ∧ H1 a = some (.ins C dx fs) ∧ fs.lookup m = none ∧ tk σ H1 fun zs H2 => zs.length = n ∧ sp (gV [.ref a] zs) H2 Q E0
theorem pe_methK0 {pl : Sem Bool} {k : Nat} {C : Addr} {m : Str} {ps ks : List Str} {sp : Sp} {gV : List V → List V → List V} {o : Expr} {kws : List Keyword} {apos pos : Pos} {ta : TE} {tk : TA} (c : CalleeMK X.prog X.w X.K X.mg X.base k C m ps sp 0 ks gV) (ho : PE X o ta) (room : Room k X.A) (hkw : PK X kws tk)
    (d1 : (backToKw pos (keywordEach kws X.env)).all (·.1.isSome) = true := by rfl) (d2 : (backToKw pos (keywordEach kws X.env)).filterMap (·.1) = ks := by rfl) (d3 : ((backTo pos (starEach [] X.env)).any (·.1) || (backToKw pos (keywordEach kws X.env)).any (·.1.isNone)) = false := by rfl)
    (d4 : eval (.Call (.Attribute o m apos) [] kws pos) X.env = (do
      let ov ← eval o X.env
      standAt apos.atName
      let (f, first) ← holding [ov] (getMethod ov m pl)
      callWith pos f first (backTo pos (starEach [] X.env)) (backToKw pos (keywordEach kws X.env))) := by rfl) :
    PE X (.Call (.Attribute o m apos) [] kws pos) (tMethK0 C m ks.length sp gV ta tk) := by
  obtain ⟨f, fd, g, F, hm, hb⟩ := c.ex
  refine ⟨fun pins st σ h Z inv pre => PySem.W.methodCall_KW (pl := pl) (thn (ho.run pins st σ h _ inv pre) fun u s1 r => ?_) d4⟩
  obtain ⟨x, h1, inv1, rx, a, dx, fs, rfl, ea, no, z⟩ := r
  obtain rfl : u = Value.ref a := rx
  refine getmeth_ok inv1 ea c.cl hm no (PySem.W.callWith_KW0 (first := [.ref a]) (h₀ := X.base) inv.ok.mod.kin hm.kp d1 (thn (hkw.run pos pins s1 σ h1 _ inv1 z) fun ws s2 r => ?_) d3)
  obtain ⟨zs, h2, inv2, rel, l2, z2⟩ := r
  refine ⟨inv2.kIn, ?_⟩
  rw [d2]
  exact run_fnN (us := [.ref a]) (vs := [.ref a]) F room hb pass0 inv2 (.cons rfl .nil) rel rfl l2 z2
theorem r_methK0 {σ : L2.St} {H : Hp} {Q : VK} {C : Addr} {m : Str} {n : Nat} {sp : Sp} {gV : List V → List V → List V} {ta : TE} {tk : TA}
    (q : ta σ H fun x H1 => ∃ a dx fs, x = .ref a ∧ H1 a = some (.ins C dx fs) ∧ fs.lookup m = none ∧ tk σ H1 fun zs H2 => zs.length = n ∧ sp (gV [.ref a] zs) H2 Q E0) : tMethK0 C m n sp gV ta tk σ H Q := q
/-! ### an item of a dict of the text -/
theorem ix_kd {d : Addr} {es : Array DictEntry} {n : Nat} (D : KDict X.K X.w d es n) : IxR X (fun x y H Q => ∃ (z : Str) (u0 : Value) (v0 : V), x = .ref d ∧ y = .str z ∧ PySem.W.nsIn X.K d z = some (some u0) ∧ RelV v0 u0 ∧ Q v0 H) := by
  intro value slice pins st σ h x y v u Z inv rx ry pre hs
  have pre' := pre
  obtain ⟨z, u0, v0, rfl, rfl, e, r, q⟩ := pre'
  obtain rfl : v = Value.ref d := rx
  have ty : st.TypeIs (.ref d) "dict" := ⟨_, inv.kIn _ _ D.at_, rfl⟩
  exact tail_any ty PySem.F.slot_dict_getitem.lookup (op_item_kd D pins st σ h (.ref d) (.str z) _ u Z inv rfl ry pre) hs
theorem r_joined {σ : L2.St} {H : Hp} {te : TE} {ts : List TE} {acc : Str} {QJ : Str → Hp → Prop} (q : te σ H fun x H1 => ∃ y : Str, x = .str y ∧ (acc ++ y).length ≤ sizeLine ∧ tJs ts (acc ++ y) σ H1 QJ) : tJs (te :: ts) acc σ H QJ := q
theorem r_joined0 {σ : L2.St} {H : Hp} {acc : Str} {QJ : Str → Hp → Prop} (q : QJ acc H) : tJs [] acc σ H QJ := q
theorem r_fmt {σ : L2.St} {H : Hp} {te : TE} {Q : VK} (q : te σ H fun x H1 => (∃ y : Str, x = .str y ∧ y.length ≤ sizeLine ∧ Q (.str y) H1) ∨ ∃ i : Int, x = .int i ∧ i.natAbs.log2 < 1920 ∧ Q (.str (toString i)) H1) : tFmt te σ H Q := q
theorem r_fmtS {H : Hp} {Q : VK} {z : Str} {B : Prop} (h : z.length ≤ sizeLine) (q : Q (.str z) H) : (∃ y : Str, V.str z = .str y ∧ y.length ≤ sizeLine ∧ Q (.str y) H) ∨ B := .inl ⟨z, rfl, h, q⟩
/-- C(k = v, ..) -/
structure CalleeIK (P : Program) (w : World) (K : PySem.W.Frag) (mg : Str → Option Value) (base : Heap) (CX : CXT) (k : Nat) (C : Addr) (x : Str) (ps : List Str) (sp : Sp) (ks : List Str) (gV : List V → List V → List V) : Prop where
  ex : ∃ (f : Addr) (fd : FuncData) (g : List Value → List Value → List Value), FnOk P w K mg base CX k f fd ps sp ∧ Mk K C f ∧ mg x = some (.ref C) ∧ KBn K fd ps 1 ks g gV
theorem pe_makeKC {CX : CXT} {k : Nat} {C : Addr} {x : Str} {ps ks : List Str} {sp : Sp} {gV : List V → List V → List V} {E : XK} {kws : List Keyword} {p pos : Pos} {tk : TA} (c : CalleeIK X.prog X.w X.K X.mg X.base CX k C x ps sp ks gV) (room : Room (k + 1) X.A) (gl : Gl X x) (pass : Passes CX X E) (hkw : PK X kws tk)
    (d1 : (backToKw pos (keywordEach kws X.env)).all (·.1.isSome) = true := by rfl) (d2 : (backToKw pos (keywordEach kws X.env)).filterMap (·.1) = ks := by rfl) (d3 : (x == ("__debug__" : Str)) = false := by decide)
    (d4 : ((backTo pos (starEach [] X.env)).any (·.1) || (backToKw pos (keywordEach kws X.env)).any (·.1.isNone)) = false := by rfl) :
    PE X (.Call (.Name x p) [] kws pos) (tMakeK C 0 ks.length sp gV E tNil tk) := by
  obtain ⟨f, fd, g, F, M, hm, hb⟩ := c.ex
  exact pe_makeK0 M F room gl hm hb pass hkw d1 d2 d3 d4
theorem r_makeK {σ : L2.St} {H : Hp} {Q : VK} {C : Addr} {n m : Nat} {sp : Sp} {gV : List V → List V → List V} {E : XK} {t tk : TA} (q : t σ H fun vs H1 => tk σ H1 fun zs H2 => vs.length = n ∧ zs.length = m ∧ ∀ x dx, H2 x = none → H2 dx = none → dx ≠ x →
    sp (gV (.ref x :: vs) zs) (upd (upd H2 dx (.own x)) x (.ins C dx [])) (fun v H3 => v = .non ∧ Q (.ref x) H3) E) : tMakeK C n m sp gV E t tk σ H Q := q
/-- a special method of the text's class; the class for != -/
structure OwnM (P : Program) (w : World) (K : PySem.W.Frag) (mg : Str → Option Value) (base : Heap) (k : Nat) (C : Addr) (m : Str) (ps : List Str) (sp : Sp) : Prop where
  ex : ∃ (g : Addr) (fd : FuncData), PySem.W.findIn K (.ref C) m = some (some (.ref g)) ∧ PySem.W.isFn K (.ref g) = true ∧ FnOk P w K mg base CX0 k g fd ps sp ∧ Binds K fd ps []
structure OwnNe (P : Program) (w : World) (K : PySem.W.Frag) (mg : Str → Option Value) (base : Heap) (k : Nat) (C : Addr) (ps : List Str) (sp : Sp) : Prop where
  ex : ∃ (g : Addr) (fd : FuncData), NeCls K C g ∧ FnOk P w K mg base CX0 k g fd ps sp ∧ Binds K fd ps []
theorem call_strO {C : Addr} {ps : List Str} {sp : Sp} {n : Nat} (c : OwnM X.prog X.w X.K X.mg X.base n C "__str__" ps sp) (room : Room (n + 2) X.A) : CallR X (.type "str") (rStrOwn C sp) := by
  obtain ⟨g, fd, h1, h2, F, b⟩ := c.ex
  exact call_strOwn h1 h2 F b room
theorem op_eqO {C : Addr} {ps : List Str} {sp : Sp} {n : Nat} (c : OwnM X.prog X.w X.K X.mg X.base n C "__eq__" ps sp) (room : Room n X.A) : OpR X (compareOp .Eq) (rEqOwn X.K C sp) := by
  obtain ⟨g, fd, h1, h2, F, b⟩ := c.ex
  exact op_eqOwn h1 h2 F b room
theorem op_neO {C : Addr} {ps : List Str} {sp : Sp} {n : Nat} (c : OwnNe X.prog X.w X.K X.mg X.base n C ps sp) (room : Room (n + 1) X.A) : OpR X (compareOp .NotEq) (rNeOwn C sp) := by
  obtain ⟨g, fd, h1, F, b⟩ := c.ex
  exact op_neOwn h1 F b room
end
end KO

/-! ### own steps of the reading -/
local macro_rules | `(tactic| walk_at "hp") => `(tactic| first | with_reducible assumption | with_reducible exact L2.upd_same | (refine KB.upd_new ?h1 ?h2; (case h1 => (with_reducible assumption)); (case h2 => walk_at "hp")) | (rw [L2.upd_ne (by first | assumption | exact Ne.symm (by assumption))]; walk_at "hp"))
local macro_rules | `(tactic| walk_at "sq") => `(tactic| first | with_reducible assumption | (refine L2.SqL.of ?h1; (case h1 => walk_at "hp")) | (refine L2.SqT.of ?h1; (case h1 => walk_at "hp")))
local macro_rules | `(tactic| walk_at "sq2") => `(tactic| first | (refine Or.inl ?_; walk_at "sq") | (refine Or.inr ?_; walk_at "sq") | (with_reducible exact Or.inr (by (first | with_reducible assumption | apply_assumption))))
local macro_rules | `(tactic| walk_at "sz") => `(tactic| exact KB.sz_lit (by simp))
local macro_rules | `(tactic| walk_at "cond") => `(tactic| first | (show _ ∨ _; first | exact Or.inl ⟨by omega, by omega⟩ | exact Or.inr ⟨by omega, by omega⟩) | (show _ ∧ _ ∧ _; exact ⟨by omega, by omega, by omega⟩) | (show _ ∧ _; exact ⟨by omega, by omega⟩) | (show _ < _; omega) | (show _ ≤ _; omega))
local macro_rules | `(tactic| walk_at "rd1") => `(tactic| first
  | with_reducible refine KB.r_seq ?_
  | with_reducible refine KB.r_next ?_
  | with_reducible refine KB.r_c ?_
  | ((with_reducible refine KB.r_var (v := ?v1) ?h1 ?q); (case h1 => exact rfl))
  | with_reducible refine KB.r_op ?_
  | with_reducible refine KB.r_un ?_
  | with_reducible refine KB.r_I0 ?_
  | ((with_reducible refine KB.r_I ?h1 ?q); (case h1 => walk_at "cond"))
  | with_reducible refine KB.r_int1 ?_
  | with_reducible refine KB.r_bl1 ?_
  | with_reducible refine KB.r_ex1 ?_
  | with_reducible refine KB.r_ex2 ?_
  | ((with_reducible refine KB.r_lenS (xs := ?v1) ?h1 ?q); (case h1 => walk_at "sq"))
  | ((with_reducible refine KB.r_eq ?h1 ?q); (case h1 => exact rfl))
  | ((with_reducible refine KB.r_ne ?h1 ?q); (case h1 => exact rfl))
  | with_reducible refine KB.r_U ?_
  | with_reducible refine KB.r_test ?_
  | with_reducible refine KB.r_B ?_
  | with_reducible refine KB.r_bl ?_
  | with_reducible refine KB.r_int ?_
  | with_reducible refine KB.r_and ?_
  | with_reducible refine KB.r_or ?_
  | with_reducible refine KB.r_not ?_
  | with_reducible refine KB.r_andV ?_
  | with_reducible refine KB.r_orV ?_
  | with_reducible refine KB.r_notV ?_
  | with_reducible refine KB.r_if ?_
  | with_reducible refine KB.r_nil ?_
  | with_reducible refine KB.r_cons ?_
  | with_reducible refine KB.r_tup ?_
  | with_reducible refine KB.r_lst ?_
  | with_reducible refine KB.r_call ?_
  | with_reducible refine KB.r_cb ?_
  | ((with_reducible refine KB.r_ixL (xs := ?v1) (v := ?v2) ?h1 ?h2 ?q); (case h1 => walk_at "sq"); (case h2 => exact rfl))
  | ((with_reducible refine KB.r_ixT (xs := ?v1) (v := ?v2) ?h1 ?h2 ?q); (case h1 => walk_at "sq"); (case h2 => exact rfl))
  | ((with_reducible refine KB.r_setL (xs := ?v1) (j := ?v2) ?h1 ?h2 ?q); (case h1 => walk_at "hp"); (case h2 => exact rfl))
  | with_reducible refine KB.r_meth ?_
  | with_reducible refine KB.r_fld ?_
  | with_reducible refine KB.r_sfld ?_
  | with_reducible refine KB.r_gname ?_
  | with_reducible refine KB.r_for ?_
  | with_reducible refine KO.r_methK0 ?_
  | with_reducible refine KO.r_makeK ?_
  | with_reducible refine KO.r_joined ?_
  | with_reducible refine KO.r_joined0 ?_
  | with_reducible refine KO.r_fmt ?_
  | with_reducible refine KB.r_isNone ?_
  | ((with_reducible refine KB.r_gtup (xs := ?v1) ?h1 ?h2 ?q); (case h1 => walk_at "sq"); (case h2 => exact rfl))
  | with_reducible refine KB.r_gcons ?_
  | with_reducible refine KB.r_gnil ?_
  | with_reducible refine KB.r_irng2 ?_
  | with_reducible refine KB.r_bm ?_
  | ((with_reducible refine KB.r_tyL (xs := ?v1) ?h1 ?q); (case h1 => walk_at "sq"))
  | ((with_reducible refine KB.r_fldK (C := ?v1) (dx := ?v2) (fs := ?v3) (v := ?v4) ?h1 ?h2 ?h3 ?h4 ?q); (case h1 => walk_at "hp"); (case h2 => assumption); (case h3 => assumption); (case h4 => exact rfl))
  | with_reducible refine KB.r_callD ?_
  | with_reducible refine KB.r_callN ?_
  | with_reducible refine KB.r_dget1 ?_
  | with_reducible refine KB.r_dget ?_
  | with_reducible refine KB.r_dput ?_
  | with_reducible refine KB.r_disp ?_
  | with_reducible refine KB.r_pairs ?_
  | with_reducible refine KB.r_pairs0 ?_
  | with_reducible refine KB.r_make ?_
  | with_reducible refine KB.r_m1 ?_
  | with_reducible refine KB.r_m0 ?_
  | with_reducible refine KB.r_isStr ?_
  | with_reducible refine KB.r_exStr ?_
  | with_reducible refine KB.r_lc ?_
  | with_reducible refine KB.r_irng1 ?_
  | with_reducible refine KB.r_itup ?_
  | with_reducible refine KB.r_ilist ?_
  | with_reducible refine KB.r_istr ?_
  | ((with_reducible refine KB.r_cval (v := ?v1) (mc := ?v2) (uu := ?v3) ?h1 ?h2 ?q); (case h1 => assumption); (case h2 => assumption))
  | ((with_reducible refine KB.r_notInS (zs := ?v1) ?h1 ?q); (case h1 => walk_at "sq2"))
  | ((with_reducible refine KB.r_inS (zs := ?v1) ?h1 ?q); (case h1 => walk_at "sq2"))
  | with_reducible refine KB.r_asg ?_
  | with_reducible refine KB.r_asgS ?_
  | with_reducible refine KB.r_asgG ?_
  | with_reducible refine KB.r_ifS ?_
  | with_reducible refine KB.r_ret ?_
  | with_reducible refine KB.r_drop ?_
  | with_reducible refine KB.r_par ?_
  | with_reducible refine KB.r_match ?_
  | with_reducible refine KB.r_mstr ?_
  | with_reducible refine KB.r_mnil ?_
  | with_reducible refine KB.r_sl ?_
  | with_reducible refine KB.r_nopart ?_
  | with_reducible refine KB.r_part ?_
  | ((with_reducible refine KB.r_slL (xs := ?v1) ?h1 ?q); (case h1 => walk_at "sq"))
  | with_reducible refine L2.iteF ?_
  | with_reducible refine KB.iteNt ?_
  | with_reducible refine KB.iteNf ?_
  | with_reducible refine L2.iteT ?_
  | dsimp only)
local macro_rules | `(tactic| walk_at "rd") => `(tactic| repeat walk_at "rd1")
local macro_rules | `(tactic| walk_at "sp1") => `(tactic| first | with_reducible refine KB.r_iteS2 (fun _ => ?_) (fun _ => ?_) | with_reducible refine KB.r_iteI2 (fun _ => ?_) (fun _ => ?_) | with_reducible refine KB.r_ite2 (fun _ => ?_) (fun _ => ?_) | with_reducible refine KB.r_iteN2 (fun _ => ?_) (fun _ => ?_) | with_reducible refine KB.r_iteB (fun _ => ?_) (fun _ => ?_) | with_reducible refine KB.r_iteBN (fun _ => ?_) (fun _ => ?_))
local macro_rules | `(tactic| walk_at "sp") => `(tactic| repeat' (first | walk_at "rd1" | walk_at "sp1"))
local macro_rules | `(tactic| walk_at "ifs") => `(tactic| repeat (first | rw [if_pos (by assumption)] | rw [if_neg (by assumption)]))

namespace K07
open PySem L2 KB
def top (i : Nat) : Stmt := PySem.Challenge.pw_keptbits_k07_kinds_walked.main.body.getD i (.Pass ⟨0, 0, 0, 0⟩)
abbrev s_Kind___init__ : Stmt := inClass (top 5) 3
theorem sc_Kind___init__ : FnScope ["self", "reading", "writing", "device", "word", "words"] ["self", "reading", "writing", "device"] (defScope s_Kind___init__) := ⟨rfl, rfl, rfl, by decide +kernel, rfl, by decide +kernel, by decide +kernel⟩
abbrev s_Kind___eq__ : Stmt := inClass (top 5) 4
theorem sc_Kind___eq__ : FnScope ["self", "other"] ["self", "other"] (defScope s_Kind___eq__) := ⟨rfl, rfl, rfl, by decide +kernel, rfl, by decide +kernel, by decide +kernel⟩
abbrev s_Kind___str__ : Stmt := inClass (top 5) 5
theorem sc_Kind___str__ : FnScope ["self"] ["self"] (defScope s_Kind___str__) := ⟨rfl, rfl, rfl, by decide +kernel, rfl, by decide +kernel, by decide +kernel⟩
abbrev s_Kind_after_read : Stmt := inClass (top 5) 6
theorem sc_Kind_after_read : FnScope ["self", "state"] ["self", "state"] (defScope s_Kind_after_read) := ⟨rfl, rfl, rfl, by decide +kernel, rfl, by decide +kernel, by decide +kernel⟩
abbrev s_Kind_after_write : Stmt := inClass (top 5) 7
theorem sc_Kind_after_write : FnScope ["self", "state", "bit"] ["self", "state", "bit"] (defScope s_Kind_after_write) := ⟨rfl, rfl, rfl, by decide +kernel, rfl, by decide +kernel, by decide +kernel⟩
abbrev s_Kind_unguarded : Stmt := inClass (top 5) 8
theorem sc_Kind_unguarded : FnScope ["self", "state", "bit", "second", "value"] ["self", "state", "bit"] (defScope s_Kind_unguarded) := ⟨rfl, rfl, rfl, by decide +kernel, rfl, by decide +kernel, by decide +kernel⟩
abbrev s_Kind_deeds : Stmt := inClass (top 5) 9
theorem sc_Kind_deeds : FnScope ["self", "state", "value"] ["self", "state"] (defScope s_Kind_deeds) := ⟨rfl, rfl, rfl, by decide +kernel, rfl, by decide +kernel, by decide +kernel⟩
abbrev s__law_pen : Stmt := top 7
theorem sc__law_pen : FnScope ["_law_script"] ["_law_script"] (defScope s__law_pen) := ⟨rfl, rfl, rfl, by decide +kernel, rfl, by decide +kernel, by decide +kernel⟩
abbrev s__law_draw : Stmt := top 8
theorem sc__law_draw : FnScope ["_law_pen_here", "_law_many", "_law_digit", "_law_at", "_law_cell", "_law_great", "_law_mixed"] ["_law_pen_here", "_law_many"] (defScope s__law_draw) := ⟨rfl, rfl, rfl, by decide +kernel, rfl, by decide +kernel, by decide +kernel⟩
abbrev s__law_write : Stmt := top 9
theorem sc__law_write : FnScope ["_law_second_word", "_law_stand", "_law_sign", "_law_value", "_law_second", "_law_ends"] ["_law_second_word", "_law_stand", "_law_sign"] (defScope s__law_write) := ⟨rfl, rfl, rfl, by decide +kernel, rfl, by decide +kernel, by decide +kernel⟩
abbrev s__law_read : Stmt := top 10
theorem sc__law_read : FnScope ["_law_first", "_law_stand"] ["_law_first", "_law_stand"] (defScope s__law_read) := ⟨rfl, rfl, rfl, by decide +kernel, rfl, by decide +kernel, by decide +kernel⟩
abbrev s__law_deeds : Stmt := top 11
theorem sc__law_deeds : FnScope ["_law_third", "_law_stand"] ["_law_third", "_law_stand"] (defScope s__law_deeds) := ⟨rfl, rfl, rfl, by decide +kernel, rfl, by decide +kernel, by decide +kernel⟩
abbrev s__law_words : Stmt := top 12
theorem sc__law_words : FnScope ["_law_pen_here", "_law_writings", "_law_first"] ["_law_pen_here"] (defScope s__law_words) := ⟨rfl, rfl, rfl, by decide +kernel, rfl, by decide +kernel, by decide +kernel⟩
abbrev s__law_state_right : Stmt := top 13
theorem sc__law_state_right : FnScope ["_law_kind", "_law_words_here", "_law_stand", "_law_first", "_law_second_word", "_law_third", "_law_sign", "_law_due"] ["_law_kind", "_law_words_here", "_law_stand"] (defScope s__law_state_right) := ⟨rfl, rfl, rfl, by decide +kernel, rfl, by decide +kernel, by decide +kernel⟩
abbrev s__law_onward : Stmt := top 14
theorem sc__law_onward : FnScope ["_law_pen_here", "_law_words_here", "_law_stand", "_law_pick"] ["_law_pen_here", "_law_words_here", "_law_stand"] (defScope s__law_onward) := ⟨rfl, rfl, rfl, by decide +kernel, rfl, by decide +kernel, by decide +kernel⟩
abbrev s_law : Stmt := top 15
theorem sc_law : FnScope ["_law_script", "_law_pen_here", "_law_turn", "_law_words_here", "_law_kind", "_law_states", "_law_stand", "_law_again"] ["_law_script"] (defScope s_law) := ⟨rfl, rfl, rfl, by decide +kernel, rfl, by decide +kernel, by decide +kernel⟩

structure Txt (mg : Str → Option Value) : Prop where
  z_int : mg "int" = none
  z_abs : mg "abs" = none
  z_len : mg "len" = none
  z_list : mg "list" = none
  z_max : mg "max" = none
  z_range : mg "range" = none
  z_isinstance : mg "isinstance" = none
  z_repr : mg "repr" = none
  z_str : mg "str" = none
/-- the pen: its cells, the next index, what is left; room for k draws more -/
def PenAt (H : Hp) (p : Addr) (k : Nat) : Prop := ∃ (c : Addr) (ns : List Int) (at_ : Nat) (left : Int),
  H p = some (.lst [.ref c, .int at_, .int left]) ∧ H c = some (.lst (ns.map V.int)) ∧ p ≠ c ∧ ns.length ≤ 63 ∧ at_ + k ≤ 100000
def Keep (p : Addr) (H H' : Hp) : Prop := ∀ b o, H b = some o → b ≠ p → H' b = some o
theorem PenAt.mono {H : Hp} {p : Addr} {j k : Nat} (h : PenAt H p k) (e : j ≤ k) : PenAt H p j := by
  obtain ⟨c, ns, at_, left, h1, h2, h3, h4, h5⟩ := h
  exact ⟨c, ns, at_, left, h1, h2, h3, h4, by omega⟩
theorem PenAt.up {H H' : Hp} {p : Addr} {k : Nat} (h : PenAt H p k) (s : Same H H') : PenAt H' p k := by
  obtain ⟨c, ns, at_, left, h1, h2, h3, h4, h5⟩ := h
  exact ⟨c, ns, at_, left, s _ _ h1, s _ _ h2, h3, h4, h5⟩
theorem PenAt.ne {H : Hp} {p q : Addr} {k : Nat} (h : PenAt H p k) (n : H q = none) : q ≠ p := by
  obtain ⟨c, ns, at_, left, h1, h2, h3, h4, h5⟩ := h
  exact (ne_of_none h1 n).symm
theorem PenAt.keep {H H' : Hp} {p q : Addr} {k : Nat} (h : PenAt H p k) (s : Keep q H H') (n : H q = none) : PenAt H' p k := by
  obtain ⟨c, ns, at_, left, h1, h2, h3, h4, h5⟩ := h
  exact ⟨c, ns, at_, left, s _ _ h1 (ne_of_none h1 n), s _ _ h2 (ne_of_none h2 n), h3, h4, h5⟩
def spPen (K : PySem.W.Frag) : Sp := fun vs H Q _ => ∃ (a : Addr) (ns : List Int), vs = [.ref a] ∧ SqL K H a (ns.map V.int) ∧ ns.length ≤ 63 ∧
  ∀ H' p, Same H H' → H p = none → PenAt H' p 100000 → Q (.ref p) H'
def spDraw : Sp := fun vs H Q _ => ∃ (p : Addr) (many : Int) (k : Nat), vs = [.ref p, .int many] ∧ 0 < many ∧ many < 1000000000 ∧ PenAt H p (k + 1) ∧
  ∀ (r : Int) H', 0 ≤ r → r < many → PenAt H' p k → Keep p H H' → Q (.int r) H'


section
variable {P : Program} {w : World} {K : PySem.W.Frag} {mg : Str → Option Value} {base : Heap}
theorem ok_pen {f : Addr} {fd : FuncData} {k : Nat} (F : Fun K "_law_pen" "_law_pen" s__law_pen f fd) (T : Txt mg) : FnOk P w K mg base CX0 (k + 1) f fd ["_law_script"] (spPen K) := by
  refine F.ok sc__law_pen (fun vs H Q E h => ?_) (fun cdv A outer s H vs Q E hr h => ?_)
  · obtain ⟨a, ns, rfl, _⟩ := h
    rfl
  · obtain ⟨a, ns, rfl, hS, hl, q⟩ := h
    refine ⟨_, (pss_one (ps_ret (pe_lst (pa_cons (pe_callTy call_list_of (by rfl) T.z_list (by decide +kernel) (pa_cons (pe_slice sl_list (pv 0) po_none (po_some pe_int)) pa_nil)) (pa_cons pe_int (pa_cons pe_int pa_nil)))))), at_start (σ := [some (.ref a)]) rfl ?_⟩
    dsimp only [cx_K]
    walk_at "rd"
    intro c nc
    have ec : cutV (ns.map V.int) none (some 63) = (ns.take 63).map V.int := by
      rw [show (63 : Int) = ((63 : Nat) : Int) from rfl, cutV_take, List.map_take]
    rw [ec]
    walk_at "rd"
    intro l nl
    walk_at "rd"
    refine ⟨by walk_at "sz", fun p np => ?_⟩
    have npl : p ≠ l := fun z => by rw [z, upd_same] at np; cases np
    have s0 := ((same_new (o := .lst ((ns.take 63).map V.int)) nc).trans (same_new (o := .lst ((ns.take 63).map V.int)) nl)).trans (same_new (o := .lst [.ref l, .int 0, .int 0]) np)
    refine q _ p s0 (((same_new nc).trans (same_new nl)).free np) ⟨l, ns.take 63, 0, 0, upd_same, upd_new np upd_same, npl, ?_, by omega⟩
    rw [List.length_take]
    omega
theorem ok_draw {f : Addr} {fd : FuncData} {k : Nat} (F : Fun K "_law_draw" "_law_draw" s__law_draw f fd) (T : Txt mg) : FnOk P w K mg base CX0 (k + 1) f fd ["_law_pen_here", "_law_many"] spDraw := by
  refine F.ok sc__law_draw (fun vs H Q E h => ?_) (fun cdv A outer s H vs Q E hr h => ?_)
  · obtain ⟨p, many, k, rfl, _⟩ := h
    rfl
  · obtain ⟨p, many, k, rfl, hm0, hm1, ⟨c, ns, at_, left, hp, hc, npc, hn, hat⟩, q⟩ := h
    refine ⟨_, (pss_cons (ps_if (pt_cmpR op_gt (pe_ix ix_list (pv 0) pe_int (fun _ _ => rfl)) pe_int (nomark _)) (pss_cons (ps_set (i := 2) sc__law_draw.nd rfl (by first | exact Or.inl rfl | exact Or.inr rfl) (pe_op op_mod (pe_callTy call_int1 (by rfl) T.z_int (by decide +kernel) (pa_cons (pe_ix ix_list (pv 0) pe_int (fun _ _ => rfl)) pa_nil)) (pv 1)))
 (pss_cons (ps_asg (pe_op op_fdiv (pe_callTy call_int1 (by rfl) T.z_int (by decide +kernel) (pa_cons (pe_ix ix_list (pv 0) pe_int (fun _ _ => rfl)) pa_nil)) (pv 1)) (pg_sub (pv 0) pe_int set_list))
 (pss_one (ps_ret (pv 2)))))
 pss_nil)
 (pss_cons (ps_set (i := 3) sc__law_draw.nd rfl (by first | exact Or.inl rfl | exact Or.inr rfl) (pe_ix ix_list (pv 0) pe_int (fun _ _ => rfl)))
 (pss_cons (ps_asg (pe_op op_add (pv 3) pe_int) (pg_sub (pv 0) pe_int set_list))
 (pss_cons (ps_set (i := 4) sc__law_draw.nd rfl (by first | exact Or.inl rfl | exact Or.inr rfl) (pe_op op_add (pe_op op_mul pe_int (pv 3)) pe_int))
 (Evl.pss_cut (ps_if (pt_cmpR (op_neD hr.units) (pe_ix ix_list (pv 0) pe_int (fun _ _ => rfl)) (pe_lst pa_nil) (nomark _)) (pss_one (ps_set (i := 4) sc__law_draw.nd rfl (by first | exact Or.inl rfl | exact Or.inr rfl) (pe_ix ix_list (pe_ix ix_list (pv 0) pe_int (fun _ _ => rfl)) (pe_op op_mod (pe_callTy call_int1 (by rfl) T.z_int (by decide +kernel) (pa_cons (pv 3) pa_nil)) (pe_callB call_len_seq (by rfl) T.z_len (by decide +kernel) (pa_cons (pe_ix ix_list (pv 0) pe_int (fun _ _ => rfl)) pa_nil))) (fun _ _ => rfl))))
 pss_nil)
 (pss_cons (ps_if (PW.pt (pw_and (pt_cmpR op_lt (pv 3) (pe_callB call_len_seq (by rfl) T.z_len (by decide +kernel) (pa_cons (pe_ix ix_list (pv 0) pe_int (fun _ _ => rfl)) pa_nil)) (nomark _)) (pw_and1 (pt_cmpR op_ge (pe_callB call_abs (by rfl) T.z_abs (by decide +kernel) (pa_cons (pv 4) pa_nil)) (pe_op op_pow pe_int pe_int) (nomark _))))) (pss_cons (ps_set (i := 5) sc__law_draw.nd rfl (by first | exact Or.inl rfl | exact Or.inr rfl) (pe_op op_add (pe_op op_mul pe_int (pe_callB call_abs (by rfl) T.z_abs (by decide +kernel) (pa_cons (pv 4) pa_nil))) (pe_callTy call_int1 (by rfl) T.z_int (by decide +kernel) (pa_cons (pe_cmpR op_lt (pv 4) pe_int (nomark _)) pa_nil))))
 (pss_cons (ps_asg (pe_op op_fdiv (pv 5) (pv 1)) (pg_sub (pv 0) pe_int set_list))
 (pss_one (ps_ret (pe_op op_mod (pe_callTy call_int1 (by rfl) T.z_int (by decide +kernel) (pa_cons (pv 5) pa_nil)) (pv 1))))))
 pss_nil)
 (pss_cons (ps_set (i := 6) sc__law_draw.nd rfl (by first | exact Or.inl rfl | exact Or.inr rfl) (pe_op op_mod (pe_op op_pow (pe_callTy call_int1 (by rfl) T.z_int (by decide +kernel) (pa_cons (pe_op op_add (pe_op op_add (pe_op op_mod (pe_callTy call_int1 (by rfl) T.z_int (by decide +kernel) (pa_cons (pv 4) pa_nil)) pe_int) (pe_op op_mul pe_int (pv 3))) pe_int) pa_nil)) pe_int) pe_int))
 (pss_cons (ps_set (i := 6) sc__law_draw.nd rfl (by first | exact Or.inl rfl | exact Or.inr rfl) (pe_op op_mod (pe_op op_pow (pe_callTy call_int1 (by rfl) T.z_int (by decide +kernel) (pa_cons (pe_op op_add (pe_op op_add (pe_op op_mul (pv 6) (pe_op op_add (pv 3) pe_int)) (pe_op op_mul (pe_op op_mul pe_int (pv 3)) (pv 3))) pe_int) pa_nil)) pe_int) pe_int))
 (pss_one (ps_ret (pe_op op_mod (pe_callTy call_int1 (by rfl) T.z_int (by decide +kernel) (pa_cons (pe_op op_fdiv (pv 6) pe_int) pa_nil)) (pv 1)))))))))))), at_start (σ := [some (.ref p), some (.int many), none, none, none, none, none]) rfl ?_⟩
    dsimp only [cx_K]
    walk_at "rd"
    have upp : ∀ o, upd H p o c = some (.lst (ns.map V.int)) := fun o => by rw [upd_ne npc.symm]; exact hc
    refine r_ite2 (fun h1 => ?_) (fun h1 => ?_)
    · walk_at "rd"
      exact q (left % many) _ (Int.emod_nonneg _ (by omega)) (Int.emod_lt_of_pos _ hm0) ⟨c, ns, at_, left / many, upd_same, upp _, npc, hn, by omega⟩ fun b o e hb => by rw [upd_ne hb]; exact e
    · walk_at "rd"
      refine ⟨fun σ' H' => ∃ cell : Int, σ' = [some (.ref p), some (.int many), none, some (.int at_), some (.int cell), none, none] ∧ H' p = some (.lst [.ref c, .int (at_ + 1), .int left]) ∧ H' c = some (.lst (ns.map V.int)) ∧ Keep p H H', ?_, ?_⟩
      · walk_at "rd"
        refine ⟨by decide, fun e he => ?_⟩
        have npe : p ≠ e := fun z => by rw [z, upd_same] at he; cases he
        refine r_neInts (ns := ns) (ms := []) (by walk_at "sq") (SqL.of upd_same) ?_
        walk_at "rd"
        have k1 : Keep p H (upd (upd H p (.lst [.ref c, .int (at_ + 1), .int left])) e (.lst [])) := fun b o x hb => upd_new he (by rw [upd_ne hb]; exact x)
        refine r_iteN2 (fun h2 => ?_) (fun h2 => ?_)
        · walk_at "rd"
          have hl : 0 < ns.length := List.length_pos_iff.mpr h2
          rw [List.length_map]
          have hj : (at_ : Int) % (ns.length : Int) = ((at_ % ns.length : Nat) : Int) := by omega
          have hj2 : at_ % ns.length < ns.length := Nat.mod_lt _ hl
          refine r_I (by show (0 : Int) < _; omega) ?_
          refine r_ixL (xs := ns.map V.int) (v := .int (ns[at_ % ns.length])) (by walk_at "sq") (by rw [hj]; exact atI_nat (by simp [hj2])) ?_
          exact ⟨_, rfl, upd_new he upd_same, upd_new he (upp _), k1⟩
        · exact ⟨_, rfl, upd_new he upd_same, upd_new he (upp _), k1⟩
      · rintro σ' H' ⟨cell, rfl, hp1, hc1, k1⟩
        have h6 : ∀ (r : Int) (l2 : Int), 0 ≤ r → r < many → Q (.int r) (upd H' p (.lst [.ref c, .int ((at_ + 1 : Nat) : Int), .int l2])) := fun r l2 h7 h8 =>
          q r _ h7 h8 ⟨c, ns, at_ + 1, l2, upd_same, by rw [upd_ne npc.symm]; exact hc1, npc, hn, by omega⟩ fun b o x hb => by rw [upd_ne hb]; exact k1 b o x hb
        have h9 : ∀ r : Int, 0 ≤ r → r < many → Q (.int r) H' := fun r h7 h8 => q r _ h7 h8 ⟨c, ns, at_ + 1, left, hp1, hc1, npc, hn, by omega⟩ k1
        walk_at "rd"
        refine r_ite2 (fun h2 => ?_) (fun h2 => ?_)
        · walk_at "rd"
          refine r_ite2 (fun h3 => ?_) (fun h3 => ?_)
          · walk_at "rd"
            exact h6 _ _ (Int.emod_nonneg _ (by omega)) (Int.emod_lt_of_pos _ hm0)
          · walk_at "rd"
            have m1 : 0 ≤ (cell % 2147483579 + 57131 * (at_ : Int) + 211) ^ Int.toNat 5 % 2147483629 := Int.emod_nonneg _ (by decide)
            have m2 : (cell % 2147483579 + 57131 * (at_ : Int) + 211) ^ Int.toNat 5 % 2147483629 < 2147483629 := Int.emod_lt_of_pos _ (by decide)
            generalize (cell % 2147483579 + 57131 * (at_ : Int) + 211) ^ Int.toNat 5 % 2147483629 = m at m1 m2 ⊢
            have b1 := mul_bd (A := 2147483629) (B := 300000) m1 (by omega) (show 0 ≤ (at_ : Int) + 64007 by omega) (by omega)
            have b2 := mul_bd (A := 100000 * 91009) (B := 100000) (show 0 ≤ 91009 * (at_ : Int) by omega) (by omega) (show 0 ≤ (at_ : Int) by omega) (by omega)
            refine r_I (show CPow _ _ from ⟨by decide, by decide, by omega⟩) ?_
            walk_at "rd"
            exact h9 _ (Int.emod_nonneg _ (by omega)) (Int.emod_lt_of_pos _ hm0)

        · walk_at "rd"
          have m1 : 0 ≤ (cell % 2147483579 + 57131 * (at_ : Int) + 211) ^ Int.toNat 5 % 2147483629 := Int.emod_nonneg _ (by decide)
          have m2 : (cell % 2147483579 + 57131 * (at_ : Int) + 211) ^ Int.toNat 5 % 2147483629 < 2147483629 := Int.emod_lt_of_pos _ (by decide)
          generalize (cell % 2147483579 + 57131 * (at_ : Int) + 211) ^ Int.toNat 5 % 2147483629 = m at m1 m2 ⊢
          have b1 := mul_bd (A := 2147483629) (B := 300000) m1 (by omega) (show 0 ≤ (at_ : Int) + 64007 by omega) (by omega)
          have b2 := mul_bd (A := 100000 * 91009) (B := 100000) (show 0 ≤ 91009 * (at_ : Int) by omega) (by omega) (show 0 ≤ (at_ : Int) by omega) (by omega)
          refine r_I (show CPow _ _ from ⟨by decide, by decide, by omega⟩) ?_
          walk_at "rd"
          exact h9 _ (Int.emod_nonneg _ (by omega)) (Int.emod_lt_of_pos _ hm0)

end

end K07


namespace K07
open PySem L2 KB KO
/-! ### a Kind -/
def statesOf (w : Str) : List Int := if w = "once" then [0, 1, 2, 3] else [0, 1]
def flds (r w d : Str) (st : Addr) : List (Str × V) := [("reading", .str r), ("writing", .str w), ("device", .str d), ("states", .ref st)]
theorem fl_r {r w d : Str} {st : Addr} : (flds r w d st).lookup ("reading" : Str) = some (.str r) := rfl
theorem fl_w {r w d : Str} {st : Addr} : (flds r w d st).lookup ("writing" : Str) = some (.str w) := rfl
theorem fl_d {r w d : Str} {st : Addr} : (flds r w d st).lookup ("device" : Str) = some (.str d) := rfl
theorem fl_s {r w d : Str} {st : Addr} : (flds r w d st).lookup ("states" : Str) = some (.ref st) := rfl
theorem fl_no {r w d : Str} {st : Addr} : (flds r w d st).lookup ("after_read" : Str) = none ∧ (flds r w d st).lookup ("after_write" : Str) = none ∧ (flds r w d st).lookup ("unguarded" : Str) = none := ⟨rfl, rfl, rfl⟩
theorem fl_put {r w d : Str} {st : Addr} : putF "states" (.ref st) (putF "device" (.str d) (putF "writing" (.str w) (putF "reading" (.str r) []))) = flds r w d st := rfl
def KindAt (C : Addr) (H : Hp) (p : Addr) (r w d : Str) : Prop := ∃ dx st, H p = some (.ins C dx (flds r w d st)) ∧ H st = some (.tup ((statesOf w).map V.int))
theorem KindAt.up {C : Addr} {H H' : Hp} {p : Addr} {r w d : Str} (h : KindAt C H p r w d) (s : Same H H') : KindAt C H' p r w d := by
  obtain ⟨dx, st, h1, h2⟩ := h
  exact ⟨dx, st, s _ _ h1, s _ _ h2⟩
def RD : List Str := ["keep", "take"]
def WR : List Str := ["store", "clear1", "clear0", "set1", "flip1", "once", "none"]
def DV : List Str := ["still", "raise", "end", "drift"]
/-- what the text's class Kind is -/
structure TxtK (K : PySem.W.Frag) (mg : Str → Option Value) (C : Addr) : Prop extends Txt mg where
  cl : Cls K C
  n_reading : NoAttr K C "reading"
  n_writing : NoAttr K C "writing"
  n_device : NoAttr K C "device"
  n_states : NoAttr K C "states"
  mg_Kind : mg "Kind" = some (.ref C)
  con : ∃ (mc : Value) (a1 a2 a3 : Addr) (u1 u2 u3 : Value), ClX.CRead K C mc ∧ ClX.CVal K C mc "READINGS" (.ref a1) u1 ∧ ClX.CVal K C mc "WRITINGS" (.ref a2) u2 ∧ ClX.CVal K C mc "DEVICES" (.ref a3) u3 ∧
    (∀ H, SqT K H a1 (RD.map V.str)) ∧ (∀ H, SqT K H a2 (WR.map V.str)) ∧ (∀ H, SqT K H a3 (DV.map V.str))
def spKind (C : Addr) : Sp := fun vs H Q _ => ∃ (p dx : Addr) (r w d : Str), vs = [.ref p, .str r, .str w, .str d] ∧ r ∈ RD ∧ w ∈ WR ∧ d ∈ DV ∧ H p = some (.ins C dx []) ∧
  ∀ H', KindAt C H' p r w d → Keep p H H' → Q .non H'

/-! ### kinds: the mathematics -/
def afterRead (r : Str) (s : Int) : Int := if r = "take" then s - s % 2 else s
def unguarded (w : Str) (s b : Int) : Int :=
  if w = "store" then s / 2 * 2 + b else if w = "clear1" then s / 2 * 2 + s % 2 * (1 - b) else if w = "clear0" then s / 2 * 2 + s % 2 * b
  else if w = "set1" then s / 2 * 2 + (if b > s % 2 then b else s % 2) else if w = "flip1" then s / 2 * 2 + (s % 2 + b) % 2 else if w = "once" then 2 + b else s
def afterWrite (w : Str) (s b : Int) : Int := if w = "once" ∧ 1 < s then s else unguarded w s b
def spRead (C : Addr) : Sp := fun vs H Q _ => ∃ (p : Addr) (r w d : Str) (s : Int), vs = [.ref p, .int s] ∧ KindAt C H p r w d ∧ Q (.int (afterRead r s)) H
def spUng (C : Addr) : Sp := fun vs H Q _ => ∃ (p : Addr) (r w d : Str) (s b : Int), vs = [.ref p, .int s, .int b] ∧ KindAt C H p r w d ∧ Q (.int (unguarded w s b)) H
def spWrite (C : Addr) : Sp := fun vs H Q _ => ∃ (p : Addr) (r w d : Str) (s b : Int), vs = [.ref p, .int s, .int b] ∧ KindAt C H p r w d ∧ Q (.int (afterWrite w s b)) H


section
variable {P : Program} {w : World} {K : PySem.W.Frag} {mg : Str → Option Value} {base : Heap}
theorem ok_kind {f C : Addr} {fd : FuncData} {k : Nat} (F : Fun K "__init__" "Kind.__init__" s_Kind___init__ f fd) (T : TxtK K mg C) : FnOk P w K mg base CX0 (k + 1) f fd ["self", "reading", "writing", "device"] (spKind C) := by
  refine F.ok sc_Kind___init__ (fun vs H Q E h => ?_) (fun cdv A outer s H vs Q E hr h => ?_)
  · obtain ⟨p, dx, r, w, d, rfl, _⟩ := h
    rfl
  · obtain ⟨p, dx, r, w, d, rfl, hr1, hw1, hd1, hp, q⟩ := h
    obtain ⟨mc, a1, a2, a3, u1, u2, u3, cr, v1, v2, v3, t1, t2, t3⟩ := T.con
    refine ⟨_, (pss_cons (ps_for PassesOwn.never rfl (pi_tup (pe_tup (pa_cons (pe_tup (pa_cons (pv 1) (pa_cons (ClX.pe_cval (pe_glob (v := .ref _) (by rfl) T.mg_Kind rfl)) pa_nil))) (pa_cons (pe_tup (pa_cons (pv 2) (pa_cons (ClX.pe_cval (pe_glob (v := .ref _) (by rfl) T.mg_Kind rfl)) pa_nil))) (pa_cons (pe_tup (pa_cons (pv 3) (pa_cons (ClX.pe_cval (pe_glob (v := .ref _) (by rfl) T.mg_Kind rfl)) pa_nil))) pa_nil))))) (pg_tup rfl (pgs_cons (pg_name (i := 4) sc_Kind___init__.nd rfl (by first | exact Or.inl rfl | exact Or.inr rfl)) (pgs_cons (pg_name (i := 5) sc_Kind___init__.nd rfl (by first | exact Or.inl rfl | exact Or.inr rfl)) pgs_nil)))
 (pss_one (ps_if (pt_cmpR op_notIn_seq (pv 4) (pv 5) (by rfl)) (pss_one ps_never)
 pss_nil)))
 (pss_cons (ps_fld (pv 0) (pv 1) rfl)
 (pss_cons (ps_fld (pv 0) (pv 2) rfl)
 (pss_cons (ps_fld (pv 0) (pv 3) rfl)
 (pss_one (ps_fld (pv 0) (pe_ifExp (pt_cmpR op_eq (pv 2) pe_str (nomark _)) (pe_tup (pa_cons pe_int (pa_cons pe_int (pa_cons pe_int (pa_cons pe_int pa_nil))))) (pe_tup (pa_cons pe_int (pa_cons pe_int pa_nil)))) rfl)))))), at_start (σ := [some (.ref p), some (.str r), some (.str w), some (.str d), none, none]) rfl ?_⟩
    dsimp only [cx_K]
    walk_at "rd"
    refine ⟨by walk_at "sz", fun c1 n1 => ?_⟩
    walk_at "rd"
    refine ⟨by walk_at "sz", fun c2 n2 => ?_⟩
    walk_at "rd"
    refine ⟨by walk_at "sz", fun c3 n3 => ?_⟩
    walk_at "rd"
    refine ⟨by walk_at "sz", fun c4 n4 => ?_⟩
    have s4 := (((same_new (o := .tup [.str r, .ref a1]) n1).trans (same_new (o := .tup [.str w, .ref a2]) n2)).trans (same_new (o := .tup [.str d, .ref a3]) n3)).trans (same_new (o := .tup [.ref c1, .ref c2, .ref c3]) n4)
    have g1 : (upd (upd (upd (upd H c1 (.tup [.str r, .ref a1])) c2 (.tup [.str w, .ref a2])) c3 (.tup [.str d, .ref a3])) c4 (.tup [.ref c1, .ref c2, .ref c3])) c1 = some (.tup [.str r, .ref a1]) := by walk_at "hp"
    have g2 : (upd (upd (upd (upd H c1 (.tup [.str r, .ref a1])) c2 (.tup [.str w, .ref a2])) c3 (.tup [.str d, .ref a3])) c4 (.tup [.ref c1, .ref c2, .ref c3])) c2 = some (.tup [.str w, .ref a2]) := by walk_at "hp"
    have g3 : (upd (upd (upd (upd H c1 (.tup [.str r, .ref a1])) c2 (.tup [.str w, .ref a2])) c3 (.tup [.str d, .ref a3])) c4 (.tup [.ref c1, .ref c2, .ref c3])) c3 = some (.tup [.str d, .ref a3]) := by walk_at "hp"
    have g4 : (upd (upd (upd (upd H c1 (.tup [.str r, .ref a1])) c2 (.tup [.str w, .ref a2])) c3 (.tup [.str d, .ref a3])) c4 (.tup [.ref c1, .ref c2, .ref c3])) c4 = some (.tup [.ref c1, .ref c2, .ref c3]) := by walk_at "hp"
    generalize (upd (upd (upd (upd H c1 (.tup [.str r, .ref a1])) c2 (.tup [.str w, .ref a2])) c3 (.tup [.str d, .ref a3])) c4 (.tup [.ref c1, .ref c2, .ref c3])) = H4 at s4 g1 g2 g3 g4 ⊢
    refine ⟨c4, rfl, ⟨_, SqT.of g4⟩, forW (walk_tup (xs := [.ref c1, .ref c2, .ref c3])) (fun i σ H' => ∃ y4 y5, σ = [some (.ref p), some (.str r), some (.str w), some (.str d), y4, y5] ∧ H' = H4) ⟨none, none, rfl, rfl⟩ (fun i σ H' _ ⟨_, _, _, e⟩ => e ▸ SqT.of g4) ?_ ?_⟩
    · rintro i x σ' H' _ hi0 ⟨y4, y5, rfl, rfl⟩ ⟨rfl, hi⟩
      have cs : (x = .ref c1 ∨ x = .ref c2 ∨ x = .ref c3) := by
        have := List.mem_of_getElem? hi
        simpa using this
      rcases cs with rfl | rfl | rfl
      · refine ⟨_, _, rfl, SqT.of g1, rfl, _, _, rfl, _, _, rfl, rfl, ?_⟩
        walk_at "rd"
        refine r_notInS (zs := RD) (.inr (t1 _)) ?_
        walk_at "rd"
        refine r_iteNF hr1 ?_
        walk_at "rd"
        exact ⟨_, _, rfl, rfl⟩
      · refine ⟨_, _, rfl, SqT.of g2, rfl, _, _, rfl, _, _, rfl, rfl, ?_⟩
        walk_at "rd"
        refine r_notInS (zs := WR) (.inr (t2 _)) ?_
        walk_at "rd"
        refine r_iteNF hw1 ?_
        walk_at "rd"
        exact ⟨_, _, rfl, rfl⟩
      · refine ⟨_, _, rfl, SqT.of g3, rfl, _, _, rfl, _, _, rfl, rfl, ?_⟩
        walk_at "rd"
        refine r_notInS (zs := DV) (.inr (t3 _)) ?_
        walk_at "rd"
        refine r_iteNF hd1 ?_
        walk_at "rd"
        exact ⟨_, _, rfl, rfl⟩
    · rintro σ' H' ⟨y4, y5, rfl, rfl⟩
      have hp4 := s4 _ _ hp
      walk_at "rd"
      refine ⟨p, C, dx, _, rfl, hp4, T.cl, T.n_reading, (by decide), ?_⟩
      walk_at "rd"
      refine ⟨p, C, dx, _, rfl, upd_same, T.cl, T.n_writing, putF_lt0 (by decide), ?_⟩
      walk_at "rd"
      refine ⟨p, C, dx, _, rfl, upd_same, T.cl, T.n_device, putF_lt0 (putF_lt (by decide)), ?_⟩
      walk_at "rd"
      have fin : ∀ st, (upd (upd (upd H' p (.ins C dx (putF "reading" (.str r) []))) p (.ins C dx (putF "writing" (.str w) (putF "reading" (.str r) [])))) p (.ins C dx (putF "device" (.str d) (putF "writing" (.str w) (putF "reading" (.str r) []))))) st = none →
          Q .non (upd (upd (upd (upd (upd H' p (.ins C dx (putF "reading" (.str r) []))) p (.ins C dx (putF "writing" (.str w) (putF "reading" (.str r) [])))) p (.ins C dx (putF "device" (.str d) (putF "writing" (.str w) (putF "reading" (.str r) []))))) st (.tup ((statesOf w).map V.int))) p (.ins C dx (flds r w d st))) := by
        intro st hst
        have np : p ≠ st := fun z => by rw [← z, upd_same] at hst; cases hst
        refine q _ ⟨dx, st, upd_same, by rw [upd_ne np.symm, upd_same]⟩ fun b o e hb => ?_
        rw [upd_ne hb, upd_new hst]
        rw [upd_ne hb, upd_ne hb, upd_ne hb]
        exact s4 _ _ e
      refine r_ite2 (fun h => ?_) (fun h => ?_)
      · have h' : w = "once" := V.str.inj h
        walk_at "rd"
        refine ⟨by walk_at "sz", fun st hst => ?_⟩
        have np : p ≠ st := fun z => by rw [← z, upd_same] at hst; cases hst
        walk_at "rd"
        refine ⟨p, C, dx, _, rfl, by rw [upd_ne np]; exact upd_same, T.cl, T.n_states, putF_lt0 (putF_lt (putF_lt (by decide))), ?_⟩
        have := fin st hst
        rw [statesOf, if_pos h'] at this
        exact this
      · have h' : ¬ w = "once" := fun z => h (by rw [z])
        walk_at "rd"
        refine ⟨by walk_at "sz", fun st hst => ?_⟩
        have np : p ≠ st := fun z => by rw [← z, upd_same] at hst; cases hst
        walk_at "rd"
        refine ⟨p, C, dx, _, rfl, by rw [upd_ne np]; exact upd_same, T.cl, T.n_states, putF_lt0 (putF_lt (putF_lt (by decide))), ?_⟩
        have := fin st hst
        rw [statesOf, if_neg h'] at this
        exact this

theorem ok_after_read {f C : Addr} {fd : FuncData} {k : Nat} (F : Fun K "after_read" "Kind.after_read" s_Kind_after_read f fd) (T : TxtK K mg C) : FnOk P w K mg base CX0 (k + 1) f fd ["self", "state"] (spRead C) := by
  refine F.ok sc_Kind_after_read (fun vs H Q E h => ?_) (fun cdv A outer s H vs Q E hr h => ?_)
  · obtain ⟨p, r, w, d, s, rfl, _⟩ := h
    rfl
  · obtain ⟨p, r, w, d, s, rfl, ⟨dx, st, h1, h2⟩, q⟩ := h
    refine ⟨_, (pss_one (ps_ret (pe_ifExp (pt_cmpR op_eq (pe_fld (pv 0) rfl) pe_str (nomark _)) (pe_op op_sub (pv 1) (pe_op op_mod (pv 1) pe_int)) (pv 1)))), at_start (σ := [some (.ref p), some (.int s)]) rfl ?_⟩
    dsimp only [cx_K]
    walk_at "rd"
    refine ⟨p, C, dx, _, _, rfl, h1, T.cl, T.n_reading, fl_r, ?_⟩
    walk_at "rd"
    unfold afterRead at q
    refine r_ite2 (fun h => ?_) (fun h => ?_)
    · have h' : r = "take" := V.str.inj h
      rw [if_pos h'] at q
      walk_at "rd"
      exact q
    · have h' : ¬ r = "take" := fun z => h (by rw [z])
      rw [if_neg h'] at q
      walk_at "rd"
      exact q
theorem ok_unguarded {f C : Addr} {fd : FuncData} {k : Nat} (F : Fun K "unguarded" "Kind.unguarded" s_Kind_unguarded f fd) (T : TxtK K mg C) : FnOk P w K mg base CX0 (k + 1) f fd ["self", "state", "bit"] (spUng C) := by
  refine F.ok sc_Kind_unguarded (fun vs H Q E h => ?_) (fun cdv A outer s H vs Q E hr h => ?_)
  · obtain ⟨p, r, w, d, s, b, rfl, _⟩ := h
    rfl
  · obtain ⟨p, r, w, d, s, b, rfl, ⟨dx, st, h1, h2⟩, q⟩ := h
    refine ⟨_, (pss_cons (ps_par (i := 3) (j := 4) (by rfl) sc_Kind_unguarded.nd rfl rfl (by decide) rfl rfl (pa_cons (pe_op op_mul (pe_op op_fdiv (pv 1) pe_int) pe_int) (pa_cons (pe_op op_mod (pv 1) pe_int) pa_nil)) (by rfl))
 (pss_cons (ps_match (pe_fld (pv 0) rfl) (pm_str (pss_one (ps_ret (pe_op op_add (pv 3) (pv 2))))
 (pm_str (pss_one (ps_ret (pe_op op_add (pv 3) (pe_op op_mul (pv 4) (pe_op op_sub pe_int (pv 2))))))
 (pm_str (pss_one (ps_ret (pe_op op_add (pv 3) (pe_op op_mul (pv 4) (pv 2)))))
 (pm_str (pss_one (ps_ret (pe_op op_add (pv 3) (pe_callB (call_max2 rfl) (by rfl) T.z_max (by decide +kernel) (pa_cons (pv 4) (pa_cons (pv 2) pa_nil))))))
 (pm_str (pss_one (ps_ret (pe_op op_add (pv 3) (pe_op op_mod (pe_op op_add (pv 4) (pv 2)) pe_int))))
 (pm_str (pss_one (ps_ret (pe_op op_add pe_int (pv 2))))
 pm_nil)))))))
 (pss_one (ps_ret (pv 1))))), at_start (σ := [some (.ref p), some (.int s), some (.int b), none, none]) rfl ?_⟩
    dsimp only [cx_K]
    walk_at "rd"
    refine ⟨_, _, rfl, ?_⟩
    walk_at "rd"
    refine ⟨p, C, dx, _, _, rfl, h1, T.cl, T.n_writing, fl_w, ?_⟩
    unfold unguarded at q
    walk_at "rd"
    refine r_ite2 (fun h => ?_) (fun h => ?_)
    · rw [if_pos h] at q
      walk_at "rd"
      exact q
    rw [if_neg h] at q
    walk_at "rd"
    refine r_ite2 (fun h => ?_) (fun h => ?_)
    · rw [if_pos h] at q
      walk_at "rd"
      exact q
    rw [if_neg h] at q
    walk_at "rd"
    refine r_ite2 (fun h => ?_) (fun h => ?_)
    · rw [if_pos h] at q
      walk_at "rd"
      exact q
    rw [if_neg h] at q
    walk_at "rd"
    refine r_ite2 (fun h => ?_) (fun h => ?_)
    · rw [if_pos h] at q
      walk_at "rd"
      exact q
    rw [if_neg h] at q
    walk_at "rd"
    refine r_ite2 (fun h => ?_) (fun h => ?_)
    · rw [if_pos h] at q
      walk_at "rd"
      exact q
    rw [if_neg h] at q
    walk_at "rd"
    refine r_ite2 (fun h => ?_) (fun h => ?_)
    · rw [if_pos h] at q
      walk_at "rd"
      exact q
    rw [if_neg h] at q
    walk_at "rd"
    exact q
theorem ok_after_write {f C : Addr} {fd : FuncData} {k j : Nat} (F : Fun K "after_write" "Kind.after_write" s_Kind_after_write f fd) (T : TxtK K mg C) (c_Kind_unguarded : CalleeM P w K mg base CX0 1 C "unguarded" ["self", "state", "bit"] (spUng C)) : FnOk P w K mg base CX0 2 f fd ["self", "state", "bit"] (spWrite C) := by
  refine F.ok sc_Kind_after_write (fun vs H Q E h => ?_) (fun cdv A outer s H vs Q E hr h => ?_)
  · obtain ⟨p, r, w, d, s, b, rfl, _⟩ := h
    rfl
  · obtain ⟨p, r, w, d, s, b, rfl, KA, q⟩ := h
    obtain ⟨dx, st, h1, h2⟩ := id KA
    refine ⟨_, (pss_cons (ps_if (PW.pt (pw_and (pt_cmpR op_eq (pe_fld (pv 0) rfl) pe_str (nomark _)) (pw_and1 (pt_cmpR op_gt (pv 1) pe_int (nomark _))))) (pss_one (ps_ret (pv 1)))
 pss_nil)
 (pss_one (ps_ret (pe_methC c_Kind_unguarded (pv 0) (hr.mono (by decide)) pass0 (pa_cons (pv 1) (pa_cons (pv 2) pa_nil)))))), at_start (σ := [some (.ref p), some (.int s), some (.int b)]) rfl ?_⟩
    dsimp only [cx_K]
    walk_at "rd"
    refine ⟨p, C, dx, _, _, rfl, h1, T.cl, T.n_writing, fl_w, ?_⟩
    unfold afterWrite at q
    walk_at "rd"
    have call : ¬ (w = "once" ∧ 1 < s) → spUng C [.ref p, .int s, .int b] H Q E0 := fun h => ⟨p, r, w, d, s, b, rfl, KA, by rw [if_neg h] at q; exact q⟩
    refine r_ite2 (fun h => ?_) (fun h => ?_)
    · have h' : w = "once" := V.str.inj h
      walk_at "rd"
      refine r_ite2 (fun h2 => ?_) (fun h2 => ?_)
      · rw [if_pos ⟨h', h2⟩] at q
        walk_at "rd"
        exact q
      · walk_at "rd"
        refine ⟨p, dx, _, rfl, h1, fl_no.2.2, ?_⟩
        walk_at "rd"
        exact call fun z => h2 z.2
    · walk_at "rd"
      refine ⟨p, dx, _, rfl, h1, fl_no.2.2, ?_⟩
      walk_at "rd"
      exact call fun z => h (by rw [z.1])

end
end K07


namespace K07
open PySem L2 KB KO
def movable (d : Str) : List Int := if d = "still" then [] else if d = "raise" then [0] else if d = "end" then [1] else [0, 1]
def deedsOf (d : Str) (s : Int) : List Int := if s % 2 ∈ movable d then [s + 1 - 2 * (s % 2)] else []
structure TxtM (K : PySem.W.Frag) (wd : World) (mg : Str → Option Value) (C dM : Addr) : Prop extends TxtK K mg C where
  ty : ∀ {H : Hp} {a dx : Addr} {fs : List (Str × V)}, H a = some (.ins C dx fs) → TyX K H (.ref a) (.ref C)
  isi : PySem.W.kitOne K (.ref C) (.ref C) = some true
  mg_MOVABLE : mg "MOVABLE" = some (.ref dM)
  mov : ∃ es n, KDict K wd dM es n
  item : ∀ d ∈ DV, ∃ a, PySem.W.nsIn K dM d = some (some (.ref a)) ∧ ∀ H, SqT K H a ((movable d).map V.int)
def spDeedsK (C : Addr) : Sp := fun vs H Q _ => ∃ (p : Addr) (r w d : Str) (s : Int), vs = [.ref p, .int s] ∧ KindAt C H p r w d ∧ d ∈ DV ∧ ∀ H' a, Same H H' → H' a = some (.tup ((deedsOf d s).map V.int)) → Q (.ref a) H'
def spEq (C : Addr) : Sp := fun vs H Q _ => ∃ (p p' : Addr) (r w d r' w' d' : Str), vs = [.ref p, .ref p'] ∧ KindAt C H p r w d ∧ KindAt C H p' r' w' d' ∧ Q (.bl (decide (r = r' ∧ w = w' ∧ d = d'))) H
def spStr (C : Addr) : Sp := fun vs H Q _ => ∃ (p : Addr) (r w d : Str), vs = [.ref p] ∧ KindAt C H p r w d ∧ r ∈ RD ∧ w ∈ WR ∧ d ∈ DV ∧ Q (.str (PySem.Txt.join " " [r, w, d])) H
theorem words_short : ∀ r ∈ RD, ∀ w ∈ WR, ∀ d ∈ DV, r.length ≤ 10 ∧ w.length ≤ 10 ∧ d.length ≤ 10 ∧ (Str.empty ++ r).length ≤ 40 ∧ (Str.empty ++ r ++ " ").length ≤ 40 ∧ (Str.empty ++ r ++ " " ++ w).length ≤ 40 ∧ (Str.empty ++ r ++ " " ++ w ++ " ").length ≤ 40 ∧ (Str.empty ++ r ++ " " ++ w ++ " " ++ d).length ≤ 40 ∧ Str.empty ++ r ++ " " ++ w ++ " " ++ d = PySem.Txt.join " " [r, w, d] := by decide +kernel

section
variable {P : Program} {w : World} {K : PySem.W.Frag} {mg : Str → Option Value} {base : Heap}
theorem ok_deedsK {f C dM : Addr} {fd : FuncData} {k : Nat} (F : Fun K "deeds" "Kind.deeds" s_Kind_deeds f fd) (T : TxtM K w mg C dM) : FnOk P w K mg base CX0 (k + 1) f fd ["self", "state"] (spDeedsK C) := by
  refine F.ok sc_Kind_deeds (fun vs H Q E h => ?_) (fun cdv A outer s H vs Q E hr h => ?_)
  · obtain ⟨p, r, w, d, s, rfl, _⟩ := h
    rfl
  · obtain ⟨p, r, w, d, s, rfl, ⟨dx, st, h1, h2⟩, hd, q⟩ := h
    obtain ⟨es, n, kd_MOVABLE⟩ := T.mov
    obtain ⟨a, ia, sa⟩ := T.item d hd
    refine ⟨_, (pss_cons (ps_set (i := 2) sc_Kind_deeds.nd rfl (by first | exact Or.inl rfl | exact Or.inr rfl) (pe_op op_mod (pv 1) pe_int))
 (pss_cons (ps_if (pt_cmpR op_notIn_seq (pv 2) (pe_ix (KO.ix_kd kd_MOVABLE) (pe_glob (v := .ref _) (by rfl) T.mg_MOVABLE rfl) (pe_fld (pv 0) rfl) (fun _ _ => rfl)) (by rfl)) (pss_one (ps_ret (pe_tup pa_nil)))
 pss_nil)
 (pss_one (ps_ret (pe_tup (pa_cons (pe_op op_sub (pe_op op_add (pv 1) pe_int) (pe_op op_mul pe_int (pv 2))) pa_nil)))))), at_start (σ := [some (.ref p), some (.int s), none]) rfl ?_⟩
    dsimp only [cx_K]
    walk_at "rd"
    refine ⟨p, C, dx, _, _, rfl, h1, T.cl, T.n_device, fl_d, ?_⟩
    refine ⟨d, _, .ref a, rfl, rfl, ia, rfl, ?_⟩
    refine r_notInI (zs := movable d) (.inr (sa _)) ?_
    walk_at "rd"
    walk_at "sp"
    · rename_i hn
      rw [show deedsOf d s = [] from if_neg hn] at q
      refine ⟨by walk_at "sz", fun c1 n1 => ?_⟩
      exact q _ c1 (same_new n1) upd_same
    · rename_i hn
      rw [show deedsOf d s = [_] from if_pos hn] at q
      refine ⟨by walk_at "sz", fun c1 n1 => ?_⟩
      exact q _ c1 (same_new n1) upd_same
theorem ok_eqK {f C dM : Addr} {fd : FuncData} {k : Nat} (F : Fun K "__eq__" "Kind.__eq__" s_Kind___eq__ f fd) (T : TxtM K w mg C dM) : FnOk P w K mg base CX0 (k + 1) f fd ["self", "other"] (spEq C) := by
  refine F.ok sc_Kind___eq__ (fun vs H Q E h => ?_) (fun cdv A outer s H vs Q E hr h => ?_)
  · obtain ⟨p, p', r, w, d, r', w', d', rfl, _⟩ := h
    rfl
  · obtain ⟨p, p', r, w, d, r', w', d', rfl, ⟨dx, st, h1, h2⟩, ⟨dx', st', h1', h2'⟩, q⟩ := h
    refine ⟨_, (pss_one (ps_ret (pe_and (pe_callB call_isi (by rfl) T.z_isinstance (by decide +kernel) (pa_cons (pv 1) (pa_cons (pe_glob (v := .ref _) (by rfl) T.mg_Kind rfl) pa_nil))) (pe_and (pe_cmpR op_eq (pe_fld (pv 0) rfl) (pe_fld (pv 1) rfl) (nomark _)) (pe_and (pe_cmpR op_eq (pe_fld (pv 0) rfl) (pe_fld (pv 1) rfl) (nomark _)) (pe_one (pe_cmpR op_eq (pe_fld (pv 0) rfl) (pe_fld (pv 1) rfl) (nomark _)))))))), at_start (σ := [some (.ref p), some (.ref p')]) rfl ?_⟩
    dsimp only [cx_K]
    have cl := T.cl; have nr := T.n_reading; have nw := T.n_writing; have nd := T.n_device
    walk_at "rd"
    refine ⟨_, _, _, _, true, rfl, .own C, T.ty h1', T.isi, ?_⟩
    walk_at "rd"
    walk_at "sp"
    · rename_i a b
      subst a b
      have e : decide (V.str d = V.str d') = decide (r = r ∧ w = w ∧ d = d') := by simp
      rw [e]
      exact q
    · rename_i a b
      rw [decide_eq_false (fun z => b z.2.1)] at q
      exact q
    · rename_i a
      rw [decide_eq_false (fun z => a z.1)] at q
      exact q
theorem ok_strK {f C dM : Addr} {fd : FuncData} {k : Nat} (F : Fun K "__str__" "Kind.__str__" s_Kind___str__ f fd) (T : TxtM K w mg C dM) : FnOk P w K mg base CX0 (k + 1) f fd ["self"] (spStr C) := by
  refine F.ok sc_Kind___str__ (fun vs H Q E h => ?_) (fun cdv A outer s H vs Q E hr h => ?_)
  · obtain ⟨p, r, w, d, rfl, _⟩ := h
    rfl
  · obtain ⟨p, r, w, d, rfl, ⟨dx, st, h1, h2⟩, hr1, hw1, hd1, q⟩ := h
    obtain ⟨g1, g2, g3, g4, g5, g6, g7, g8, g9⟩ := words_short r hr1 w hw1 d hd1
    have sl : 40 ≤ sizeLine := by decide
    rw [← g9] at q
    refine ⟨_, (pss_one (ps_ret (pe_joined (.cons (pe_fmt (pe_fld (pv 0) rfl)) (.cons pe_str (.cons (pe_fmt (pe_fld (pv 0) rfl)) (.cons pe_str (.cons (pe_fmt (pe_fld (pv 0) rfl)) .nil)))))))), at_start (σ := [some (.ref p)]) rfl ?_⟩
    dsimp only [cx_K]
    have cl := T.cl; have nr := T.n_reading; have nw := T.n_writing; have nd := T.n_device
    walk_at "rd"
    refine Or.inl ⟨r, rfl, (show r.length ≤ sizeLine by omega), ?_⟩
    refine ⟨_, rfl, Nat.le_trans g4 sl, ?_⟩
    walk_at "rd"
    refine ⟨Nat.le_trans g5 sl, ?_⟩
    walk_at "rd"
    refine Or.inl ⟨w, rfl, (show w.length ≤ sizeLine by omega), ?_⟩
    refine ⟨_, rfl, Nat.le_trans g6 sl, ?_⟩
    walk_at "rd"
    refine ⟨Nat.le_trans g7 sl, ?_⟩
    walk_at "rd"
    refine Or.inl ⟨d, rfl, (show d.length ≤ sizeLine by omega), ?_⟩
    refine ⟨_, rfl, Nat.le_trans g8 sl, ?_⟩
    walk_at "rd"
    exact q
end
end K07


namespace K07
open PySem L2 KB KO
def endsOf (w : Str) (v : Int) : Int × Int :=
  if w = "store" then (0, 1) else if w = "clear1" then (v, 0) else if w = "clear0" then (0, v) else if w = "set1" then (v, 1) else if w = "none" then (v, v) else (v, 1 - v)
def lw (w : Str) (s b : Int) : Int := if w = "once" then (if s > 1 then s else 2 + b) else (s - s % 2) + (if b = 0 then (endsOf w (s % 2)).1 else (endsOf w (s % 2)).2)
def spLW : Sp := fun vs H Q _ => ∃ (w : Str) (s b : Int), vs = [.str w, .int s, .int b] ∧ w ∈ WR ∧ (b = 0 ∨ b = 1) ∧ ∀ H', Same H H' → Q (.int (lw w s b)) H'
def spLR : Sp := fun vs H Q _ => ∃ (r : Str) (s : Int), vs = [.str r, .int s] ∧ Q (.int (afterRead r s)) H
def spLD : Sp := fun vs H Q _ => ∃ (d : Str) (s : Int), vs = [.str d, .int s] ∧ d ∈ DV ∧ ∀ H' a, Same H H' → H' a = some (.tup ((deedsOf d s).map V.int)) → Q (.ref a) H'
def spWords : Sp := fun vs H Q _ => ∃ (pen : Addr) (k : Nat), vs = [.ref pen] ∧ PenAt H pen (k + 3) ∧ ∀ (r w d : Str) H' a, r ∈ RD → w ∈ WR → d ∈ DV → PenAt H' pen k → Keep pen H H' → H' a = some (.tup [.str r, .str w, .str d]) → Q (.ref a) H'
theorem Keep.tr {p : Addr} {H1 H2 H3 : Hp} (a : Keep p H1 H2) (b : Keep p H2 H3) : Keep p H1 H3 := fun x o e n => b x o (a x o e n) n
theorem Keep.same {p : Addr} {H1 H2 : Hp} (a : Same H1 H2) : Keep p H1 H2 := fun x o e n => a x o e
theorem tab6l (a b c d e : V) : (mergeK [] [((Sum.inr "store" : Key), a), (Sum.inr "clear1", b), (Sum.inr "clear0", c), (Sum.inr "set1", d), (Sum.inr "none", e)]).length = 5 := rfl
theorem tab6 (a b c d e f : V) : valV (putK (mergeK [] [((Sum.inr "store" : Key), a), (Sum.inr "clear1", b), (Sum.inr "clear0", c), (Sum.inr "set1", d), (Sum.inr "none", e)]) (Sum.inr "flip1") f) (Sum.inr "store") = some a ∧
    valV (putK (mergeK [] [((Sum.inr "store" : Key), a), (Sum.inr "clear1", b), (Sum.inr "clear0", c), (Sum.inr "set1", d), (Sum.inr "none", e)]) (Sum.inr "flip1") f) (Sum.inr "clear1") = some b ∧
    valV (putK (mergeK [] [((Sum.inr "store" : Key), a), (Sum.inr "clear1", b), (Sum.inr "clear0", c), (Sum.inr "set1", d), (Sum.inr "none", e)]) (Sum.inr "flip1") f) (Sum.inr "clear0") = some c ∧
    valV (putK (mergeK [] [((Sum.inr "store" : Key), a), (Sum.inr "clear1", b), (Sum.inr "clear0", c), (Sum.inr "set1", d), (Sum.inr "none", e)]) (Sum.inr "flip1") f) (Sum.inr "set1") = some d ∧
    valV (putK (mergeK [] [((Sum.inr "store" : Key), a), (Sum.inr "clear1", b), (Sum.inr "clear0", c), (Sum.inr "set1", d), (Sum.inr "none", e)]) (Sum.inr "flip1") f) (Sum.inr "none") = some e ∧
    valV (putK (mergeK [] [((Sum.inr "store" : Key), a), (Sum.inr "clear1", b), (Sum.inr "clear0", c), (Sum.inr "set1", d), (Sum.inr "none", e)]) (Sum.inr "flip1") f) (Sum.inr "flip1") = some f := ⟨rfl, rfl, rfl, rfl, rfl, rfl⟩
theorem deeds_is {d : Str} {s : Int} (hd : d ∈ DV) : deedsOf d s = if d = "drift" ∨ (d = "raise" ∧ s % 2 = 0) ∨ (d = "end" ∧ s % 2 = 1) then [s + 1 - 2 * (s % 2)] else [] := by
  have hs : s % 2 = 0 ∨ s % 2 = 1 := by omega
  have h : ∀ d ∈ DV, ∀ v : Int, v = 0 ∨ v = 1 → (v ∈ movable d ↔ (d = "drift" ∨ (d = "raise" ∧ v = 0) ∨ (d = "end" ∧ v = 1))) := by
    intro d hd v hv
    rcases hv with rfl | rfl
    · revert d; decide +kernel
    · revert d; decide +kernel
  unfold deedsOf
  simp only [h d hd _ hs]

section
variable {P : Program} {w : World} {K : PySem.W.Frag} {mg : Str → Option Value} {base : Heap}
theorem ok_lw {f : Addr} {fd : FuncData} {k : Nat} (F : Fun K "_law_write" "_law_write" s__law_write f fd) (T : Txt mg) : FnOk P w K mg base CX0 (k + 1) f fd ["_law_second_word", "_law_stand", "_law_sign"] spLW := by
  refine F.ok sc__law_write (fun vs H Q E h => ?_) (fun cdv A outer s H vs Q E hr h => ?_)
  · obtain ⟨w, s, b, rfl, _⟩ := h
    rfl
  · obtain ⟨w, s, b, rfl, hw, hb, q⟩ := h
    refine ⟨_, (pss_cons (ps_par (i := 3) (j := 4) (by rfl) sc__law_write.nd rfl rfl (by decide) rfl rfl (pa_cons (pe_op op_mod (pv 1) pe_int) (pa_cons (pe_op op_sub (pv 1) (pe_op op_mod (pv 1) pe_int)) pa_nil)) (by rfl))
 (pss_cons (ps_if (pt_cmpR op_eq (pv 0) pe_str (nomark _)) (pss_one (ps_ret (pe_ifExp (pt_cmpR op_gt (pv 1) pe_int (nomark _)) (pv 1) (pe_op op_add pe_int (pv 2)))))
 pss_nil)
 (pss_cons (ps_set (i := 5) sc__law_write.nd rfl (by first | exact Or.inl rfl | exact Or.inr rfl) (pe_disp (pps_cons pe_str (pe_tup (pa_cons pe_int (pa_cons pe_int pa_nil))) (pps_cons pe_str (pe_tup (pa_cons (pv 3) (pa_cons pe_int pa_nil))) (pps_cons pe_str (pe_tup (pa_cons pe_int (pa_cons (pv 3) pa_nil))) (pps_cons pe_str (pe_tup (pa_cons (pv 3) (pa_cons pe_int pa_nil))) (pps_cons pe_str (pe_tup (pa_cons (pv 3) (pa_cons (pv 3) pa_nil))) pps_nil))))) (by rfl) (by rfl) (fun z => by cases z) (by decide)))
 (pss_cons (ps_dput (hu_of hr) (pv 5) pe_str (pe_tup (pa_cons (pv 3) (pa_cons (pe_op op_sub pe_int (pv 3)) pa_nil))) rfl)
 (pss_one (ps_ret (pe_op op_add (pv 4) (pe_ix ix_tup (pe_dget (hu_of hr) (pv 5) (pv 0) (fun _ _ => rfl)) (pv 2) (fun _ _ => rfl))))))))), at_start (σ := [some (.str w), some (.int s), some (.int b), none, none, none]) rfl ?_⟩
    try dsimp only [cx_K]
    unfold lw at q
    walk_at "rd"
    refine ⟨_, _, rfl, ?_⟩
    walk_at "rd"
    refine r_iteS2 (fun h1 => ?_) (fun h1 => ?_)
    · rw [if_pos h1] at q
      walk_at "sp"
      · rename_i h2
        rw [if_pos h2] at q
        exact q _ (Same.refl _)
      · rename_i h2
        rw [if_neg h2] at q
        exact q _ (Same.refl _)
    · rw [if_neg h1] at q
      walk_at "rd"
      intro D nD
      walk_at "rd"
      refine ⟨by walk_at "sz", fun c1 n1 => ?_⟩
      walk_at "rd"
      refine ⟨by walk_at "sz", fun c2 n2 => ?_⟩
      walk_at "rd"
      refine ⟨by walk_at "sz", fun c3 n3 => ?_⟩
      walk_at "rd"
      refine ⟨by walk_at "sz", fun c4 n4 => ?_⟩
      walk_at "rd"
      refine ⟨by walk_at "sz", fun c5 n5 => ?_⟩
      walk_at "rd"
      have d1 : c1 ≠ D := (ne_of_none upd_same n1).symm
      have d2 : c2 ≠ D := (ne_of_none (upd_new n1 upd_same) n2).symm
      have d3 : c3 ≠ D := (ne_of_none (upd_new n2 (upd_new n1 upd_same)) n3).symm
      have d4 : c4 ≠ D := (ne_of_none (upd_new n3 (upd_new n2 (upd_new n1 upd_same))) n4).symm
      have d5 : c5 ≠ D := (ne_of_none (upd_new n4 (upd_new n3 (upd_new n2 (upd_new n1 upd_same)))) n5).symm
      generalize hH5 : (upd (upd (upd (upd (upd (upd H D (.dK [])) c1 (.tup [.int 0, .int 1])) c2 (.tup [.int (s % 2), .int 0])) c3 (.tup [.int 0, .int (s % 2)])) c4 (.tup [.int (s % 2), .int 1])) c5 (.tup [.int (s % 2), .int (s % 2)])) = H5
      have s5 : Same H H5 := hH5 ▸ (((((same_new nD).trans (same_new n1)).trans (same_new n2)).trans (same_new n3)).trans (same_new n4)).trans (same_new n5)
      have g0 : H5 D = some (.dK []) := by rw [← hH5]; walk_at "hp"
      have g1 : H5 c1 = some (.tup [.int 0, .int 1]) := by rw [← hH5]; walk_at "hp"
      have g2 : H5 c2 = some (.tup [.int (s % 2), .int 0]) := by rw [← hH5]; walk_at "hp"
      have g3 : H5 c3 = some (.tup [.int 0, .int (s % 2)]) := by rw [← hH5]; walk_at "hp"
      have g4 : H5 c4 = some (.tup [.int (s % 2), .int 1]) := by rw [← hH5]; walk_at "hp"
      have g5 : H5 c5 = some (.tup [.int (s % 2), .int (s % 2)]) := by rw [← hH5]; walk_at "hp"
      clear hH5 n1 n2 n3 n4 n5
      refine ⟨g0, [(.inr "store", .ref c1), (.inr "clear1", .ref c2), (.inr "clear0", .ref c3), (.inr "set1", .ref c4), (.inr "none", .ref c5)], rfl, (show 5 ≤ 15 by decide), ?_⟩
      walk_at "rd"
      refine ⟨by walk_at "sz", fun c6 n6 => ?_⟩
      walk_at "rd"
      have d6 : c6 ≠ D := (ne_of_none upd_same n6).symm
      have t6 := tab6 (.ref c1) (.ref c2) (.ref c3) (.ref c4) (.ref c5) (.ref c6)
      have l6 := tab6l (.ref c1) (.ref c2) (.ref c3) (.ref c4) (.ref c5)
      generalize mergeK [] [((Sum.inr "store" : Key), V.ref c1), (Sum.inr "clear1", .ref c2), (Sum.inr "clear0", .ref c3), (Sum.inr "set1", .ref c4), (Sum.inr "none", .ref c5)] = m1 at t6 l6 n6 ⊢
      refine ⟨D, _, rfl, DPut.k (k := .inr "flip1") (by walk_at "hp") (by rw [l6]; decide), ?_⟩
      walk_at "rd"
      generalize hm2 : putK m1 (Sum.inr "flip1") (V.ref c6) = m2 at t6 ⊢
      generalize hH8 : (upd (upd (upd H5 D (.dK m1)) c6 (.tup [.int (s % 2), .int (1 - s % 2)])) D (.dK m2)) = H8
      have s8 : Same H H8 := by
        rw [← hH8]
        refine same_mut ?_ nD
        exact (same_mut s5 nD).trans (same_new n6)
      have g6 : H8 c6 = some (.tup [.int (s % 2), .int (1 - s % 2)]) := by rw [← hH8]; walk_at "hp"
      have gD : H8 D = some (.dK m2) := by rw [← hH8]; walk_at "hp"
      replace g1 : H8 c1 = some (.tup [.int 0, .int 1]) := by rw [← hH8, upd_ne d1]; refine upd_new n6 ?_; rw [upd_ne d1]; exact g1
      replace g2 : H8 c2 = some (.tup [.int (s % 2), .int 0]) := by rw [← hH8, upd_ne d2]; refine upd_new n6 ?_; rw [upd_ne d2]; exact g2
      replace g3 : H8 c3 = some (.tup [.int 0, .int (s % 2)]) := by rw [← hH8, upd_ne d3]; refine upd_new n6 ?_; rw [upd_ne d3]; exact g3
      replace g4 : H8 c4 = some (.tup [.int (s % 2), .int 1]) := by rw [← hH8, upd_ne d4]; refine upd_new n6 ?_; rw [upd_ne d4]; exact g4
      replace g5 : H8 c5 = some (.tup [.int (s % 2), .int (s % 2)]) := by rw [← hH8, upd_ne d5]; refine upd_new n6 ?_; rw [upd_ne d5]; exact g5
      clear hH8 n6 g0
      obtain ⟨c, hv, hc⟩ : ∃ c, valV m2 (Sum.inr w) = some (.ref c) ∧ H8 c = some (.tup [.int (endsOf w (s % 2)).1, .int (endsOf w (s % 2)).2]) := by
        obtain ⟨u1, u2, u3, u4, u5, u6⟩ := t6
        simp only [WR, List.mem_cons, List.not_mem_nil, or_false] at hw
        rcases hw with rfl | rfl | rfl | rfl | rfl | rfl | rfl
        · exact ⟨c1, u1, g1⟩
        · exact ⟨c2, u2, g2⟩
        · exact ⟨c3, u3, g3⟩
        · exact ⟨c4, u4, g4⟩
        · exact ⟨c6, u6, g6⟩
        · exact absurd rfl h1
        · exact ⟨c5, u5, g5⟩
      refine ⟨D, .ref c, rfl, hv ▸ DGet.k (k := .inr w) gD, ?_⟩
      have q8 := q H8 s8
      walk_at "rd"
      rcases hb with rfl | rfl
      · refine r_ixT (xs := [.int (endsOf w (s % 2)).1, .int (endsOf w (s % 2)).2]) (SqT.of hc) rfl ?_
        walk_at "rd"
        exact q8
      · refine r_ixT (xs := [.int (endsOf w (s % 2)).1, .int (endsOf w (s % 2)).2]) (SqT.of hc) rfl ?_
        walk_at "rd"
        exact q8
theorem ok_lr {f : Addr} {fd : FuncData} {k : Nat} (F : Fun K "_law_read" "_law_read" s__law_read f fd) (T : Txt mg) : FnOk P w K mg base CX0 (k + 1) f fd ["_law_first", "_law_stand"] spLR := by
  refine F.ok sc__law_read (fun vs H Q E h => ?_) (fun cdv A outer s H vs Q E hr h => ?_)
  · obtain ⟨r, s, rfl, _⟩ := h
    rfl
  · obtain ⟨r, s, rfl, q⟩ := h
    refine ⟨_, (pss_one (ps_ret (pe_ifExp (pt_cmpR op_eq (pv 0) pe_str (nomark _)) (pe_op op_sub (pv 1) (pe_op op_mod (pv 1) pe_int)) (pv 1)))), at_start (σ := [some (.str r), some (.int s)]) rfl ?_⟩
    try dsimp only [cx_K]
    unfold afterRead at q
    walk_at "rd"
    refine r_iteS2 (fun h1 => ?_) (fun h1 => ?_)
    · rw [if_pos h1] at q
      walk_at "rd"
      exact q
    · rw [if_neg h1] at q
      walk_at "rd"
      exact q
theorem ok_ld {f : Addr} {fd : FuncData} {k : Nat} (F : Fun K "_law_deeds" "_law_deeds" s__law_deeds f fd) (T : Txt mg) : FnOk P w K mg base CX0 (k + 1) f fd ["_law_third", "_law_stand"] spLD := by
  refine F.ok sc__law_deeds (fun vs H Q E h => ?_) (fun cdv A outer s H vs Q E hr h => ?_)
  · obtain ⟨d, s, rfl, _⟩ := h
    rfl
  · obtain ⟨d, s, rfl, hd, q⟩ := h
    refine ⟨_, (pss_cons (ps_if (PW.pt (pw_or (pt_cmpR op_eq (pv 0) pe_str (nomark _)) (pw_or (PW.pt (pw_and (pt_cmpR op_eq (pv 0) pe_str (nomark _)) (pw_and1 (pt_cmpR op_eq (pe_op op_mod (pv 1) pe_int) pe_int (nomark _))))) (pw_or1 (PW.pt (pw_and (pt_cmpR op_eq (pv 0) pe_str (nomark _)) (pw_and1 (pt_cmpR op_eq (pe_op op_mod (pv 1) pe_int) pe_int (nomark _))))))))) (pss_one (ps_ret (pe_tup (pa_cons (pe_op op_sub (pe_op op_add (pv 1) pe_int) (pe_op op_mul pe_int (pe_op op_mod (pv 1) pe_int))) pa_nil))))
 pss_nil)
 (pss_one (ps_ret (pe_tup pa_nil)))), at_start (σ := [some (.str d), some (.int s)]) rfl ?_⟩
    try dsimp only [cx_K]
    have e := deeds_is (s := s) hd
    walk_at "sp"
    all_goals (refine ⟨by walk_at "sz", fun c1 n1 => ?_⟩; refine q _ c1 (same_new n1) ?_; rw [upd_same, e])
    all_goals first | rw [if_pos (by grind)]; rfl | rw [if_neg (by grind)]; rfl
theorem ok_words {f : Addr} {fd : FuncData} (F : Fun K "_law_words" "_law_words" s__law_words f fd) (T : Txt mg) (c__law_draw : Callee P w K mg base CX0 1 "_law_draw" ["_law_pen_here", "_law_many"] spDraw) : FnOk P w K mg base CX0 2 f fd ["_law_pen_here"] spWords := by
  refine F.ok sc__law_words (fun vs H Q E h => ?_) (fun cdv A outer s H vs Q E hr h => ?_)
  · obtain ⟨pen, k, rfl, _⟩ := h
    rfl
  · obtain ⟨pen, k, rfl, pn, q⟩ := h
    refine ⟨_, (pss_cons (ps_set (i := 1) sc__law_words.nd rfl (by first | exact Or.inl rfl | exact Or.inr rfl) (pe_tup (pa_cons pe_str (pa_cons pe_str (pa_cons pe_str (pa_cons pe_str (pa_cons pe_str (pa_cons pe_str (pa_cons pe_str pa_nil)))))))))
 (pss_cons (ps_set (i := 2) sc__law_words.nd rfl (by first | exact Or.inl rfl | exact Or.inr rfl) (pe_ix ix_tup (pe_tup (pa_cons pe_str (pa_cons pe_str pa_nil))) (pe_callC c__law_draw (hr.mono (by decide)) (by rfl) pass0 (pa_cons (pv 0) (pa_cons pe_int pa_nil))) (fun _ _ => rfl)))
 (pss_one (ps_ret (pe_tup (pa_cons (pv 2) (pa_cons (pe_ix ix_tup (pv 1) (pe_callC c__law_draw (hr.mono (by decide)) (by rfl) pass0 (pa_cons (pv 0) (pa_cons pe_int pa_nil))) (fun _ _ => rfl)) (pa_cons (pe_ix ix_tup (pe_tup (pa_cons pe_str (pa_cons pe_str (pa_cons pe_str (pa_cons pe_str pa_nil))))) (pe_callC c__law_draw (hr.mono (by decide)) (by rfl) pass0 (pa_cons (pv 0) (pa_cons pe_int pa_nil))) (fun _ _ => rfl)) pa_nil)))))))), at_start (σ := [some (.ref pen), none, none]) rfl ?_⟩
    try dsimp only [cx_K]
    walk_at "rd"
    refine ⟨by walk_at "sz", fun c1 n1 => ?_⟩
    walk_at "rd"
    refine ⟨by walk_at "sz", fun c2 n2 => ?_⟩
    walk_at "rd"
    refine ⟨pen, 2, k + 2, rfl, by decide, by decide, (pn.up ((same_new n1).trans (same_new n2))).mono (by omega), fun r1 H3 a1 b1 pn1 kp1 => ?_⟩
    have m1 : c1 ≠ pen := pn.ne n1
    have m2 : c2 ≠ pen := (pn.up (same_new n1)).ne n2
    have e2 : H3 c2 = some (.tup (RD.map V.str)) := kp1 _ _ upd_same m2
    have e1 : H3 c1 = some (.tup (WR.map V.str)) := kp1 _ _ (upd_new n2 upd_same) m1
    have k3 : Keep pen H H3 := (Keep.same ((same_new n1).trans (same_new n2))).tr kp1
    clear kp1
    obtain ⟨r, hr1, at1⟩ := atI_map (xs := RD) (g := V.str) a1 b1
    refine r_ixT (xs := RD.map V.str) (SqT.of e2) at1 ?_
    walk_at "rd"
    refine ⟨pen, 7, k + 1, rfl, by decide, by decide, pn1.mono (by omega), fun r2 H4 a2 b2 pn2 kp2 => ?_⟩
    obtain ⟨w, hw1, at2⟩ := atI_map (xs := WR) (g := V.str) a2 b2
    refine r_ixT (xs := WR.map V.str) (SqT.of (kp2 _ _ e1 m1)) at2 ?_
    walk_at "rd"
    refine ⟨by walk_at "sz", fun c3 n3 => ?_⟩
    walk_at "rd"
    refine ⟨pen, 4, k, rfl, by decide, by decide, (pn2.up (same_new n3)).mono (by omega), fun r3 H5 a3 b3 pn3 kp3 => ?_⟩
    have e3 : H5 c3 = some (.tup (DV.map V.str)) := kp3 _ _ upd_same (pn2.ne n3)
    obtain ⟨d, hd1, at3⟩ := atI_map (xs := DV) (g := V.str) a3 b3
    refine r_ixT (xs := DV.map V.str) (SqT.of e3) at3 ?_
    walk_at "rd"
    refine ⟨by walk_at "sz", fun c4 n4 => ?_⟩
    have k5 := ((k3.tr kp2).tr (Keep.same (same_new (o := .tup (DV.map V.str)) n3))).tr kp3
    exact q r w d _ c4 hr1 hw1 hd1 (pn3.up (same_new n4)) (k5.tr (Keep.same (same_new n4))) upd_same
end
end K07


namespace K07
open PySem L2 KB KO
def gRev (us zs : List V) : List V := us ++ zs.reverse
def gAdd (us zs : List V) : List V := us ++ zs
theorem write_same : ∀ w ∈ WR, ∀ s ∈ statesOf w, ∀ b ∈ ([0, 1] : List Int), afterWrite w s b = lw w s b ∧ unguarded w s b = (if w = "once" then 2 + b else lw w s b) ∧ lw w s b ∈ statesOf w := by decide +kernel
theorem read_in : ∀ r ∈ RD, ∀ w ∈ WR, ∀ s ∈ statesOf w, afterRead r s ∈ statesOf w := by decide +kernel
theorem deed_in : ∀ d ∈ DV, ∀ w ∈ WR, ∀ s ∈ statesOf w, ∀ t ∈ deedsOf d s, t ∈ statesOf w := by decide +kernel
def spSR (C : Addr) : Sp := fun vs H Q _ => ∃ (p wd : Addr) (r w d : Str) (s : Int), vs = [.ref p, .ref wd, .int s] ∧ KindAt C H p r w d ∧ H wd = some (.tup [.str r, .str w, .str d]) ∧ r ∈ RD ∧ w ∈ WR ∧ d ∈ DV ∧ s ∈ statesOf w ∧ ∀ H', Same H H' → Q (.bl true) H'
def spOn : Sp := fun vs H Q _ => ∃ (pen wd : Addr) (k : Nat) (r w d : Str) (s : Int), vs = [.ref pen, .ref wd, .int s] ∧ PenAt H pen (k + 1) ∧ H wd = some (.tup [.str r, .str w, .str d]) ∧ wd ≠ pen ∧ r ∈ RD ∧ w ∈ WR ∧ d ∈ DV ∧ s ∈ statesOf w ∧
  ∀ s' H', s' ∈ statesOf w → PenAt H' pen k → Keep pen H H' → Q (.int s') H'

section
variable {P : Program} {w : World} {K : PySem.W.Frag} {mg : Str → Option Value} {base : Heap}
theorem ok_sr {f C dM : Addr} {fd : FuncData} (F : Fun K "_law_state_right" "_law_state_right" s__law_state_right f fd) (T : TxtM K w mg C dM)
    (mk_Kind_after_read : CalleeMK P w K mg base 1 C "after_read" ["self", "state"] (spRead C) 0 ["state"] gAdd) (mk_Kind_deeds : CalleeMK P w K mg base 1 C "deeds" ["self", "state"] (spDeedsK C) 0 ["state"] gAdd)
    (mk_Kind_after_write : CalleeMK P w K mg base 2 C "after_write" ["self", "state", "bit"] (spWrite C) 0 ["bit", "state"] gRev) (mk_Kind_unguarded : CalleeMK P w K mg base 1 C "unguarded" ["self", "state", "bit"] (spUng C) 0 ["bit", "state"] gRev)
    (c_Kind_after_write : CalleeM P w K mg base CX0 2 C "after_write" ["self", "state", "bit"] (spWrite C))
    (c__law_read : KB.Callee P w K mg base CX0 1 "_law_read" ["_law_first", "_law_stand"] spLR) (c__law_deeds : KB.Callee P w K mg base CX0 1 "_law_deeds" ["_law_third", "_law_stand"] spLD)
    (c__law_write : KB.Callee P w K mg base CX0 1 "_law_write" ["_law_second_word", "_law_stand", "_law_sign"] spLW) : FnOk P w K mg base CX0 3 f fd ["_law_kind", "_law_words_here", "_law_stand"] (spSR C) := by
  refine F.ok sc__law_state_right (fun vs H Q E h => ?_) (fun cdv A outer s H vs Q E hr h => ?_)
  · obtain ⟨p, wd, r, w, d, s, rfl, _⟩ := h
    rfl
  · obtain ⟨p, wd, r, w, d, s, rfl, KA, hwd, hr1, hw1, hd1, hs1, q⟩ := h
    refine ⟨_, (pss_cons (ps_asg (pv 1) (pg_tup rfl (pgs_cons (pg_name (i := 3) sc__law_state_right.nd rfl (by first | exact Or.inl rfl | exact Or.inr rfl)) (pgs_cons (pg_name (i := 4) sc__law_state_right.nd rfl (by first | exact Or.inl rfl | exact Or.inr rfl)) (pgs_cons (pg_name (i := 5) sc__law_state_right.nd rfl (by first | exact Or.inl rfl | exact Or.inr rfl)) pgs_nil)))))
 (pss_cons (ps_if (PW.pt (pw_or (pt_cmpR op_ne (KO.pe_methK0 mk_Kind_after_read (pv 0) (hr.mono (by decide)) (pk_cons (pv 2) pk_nil)) (pe_callC c__law_read (hr.mono (by decide)) (by rfl) pass0 (pa_cons (pv 3) (pa_cons (pv 2) pa_nil))) (nomark _)) (pw_or1 (pt_cmpR (op_neD hr.units) (KO.pe_methK0 mk_Kind_deeds (pv 0) (hr.mono (by decide)) (pk_cons (pv 2) pk_nil)) (pe_callC c__law_deeds (hr.mono (by decide)) (by rfl) pass0 (pa_cons (pv 5) (pa_cons (pv 2) pa_nil))) (nomark _))))) (pss_one (ps_ret pe_bl))
 pss_nil)
 (pss_cons (ps_for PassesOwn.never rfl (pi_tup (pe_tup (pa_cons pe_int (pa_cons pe_int pa_nil)))) (pg_name (i := 6) sc__law_state_right.nd rfl (by first | exact Or.inl rfl | exact Or.inr rfl))
 (pss_cons (ps_set (i := 7) sc__law_state_right.nd rfl (by first | exact Or.inl rfl | exact Or.inr rfl) (pe_callC c__law_write (hr.mono (by decide)) (by rfl) pass0 (pa_cons (pv 4) (pa_cons (pv 2) (pa_cons (pv 6) pa_nil)))))
 (pss_cons (ps_if (PW.pt (pw_or (pt_cmpR op_ne (pe_methC c_Kind_after_write (pv 0) (hr.mono (by decide)) pass0 (pa_cons (pv 2) (pa_cons (pv 6) pa_nil))) (pv 7) (nomark _)) (pw_or1 (pt_cmpR op_ne (KO.pe_methK0 mk_Kind_after_write (pv 0) (hr.mono (by decide)) (pk_cons (pv 6) (pk_cons (pv 2) pk_nil))) (pv 7) (nomark _))))) (pss_one (ps_ret pe_bl))
 pss_nil)
 (pss_one (ps_if (pt_cmpR op_ne (KO.pe_methK0 mk_Kind_unguarded (pv 0) (hr.mono (by decide)) (pk_cons (pv 6) (pk_cons (pv 2) pk_nil))) (pe_ifExp (pt_cmpR op_eq (pv 4) pe_str (nomark _)) (pe_op op_add pe_int (pv 6)) (pv 7)) (nomark _)) (pss_one (ps_ret pe_bl))
 pss_nil)))))
 (pss_one (ps_ret pe_bl))))), at_start (σ := [some (.ref p), some (.ref wd), some (.int s), none, none, none, none, none]) rfl ?_⟩
    try dsimp only [cx_K]
    have KA' := KA
    obtain ⟨dx, st, h1, h2⟩ := KA'
    walk_at "rd"
    refine ⟨p, dx, _, rfl, h1, rfl, ?_⟩
    walk_at "rd"
    refine ⟨rfl, p, r, w, d, s, rfl, KA, ?_⟩
    walk_at "rd"
    refine ⟨r, s, rfl, ?_⟩
    walk_at "rd"
    refine r_iteNF rfl ?_
    walk_at "rd"
    refine ⟨p, dx, _, rfl, h1, rfl, ?_⟩
    walk_at "rd"
    refine ⟨rfl, p, r, w, d, s, rfl, KA, hd1, fun H1 a1 s1 e1 => ?_⟩
    walk_at "rd"
    refine ⟨d, s, rfl, hd1, fun H2 a2 s2 e2 => ?_⟩
    refine r_neIntsT (SqT.of (s2 _ _ e1)) (SqT.of e2) ?_
    walk_at "rd"
    refine r_iteNF rfl ?_
    walk_at "rd"
    refine ⟨by walk_at "sz", fun c1 n1 => ?_⟩
    walk_at "rd"
    have s3 := (s1.trans s2).trans (same_new (o := .tup [.int 0, .int 1]) n1)
    have g1 : (upd H2 c1 (.tup [.int 0, .int 1])) c1 = some (.tup [.int 0, .int 1]) := upd_same
    generalize upd H2 c1 (.tup [.int 0, .int 1]) = H3 at s3 g1 ⊢
    refine ⟨c1, rfl, ⟨_, SqT.of g1⟩, forW (walk_tup (xs := [.int 0, .int 1])) (fun i σ H' => ∃ y6 y7, σ = [some (.ref p), some (.ref wd), some (.int s), some (.str r), some (.str w), some (.str d), y6, y7] ∧ Same H3 H') ⟨none, none, rfl, Same.refl _⟩ (fun i σ H' _ ⟨_, _, _, e⟩ => SqT.of (e _ _ g1)) ?_ ?_⟩
    · rintro i x σ' _ H4 hi0 ⟨y6, y7, rfl, s4⟩ ⟨rfl, hi⟩
      obtain ⟨b, rfl, hb⟩ : ∃ b : Int, x = .int b ∧ (b = 0 ∨ b = 1) := by
        have := List.mem_of_getElem? hi
        simp only [List.mem_cons, List.not_mem_nil, or_false] at this
        rcases this with rfl | rfl
        · exact ⟨0, rfl, .inl rfl⟩
        · exact ⟨1, rfl, .inr rfl⟩
      obtain ⟨m1, m2, m3⟩ := write_same w hw1 s hs1 b (by rcases hb with rfl | rfl <;> simp)
      walk_at "rd"
      refine ⟨w, s, b, rfl, hw1, hb, fun H5 s5 => ?_⟩
      have KA5 := ((KA.up s3).up s4).up s5
      have h15 := s5 _ _ (s4 _ _ (s3 _ _ h1))
      walk_at "rd"
      refine ⟨p, dx, _, rfl, h15, rfl, ?_⟩
      walk_at "rd"
      refine ⟨p, r, w, d, s, b, rfl, KA5, ?_⟩
      rw [m1]
      walk_at "rd"
      refine r_iteNF rfl ?_
      walk_at "rd"
      refine ⟨p, dx, _, rfl, h15, rfl, ?_⟩
      walk_at "rd"
      refine ⟨rfl, p, r, w, d, s, b, rfl, KA5, ?_⟩
      rw [m1]
      walk_at "rd"
      refine r_iteNF rfl ?_
      walk_at "rd"
      refine ⟨p, dx, _, rfl, h15, rfl, ?_⟩
      walk_at "rd"
      refine ⟨rfl, p, r, w, d, s, b, rfl, KA5, ?_⟩
      rw [m2]
      walk_at "rd"
      refine r_iteS2 (fun h => ?_) (fun h => ?_)
      · rw [if_pos h]
        walk_at "rd"
        refine r_iteNF rfl ?_
        walk_at "rd"
        exact ⟨_, _, rfl, s4.trans s5⟩
      · rw [if_neg h]
        walk_at "rd"
        refine r_iteNF rfl ?_
        walk_at "rd"
        exact ⟨_, _, rfl, s4.trans s5⟩
    · rintro σ' H4 ⟨y6, y7, rfl, s4⟩
      walk_at "rd"
      exact q _ (s3.trans s4)
theorem ok_on {f : Addr} {fd : FuncData} (F : Fun K "_law_onward" "_law_onward" s__law_onward f fd) (T : Txt mg)
    (c__law_read : KB.Callee P w K mg base CX0 1 "_law_read" ["_law_first", "_law_stand"] spLR) (c__law_deeds : KB.Callee P w K mg base CX0 1 "_law_deeds" ["_law_third", "_law_stand"] spLD)
    (c__law_write : KB.Callee P w K mg base CX0 1 "_law_write" ["_law_second_word", "_law_stand", "_law_sign"] spLW) (c__law_draw : KB.Callee P w K mg base CX0 1 "_law_draw" ["_law_pen_here", "_law_many"] spDraw) :
    FnOk P w K mg base CX0 2 f fd ["_law_pen_here", "_law_words_here", "_law_stand"] spOn := by
  refine F.ok sc__law_onward (fun vs H Q E h => ?_) (fun cdv A outer s H vs Q E hr h => ?_)
  · obtain ⟨pen, wd, k, r, w, d, s, rfl, _⟩ := h
    rfl
  · obtain ⟨pen, wd, k, r, w, d, s, rfl, pn, hwd, nwd, hr1, hw1, hd1, hs1, q⟩ := h
    refine ⟨_, (pss_cons (ps_set (i := 3) sc__law_onward.nd rfl (by first | exact Or.inl rfl | exact Or.inr rfl) (pe_callC c__law_draw (hr.mono (by decide)) (by rfl) pass0 (pa_cons (pv 0) (pa_cons pe_int pa_nil))))
 (pss_cons (ps_if (pt_cmpR op_eq (pv 3) pe_int (nomark _)) (pss_one (ps_ret (pe_callC c__law_read (hr.mono (by decide)) (by rfl) pass0 (pa_cons (pe_ix ix_tup (pv 1) pe_int (fun _ _ => rfl)) (pa_cons (pv 2) pa_nil)))))
 pss_nil)
 (pss_cons (ps_if (pt_cmpR op_lt (pv 3) pe_int (nomark _)) (pss_one (ps_ret (pe_callC c__law_write (hr.mono (by decide)) (by rfl) pass0 (pa_cons (pe_ix ix_tup (pv 1) pe_int (fun _ _ => rfl)) (pa_cons (pv 2) (pa_cons (pe_op op_sub (pv 3) pe_int) pa_nil))))))
 pss_nil)
 (pss_one (ps_ret (pe_ix ix_tup (pe_op op_catA (pe_callC c__law_deeds (hr.mono (by decide)) (by rfl) pass0 (pa_cons (pe_ix ix_tup (pv 1) pe_int (fun _ _ => rfl)) (pa_cons (pv 2) pa_nil))) (pe_tup (pa_cons (pv 2) pa_nil))) pe_int (fun _ _ => rfl))))))), at_start (σ := [some (.ref pen), some (.ref wd), some (.int s), none]) rfl ?_⟩
    try dsimp only [cx_K]
    walk_at "rd"
    refine ⟨pen, 5, k, rfl, by decide, by decide, pn, fun r1 H1 a1 b1 pn1 kp1 => ?_⟩
    have hwd1 := kp1 _ _ hwd nwd
    walk_at "rd"
    refine r_iteI2 (fun h1 => ?_) (fun h1 => ?_)
    · walk_at "rd"
      refine ⟨r, s, rfl, ?_⟩
      exact q _ _ (read_in r hr1 w hw1 s hs1) pn1 kp1
    · walk_at "rd"
      refine r_ite2 (fun h2 => ?_) (fun h2 => ?_)
      · walk_at "rd"
        have hb : r1 - 1 = 0 ∨ r1 - 1 = 1 := by omega
        obtain ⟨m1, m2, m3⟩ := write_same w hw1 s hs1 (r1 - 1) (by rcases hb with e | e <;> rw [e] <;> simp)
        refine ⟨w, s, r1 - 1, rfl, hw1, hb, fun H2 s2 => ?_⟩
        exact q _ _ m3 (pn1.up s2) (kp1.tr (Keep.same s2))
      · walk_at "rd"
        refine ⟨d, s, rfl, hd1, fun H2 a2 s2 e2 => ?_⟩
        walk_at "rd"
        refine ⟨by walk_at "sz", fun c1 n1 => ?_⟩
        have k1 := s2.trans (same_new (o := .tup [.int s]) n1)
        have g1 : (upd H2 c1 (.tup [.int s])) a2 = _ := upd_new n1 e2
        have g2 : (upd H2 c1 (.tup [.int s])) c1 = _ := upd_same
        generalize upd H2 c1 (.tup [.int s]) = H3 at k1 g1 g2 ⊢
        have hin := deed_in d hd1 w hw1 s hs1
        refine ⟨a2, c1, _, _, rfl, rfl, SqT.of g1, SqT.of g2, ?_, ?_, ?_, ?_⟩
        · unfold deedsOf
          split
          · exact (show 2 ≤ sizeLine by decide)
          · exact (show 1 ≤ sizeLine by decide)
        · intro hx
          walk_at "rd"
          exact q _ _ hs1 (pn1.up k1) (kp1.tr (Keep.same k1))
        · intro _ hy
          cases hy
        · intro hx _ c2 n2
          unfold deedsOf at hx hin ⊢
          split at hx
          · rename_i hm
            rw [if_pos hm] at hin ⊢
            walk_at "rd"
            have k2 := k1.trans (same_new (o := .tup ([.int (s + 1 - 2 * (s % 2))] ++ [.int s])) n2)
            exact q _ _ (hin _ (by simp)) (pn1.up k2) (kp1.tr (Keep.same k2))
          · exact absurd rfl hx
end
end K07


namespace K07
open PySem L2 KB KO
def spLaw (K : PySem.W.Frag) : Sp := fun vs H Q _ => ∃ (a : Addr) (ns : List Int), vs = [.ref a] ∧ SqL K H a (ns.map V.int) ∧ ns.length ≤ 63 ∧ ∀ H', Q (.bl true) H'
theorem PenAt.notTup {H : Hp} {p b : Addr} {k : Nat} {xs : List V} (h : PenAt H p k) (e : H b = some (.tup xs)) : b ≠ p := by
  obtain ⟨c, ns, at_, left, h1, _⟩ := h
  intro z
  subst z
  rw [e] at h1
  cases h1
theorem PenAt.notIns {H : Hp} {p b C dx : Addr} {k : Nat} {fs : List (Str × V)} (h : PenAt H p k) (e : H b = some (.ins C dx fs)) : b ≠ p := by
  obtain ⟨c, ns, at_, left, h1, _⟩ := h
  intro z
  subst z
  rw [e] at h1
  cases h1
theorem KindAt.kp {C : Addr} {H H' : Hp} {p pen : Addr} {r w d : Str} {k : Nat} (h : KindAt C H p r w d) (pn : PenAt H pen k) (s : Keep pen H H') : KindAt C H' p r w d := by
  obtain ⟨dx, st, h1, h2⟩ := h
  exact ⟨dx, st, s _ _ h1 (pn.notIns h1), s _ _ h2 (pn.notTup h2)⟩
theorem states_len (w : Str) : 0 < ((statesOf w).length : Int) ∧ ((statesOf w).length : Int) < 10 := by
  unfold statesOf
  split <;> decide
def dS (zs : List Str) : PyData := .tuple (zs.map PyData.str)
def dI (zs : List Int) : PyData := .tuple (zs.map PyData.int)
theorem dp_strs {K : PySem.W.Frag} {H : Hp} : ∀ zs : List Str, DpAll K H (zs.map V.str) (zs.map PyData.str)
  | [] => .nil
  | _ :: r => .cons (.str _) (dp_strs r)
theorem dp_is {K : PySem.W.Frag} {H : Hp} : ∀ zs : List Int, DpAll K H (zs.map V.int) (zs.map PyData.int)
  | [] => .nil
  | _ :: r => .cons (.int _) (dp_is r)
def dK (r w d : Str) : PyData := .tuple [.str r, .str w, .str d, dI (statesOf w)]
theorem rd_ok : (dS RD).showable = true ∧ (dS RD).hasDict = false ∧ (dS RD).depth ≤ 60 ∧ (dS RD).shown.length ≤ 1000 ∧ (dS RD).shown = "('keep', 'take')" := by decide +kernel
theorem dv_ok : (dS DV).showable = true ∧ (dS DV).hasDict = false ∧ (dS DV).depth ≤ 60 ∧ (dS DV).shown.length ≤ 1000 ∧ (dS DV).shown = "('still', 'raise', 'end', 'drift')" := by decide +kernel
theorem wr_ok : (dS WR).showable = true ∧ (dS WR).hasDict = false ∧ (dS WR).depth ≤ 60 ∧ (dS WR).shown.length ≤ 1000 ∧ (dS WR).shown = "('store', 'clear1', 'clear0', 'set1', 'flip1', 'once', 'none')" := by decide +kernel
theorem dk_ok : ∀ r ∈ RD, ∀ w ∈ WR, ∀ d ∈ DV, (dK r w d).showable = true ∧ (dK r w d).hasDict = false ∧ (dK r w d).depth ≤ 60 ∧ (dK r w d).shown.length ≤ 1000 := by decide +kernel
theorem join_ok : ∀ r ∈ RD, ∀ w ∈ WR, ∀ d ∈ DV, (([r, w, d] : List Str).map (·.length)).sum + ([r, w, d] : List Str).length * (" " : Str).length ≤ 16777216 := by decide +kernel

section
variable {P : Program} {w : World} {K : PySem.W.Frag} {mg : Str → Option Value} {base : Heap}
theorem ok_law {f C dM : Addr} {fd : FuncData} (F : Fun K "law" "law" s_law f fd) (T : TxtM K w mg C dM)
    (mk_Kind : CalleeIK P w K mg base CX0 1 C "Kind" ["self", "reading", "writing", "device"] (spKind C) ["device", "writing", "reading"] gRev)
    (c_Kind___init__ : CalleeI P w K mg base CX0 1 C "Kind" ["self", "reading", "writing", "device"] (spKind C))
    (str_Kind : OwnM P w K mg base 1 C "__str__" ["self"] (spStr C)) (ne_Kind : OwnNe P w K mg base 1 C ["self", "other"] (spEq C))
    (c__law_state_right : KB.Callee P w K mg base CX0 3 "_law_state_right" ["_law_kind", "_law_words_here", "_law_stand"] (spSR C)) (c__law_onward : KB.Callee P w K mg base CX0 2 "_law_onward" ["_law_pen_here", "_law_words_here", "_law_stand"] spOn)
    (c__law_words : KB.Callee P w K mg base CX0 2 "_law_words" ["_law_pen_here"] spWords)
    (c__law_draw : KB.Callee P w K mg base CX0 1 "_law_draw" ["_law_pen_here", "_law_many"] spDraw) (c__law_pen : KB.Callee P w K mg base CX0 1 "_law_pen" ["_law_script"] (spPen K)) : KG.FnG P w K mg base CX0 4 f fd ["_law_script"] (spLaw K) := by
  refine KG.fun_okG F sc_law (fun vs H Q E h => ?_) (fun cdv A outer s H vs Q E hr fr h => ?_)
  · obtain ⟨a, ns, rfl, _⟩ := h
    rfl
  · obtain ⟨a, ns, rfl, hS, hlen, q⟩ := h
    obtain ⟨mc, b1, b2, b3, u1, u2, u3, cr, v1, v2, v3, t1, t2, t3⟩ := T.con
    have sl : 1000 ≤ sizeLine := by decide
    refine ⟨_, (pss_cons (ps_set (i := 1) sc_law.nd rfl (by first | exact Or.inl rfl | exact Or.inr rfl) (pe_callC c__law_pen (hr.mono (by decide)) (by rfl) pass0 (pa_cons (pv 0) pa_nil)))
 (pss_cons (ps_if (PW.pt (pw_or (pt_cmpR op_ne (pe_callB (KG.call_reprD fr hr) (by rfl) T.z_repr (by decide +kernel) (pa_cons (ClX.pe_cval (pe_glob (v := .ref _) (by rfl) T.mg_Kind rfl)) pa_nil)) pe_str (nomark _)) (pw_or1 (pt_cmpR op_ne (pe_callB (KG.call_reprD fr hr) (by rfl) T.z_repr (by decide +kernel) (pa_cons (ClX.pe_cval (pe_glob (v := .ref _) (by rfl) T.mg_Kind rfl)) pa_nil)) pe_str (nomark _))))) (pss_one (ps_ret pe_bl))
 pss_nil)
 (pss_cons (ps_if (pt_cmpR op_ne (pe_callB (KG.call_reprD fr hr) (by rfl) T.z_repr (by decide +kernel) (pa_cons (ClX.pe_cval (pe_glob (v := .ref _) (by rfl) T.mg_Kind rfl)) pa_nil)) pe_str (nomark _)) (pss_one (ps_ret pe_bl))
 pss_nil)
 (pss_cons (ps_for PassesOwn.never rfl (pi_range1 rfl T.z_range (pa_cons pe_int pa_nil)) (pg_name (i := 2) sc_law.nd rfl (by first | exact Or.inl rfl | exact Or.inr rfl))
 (pss_cons (ps_set (i := 3) sc_law.nd rfl (by first | exact Or.inl rfl | exact Or.inr rfl) (pe_callC c__law_words (hr.mono (by decide)) (by rfl) pass0 (pa_cons (pv 1) pa_nil)))
 (pss_cons (ps_set (i := 4) sc_law.nd rfl (by first | exact Or.inl rfl | exact Or.inr rfl) (KO.pe_makeKC mk_Kind (hr.mono (by decide)) (by rfl) pass0 (pk_cons (pe_ix ix_tup (pv 3) pe_int (fun _ _ => rfl)) (pk_cons (pe_ix ix_tup (pv 3) pe_int (fun _ _ => rfl)) (pk_cons (pe_ix ix_tup (pv 3) pe_int (fun _ _ => rfl)) pk_nil)))))
 (pss_cons (ps_set (i := 5) sc_law.nd rfl (by first | exact Or.inl rfl | exact Or.inr rfl) (pe_ifExp (pt_cmpR op_eq (pe_ix ix_tup (pv 3) pe_int (fun _ _ => rfl)) pe_str (nomark _)) (pe_tup (pa_cons pe_int (pa_cons pe_int (pa_cons pe_int (pa_cons pe_int pa_nil))))) (pe_tup (pa_cons pe_int (pa_cons pe_int pa_nil)))))
 (pss_cons (ps_if (pt_cmpR op_ne (pe_callB (KG.call_reprD fr hr) (by rfl) T.z_repr (by decide +kernel) (pa_cons (pe_tup (pa_cons (pe_fld (pv 4) rfl) (pa_cons (pe_fld (pv 4) rfl) (pa_cons (pe_fld (pv 4) rfl) (pa_cons (pe_fld (pv 4) rfl) pa_nil))))) pa_nil)) (pe_callB (KG.call_reprD fr hr) (by rfl) T.z_repr (by decide +kernel) (pa_cons (pe_op op_catA (pv 3) (pe_tup (pa_cons (pv 5) pa_nil))) pa_nil)) (nomark _)) (pss_one (ps_ret pe_bl))
 pss_nil)
 (pss_cons (ps_set (i := 6) sc_law.nd rfl (by first | exact Or.inl rfl | exact Or.inr rfl) (pe_ix ix_tup (pv 5) (pe_callC c__law_draw (hr.mono (by decide)) (by rfl) pass0 (pa_cons (pv 1) (pa_cons (pe_callB call_len_seq (by rfl) T.z_len (by decide +kernel) (pa_cons (pv 5) pa_nil)) pa_nil))) (fun _ _ => rfl)))
 (pss_cons (ps_for PassesOwn.never rfl (pi_range1 rfl T.z_range (pa_cons pe_int pa_nil)) (pg_name (i := 7) sc_law.nd rfl (by first | exact Or.inl rfl | exact Or.inr rfl))
 (pss_cons (ps_if (pt_not (pt_val (pe_callC c__law_state_right (hr.mono (by decide)) (by rfl) pass0 (pa_cons (pv 4) (pa_cons (pv 3) (pa_cons (pv 6) pa_nil)))))) (pss_one (ps_ret pe_bl))
 pss_nil)
 (pss_one (ps_set (i := 6) sc_law.nd rfl (by first | exact Or.inl rfl | exact Or.inr rfl) (pe_callC c__law_onward (hr.mono (by decide)) (by rfl) pass0 (pa_cons (pv 1) (pa_cons (pv 3) (pa_cons (pv 6) pa_nil))))))))
 (pss_one (ps_if (PW.pt (pw_or (pt_cmpR op_ne (pe_callTy (KO.call_strO str_Kind (hr.mono (by decide))) (by rfl) T.z_str (by decide +kernel) (pa_cons (pv 4) pa_nil)) (pe_join pe_str (pv 3)) (nomark _)) (pw_or1 (pt_cmpR (KO.op_neO ne_Kind (hr.mono (by decide))) (pv 4) (pe_makeC c_Kind___init__ (hr.mono (by decide)) (by rfl) pass0 (pa_cons (pe_ix ix_tup (pv 3) pe_int (fun _ _ => rfl)) (pa_cons (pe_ix ix_tup (pv 3) pe_int (fun _ _ => rfl)) (pa_cons (pe_ix ix_tup (pv 3) pe_int (fun _ _ => rfl)) pa_nil)))) (nomark _))))) (pss_one (ps_ret pe_bl))
 pss_nil)))))))))
 (pss_one (ps_ret pe_bl)))))), at_start (σ := [some (.ref a), none, none, none, none, none, none, none]) rfl ?_⟩
    try dsimp only [cx_K]
    walk_at "rd"
    refine ⟨a, ns, rfl, hS, hlen, fun H1 pen s1 n1 pn => ?_⟩
    walk_at "rd"
    refine ⟨_, dS RD, rfl, .tup (t1 _) (dp_strs RD), rd_ok.1, rd_ok.2.1, rd_ok.2.2.1, Nat.le_trans rd_ok.2.2.2.1 sl, ?_⟩
    rw [rd_ok.2.2.2.2]
    walk_at "rd"
    refine r_iteNF rfl ?_
    walk_at "rd"
    refine ⟨_, dS DV, rfl, .tup (t3 _) (dp_strs DV), dv_ok.1, dv_ok.2.1, dv_ok.2.2.1, Nat.le_trans dv_ok.2.2.2.1 sl, ?_⟩
    rw [dv_ok.2.2.2.2]
    walk_at "rd"
    refine r_iteNF rfl ?_
    walk_at "rd"
    refine ⟨_, dS WR, rfl, .tup (t2 _) (dp_strs WR), wr_ok.1, wr_ok.2.1, wr_ok.2.2.1, Nat.le_trans wr_ok.2.2.2.1 sl, ?_⟩
    rw [wr_ok.2.2.2.2]
    walk_at "rd"
    refine r_iteNF rfl ?_
    walk_at "rd"
    refine ⟨by decide, by decide, ?_⟩
    refine forW (walk_range (lo := 0) (n := 6)) (fun i σ H' => ∃ y2 y3 y4 y5 y6 y7, σ = [some (.ref a), some (.ref pen), y2, y3, y4, y5, y6, y7] ∧ PenAt H' pen (1000 - 20 * i))
      ⟨_, _, _, _, _, _, rfl, pn.mono (by omega)⟩ (fun _ _ _ _ _ => trivial) ?_ ?_
    · rintro i x σ' _ H2 hi ⟨y2, y3, y4, y5, y6, y7, rfl, pn⟩ ⟨rfl, rfl⟩
      walk_at "rd"
      refine ⟨pen, 1000 - 20 * i - 3, rfl, pn.mono (by omega), fun r w d H3 wd hr1 hw1 hd1 pn3 kp3 ewd => ?_⟩
      obtain ⟨k1, k2, k3, k4⟩ := dk_ok r hr1 w hw1 d hd1
      have hjn := join_ok r hr1 w hw1 d hd1
      clear kp3 pn
      walk_at "rd"
      refine ⟨rfl, rfl, fun x dx nx ndx nxd => ?_⟩
      refine ⟨x, dx, r, w, d, rfl, hr1, hw1, hd1, upd_same, fun H4 KA kp => ⟨rfl, ?_⟩⟩
      have s4 : Same H3 H4 := fun b o e => kp b o (by rw [upd_ne (ne_of_none e nx), upd_ne (ne_of_none e ndx)]; exact e) (ne_of_none e nx)
      have pn4 := pn3.up s4
      have ewd4 := s4 _ _ ewd
      clear kp s4 ewd nx ndx nxd pn3
      walk_at "rd"
      refine ite_join (fun v H' => ∃ p, H4 p = none ∧ v = .ref p ∧ H' = upd H4 p (.tup ((statesOf w).map V.int))) (fun h Q q => ?_) (fun h Q q => ?_) ?_
      · walk_at "rd"
        refine ⟨by walk_at "sz", fun st nst => ?_⟩
        refine q _ _ ⟨st, nst, rfl, ?_⟩
        rw [statesOf, if_pos (V.str.inj h)]
        rfl
      · walk_at "rd"
        refine ⟨by walk_at "sz", fun st nst => ?_⟩
        refine q _ _ ⟨st, nst, rfl, ?_⟩
        rw [statesOf, if_neg (fun z => h (by rw [z]))]
        rfl
      rintro v H' ⟨st2, nst, rfl, rfl⟩
      have s5 := same_new (o := .tup ((statesOf w).map V.int)) nst
      have est : (upd H4 st2 (.tup ((statesOf w).map V.int))) st2 = some (.tup ((statesOf w).map V.int)) := upd_same
      generalize upd H4 st2 (.tup ((statesOf w).map V.int)) = H5 at s5 est ⊢
      have pn5 := pn4.up s5
      have ewd5 := s5 _ _ ewd4
      have KA5 := KA.up s5
      clear KA pn4 s5 ewd4 nst
      have KA' := KA5
      obtain ⟨dx', st, h1, h2⟩ := KA'
      have cl := T.cl; have nr := T.n_reading; have nw := T.n_writing; have nd := T.n_device; have nst := T.n_states
      walk_at "rd"
      refine ⟨by walk_at "sz", fun c1 m1 => ?_⟩
      walk_at "rd"
      refine ⟨_, dK r w d, rfl, .tup (SqT.of upd_same) (.cons (.str _) (.cons (.str _) (.cons (.str _) (.cons (.tup (SqT.of (upd_new m1 h2)) (dp_is _)) .nil)))), k1, k2, k3, Nat.le_trans k4 sl, ?_⟩
      generalize hsh : (dK r w d).shown = sh
      walk_at "rd"
      refine ⟨by walk_at "sz", fun c2 m2 => ?_⟩
      have s7 := (same_new (o := .tup [.str r, .str w, .str d, .ref st]) m1).trans (same_new (o := .tup [.ref st2]) m2)
      have e2 : (upd (upd H5 c1 (.tup [.str r, .str w, .str d, .ref st])) c2 (.tup [.ref st2])) c2 = _ := upd_same
      generalize upd (upd H5 c1 (.tup [.str r, .str w, .str d, .ref st])) c2 (.tup [.ref st2]) = H7 at s7 e2 ⊢
      refine ⟨wd, c2, _, _, rfl, rfl, SqT.of (s7 _ _ ewd5), SqT.of e2, (show 4 ≤ sizeLine by decide), (fun z => by cases z), (fun _ z => by cases z), fun _ _ c3 m3 => ?_⟩
      walk_at "rd"
      refine ⟨_, dK r w d, rfl, .tup (SqT.of upd_same) (.cons (.str _) (.cons (.str _) (.cons (.str _) (.cons (.tup (SqT.of (upd_new m3 (s7 _ _ est))) (dp_is _)) .nil)))), k1, k2, k3, Nat.le_trans k4 sl, ?_⟩
      rw [hsh]
      walk_at "rd"
      refine r_iteNF rfl ?_
      have s8 := s7.trans (same_new (o := .tup ([.str r, .str w, .str d] ++ [.ref st2])) m3)
      generalize upd H7 c3 (.tup ([.str r, .str w, .str d] ++ [.ref st2])) = H8 at s8 ⊢
      have pn8 := pn5.up s8
      have KA8 := KA5.up s8
      have ewd8 := s8 _ _ ewd5
      have est8 := s8 _ _ est
      clear s7 s8 pn5 KA5 ewd5 est m1 m2 m3 e2 h1 h2
      walk_at "rd"
      refine ⟨st2, _, rfl, .inr (SqT.of est8), ?_⟩
      walk_at "rd"
      rw [List.length_map]
      obtain ⟨j1, j2⟩ := states_len w
      refine ⟨pen, _, 1000 - 20 * i - 4, rfl, by omega, by omega, pn8.mono (by omega), fun r1 H9 a1 b1 pn9 kp9 => ?_⟩
      have KA9 := KA8.kp pn8 kp9
      have ewd9 := kp9 _ _ ewd8 (pn8.notTup ewd8)
      have est9 := kp9 _ _ est8 (pn8.notTup est8)
      clear KA8 ewd8 est8 pn8 kp9
      obtain ⟨s0, hs0, at1⟩ := atI_map (xs := statesOf w) (g := V.int) a1 b1
      refine r_ixT (xs := (statesOf w).map V.int) (SqT.of est9) at1 ?_
      clear est9 at1 a1 b1
      walk_at "rd"
      refine ⟨by decide, by decide, ?_⟩
      refine forW (walk_range (lo := 0) (n := 8)) (fun j σ H' => ∃ s' y7, σ = [some (.ref a), some (.ref pen), some (.int (0 + (i : Int))), some (.ref wd), some (.ref x), some (.ref st2), some (.int s'), y7] ∧ s' ∈ statesOf w ∧ PenAt H' pen (1000 - 20 * i - 4 - j) ∧ KindAt C H' x r w d ∧ H' wd = some (.tup [.str r, .str w, .str d]))
        ⟨_, _, rfl, hs0, pn9, KA9, ewd9⟩ (fun _ _ _ _ _ => trivial) ?_ ?_
      · rintro j z σ' _ H10 hj ⟨s', y7, rfl, hs1, pn10, KA10, ewd10⟩ ⟨rfl, rfl⟩
        walk_at "rd"
        refine ⟨x, wd, r, w, d, s', rfl, KA10, ewd10, hr1, hw1, hd1, hs1, fun H11 s11 => ?_⟩
        have pn11 := pn10.up s11
        have KA11 := KA10.up s11
        have ewd11 := s11 _ _ ewd10
        walk_at "rd"
        refine ⟨pen, wd, 1000 - 20 * i - 4 - (j + 1), r, w, d, s', rfl, pn11.mono (by omega), ewd11, pn11.notTup ewd11, hr1, hw1, hd1, hs1, fun s2 H12 hs2 pn12 kp12 => ?_⟩
        walk_at "rd"
        exact ⟨_, _, rfl, hs2, pn12, KA11.kp pn11 kp12, kp12 _ _ ewd11 (pn11.notTup ewd11)⟩
      · rintro σ' H10 ⟨s', y7, rfl, hs1, pn10, KA10, ewd10⟩
        have KA' := KA10
        obtain ⟨dx', st, h1, h2⟩ := KA'
        walk_at "rd"
        refine ⟨x, dx', _, rfl, h1, x, r, w, d, rfl, KA10, hr1, hw1, hd1, _, rfl, ?_⟩
        walk_at "rd"
        refine ⟨" ", wd, [r, w, d], rfl, rfl, .inr (SqT.of ewd10), hjn, ?_⟩
        generalize Txt.join " " [r, w, d] = jn
        walk_at "rd"
        refine r_iteNF rfl ?_
        walk_at "rd"
        intro x2 dx2 nx2 ndx2 nxd2
        refine ⟨x2, dx2, r, w, d, rfl, hr1, hw1, hd1, upd_same, fun H11 KA2 kp2 => ⟨rfl, ?_⟩⟩
        have s11 : Same H10 H11 := fun b o e => kp2 b o (by rw [upd_ne (ne_of_none e nx2), upd_ne (ne_of_none e ndx2)]; exact e) (ne_of_none e nx2)
        have KA2' := KA2
        obtain ⟨dx3, st3, h3, h4⟩ := KA2'
        refine ⟨x, dx', _, x2, dx3, _, rfl, rfl, s11 _ _ h1, h3, x, x2, r, w, d, r, w, d, rfl, KA10.up s11, KA2, _, rfl, ?_⟩
        walk_at "rd"
        refine r_iteNF ⟨rfl, rfl, rfl⟩ ?_
        walk_at "rd"
        exact ⟨_, _, _, _, _, _, rfl, (pn10.up s11).mono (by omega)⟩
    · rintro σ' H2 ⟨y2, y3, y4, y5, y6, y7, rfl, pn⟩
      walk_at "rd"
      exact q _
end
end K07


namespace K07
open PySem L2 KB KO
theorem sqK {K : PySem.W.Frag} {a : Addr} {dd : Option Addr} {its : Array Value} {n : Nat} {sl : Array (Option Value)} {xs : List V} (h : K.lookup a = some ⟨.type "tuple", dd, .seq its n, sl⟩) (hz : its.size ≤ 100) (r : Vals xs its.toList) : ∀ H, SqT K H a xs :=
  fun _ => .inr ⟨_, its, n, h, rfl, rfl, Nat.le_trans hz (by decide), r⟩
theorem vals_rev : ∀ {xs : List V} {us : List Value}, Vals xs us → Vals xs.reverse us.reverse
  | _, _, .nil => .nil
  | _, _, .cons h t => by
    rw [List.reverse_cons, List.reverse_cons]
    exact (vals_rev t).append (.cons h .nil)
theorem all_mk {l : PySem.W.OpenLaw} {w : World} {K : PySem.W.Frag} {h : Heap} {mg : Str → Option Value} {fa C_Kind t_Kind_READINGS t_Kind_WRITINGS t_Kind_DEVICES f_Kind___init__ f_Kind___eq__ f_Kind___str__ f_Kind_after_read f_Kind_after_write f_Kind_unguarded f_Kind_deeds f__law_pen f__law_draw f__law_write f__law_read f__law_deeds f__law_words f__law_state_right f__law_onward f_law dM a_m0 a_m1 a_m2 a_m3 N_Kind : Addr} (X : K.In h) (G : h.Ns mainGlobals mg) (hfa : mg "law" = some (.ref fa))
    {dd_t_Kind_READINGS : Option Addr} {n_t_Kind_READINGS : Nat} {sl_t_Kind_READINGS : Array (Option Value)}
    {k_t_Kind_READINGS_0 k_t_Kind_READINGS_1 : Tok}
    {dd_t_Kind_WRITINGS : Option Addr} {n_t_Kind_WRITINGS : Nat} {sl_t_Kind_WRITINGS : Array (Option Value)}
    {k_t_Kind_WRITINGS_0 k_t_Kind_WRITINGS_1 k_t_Kind_WRITINGS_2 k_t_Kind_WRITINGS_3 k_t_Kind_WRITINGS_4 k_t_Kind_WRITINGS_5 k_t_Kind_WRITINGS_6 : Tok}
    {dd_t_Kind_DEVICES : Option Addr} {n_t_Kind_DEVICES : Nat} {sl_t_Kind_DEVICES : Array (Option Value)}
    {k_t_Kind_DEVICES_0 k_t_Kind_DEVICES_1 k_t_Kind_DEVICES_2 k_t_Kind_DEVICES_3 : Tok}
    {od_Kind___init__ an_Kind___init__ : Option Addr} {sl_Kind___init__ : Array (Option Value)} {oc_Kind___init__ kV_Kind___init__ dc_Kind___init__ pm_Kind___init__ cd_Kind___init__ ct_Kind___init__ : Value}
    {od_Kind___eq__ an_Kind___eq__ : Option Addr} {sl_Kind___eq__ : Array (Option Value)} {oc_Kind___eq__ kV_Kind___eq__ dc_Kind___eq__ pm_Kind___eq__ cd_Kind___eq__ ct_Kind___eq__ : Value}
    {od_Kind___str__ an_Kind___str__ : Option Addr} {sl_Kind___str__ : Array (Option Value)} {oc_Kind___str__ kV_Kind___str__ dc_Kind___str__ pm_Kind___str__ cd_Kind___str__ ct_Kind___str__ : Value}
    {od_Kind_after_read an_Kind_after_read : Option Addr} {sl_Kind_after_read : Array (Option Value)} {oc_Kind_after_read kV_Kind_after_read dc_Kind_after_read pm_Kind_after_read cd_Kind_after_read ct_Kind_after_read : Value}
    {od_Kind_after_write an_Kind_after_write : Option Addr} {sl_Kind_after_write : Array (Option Value)} {oc_Kind_after_write kV_Kind_after_write dc_Kind_after_write pm_Kind_after_write cd_Kind_after_write ct_Kind_after_write : Value}
    {od_Kind_unguarded an_Kind_unguarded : Option Addr} {sl_Kind_unguarded : Array (Option Value)} {oc_Kind_unguarded kV_Kind_unguarded dc_Kind_unguarded pm_Kind_unguarded cd_Kind_unguarded ct_Kind_unguarded : Value}
    {od_Kind_deeds an_Kind_deeds : Option Addr} {sl_Kind_deeds : Array (Option Value)} {oc_Kind_deeds kV_Kind_deeds dc_Kind_deeds pm_Kind_deeds cd_Kind_deeds ct_Kind_deeds : Value}
    {od__law_pen an__law_pen : Option Addr} {sl__law_pen : Array (Option Value)} {oc__law_pen kV__law_pen dc__law_pen pm__law_pen cd__law_pen ct__law_pen : Value}
    {od__law_draw an__law_draw : Option Addr} {sl__law_draw : Array (Option Value)} {oc__law_draw kV__law_draw dc__law_draw pm__law_draw cd__law_draw ct__law_draw : Value}
    {od__law_write an__law_write : Option Addr} {sl__law_write : Array (Option Value)} {oc__law_write kV__law_write dc__law_write pm__law_write cd__law_write ct__law_write : Value}
    {od__law_read an__law_read : Option Addr} {sl__law_read : Array (Option Value)} {oc__law_read kV__law_read dc__law_read pm__law_read cd__law_read ct__law_read : Value}
    {od__law_deeds an__law_deeds : Option Addr} {sl__law_deeds : Array (Option Value)} {oc__law_deeds kV__law_deeds dc__law_deeds pm__law_deeds cd__law_deeds ct__law_deeds : Value}
    {od__law_words an__law_words : Option Addr} {sl__law_words : Array (Option Value)} {oc__law_words kV__law_words dc__law_words pm__law_words cd__law_words ct__law_words : Value}
    {od__law_state_right an__law_state_right : Option Addr} {sl__law_state_right : Array (Option Value)} {oc__law_state_right kV__law_state_right dc__law_state_right pm__law_state_right cd__law_state_right ct__law_state_right : Value}
    {od__law_onward an__law_onward : Option Addr} {sl__law_onward : Array (Option Value)} {oc__law_onward kV__law_onward dc__law_onward pm__law_onward cd__law_onward ct__law_onward : Value}
    {od_law an_law : Option Addr} {sl_law : Array (Option Value)} {oc_law kV_law dc_law pm_law cd_law ct_law : Value}
    {es_M : Array DictEntry} {n_M : Nat}
    {dd_0 dd_1 dd_2 dd_3 : Option Addr} {q_0 q_1 q_2 q_3 : Nat} {sl_0 sl_1 sl_2 sl_3 : Array (Option Value)} {tk_1 tk_2 tk_3 tk_4 : Tok}
    {nm_K qq_K : Str} {bs_K : List Value} {hd_K : Bool} {sn_K : List Str} {sub_K : List Value} {ab_K : Bool} {col_K : Option Bool} {dd_K : Option Addr} {k0_K k1_K k2_K k3_K k5_K : Option Value} {nid_K : String}
    {o_K o_N : Obj}
    (aC_Kind : PySem.W.nsIn K mainGlobals "Kind" = some (some (.ref C_Kind)))
    (pg_Kind : PySem.W.plainGet K C_Kind Str.empty = true)
    (hd_Kind : PySem.W.hasDictIn K C_Kind = true)
    (po_Kind : PySem.W.plainOver K C_Kind = true)
    (sa_Kind : PySem.W.findIn K (.ref C_Kind) "__setattr__" = some (some (.builtin "object.__setattr__")))
    (mk_Kind : PySem.W.makesIn K C_Kind = true)
    (kc_Kind : PySem.W.keepIn K (.ref C_Kind) = true)
    (n_Kind_reading : PySem.W.findIn K (.ref C_Kind) "reading" = some none)
    (n_Kind_writing : PySem.W.findIn K (.ref C_Kind) "writing" = some none)
    (n_Kind_device : PySem.W.findIn K (.ref C_Kind) "device" = some none)
    (n_Kind_states : PySem.W.findIn K (.ref C_Kind) "states" = some none)
    (rd_Kind : PySem.W.readsIn K C_Kind (.type "type") = true)
    (ga_Kind : PySem.W.specialIn K (.ref C_Kind) "__getattribute__" = some (some (.builtin "type.__getattribute__")))
    (fc_t_Kind_READINGS : PySem.W.findCls K (.ref C_Kind) (.type "type") "READINGS" = some (.val (.ref t_Kind_READINGS)))
    (lk_t_Kind_READINGS : K.lookup t_Kind_READINGS = some ⟨.type "tuple", dd_t_Kind_READINGS, .seq #[.str "keep" k_t_Kind_READINGS_0, .str "take" k_t_Kind_READINGS_1] n_t_Kind_READINGS, sl_t_Kind_READINGS⟩)
    (fc_t_Kind_WRITINGS : PySem.W.findCls K (.ref C_Kind) (.type "type") "WRITINGS" = some (.val (.ref t_Kind_WRITINGS)))
    (lk_t_Kind_WRITINGS : K.lookup t_Kind_WRITINGS = some ⟨.type "tuple", dd_t_Kind_WRITINGS, .seq #[.str "store" k_t_Kind_WRITINGS_0, .str "clear1" k_t_Kind_WRITINGS_1, .str "clear0" k_t_Kind_WRITINGS_2, .str "set1" k_t_Kind_WRITINGS_3, .str "flip1" k_t_Kind_WRITINGS_4, .str "once" k_t_Kind_WRITINGS_5, .str "none" k_t_Kind_WRITINGS_6] n_t_Kind_WRITINGS, sl_t_Kind_WRITINGS⟩)
    (fc_t_Kind_DEVICES : PySem.W.findCls K (.ref C_Kind) (.type "type") "DEVICES" = some (.val (.ref t_Kind_DEVICES)))
    (lk_t_Kind_DEVICES : K.lookup t_Kind_DEVICES = some ⟨.type "tuple", dd_t_Kind_DEVICES, .seq #[.str "still" k_t_Kind_DEVICES_0, .str "raise" k_t_Kind_DEVICES_1, .str "end" k_t_Kind_DEVICES_2, .str "drift" k_t_Kind_DEVICES_3] n_t_Kind_DEVICES, sl_t_Kind_DEVICES⟩)
    (a_Kind___init__ : PySem.W.findIn K (.ref C_Kind) "__init__" = some (some (.ref f_Kind___init__)))
    (i_Kind___init__ : PySem.W.isFn K (.ref f_Kind___init__) = true)
    (l_Kind___init__ : K.lookup f_Kind___init__ = some ⟨oc_Kind___init__, od_Kind___init__, .func (PySem.W.fnOf "__init__" "Kind.__init__" (defArgs s_Kind___init__) (defBody s_Kind___init__) (defScope s_Kind___init__) .none kV_Kind___init__ dc_Kind___init__ pm_Kind___init__ an_Kind___init__ cd_Kind___init__ ct_Kind___init__), sl_Kind___init__⟩)
    (c_Kind___init__ : PySem.W.codeIn K cd_Kind___init__ "Kind.__init__" = true)
    (k_Kind___init__ : PySem.W.keepIn K (.ref f_Kind___init__) = true)
    (a_Kind___eq__ : PySem.W.findIn K (.ref C_Kind) "__eq__" = some (some (.ref f_Kind___eq__)))
    (i_Kind___eq__ : PySem.W.isFn K (.ref f_Kind___eq__) = true)
    (l_Kind___eq__ : K.lookup f_Kind___eq__ = some ⟨oc_Kind___eq__, od_Kind___eq__, .func (PySem.W.fnOf "__eq__" "Kind.__eq__" (defArgs s_Kind___eq__) (defBody s_Kind___eq__) (defScope s_Kind___eq__) .none kV_Kind___eq__ dc_Kind___eq__ pm_Kind___eq__ an_Kind___eq__ cd_Kind___eq__ ct_Kind___eq__), sl_Kind___eq__⟩)
    (c_Kind___eq__ : PySem.W.codeIn K cd_Kind___eq__ "Kind.__eq__" = true)
    (k_Kind___eq__ : PySem.W.keepIn K (.ref f_Kind___eq__) = true)
    (a_Kind___str__ : PySem.W.findIn K (.ref C_Kind) "__str__" = some (some (.ref f_Kind___str__)))
    (i_Kind___str__ : PySem.W.isFn K (.ref f_Kind___str__) = true)
    (l_Kind___str__ : K.lookup f_Kind___str__ = some ⟨oc_Kind___str__, od_Kind___str__, .func (PySem.W.fnOf "__str__" "Kind.__str__" (defArgs s_Kind___str__) (defBody s_Kind___str__) (defScope s_Kind___str__) .none kV_Kind___str__ dc_Kind___str__ pm_Kind___str__ an_Kind___str__ cd_Kind___str__ ct_Kind___str__), sl_Kind___str__⟩)
    (c_Kind___str__ : PySem.W.codeIn K cd_Kind___str__ "Kind.__str__" = true)
    (k_Kind___str__ : PySem.W.keepIn K (.ref f_Kind___str__) = true)
    (a_Kind_after_read : PySem.W.findIn K (.ref C_Kind) "after_read" = some (some (.ref f_Kind_after_read)))
    (i_Kind_after_read : PySem.W.isFn K (.ref f_Kind_after_read) = true)
    (l_Kind_after_read : K.lookup f_Kind_after_read = some ⟨oc_Kind_after_read, od_Kind_after_read, .func (PySem.W.fnOf "after_read" "Kind.after_read" (defArgs s_Kind_after_read) (defBody s_Kind_after_read) (defScope s_Kind_after_read) .none kV_Kind_after_read dc_Kind_after_read pm_Kind_after_read an_Kind_after_read cd_Kind_after_read ct_Kind_after_read), sl_Kind_after_read⟩)
    (c_Kind_after_read : PySem.W.codeIn K cd_Kind_after_read "Kind.after_read" = true)
    (k_Kind_after_read : PySem.W.keepIn K (.ref f_Kind_after_read) = true)
    (a_Kind_after_write : PySem.W.findIn K (.ref C_Kind) "after_write" = some (some (.ref f_Kind_after_write)))
    (i_Kind_after_write : PySem.W.isFn K (.ref f_Kind_after_write) = true)
    (l_Kind_after_write : K.lookup f_Kind_after_write = some ⟨oc_Kind_after_write, od_Kind_after_write, .func (PySem.W.fnOf "after_write" "Kind.after_write" (defArgs s_Kind_after_write) (defBody s_Kind_after_write) (defScope s_Kind_after_write) .none kV_Kind_after_write dc_Kind_after_write pm_Kind_after_write an_Kind_after_write cd_Kind_after_write ct_Kind_after_write), sl_Kind_after_write⟩)
    (c_Kind_after_write : PySem.W.codeIn K cd_Kind_after_write "Kind.after_write" = true)
    (k_Kind_after_write : PySem.W.keepIn K (.ref f_Kind_after_write) = true)
    (a_Kind_unguarded : PySem.W.findIn K (.ref C_Kind) "unguarded" = some (some (.ref f_Kind_unguarded)))
    (i_Kind_unguarded : PySem.W.isFn K (.ref f_Kind_unguarded) = true)
    (l_Kind_unguarded : K.lookup f_Kind_unguarded = some ⟨oc_Kind_unguarded, od_Kind_unguarded, .func (PySem.W.fnOf "unguarded" "Kind.unguarded" (defArgs s_Kind_unguarded) (defBody s_Kind_unguarded) (defScope s_Kind_unguarded) .none kV_Kind_unguarded dc_Kind_unguarded pm_Kind_unguarded an_Kind_unguarded cd_Kind_unguarded ct_Kind_unguarded), sl_Kind_unguarded⟩)
    (c_Kind_unguarded : PySem.W.codeIn K cd_Kind_unguarded "Kind.unguarded" = true)
    (k_Kind_unguarded : PySem.W.keepIn K (.ref f_Kind_unguarded) = true)
    (a_Kind_deeds : PySem.W.findIn K (.ref C_Kind) "deeds" = some (some (.ref f_Kind_deeds)))
    (i_Kind_deeds : PySem.W.isFn K (.ref f_Kind_deeds) = true)
    (l_Kind_deeds : K.lookup f_Kind_deeds = some ⟨oc_Kind_deeds, od_Kind_deeds, .func (PySem.W.fnOf "deeds" "Kind.deeds" (defArgs s_Kind_deeds) (defBody s_Kind_deeds) (defScope s_Kind_deeds) .none kV_Kind_deeds dc_Kind_deeds pm_Kind_deeds an_Kind_deeds cd_Kind_deeds ct_Kind_deeds), sl_Kind_deeds⟩)
    (c_Kind_deeds : PySem.W.codeIn K cd_Kind_deeds "Kind.deeds" = true)
    (k_Kind_deeds : PySem.W.keepIn K (.ref f_Kind_deeds) = true)
    (a__law_pen : PySem.W.nsIn K mainGlobals "_law_pen" = some (some (.ref f__law_pen)))
    (l__law_pen : K.lookup f__law_pen = some ⟨oc__law_pen, od__law_pen, .func (PySem.W.fnOf "_law_pen" "_law_pen" (defArgs s__law_pen) (defBody s__law_pen) (defScope s__law_pen) .none kV__law_pen dc__law_pen pm__law_pen an__law_pen cd__law_pen ct__law_pen), sl__law_pen⟩)
    (c__law_pen : PySem.W.codeIn K cd__law_pen "_law_pen" = true)
    (k__law_pen : PySem.W.keepIn K (.ref f__law_pen) = true)
    (a__law_draw : PySem.W.nsIn K mainGlobals "_law_draw" = some (some (.ref f__law_draw)))
    (l__law_draw : K.lookup f__law_draw = some ⟨oc__law_draw, od__law_draw, .func (PySem.W.fnOf "_law_draw" "_law_draw" (defArgs s__law_draw) (defBody s__law_draw) (defScope s__law_draw) .none kV__law_draw dc__law_draw pm__law_draw an__law_draw cd__law_draw ct__law_draw), sl__law_draw⟩)
    (c__law_draw : PySem.W.codeIn K cd__law_draw "_law_draw" = true)
    (k__law_draw : PySem.W.keepIn K (.ref f__law_draw) = true)
    (a__law_write : PySem.W.nsIn K mainGlobals "_law_write" = some (some (.ref f__law_write)))
    (l__law_write : K.lookup f__law_write = some ⟨oc__law_write, od__law_write, .func (PySem.W.fnOf "_law_write" "_law_write" (defArgs s__law_write) (defBody s__law_write) (defScope s__law_write) .none kV__law_write dc__law_write pm__law_write an__law_write cd__law_write ct__law_write), sl__law_write⟩)
    (c__law_write : PySem.W.codeIn K cd__law_write "_law_write" = true)
    (k__law_write : PySem.W.keepIn K (.ref f__law_write) = true)
    (a__law_read : PySem.W.nsIn K mainGlobals "_law_read" = some (some (.ref f__law_read)))
    (l__law_read : K.lookup f__law_read = some ⟨oc__law_read, od__law_read, .func (PySem.W.fnOf "_law_read" "_law_read" (defArgs s__law_read) (defBody s__law_read) (defScope s__law_read) .none kV__law_read dc__law_read pm__law_read an__law_read cd__law_read ct__law_read), sl__law_read⟩)
    (c__law_read : PySem.W.codeIn K cd__law_read "_law_read" = true)
    (k__law_read : PySem.W.keepIn K (.ref f__law_read) = true)
    (a__law_deeds : PySem.W.nsIn K mainGlobals "_law_deeds" = some (some (.ref f__law_deeds)))
    (l__law_deeds : K.lookup f__law_deeds = some ⟨oc__law_deeds, od__law_deeds, .func (PySem.W.fnOf "_law_deeds" "_law_deeds" (defArgs s__law_deeds) (defBody s__law_deeds) (defScope s__law_deeds) .none kV__law_deeds dc__law_deeds pm__law_deeds an__law_deeds cd__law_deeds ct__law_deeds), sl__law_deeds⟩)
    (c__law_deeds : PySem.W.codeIn K cd__law_deeds "_law_deeds" = true)
    (k__law_deeds : PySem.W.keepIn K (.ref f__law_deeds) = true)
    (a__law_words : PySem.W.nsIn K mainGlobals "_law_words" = some (some (.ref f__law_words)))
    (l__law_words : K.lookup f__law_words = some ⟨oc__law_words, od__law_words, .func (PySem.W.fnOf "_law_words" "_law_words" (defArgs s__law_words) (defBody s__law_words) (defScope s__law_words) .none kV__law_words dc__law_words pm__law_words an__law_words cd__law_words ct__law_words), sl__law_words⟩)
    (c__law_words : PySem.W.codeIn K cd__law_words "_law_words" = true)
    (k__law_words : PySem.W.keepIn K (.ref f__law_words) = true)
    (a__law_state_right : PySem.W.nsIn K mainGlobals "_law_state_right" = some (some (.ref f__law_state_right)))
    (l__law_state_right : K.lookup f__law_state_right = some ⟨oc__law_state_right, od__law_state_right, .func (PySem.W.fnOf "_law_state_right" "_law_state_right" (defArgs s__law_state_right) (defBody s__law_state_right) (defScope s__law_state_right) .none kV__law_state_right dc__law_state_right pm__law_state_right an__law_state_right cd__law_state_right ct__law_state_right), sl__law_state_right⟩)
    (c__law_state_right : PySem.W.codeIn K cd__law_state_right "_law_state_right" = true)
    (k__law_state_right : PySem.W.keepIn K (.ref f__law_state_right) = true)
    (a__law_onward : PySem.W.nsIn K mainGlobals "_law_onward" = some (some (.ref f__law_onward)))
    (l__law_onward : K.lookup f__law_onward = some ⟨oc__law_onward, od__law_onward, .func (PySem.W.fnOf "_law_onward" "_law_onward" (defArgs s__law_onward) (defBody s__law_onward) (defScope s__law_onward) .none kV__law_onward dc__law_onward pm__law_onward an__law_onward cd__law_onward ct__law_onward), sl__law_onward⟩)
    (c__law_onward : PySem.W.codeIn K cd__law_onward "_law_onward" = true)
    (k__law_onward : PySem.W.keepIn K (.ref f__law_onward) = true)
    (a_law : PySem.W.nsIn K mainGlobals "law" = some (some (.ref f_law)))
    (l_law : K.lookup f_law = some ⟨oc_law, od_law, .func (PySem.W.fnOf "law" "law" (defArgs s_law) (defBody s_law) (defScope s_law) .none kV_law dc_law pm_law an_law cd_law ct_law), sl_law⟩)
    (c_law : PySem.W.codeIn K cd_law "law" = true)
    (k_law : PySem.W.keepIn K (.ref f_law) = true)
    (mM : PySem.W.nsIn K mainGlobals "MOVABLE" = some (some (.ref dM)))
    (lM : K.lookup dM = some ⟨.type "dict", none, .dict es_M n_M, #[]⟩)
    (litM : PySem.W.KeysLit w.params es_M.toList)
    (lowM : (dM == sysModules) = false)
    (iM0 : PySem.W.nsIn K dM "still" = some (some (.ref a_m0)))
    (iM1 : PySem.W.nsIn K dM "raise" = some (some (.ref a_m1)))
    (iM2 : PySem.W.nsIn K dM "end" = some (some (.ref a_m2)))
    (iM3 : PySem.W.nsIn K dM "drift" = some (some (.ref a_m3)))
    (tM0 : K.lookup a_m0 = some ⟨.type "tuple", dd_0, .seq #[] q_0, sl_0⟩)
    (tM1 : K.lookup a_m1 = some ⟨.type "tuple", dd_1, .seq #[.int 0 tk_1] q_1, sl_1⟩)
    (tM2 : K.lookup a_m2 = some ⟨.type "tuple", dd_2, .seq #[.int 1 tk_2] q_2, sl_2⟩)
    (tM3 : K.lookup a_m3 = some ⟨.type "tuple", dd_3, .seq #[.int 0 tk_3, .int 1 tk_4] q_3, sl_3⟩)
    (tyc : PySem.W.findIn K (.ref C_Kind) "__class__" = some (some (.builtin "object.__class__")))
    (tyg : PySem.W.specialIn K (.builtin "object.__class__") "__get__" = some (some (.builtin "getset_descriptor.__get__")))
    (tyt : PySem.W.takesIn K (.builtin "object.__class__") = some true)
    (tym : PySem.W.mroIn K C_Kind (.type "object") = some true)
    (tyi : PySem.W.kitOne K (.ref C_Kind) (.ref C_Kind) = some true)
    (lkK : K.lookup C_Kind = some o_K)
    (lkO : o_K = (excClassObj nm_K qq_K C_Kind N_Kind bs_K [.type "object"] hd_K sn_K sub_K ab_K col_K dd_K k0_K k1_K k2_K k3_K k5_K nid_K))
    (nsK : K.lookup N_Kind = some o_N)
    (nsO : ∀ K2 : PySem.W.Frag, K2.lookup N_Kind = some o_N → PySem.W.nsOkIn K2 N_Kind = true)
    (neq : PySem.W.nsIn K N_Kind "__eq__" = some (some (.ref f_Kind___eq__)))
    (nne : PySem.W.nsIn K N_Kind "__ne__" = some none)
    (foK : oc_Kind___eq__ = .type "function")
    (z_int : PySem.W.nsIn K mainGlobals "int" = some none)
    (z_abs : PySem.W.nsIn K mainGlobals "abs" = some none)
    (z_len : PySem.W.nsIn K mainGlobals "len" = some none)
    (z_list : PySem.W.nsIn K mainGlobals "list" = some none)
    (z_max : PySem.W.nsIn K mainGlobals "max" = some none)
    (z_range : PySem.W.nsIn K mainGlobals "range" = some none)
    (z_isinstance : PySem.W.nsIn K mainGlobals "isinstance" = some none)
    (z_repr : PySem.W.nsIn K mainGlobals "repr" = some none)
    (z_str : PySem.W.nsIn K mainGlobals "str" = some none)
    : ∃ fd : FuncData, (∀ (s : Shared) (v : Value), BindsTo s fd ⟨[v], []⟩ [("_law_script", v)]) ∧ ∀ base : Heap, K.In base → base.Ns mainGlobals mg → KG.FnG l.prog w K mg base CX0 4 fa fd ["_law_script"] (spLaw K) := by
  have e := hfa.symm.trans (PySem.W.mg_of X G a_law)
  cases e
  have F_Kind___init__ := fun_mk (st := s_Kind___init__) l_Kind___init__ c_Kind___init__ k_Kind___init__
  have b_Kind___init__ := F_Kind___init__.binds (ps := ["self", "reading", "writing", "device"]) fun _ _ _ _ _ _ us hl => match us, hl with | [_, _, _, _], _ => rfl
  have F_Kind___eq__ := fun_mk (st := s_Kind___eq__) l_Kind___eq__ c_Kind___eq__ k_Kind___eq__
  have b_Kind___eq__ := F_Kind___eq__.binds (ps := ["self", "other"]) fun _ _ _ _ _ _ us hl => match us, hl with | [_, _], _ => rfl
  have F_Kind___str__ := fun_mk (st := s_Kind___str__) l_Kind___str__ c_Kind___str__ k_Kind___str__
  have b_Kind___str__ := F_Kind___str__.binds (ps := ["self"]) fun _ _ _ _ _ _ us hl => match us, hl with | [_], _ => rfl
  have F_Kind_after_read := fun_mk (st := s_Kind_after_read) l_Kind_after_read c_Kind_after_read k_Kind_after_read
  have b_Kind_after_read := F_Kind_after_read.binds (ps := ["self", "state"]) fun _ _ _ _ _ _ us hl => match us, hl with | [_, _], _ => rfl
  have F_Kind_after_write := fun_mk (st := s_Kind_after_write) l_Kind_after_write c_Kind_after_write k_Kind_after_write
  have b_Kind_after_write := F_Kind_after_write.binds (ps := ["self", "state", "bit"]) fun _ _ _ _ _ _ us hl => match us, hl with | [_, _, _], _ => rfl
  have F_Kind_unguarded := fun_mk (st := s_Kind_unguarded) l_Kind_unguarded c_Kind_unguarded k_Kind_unguarded
  have b_Kind_unguarded := F_Kind_unguarded.binds (ps := ["self", "state", "bit"]) fun _ _ _ _ _ _ us hl => match us, hl with | [_, _, _], _ => rfl
  have F_Kind_deeds := fun_mk (st := s_Kind_deeds) l_Kind_deeds c_Kind_deeds k_Kind_deeds
  have b_Kind_deeds := F_Kind_deeds.binds (ps := ["self", "state"]) fun _ _ _ _ _ _ us hl => match us, hl with | [_, _], _ => rfl
  have F__law_pen := fun_mk (st := s__law_pen) l__law_pen c__law_pen k__law_pen
  have b__law_pen := F__law_pen.binds (ps := ["_law_script"]) fun _ _ _ _ _ _ us hl => match us, hl with | [_], _ => rfl
  have F__law_draw := fun_mk (st := s__law_draw) l__law_draw c__law_draw k__law_draw
  have b__law_draw := F__law_draw.binds (ps := ["_law_pen_here", "_law_many"]) fun _ _ _ _ _ _ us hl => match us, hl with | [_, _], _ => rfl
  have F__law_write := fun_mk (st := s__law_write) l__law_write c__law_write k__law_write
  have b__law_write := F__law_write.binds (ps := ["_law_second_word", "_law_stand", "_law_sign"]) fun _ _ _ _ _ _ us hl => match us, hl with | [_, _, _], _ => rfl
  have F__law_read := fun_mk (st := s__law_read) l__law_read c__law_read k__law_read
  have b__law_read := F__law_read.binds (ps := ["_law_first", "_law_stand"]) fun _ _ _ _ _ _ us hl => match us, hl with | [_, _], _ => rfl
  have F__law_deeds := fun_mk (st := s__law_deeds) l__law_deeds c__law_deeds k__law_deeds
  have b__law_deeds := F__law_deeds.binds (ps := ["_law_third", "_law_stand"]) fun _ _ _ _ _ _ us hl => match us, hl with | [_, _], _ => rfl
  have F__law_words := fun_mk (st := s__law_words) l__law_words c__law_words k__law_words
  have b__law_words := F__law_words.binds (ps := ["_law_pen_here"]) fun _ _ _ _ _ _ us hl => match us, hl with | [_], _ => rfl
  have F__law_state_right := fun_mk (st := s__law_state_right) l__law_state_right c__law_state_right k__law_state_right
  have b__law_state_right := F__law_state_right.binds (ps := ["_law_kind", "_law_words_here", "_law_stand"]) fun _ _ _ _ _ _ us hl => match us, hl with | [_, _, _], _ => rfl
  have F__law_onward := fun_mk (st := s__law_onward) l__law_onward c__law_onward k__law_onward
  have b__law_onward := F__law_onward.binds (ps := ["_law_pen_here", "_law_words_here", "_law_stand"]) fun _ _ _ _ _ _ us hl => match us, hl with | [_, _, _], _ => rfl
  have F_law := fun_mk (st := s_law) l_law c_law k_law
  have b_law := F_law.binds (ps := ["_law_script"]) fun _ _ _ _ _ _ us hl => match us, hl with | [_], _ => rfl

  have cK : Cls K C_Kind := ⟨pg_Kind, hd_Kind, po_Kind, sa_Kind⟩
  have T : TxtM K w mg C_Kind dM := {
    z_int := PySem.W.mg_none_of X G z_int, z_abs := PySem.W.mg_none_of X G z_abs, z_len := PySem.W.mg_none_of X G z_len, z_list := PySem.W.mg_none_of X G z_list, z_max := PySem.W.mg_none_of X G z_max
    z_range := PySem.W.mg_none_of X G z_range, z_isinstance := PySem.W.mg_none_of X G z_isinstance, z_repr := PySem.W.mg_none_of X G z_repr, z_str := PySem.W.mg_none_of X G z_str
    cl := cK, n_reading := n_Kind_reading, n_writing := n_Kind_writing, n_device := n_Kind_device, n_states := n_Kind_states, mg_Kind := PySem.W.mg_of X G aC_Kind
    con := ⟨.type "type", t_Kind_READINGS, t_Kind_WRITINGS, t_Kind_DEVICES, _, _, _, ⟨rd_Kind, ga_Kind⟩, ⟨fc_t_Kind_READINGS, rfl⟩, ⟨fc_t_Kind_WRITINGS, rfl⟩, ⟨fc_t_Kind_DEVICES, rfl⟩,
      sqK lk_t_Kind_READINGS (by simp) (.cons ⟨_, rfl⟩ (.cons ⟨_, rfl⟩ .nil)),
      sqK lk_t_Kind_WRITINGS (by simp) (.cons ⟨_, rfl⟩ (.cons ⟨_, rfl⟩ (.cons ⟨_, rfl⟩ (.cons ⟨_, rfl⟩ (.cons ⟨_, rfl⟩ (.cons ⟨_, rfl⟩ (.cons ⟨_, rfl⟩ .nil))))))),
      sqK lk_t_Kind_DEVICES (by simp) (.cons ⟨_, rfl⟩ (.cons ⟨_, rfl⟩ (.cons ⟨_, rfl⟩ (.cons ⟨_, rfl⟩ .nil))))⟩
    ty := fun e => .base (.ins e cK tyc tyg tyt tym), isi := tyi, mg_MOVABLE := PySem.W.mg_of X G mM, mov := ⟨es_M, n_M, lM, litM, lowM⟩
    item := fun d hd => by
      simp only [DV, List.mem_cons, List.not_mem_nil, or_false] at hd
      rcases hd with rfl | rfl | rfl | rfl
      · exact ⟨a_m0, iM0, sqK tM0 (by simp) .nil⟩
      · exact ⟨a_m1, iM1, sqK tM1 (by simp) (.cons ⟨_, rfl⟩ .nil)⟩
      · exact ⟨a_m2, iM2, sqK tM2 (by simp) (.cons ⟨_, rfl⟩ .nil)⟩
      · exact ⟨a_m3, iM3, sqK tM3 (by simp) (.cons ⟨_, rfl⟩ (.cons ⟨_, rfl⟩ .nil))⟩ }
  have TK := T.toTxtK
  have T0 := TK.toTxt
  refine ⟨PySem.W.fnOf "law" "law" (defArgs s_law) (defBody s_law) (defScope s_law) .none kV_law dc_law pm_law an_law cd_law ct_law, fun s v => .of_eq rfl, fun base _ _ => ?_⟩
  have mu : CalleeM l.prog w K mg base CX0 1 C_Kind "unguarded" ["self", "state", "bit"] (spUng C_Kind) := ⟨⟨_, _, ok_unguarded F_Kind_unguarded TK, ⟨a_Kind_unguarded, i_Kind_unguarded, k_Kind_unguarded⟩, b_Kind_unguarded⟩, cK⟩
  have ow : FnOk l.prog w K mg base CX0 2 f_Kind_after_write _ ["self", "state", "bit"] (spWrite C_Kind) := ok_after_write (k := 0) (j := 0) F_Kind_after_write TK mu
  have mw : CalleeM l.prog w K mg base CX0 2 C_Kind "after_write" ["self", "state", "bit"] (spWrite C_Kind) := ⟨⟨_, _, ow, ⟨a_Kind_after_write, i_Kind_after_write, k_Kind_after_write⟩, b_Kind_after_write⟩, cK⟩
  have kr : CalleeMK l.prog w K mg base 1 C_Kind "after_read" ["self", "state"] (spRead C_Kind) 0 ["state"] gAdd := ⟨⟨_, _, fun us ws => us ++ ws, ok_after_read F_Kind_after_read TK, ⟨a_Kind_after_read, i_Kind_after_read, k_Kind_after_read⟩,
    ⟨fun s us ws _ l1 l2 => .of_eq (match us, ws, l1, l2 with | [_], [_], _, _ => rfl), fun r1 r2 => r1.append r2⟩⟩, cK⟩
  have kd : CalleeMK l.prog w K mg base 1 C_Kind "deeds" ["self", "state"] (spDeedsK C_Kind) 0 ["state"] gAdd := ⟨⟨_, _, fun us ws => us ++ ws, ok_deedsK F_Kind_deeds T, ⟨a_Kind_deeds, i_Kind_deeds, k_Kind_deeds⟩,
    ⟨fun s us ws _ l1 l2 => .of_eq (match us, ws, l1, l2 with | [_], [_], _, _ => rfl), fun r1 r2 => r1.append r2⟩⟩, cK⟩
  have kw : CalleeMK l.prog w K mg base 2 C_Kind "after_write" ["self", "state", "bit"] (spWrite C_Kind) 0 ["bit", "state"] gRev := ⟨⟨_, _, fun us ws => us ++ ws.reverse, ow, ⟨a_Kind_after_write, i_Kind_after_write, k_Kind_after_write⟩,
    ⟨fun s us ws _ l1 l2 => .of_eq (match us, ws, l1, l2 with | [_], [_, _], _, _ => rfl), fun r1 r2 => r1.append (vals_rev r2)⟩⟩, cK⟩
  have ku : CalleeMK l.prog w K mg base 1 C_Kind "unguarded" ["self", "state", "bit"] (spUng C_Kind) 0 ["bit", "state"] gRev := ⟨⟨_, _, fun us ws => us ++ ws.reverse, ok_unguarded F_Kind_unguarded TK, ⟨a_Kind_unguarded, i_Kind_unguarded, k_Kind_unguarded⟩,
    ⟨fun s us ws _ l1 l2 => .of_eq (match us, ws, l1, l2 with | [_], [_, _], _, _ => rfl), fun r1 r2 => r1.append (vals_rev r2)⟩⟩, cK⟩
  have ci : CalleeI l.prog w K mg base CX0 1 C_Kind "Kind" ["self", "reading", "writing", "device"] (spKind C_Kind) := ⟨⟨_, _, ok_kind F_Kind___init__ TK, ⟨mk_Kind, a_Kind___init__, i_Kind___init__, kc_Kind⟩, T.mg_Kind, b_Kind___init__⟩⟩
  have ck : CalleeIK l.prog w K mg base CX0 1 C_Kind "Kind" ["self", "reading", "writing", "device"] (spKind C_Kind) ["device", "writing", "reading"] gRev := ⟨⟨_, _, fun us ws => us ++ ws.reverse, ok_kind F_Kind___init__ TK, ⟨mk_Kind, a_Kind___init__, i_Kind___init__, kc_Kind⟩, T.mg_Kind,
    ⟨fun s us ws _ l1 l2 => .of_eq (match us, ws, l1, l2 with | [_], [_, _, _], _, _ => rfl), fun r1 r2 => r1.append (vals_rev r2)⟩⟩⟩
  have os : OwnM l.prog w K mg base 1 C_Kind "__str__" ["self"] (spStr C_Kind) := ⟨⟨_, _, a_Kind___str__, i_Kind___str__, ok_strK F_Kind___str__ T, b_Kind___str__⟩⟩
  have on_ : OwnNe l.prog w K mg base 1 C_Kind ["self", "other"] (spEq C_Kind) := ⟨⟨_, _, ⟨⟨_, _, _, _, _, _, _, _, _, _, _, _, _, _, _, _, lkK.trans (congrArg some lkO), nsO K nsK, neq, nne⟩, ⟨_, l_Kind___eq__, foK⟩⟩, ok_eqK F_Kind___eq__ T, b_Kind___eq__⟩⟩
  have cd : KB.Callee l.prog w K mg base CX0 1 "_law_draw" ["_law_pen_here", "_law_many"] spDraw := ⟨⟨_, _, ok_draw F__law_draw T0, PySem.W.mg_of X G a__law_draw, k__law_draw, b__law_draw⟩⟩
  have cp : KB.Callee l.prog w K mg base CX0 1 "_law_pen" ["_law_script"] (spPen K) := ⟨⟨_, _, ok_pen F__law_pen T0, PySem.W.mg_of X G a__law_pen, k__law_pen, b__law_pen⟩⟩
  have cw : KB.Callee l.prog w K mg base CX0 1 "_law_write" ["_law_second_word", "_law_stand", "_law_sign"] spLW := ⟨⟨_, _, ok_lw F__law_write T0, PySem.W.mg_of X G a__law_write, k__law_write, b__law_write⟩⟩
  have cr : KB.Callee l.prog w K mg base CX0 1 "_law_read" ["_law_first", "_law_stand"] spLR := ⟨⟨_, _, ok_lr F__law_read T0, PySem.W.mg_of X G a__law_read, k__law_read, b__law_read⟩⟩
  have ce : KB.Callee l.prog w K mg base CX0 1 "_law_deeds" ["_law_third", "_law_stand"] spLD := ⟨⟨_, _, ok_ld F__law_deeds T0, PySem.W.mg_of X G a__law_deeds, k__law_deeds, b__law_deeds⟩⟩
  have cq : KB.Callee l.prog w K mg base CX0 2 "_law_words" ["_law_pen_here"] spWords := ⟨⟨_, _, ok_words F__law_words T0 cd, PySem.W.mg_of X G a__law_words, k__law_words, b__law_words⟩⟩
  have cs : KB.Callee l.prog w K mg base CX0 3 "_law_state_right" ["_law_kind", "_law_words_here", "_law_stand"] (spSR C_Kind) := ⟨⟨_, _, ok_sr F__law_state_right T kr kd kw ku mw cr ce cw, PySem.W.mg_of X G a__law_state_right, k__law_state_right, b__law_state_right⟩⟩
  have co : KB.Callee l.prog w K mg base CX0 2 "_law_onward" ["_law_pen_here", "_law_words_here", "_law_stand"] spOn := ⟨⟨_, _, ok_on F__law_onward T0 cr ce cw cd, PySem.W.mg_of X G a__law_onward, k__law_onward, b__law_onward⟩⟩
  exact ok_law F_law T ck ci os on_ cs co cq cd cp
end K07
open PySem PySem.W PyProof.Rows
set_option maxRecDepth 100000 in
set_option maxHeartbeats 0 in
theorem PySem.Challenge.cw_keptbits_k07_kinds_walked_holds : PySem.Challenge.rw_keptbits_k07_kinds_walked.Holds := by
  w_on; o_law; k_head; (case hw => w_witness2)
  k_fill
  refine KG.walkG (l := PySem.Challenge.rw_keptbits_k07_kinds_walked) (n := 63) (k := 4) (x := "_law_script") (sp := fun w => K07.spLaw _) rfl (by decide) rfl ⟨rfl, by decide, by decide⟩ (fun w h Y => PySem.W.kIn_of Y) ?F (fun _ _ a ns hl hS => ⟨a, ns, rfl, hS, hl, fun _ => rfl⟩)
  case F =>
    intro w mg fa h KX G hmg
    refine' K07.all_mk KX G hmg ?aC_Kind ?pg_Kind ?hd_Kind ?po_Kind ?sa_Kind ?mk_Kind ?kc_Kind ?n_Kind_reading ?n_Kind_writing ?n_Kind_device ?n_Kind_states ?rd_Kind ?ga_Kind ?fc_t_Kind_READINGS ?lk_t_Kind_READINGS ?fc_t_Kind_WRITINGS ?lk_t_Kind_WRITINGS ?fc_t_Kind_DEVICES ?lk_t_Kind_DEVICES ?a_Kind___init__ ?i_Kind___init__ ?l_Kind___init__ ?c_Kind___init__ ?k_Kind___init__ ?a_Kind___eq__ ?i_Kind___eq__ ?l_Kind___eq__ ?c_Kind___eq__ ?k_Kind___eq__ ?a_Kind___str__ ?i_Kind___str__ ?l_Kind___str__ ?c_Kind___str__ ?k_Kind___str__ ?a_Kind_after_read ?i_Kind_after_read ?l_Kind_after_read ?c_Kind_after_read ?k_Kind_after_read ?a_Kind_after_write ?i_Kind_after_write ?l_Kind_after_write ?c_Kind_after_write ?k_Kind_after_write ?a_Kind_unguarded ?i_Kind_unguarded ?l_Kind_unguarded ?c_Kind_unguarded ?k_Kind_unguarded ?a_Kind_deeds ?i_Kind_deeds ?l_Kind_deeds ?c_Kind_deeds ?k_Kind_deeds ?a__law_pen ?l__law_pen ?c__law_pen ?k__law_pen ?a__law_draw ?l__law_draw ?c__law_draw ?k__law_draw ?a__law_write ?l__law_write ?c__law_write ?k__law_write ?a__law_read ?l__law_read ?c__law_read ?k__law_read ?a__law_deeds ?l__law_deeds ?c__law_deeds ?k__law_deeds ?a__law_words ?l__law_words ?c__law_words ?k__law_words ?a__law_state_right ?l__law_state_right ?c__law_state_right ?k__law_state_right ?a__law_onward ?l__law_onward ?c__law_onward ?k__law_onward ?a_law ?l_law ?c_law ?k_law ?mM ?lM ?litM ?lowM ?iM0 ?iM1 ?iM2 ?iM3 ?tM0 ?tM1 ?tM2 ?tM3 ?tyc ?tyg ?tyt ?tym ?tyi ?lkK ?lkO ?nsK ?nsO ?neq ?nne ?foK ?z_int ?z_abs ?z_len ?z_list ?z_max ?z_range ?z_isinstance ?z_repr ?z_str
    (case aC_Kind => k_is)
    (case pg_Kind => k_is)
    (case hd_Kind => k_is)
    (case po_Kind => k_is)
    (case sa_Kind => k_is)
    (case mk_Kind => k_is)
    (case kc_Kind => k_is)
    (case n_Kind_reading => k_is)
    (case n_Kind_writing => k_is)
    (case n_Kind_device => k_is)
    (case n_Kind_states => k_is)
    (case rd_Kind => k_is)
    (case ga_Kind => k_is)
    (case fc_t_Kind_READINGS => k_is)
    (case lk_t_Kind_READINGS => k_is)
    (case fc_t_Kind_WRITINGS => k_is)
    (case lk_t_Kind_WRITINGS => k_is)
    (case fc_t_Kind_DEVICES => k_is)
    (case lk_t_Kind_DEVICES => k_is)
    (case a_Kind___init__ => k_is)
    (case i_Kind___init__ => k_is)
    (case l_Kind___init__ => k_is)
    (case c_Kind___init__ => k_is)
    (case k_Kind___init__ => k_is)
    (case a_Kind___eq__ => k_is)
    (case i_Kind___eq__ => k_is)
    (case l_Kind___eq__ => k_is)
    (case c_Kind___eq__ => k_is)
    (case k_Kind___eq__ => k_is)
    (case a_Kind___str__ => k_is)
    (case i_Kind___str__ => k_is)
    (case l_Kind___str__ => k_is)
    (case c_Kind___str__ => k_is)
    (case k_Kind___str__ => k_is)
    (case a_Kind_after_read => k_is)
    (case i_Kind_after_read => k_is)
    (case l_Kind_after_read => k_is)
    (case c_Kind_after_read => k_is)
    (case k_Kind_after_read => k_is)
    (case a_Kind_after_write => k_is)
    (case i_Kind_after_write => k_is)
    (case l_Kind_after_write => k_is)
    (case c_Kind_after_write => k_is)
    (case k_Kind_after_write => k_is)
    (case a_Kind_unguarded => k_is)
    (case i_Kind_unguarded => k_is)
    (case l_Kind_unguarded => k_is)
    (case c_Kind_unguarded => k_is)
    (case k_Kind_unguarded => k_is)
    (case a_Kind_deeds => k_is)
    (case i_Kind_deeds => k_is)
    (case l_Kind_deeds => k_is)
    (case c_Kind_deeds => k_is)
    (case k_Kind_deeds => k_is)
    (case a__law_pen => k_is)
    (case l__law_pen => k_is)
    (case c__law_pen => k_is)
    (case k__law_pen => k_is)
    (case a__law_draw => k_is)
    (case l__law_draw => k_is)
    (case c__law_draw => k_is)
    (case k__law_draw => k_is)
    (case a__law_write => k_is)
    (case l__law_write => k_is)
    (case c__law_write => k_is)
    (case k__law_write => k_is)
    (case a__law_read => k_is)
    (case l__law_read => k_is)
    (case c__law_read => k_is)
    (case k__law_read => k_is)
    (case a__law_deeds => k_is)
    (case l__law_deeds => k_is)
    (case c__law_deeds => k_is)
    (case k__law_deeds => k_is)
    (case a__law_words => k_is)
    (case l__law_words => k_is)
    (case c__law_words => k_is)
    (case k__law_words => k_is)
    (case a__law_state_right => k_is)
    (case l__law_state_right => k_is)
    (case c__law_state_right => k_is)
    (case k__law_state_right => k_is)
    (case a__law_onward => k_is)
    (case l__law_onward => k_is)
    (case c__law_onward => k_is)
    (case k__law_onward => k_is)
    (case a_law => k_is)
    (case l_law => k_is)
    (case c_law => k_is)
    (case k_law => k_is)
    (case mM => k_is)
    (case lM => k_is)
    (case litM => exact ⟨⟨_, _, rfl, rfl⟩, ⟨_, _, rfl, rfl⟩, ⟨_, _, rfl, rfl⟩, ⟨_, _, rfl, rfl⟩, trivial⟩)
    (case lowM => exact rfl)
    (case iM0 => k_is)
    (case iM1 => k_is)
    (case iM2 => k_is)
    (case iM3 => k_is)
    (case tM0 => k_is)
    (case tM1 => k_is)
    (case tM2 => k_is)
    (case tM3 => k_is)
    (case tyc => k_is)
    (case tyg => k_is)
    (case tyt => k_is)
    (case tym => k_is)
    (case tyi => exact rfl)
    (case lkK => k_is)
    (case lkO => exact rfl)
    (case nsK => k_is)
    (case nsO => (clear KX G hmg; intro K2 e; unfold PySem.W.nsOkIn; rw [e]; first | rfl | decide | simp))
    (case neq => k_is)
    (case nne => k_is)
    (case foK => exact rfl)
    (case z_int => k_is)
    (case z_abs => k_is)
    (case z_len => k_is)
    (case z_list => k_is)
    (case z_max => k_is)
    (case z_range => k_is)
    (case z_isinstance => k_is)
    (case z_repr => k_is)
    (case z_str => k_is)

