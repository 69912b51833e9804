import PyProof.Rows.All
import Wide.All
import OpenK.AllK
import Wide.FinOn
import HandS.ForMost
import HandS.Evl
import HandS.IsInst
import HandS.ClsMeth
import HandS.Flow
import HandS.TupAny
import HandS.Walk
import HandS.Defaults
import HandS.Deep
import PySem.Challenge.RW_keptbits_k29_least_moves
set_option Elab.async false
set_option linter.all false
set_option maxRecDepth 100000
set_option maxHeartbeats 4000000
/-! KB: own helpers over the hand layer: callees bundled, match, readings as steps. -/
namespace KB
open PySem PySem.Spec PyProof.Rows L2

section
variable {X : Cx}
/-! ### callees -/
structure Callee (P : Program) (w : World) (K : PySem.W.Frag) (mg : Str → Option Value) (base : Heap) (CX : CXT) (k : Nat) (x : Str) (ps : List Str) (sp : Sp) : Prop where
  ex : ∃ (f : Addr) (fd : FuncData), FnOk P w K mg base CX k f fd ps sp ∧ mg x = some (.ref f) ∧ PySem.W.keepIn K (.ref f) = true ∧ Binds K fd ps []
structure CalleeM (P : Program) (w : World) (K : PySem.W.Frag) (mg : Str → Option Value) (base : Heap) (CX : CXT) (k : Nat) (C : Addr) (m : Str) (ps : List Str) (sp : Sp) : Prop where
  ex : ∃ (f : Addr) (fd : FuncData), FnOk P w K mg base CX k f fd ps sp ∧ Meth K C m f ∧ Binds K fd ps []
  cl : Cls K C
structure CalleeI (P : Program) (w : World) (K : PySem.W.Frag) (mg : Str → Option Value) (base : Heap) (CX : CXT) (k : Nat) (C : Addr) (x : Str) (ps : List Str) (sp : Sp) : Prop where
  ex : ∃ (f : Addr) (fd : FuncData), FnOk P w K mg base CX k f fd ps sp ∧ Mk K C f ∧ mg x = some (.ref C) ∧ Binds K fd ps []
theorem pe_callC {CX : CXT} {k : Nat} {x : Str} {ps : List Str} {sp : Sp} {E : XK} {e : Expr} {es : List Expr} {p pos : Pos} {t : TA} (c : Callee X.prog X.w X.K X.mg X.base CX k x ps sp) (hr : Room k X.A) (hg : Gl X x) (hx : Passes CX X E) (ha : PA X (e :: es) t)
    (hdb : (x == ("__debug__" : Str)) = false := by decide) (he : starEach (e :: es) X.env = (false, eval e X.env) :: starEach es X.env := by rfl) (hpl : (backTo pos (starEach es X.env)).any (·.1) = false := by rfl) :
    PE X (.Call (.Name x p) (e :: es) [] pos) (tCall sp [] E t) := by
  obtain ⟨f, fd, F, hm, hk, hb⟩ := c.ex
  exact pe_call F hr hg hm hk hb .nil hx ha hdb he hpl
theorem pe_callC0 {CX : CXT} {k : Nat} {x : Str} {ps : List Str} {sp : Sp} {E : XK} {p pos : Pos} (c : Callee X.prog X.w X.K X.mg X.base CX k x ps sp) (hr : Room k X.A) (hg : Gl X x) (hx : Passes CX X E)
    (hdb : (x == ("__debug__" : Str)) = false := by decide) :
    PE X (.Call (.Name x p) [] [] pos) (tCall sp [] E tNil) := by
  obtain ⟨f, fd, F, hm, hk, hb⟩ := c.ex
  exact pe_call0 F hr hg hm hk hb .nil hx hdb
theorem pe_methC {pl : Sem Bool} {CX : CXT} {k : Nat} {C : Addr} {m : Str} {ps : List Str} {sp : Sp} {E : XK} {o e : Expr} {es : List Expr} {apos pos : Pos} {ta : TE} {t : TA} (c : CalleeM X.prog X.w X.K X.mg X.base CX k C m ps sp) (ho : PE X o ta) (hr : Room k X.A) (hx : Passes CX X E) (ha : PA X (e :: es) t)
    (hst : starEach (e :: es) X.env = (false, eval e X.env) :: starEach es X.env := by rfl) (hpl : (backTo pos (starEach es X.env)).any (·.1) = false := by rfl)
    (ht : eval (.Call (.Attribute o m apos) (e :: es) [] pos) X.env = (do
      let ov ← eval o X.env
      standAt apos.atName
      let (f, first) ← holding [ov] (getMethod ov m pl)
      callWith pos f first (backTo pos (starEach (e :: es) X.env)) (backToKw pos (keywordEach [] X.env))) := by rfl) :
    PE X (.Call (.Attribute o m apos) (e :: es) [] pos) (tMeth C m sp [] E ta t) := by
  obtain ⟨f, fd, F, hm, hb⟩ := c.ex
  exact pe_meth ho c.cl hm F hr hb .nil hx ha hst hpl ht
theorem pe_methC0 {pl : Sem Bool} {CX : CXT} {k : Nat} {C : Addr} {m : Str} {ps : List Str} {sp : Sp} {E : XK} {o : Expr} {apos pos : Pos} {ta : TE} (c : CalleeM X.prog X.w X.K X.mg X.base CX k C m ps sp) (ho : PE X o ta) (hr : Room k X.A) (hx : Passes CX X E)
    (ht : eval (.Call (.Attribute o m apos) [] [] pos) X.env = (do
      let ov ← eval o X.env
      standAt apos.atName
      let (f, first) ← holding [ov] (getMethod ov m pl)
      callWith pos f first [] (backToKw pos (keywordEach [] X.env))) := by rfl) :
    PE X (.Call (.Attribute o m apos) [] [] pos) (tMeth C m sp [] E ta tNil) := by
  obtain ⟨f, fd, F, hm, hb⟩ := c.ex
  exact pe_meth0 ho c.cl hm F hr hb .nil hx ht
theorem pe_makeC {CX : CXT} {k : Nat} {C : Addr} {x : Str} {ps : List Str} {sp : Sp} {E : XK} {e : Expr} {es : List Expr} {p pos : Pos} {t : TA} (c : CalleeI X.prog X.w X.K X.mg X.base CX k C x ps sp) (hr : Room (k + 1) X.A) (hg : Gl X x) (hx : Passes CX X E) (ha : PA X (e :: es) t)
    (hdb : (x == ("__debug__" : Str)) = false := by decide) (he : starEach (e :: es) X.env = (false, eval e X.env) :: starEach es X.env := by rfl) (hpl : (backTo pos (starEach es X.env)).any (·.1) = false := by rfl) :
    PE X (.Call (.Name x p) (e :: es) [] pos) (tMake C sp [] E t) := by
  obtain ⟨f, fd, F, M, hm, hb⟩ := c.ex
  exact pe_make M F hr hg hm hb .nil hx ha hdb he hpl

/-- a def with defaults, called without them; called by keywords -/
structure CalleeD (P : Program) (w : World) (K : PySem.W.Frag) (mg : Str → Option Value) (base : Heap) (CX : CXT) (k : Nat) (x : Str) (ps : List Str) (sp : Sp) (dvs : List V) : Prop where
  ex : ∃ (f : Addr) (fd : FuncData) (ds : List Value), FnOk P w K mg base CX k f fd ps sp ∧ mg x = some (.ref f) ∧ PySem.W.keepIn K (.ref f) = true ∧ Binds K fd ps ds ∧ Vals dvs ds
structure CalleeKw (P : Program) (w : World) (K : PySem.W.Frag) (mg : Str → Option Value) (base : Heap) (CX : CXT) (k : Nat) (x : Str) (ps : List Str) (sp : Sp) (n : Nat) (ks : List Str) (gV : List V → List V → List V) : Prop where
  ex : ∃ (f : Addr) (fd : FuncData) (g : List Value → List Value → List Value), FnOk P w K mg base CX k f fd ps sp ∧ mg x = some (.ref f) ∧ PySem.W.keepIn K (.ref f) = true ∧ KBn K fd ps n ks g gV
theorem pe_callD {CX : CXT} {k : Nat} {x : Str} {ps : List Str} {sp : Sp} {dvs : List V} {E : XK} {e : Expr} {es : List Expr} {p pos : Pos} {t : TA} (c : CalleeD X.prog X.w X.K X.mg X.base CX k x ps sp dvs) (hr : Room k X.A) (hg : Gl X x) (hx : Passes CX X E) (ha : PA X (e :: es) t)
    (hdb : (x == ("__debug__" : Str)) = false := by decide) (he : starEach (e :: es) X.env = (false, eval e X.env) :: starEach es X.env := by rfl) (hpl : (backTo pos (starEach es X.env)).any (·.1) = false := by rfl) :
    PE X (.Call (.Name x p) (e :: es) [] pos) (tCall sp dvs E t) := by
  obtain ⟨f, fd, ds, F, hm, hk, hb, hd⟩ := c.ex
  exact pe_call F hr hg hm hk hb hd hx ha hdb he hpl
theorem pe_callKw {CX : CXT} {k n : Nat} {x : Str} {ps ks : List Str} {sp : Sp} {gV : List V → List V → List V} {E : XK} {e : Expr} {es : List Expr} {kws : List Keyword} {p pos : Pos} {t tk : TA} (c : CalleeKw X.prog X.w X.K X.mg X.base CX k x ps sp n ks gV) (hr : Room k X.A) (hg : Gl X x) (hx : Passes CX X E)
    (ha : PA X (e :: es) t) (hkw : PK X kws tk) (hall : (backToKw pos (keywordEach kws X.env)).all (·.1.isSome) = true := by rfl) (hks : (backToKw pos (keywordEach kws X.env)).filterMap (·.1) = ks := by rfl)
    (hdb : (x == ("__debug__" : Str)) = false := by decide) (he : starEach (e :: es) X.env = (false, eval e X.env) :: starEach es X.env := by rfl)
    (hpl : ((backTo pos (starEach (e :: es) X.env)).any (·.1) || (backToKw pos (keywordEach kws X.env)).any (·.1.isNone)) = false := by rfl) :
    PE X (.Call (.Name x p) (e :: es) kws pos) (tCallN n ks.length sp gV E t tk) := by
  obtain ⟨f, fd, g, F, hm, hk, hb⟩ := c.ex
  exact pe_callN F hr hg hm hk hb hx ha hkw hall hks hdb he hpl
theorem hu65 {A : Around} {k : Nat} (hr : Room k A) : A.units + 65 < cLine := by have := hr.un; omega
/-! ### match over written texts -/
structure PM (X : Cx) (cs : List MatchCase) (tm : V → TS) : Prop where
  run : ∀ (pins : List (Addr × Obj)) (s : Shared) (σ : L2.St) (H : Hp) (D : Ends) (v : V) (u : Value) (first : Bool), Inv X pins σ H s → RelV v u → tm v D σ H → wpAny (model X.prog X.w) X.A (matchCases cs X.env u first) (SP X pins D) X.xe s
def tmNil : V → TS := fun _ D σ H => D.nx σ H
def tmStr (x : Str) (t : TS) (tr : V → TS) : V → TS := fun v D σ H => ∃ y, v = .str y ∧ if decide (y = x) = true then t D σ H else tr v D σ H
def tMatch (te : TE) (tm : V → TS) : TS := fun D σ H => te σ H fun x H1 => tm x D σ H1
theorem pm_nil : PM X [] tmNil := ⟨fun _ _ σ H _ _ _ _ I _ h => wpAny_matchCases_nil ⟨σ, H, I, h⟩⟩
theorem pm_str {x : Str} {j : _} {pos pos' : Pos} {body : List Stmt} {rest : List MatchCase} {t : TS} {tr : V → TS} (hb : PSs X body t) (hr : PM X rest tr) : PM X (⟨.MatchValue (.Constant (.str x) j pos) pos', none, body⟩ :: rest) (tmStr x t tr) := by
  refine ⟨fun pins s σ H D v u first I r h => ?_⟩
  obtain ⟨y, rfl, h⟩ := h
  refine wpAny_matchCases_cons (wpAny_matchPattern_Value ?_)
  refine thn (pe_str.run pins s σ H (fun v' H' => v' = .str x ∧ H' = H) I ⟨rfl, rfl⟩) fun u1 s1 ⟨v1, H1, I1, r1, e1, e2⟩ => ?_
  subst e1 e2
  refine thn (op_eq pins s1 σ H1 (.str y) (.str x) u u1 (fun v' H' => v' = .bl (decide (y = x)) ∧ H' = H1) I1 r r1 ⟨rfl, ?_, rfl⟩) fun u2 s2 ⟨v2, H2, I2, r2, e3, e4⟩ => ?_
  · congr 1
    by_cases e : y = x
    · subst e; simp
    · simp [e]
  subst e3 e4
  obtain rfl : u2 = Value.bool (decide (y = x)) := r2
  refine wpAny_truthy_bool ?_
  by_cases e : y = x
  · rw [if_pos (decide_eq_true e)]
    rw [if_pos (decide_eq_true e)] at h
    refine wpAny_assignInOrder_none ?_
    exact hb.run pins s2 σ H2 D I2 h
  · rw [if_neg (by simp [e])]
    rw [if_neg (by simp [e])] at h
    exact hr.run pins s2 σ H2 D _ u false I2 r h
theorem ps_match {e : Expr} {cs : List MatchCase} {pos : Pos} {te : TE} {tm : V → TS} (he : PE X e te) (hm : PM X cs tm) : PS X (.Match e cs pos) (tMatch te tm) := by
  refine ⟨fun pins s σ H D I h => ?_⟩
  refine wpAny_Match (thn (he.run pins s σ H _ I h) fun u s1 ⟨x, H1, I1, r1, q1⟩ => ?_)
  exact hm.run pins s1 σ H1 D x u true I1 r1 q1
end

/-! ### readings as steps -/
def ForW (J : It) (g : TG) (tb : TS) (D : Ends) (σ : L2.St) (H : Hp) : Prop := ∃ W : Nat → Nat → L2.St → Hp → Prop, (∃ m, W 0 m σ H) ∧ ∀ i m σ H, W i m σ H →
      (J.stop i H ∧ D.nx σ H) ∨ (J.go i H ∧ ∃ N : L2.St → Hp → Prop, (∀ σ' H', N σ' H' → ∃ m', m' < m ∧ W (i + 1) m' σ' H') ∧ ∀ x H', J.yld i H x H' → g x σ H' fun σ2 H2 => tb { D with nx := N, ct := N, bk := D.nx } σ2 H2)
def LcW (J : It) (g : TG) (tt : TT) (te : TE) (vs : List Nat) (σ : L2.St) (H1 : Hp) (Q : VK) : Prop := ∀ D, H1 D = none → ∃ W : Nat → Nat → Hp → Prop, (∃ m, W 0 m (upd H1 D (.lst []))) ∧ ∀ i m H, W i m H →
  (J.stop i H ∧ Q (.ref D) H) ∨ (J.go i H ∧ ∃ Nx : Hp → Prop, (∀ H', Nx H' → ∃ m', m' < m ∧ W (i + 1) m' H') ∧ ∀ x H', J.yld i H x H' → g x (wipe σ vs) H' fun σ2 H2 => wipe σ2 vs = wipe σ vs ∧ tt σ2 H2 fun b H3 =>
    if b = true then te σ2 H3 fun y H4 => ∃ acc, H4 D = some (.lst acc) ∧ acc.length < sizeLine ∧ Nx (upd H4 D (.lst (acc ++ [y]))) else Nx H3)
theorem forW {J : It} {n : Nat} {G : Hp → Prop} {Y : Nat → Hp → V → Hp → Prop} (wk : Walk J n G Y) {g : TG} {tb : TS} {D : Ends} {σ : L2.St} {H : Hp} (Pv : Nat → L2.St → Hp → Prop) (h0 : Pv 0 σ H) (hG : ∀ i σ H, i ≤ n → Pv i σ H → G H)
    (hs : ∀ i x σ H H', i < n → Pv i σ H → Y i H x H' → g x σ H' fun σ2 H2 => tb { D with nx := Pv (i + 1), ct := Pv (i + 1), bk := D.nx } σ2 H2) (hd : ∀ σ H, Pv n σ H → D.nx σ H) : ForW J g tb D σ H := for_it wk Pv h0 hG hs hd
section
variable {K : PySem.W.Frag} {σ : L2.St} {H : Hp} {D : Ends} {ta tb tc te : TE} {tA tr : TA} {t u : TT} {t1 t2 tu : TS} {x y v : V} {Q : VK} {QT : Bool → Hp → Prop} {QA : List V → Hp → Prop} {R : It → Hp → Prop} {i : Nat} {a p : Addr} {xs ys : List V}
theorem r_var (h : σ[i]? = some (some v)) (q : Q v H) : tVar i σ H Q := ⟨v, h, q⟩
theorem r_c (q : Q v H) : tC v σ H Q := q
theorem r_op {r : R2} (q : ta σ H fun x H1 => tb σ H1 fun y H2 => r x y H2 Q) : tOp r ta tb σ H Q := q
theorem r_un {r : V → Hp → VK → Prop} (q : ta σ H fun x H1 => r x H1 Q) : tUn r ta σ H Q := q
theorem r_I0 {g : Int → Int → V} {m n : Int} (q : Q (g m n) H) : rI0 g (.int m) (.int n) H Q := ⟨m, n, rfl, rfl, q⟩
theorem r_I {C : Int → Int → Prop} {g : Int → Int → V} {m n : Int} (hc : C m n) (q : Q (g m n) H) : rI C g (.int m) (.int n) H Q := ⟨m, n, rfl, rfl, hc, q⟩
theorem r_U {g : Int → V} {m : Int} (q : Q (g m) H) : rU g (.int m) H Q := ⟨m, rfl, q⟩
theorem r_eq (h : scal x y = true) (q : Q (.bl (decide (x = y))) H) : rEq x y H Q := ⟨h, q⟩
theorem r_ne (h : scal x y = true) (q : Q (.bl (!decide (x = y))) H) : rNe x y H Q := ⟨h, q⟩
theorem r_test (q : te σ H fun x H' => ∃ k, x = .bl k ∧ QT k H') : tTest te σ H QT := q
theorem r_B (q : te σ H fun x H' => ∃ k, x = .bl k ∧ QT k H') : tB te σ H QT := q
theorem r_bl {b : Bool} {q : Bool → Prop} (h : q b) : ∃ k, V.bl b = .bl k ∧ q k := ⟨b, rfl, h⟩
theorem r_and (q : t σ H fun c H1 => if c = true then u σ H1 QT else QT false H1) : tAnd t u σ H QT := q
theorem r_or (q : t σ H fun c H1 => if c = true then QT true H1 else u σ H1 QT) : tOr t u σ H QT := q
theorem r_not (q : t σ H fun c H1 => QT (!c) H1) : tNot t σ H QT := q
theorem r_andV (q : ta σ H fun x H1 => ∃ c, x = .bl c ∧ if c = true then tb σ H1 Q else Q (.bl false) H1) : tAndV ta tb σ H Q := q
theorem r_orV (q : ta σ H fun x H1 => ∃ c, x = .bl c ∧ if c = true then Q (.bl true) H1 else tb σ H1 Q) : tOrV ta tb σ H Q := q
theorem r_notV (q : ta σ H fun x H1 => ∃ c, x = .bl c ∧ Q (.bl (!c)) H1) : tNotV ta σ H Q := q
theorem r_if (q : t σ H fun c H1 => if c = true then ta σ H1 Q else tb σ H1 Q) : tIf t ta tb σ H Q := q
theorem r_nil (q : QA [] H) : tNil σ H QA := q
theorem r_cons (q : ta σ H fun x H1 => tr σ H1 fun xs H2 => QA (x :: xs) H2) : tCons ta tr σ H QA := q
theorem r_tup (q : tA σ H fun xs H1 => xs.length ≤ sizeLine ∧ ∀ p, H1 p = none → Q (.ref p) (upd H1 p (.tup xs))) : tTup tA σ H Q := q
theorem r_lst (q : tA σ H fun xs H1 => xs.length ≤ sizeLine ∧ ∀ p, H1 p = none → Q (.ref p) (upd H1 p (.lst xs))) : tLst tA σ H Q := q
theorem r_call {sp : Sp} {E : XK} (q : tA σ H fun vs H1 => sp (vs ++ []) H1 Q E) : tCall sp [] E tA σ H Q := q
theorem r_cb {r : List V → Hp → VK → Prop} (q : tA σ H fun vs H1 => r vs H1 Q) : tCB r tA σ H Q := q
theorem r_ixL {n : Int} (h : SqL K H p xs) (ha : atI xs n = some v) (q : Q v H) : rIxL K (.ref p) (.int n) H Q := ⟨p, xs, n, v, rfl, rfl, h, ha, q⟩
theorem r_ixT {n : Int} (h : SqT K H p xs) (ha : atI xs n = some v) (q : Q v H) : rIxT K (.ref p) (.int n) H Q := ⟨p, xs, n, v, rfl, rfl, h, ha, q⟩
theorem r_ixS {z : Str} {n : Int} {c : Nat} (hz : z.length ≤ sizeLine) (ha : atI z.cps.toList n = some c) (q : Q (.str ⟨#[c]⟩) H) : rIxS (.str z) (.int n) H Q := ⟨z, n, c, rfl, rfl, hz, ha, q⟩
theorem r_setL {n : Int} {j : Nat} {QH : Hp → Prop} (h : H p = some (.lst xs)) (hj : ixN xs.length n = some j) (q : QH (upd H p (.lst (xs.set j v)))) : rSetL (.ref p) (.int n) v H QH := ⟨p, xs, n, j, rfl, rfl, h, hj, q⟩
theorem r_fld {f : Str} (q : ta σ H fun x H1 => ∃ a C dx fs v, x = .ref a ∧ H1 a = some (.ins C dx fs) ∧ Cls K C ∧ NoAttr K C f ∧ fs.lookup f = some v ∧ Q v H1) : tFld K ta f σ H Q := q
theorem r_meth {C : Addr} {m : Str} {sp : Sp} {E : XK} (q : ta σ H fun x H1 => ∃ a dx fs, x = .ref a ∧ H1 a = some (.ins C dx fs) ∧ fs.lookup m = none ∧ tA σ H1 fun vs H2 => sp (x :: (vs ++ [])) H2 Q E) : tMeth C m sp [] E ta tA σ H Q := q
theorem r_cval {C : Addr} {mc : Value} {f : Str} {uu : Value} (h1 : ClX.CRead K C mc) (h2 : ClX.CVal K C mc f v uu) (q : Q v H) : ClX.tCVal K (tC (.ref C)) f σ H Q := ⟨C, mc, v, uu, rfl, h1, h2, q⟩
theorem r_fldV {C dx : Addr} {fs : List (Str × V)} {f : Str} (hp : H a = some (.ins C dx fs)) (hc : Cls K C) (hn : NoAttr K C f) (hl : fs.lookup f = some v) (hv : σ[i]? = some (some (.ref a))) (q : Q v H) : tFld K (tVar i) f σ H Q := ⟨.ref a, hv, a, C, dx, fs, v, rfl, hp, hc, hn, hl, q⟩
theorem r_sfld {f : Str} {tv : TE} (q : tv σ H fun y H1 => ta σ H1 fun x H2 => ∃ a C dx fs, x = .ref a ∧ H2 a = some (.ins C dx fs) ∧ Cls K C ∧ NoAttr K C f ∧ fs.length < 1000 ∧ D.nx σ (upd H2 a (.ins C dx (putF f y fs)))) : sFld K ta tv f D σ H := q
theorem r_itup (q : te σ H fun x H1 => ∃ a, x = .ref a ∧ (∃ xs, SqT K H1 a xs) ∧ R (Itt K a) H1) : iTup K te σ H R := q
theorem r_ilist (q : te σ H fun x H1 => ∃ a, x = .ref a ∧ (∃ xs, SqL K H1 a xs) ∧ R (Itl K a) H1) : iList K te σ H R := q
theorem r_istr (q : te σ H fun v H1 => ∃ x, v = .str x ∧ R (Its x) H1) : iStr te σ H R := q
theorem r_m1 {r : V → List V → Hp → VK → Prop} (q : ta σ H fun x H1 => (∃ a, x = .str a) ∧ te σ H1 fun y H2 => r x [y] H2 Q) : tM1 r ta te σ H Q := q
theorem r_m0 {r : V → List V → Hp → VK → Prop} (q : ta σ H fun x H1 => (∃ a, x = .str a) ∧ r x [] H1 Q) : tM0 r ta σ H Q := q
theorem r_isStr {z : Str} {B : Prop} (g : B) : (∃ a, V.str z = .str a) ∧ B := ⟨⟨z, rfl⟩, g⟩
theorem r_exStr {z : Str} {q : Str → Prop} (g : q z) : ∃ x, V.str z = .str x ∧ q x := ⟨z, rfl, g⟩
theorem r_gname {QG : L2.St → Hp → Prop} (q : QG (σ.set i (some v)) H) : gName i v σ H QG := q
theorem r_callD {sp : Sp} {dvs : List V} {E : XK} (q : tA σ H fun vs H1 => sp (vs ++ dvs) H1 Q E) : tCall sp dvs E tA σ H Q := q
theorem r_callN {n m : Nat} {sp : Sp} {gV : List V → List V → List V} {E : XK} {tk : TA} (q : tA σ H fun vs H1 => tk σ H1 fun zs H2 => vs.length = n ∧ zs.length = m ∧ sp (gV vs zs) H2 Q E) : tCallN n m sp gV E tA tk σ H Q := q
theorem r_dget1 (q : ta σ H fun x H1 => ∃ a, x = .ref a ∧ IsD H1 a ∧ tb σ H1 fun y H2 => ∃ o, DGet H2 a y o ∧ Q (o.getD .non) H2) : tDGet1 ta tb σ H Q := q
theorem r_disp {trs : List (TE × TE)} (q : ∀ p, H p = none → tPairs trs σ (upd H p (.dK [])) fun ps H2 => H2 p = some (.dK []) ∧ ∃ kvs : List (Key × V), ps = kvs.map (fun kv => (kV kv.1, kv.2)) ∧ kvs.length ≤ 15 ∧ Q (.ref p) (upd H2 p (.dK (mergeK [] kvs)))) : tDisp trs σ H Q := q
theorem r_pairs {trs : List (TE × TE)} {QP : List (V × V) → Hp → Prop} (q : ta σ H fun x H1 => tb σ H1 fun y H2 => tPairs trs σ H2 fun ps H3 => QP ((x, y) :: ps) H3) : tPairs ((ta, tb) :: trs) σ H QP := q
theorem r_pairs0 {QP : List (V × V) → Hp → Prop} (q : QP [] H) : tPairs [] σ H QP := q
theorem r_fldK {C dx : Addr} {fs : List (Str × V)} {f : Str} {G : V → Prop} (hp : H p = some (.ins C dx fs)) (hc : Cls K C) (hn : NoAttr K C f) (hl : fs.lookup f = some v) (q : G v) :
    ∃ a C dx fs v, V.ref p = .ref a ∧ H a = some (.ins C dx fs) ∧ Cls K C ∧ NoAttr K C f ∧ fs.lookup f = some v ∧ G v := ⟨p, C, dx, fs, v, rfl, hp, hc, hn, hl, q⟩
theorem r_gtup {n : Nat} {gs : TGs} {QG : L2.St → Hp → Prop} (h : SqT K H a xs) (hn : xs.length = n) (q : gs xs σ H QG) : gTup K n gs (.ref a) σ H QG := ⟨a, xs, rfl, h, hn, q⟩
theorem r_gcons {g : TG} {gs : TGs} {QG : L2.St → Hp → Prop} (q : g v σ H fun σ' H' => gs xs σ' H' QG) : gCons g gs (v :: xs) σ H QG := ⟨v, xs, rfl, q⟩
theorem r_gnil {QG : L2.St → Hp → Prop} (q : QG σ H) : gNil [] σ H QG := ⟨rfl, q⟩
theorem r_asgG {g : TG} (q : te σ H fun x H1 => g x σ H1 D.nx) : tAsg te g D σ H := q
theorem r_rng2 {m n : Int} {q : Int → Int → Prop} (h : q m n) : ∃ i j : Int, [V.int m, V.int n] = [.int i, .int j] ∧ q i j := ⟨m, n, rfl, h⟩
theorem r_irng2 (q : tA σ H fun vs H1 => ∃ i j : Int, vs = [.int i, .int j] ∧ (-(2 ^ 62) ≤ i ∧ i < 2 ^ 62 ∧ -(2 ^ 62) ≤ j ∧ j < 2 ^ 62) ∧ R (Itr i (j - i).toNat) H1) : iRng2 tA σ H R := q
theorem r_cat {p' : Addr} (h : H p = some (.lst xs)) (h' : H p' = some (.lst ys)) (hl : xs.length + ys.length ≤ sizeLine) (g : ∀ c, H c = none → Q (.ref c) (upd H c (.lst (xs ++ ys)))) : rCat (.ref p) (.ref p') H Q := ⟨p, p', xs, ys, rfl, rfl, h, h', hl, g⟩
theorem r_bm {T : String} {r : V → List V → Hp → VK → Prop} (q : ta σ H fun x H1 => tyV K T x H1 ∧ tA σ H1 fun xs H2 => r x xs H2 Q) : tBM K T r ta tA σ H Q := q
theorem r_tyL {B : Prop} (h : SqL K H p xs) (g : B) : tyV K "list" (.ref p) H ∧ B := ⟨.inl ⟨rfl, xs, h⟩, g⟩
theorem r_append (h : H p = some (.lst xs)) (hl : xs.length < sizeLine) (q : Q .non (upd H p (.lst (xs ++ [v])))) : rAppend (.ref p) [v] H Q := ⟨p, xs, v, rfl, rfl, h, hl, q⟩
theorem r_seq (q : t1 { D with nx := t2 D } σ H) : tSeq t1 t2 D σ H := q
theorem r_next (q : D.nx σ H) : tNext D σ H := q
theorem r_asg (q : te σ H fun x H1 => D.nx (σ.set i (some x)) H1) : tAsg te (gName i) D σ H := q
theorem r_asgS {s : TSet} (q : te σ H fun v H1 => ta σ H1 fun o H2 => tb σ H2 fun i H3 => s o i v H3 fun H4 => D.nx σ H4) : tAsg te (gSub ta tb s) D σ H := q
theorem r_ifS (q : t σ H fun b H1 => if b = true then t1 D σ H1 else t2 D σ H1) : tIfS t t1 t2 D σ H := q
theorem r_ret (q : te σ H D.rt) : tRet te D σ H := q
theorem r_drop (q : te σ H fun _ H1 => D.nx σ H1) : tDrop te D σ H := q
theorem r_par {k j : Nat} (q : tA σ H fun vs H1 => ∃ v w, vs = [v, w] ∧ D.nx ((σ.set k (some v)).set j (some w)) H1) : tPar k j tA D σ H := q
theorem r_aug {tip : TIp} (h : σ[i]? = some (some x)) (q : te σ H fun y H1 => tip x y H1 fun z H2 => D.nx (σ.set i (some z)) H2) : tAug i te tip D σ H := ⟨x, h, q⟩
theorem r_match {tm : V → TS} (q : te σ H fun x H1 => tm x D σ H1) : tMatch te tm D σ H := q
theorem r_mstr {x y : Str} {tm : V → TS} (q : if decide (y = x) = true then t1 D σ H else tm (.str y) D σ H) : tmStr x t1 tm (.str y) D σ H := ⟨y, rfl, q⟩
theorem r_mnil (q : D.nx σ H) : tmNil v D σ H := q
theorem r_sl {r : V → Option Int → Option Int → Hp → VK → Prop} {tl th : TO} (q : te σ H fun x H1 => tl σ H1 fun l H2 => th σ H2 fun u H3 => r x l u H3 Q) : tSl r te tl th σ H Q := q
theorem r_nopart {QO : Option Int → Hp → Prop} (q : QO none H) : tNoPart σ H QO := q
theorem r_part {QO : Option Int → Hp → Prop} (q : te σ H fun x H1 => ∃ i, x = .int i ∧ QO (some i) H1) : tPart te σ H QO := q
theorem r_int {m : Int} {q : Int → Prop} (h : q m) : ∃ k, V.int m = .int k ∧ q k := ⟨m, rfl, h⟩
theorem r_int1 {m : Int} {q : Int → Prop} {B : Prop} (h : q m) : (∃ i, [V.int m] = [V.int i] ∧ q i) ∨ B := .inl ⟨m, rfl, h⟩
theorem r_bl1 {b : Bool} {q : Bool → Prop} {A : Prop} (h : q b) : A ∨ ∃ k, [V.bl b] = [V.bl k] ∧ q k := .inr ⟨b, rfl, h⟩
theorem r_ex1 {m : Int} {q : Int → Prop} (h : q m) : ∃ i, [V.int m] = [V.int i] ∧ q i := ⟨m, rfl, h⟩
theorem r_ex2 {m n : Int} {q : Int → Int → Prop} (h : q m n) : ∃ i j, [V.int m, V.int n] = [V.int i, V.int j] ∧ q i j := ⟨m, n, rfl, h⟩
theorem r_lenS {q : List V → Prop} (h : SqL K H p xs) (g : q xs) : ∃ a ys, [V.ref p] = [V.ref a] ∧ (SqL K H a ys ∨ SqT K H a ys) ∧ q ys := ⟨p, xs, rfl, .inl h, g⟩
theorem r_slL {lo hi : Option Int} (h : SqL K H p xs) (q : ∀ c, H c = none → Q (.ref c) (upd H c (.lst (cutV xs lo hi)))) : rSlL K (.ref p) lo hi H Q := ⟨p, xs, rfl, h, q⟩
theorem r_for {wi : TI} {g : TG} (q : wi σ H fun J H1 => ForW J g t1 D σ H1) : tFor wi g t1 D σ H := q
theorem r_lc {wi : TI} {g : TG} {tt : TT} {vs : List Nat} (q : wi σ H fun J H1 => LcW J g tt te vs σ H1 Q) : tLc wi g tt te vs σ H Q := q
theorem r_irng1 (q : tA σ H fun vs H1 => ∃ j : Int, vs = [.int j] ∧ -(2 ^ 62) ≤ j ∧ j < 2 ^ 62 ∧ R (Itr 0 j.toNat) H1) : iRng1 tA σ H R := q
theorem r_iteT {c : Prop} [Decidable c] {A B : Prop} (h : c) (q : A) : if decide c = true then A else B := by rw [if_pos (decide_eq_true h)]; exact q
theorem r_iteF {c : Prop} [Decidable c] {A B : Prop} (h : ¬ c) (q : B) : if decide c = true then A else B := by rw [if_neg (by simpa using h)]; exact q
theorem r_iteNT {c : Prop} [Decidable c] {A B : Prop} (h : ¬ c) (q : A) : if (!decide c) = true then A else B := by rw [if_pos (by simpa using h)]; exact q
theorem r_iteNF {c : Prop} [Decidable c] {A B : Prop} (h : c) (q : B) : if (!decide c) = true then A else B := by rw [if_neg (by simpa using h)]; exact q
theorem ite_join {c : Prop} [Decidable c] (Z : VK) (h1 : c → ∀ Q : VK, (∀ v H', Z v H' → Q v H') → ta σ H Q) (h2 : ¬ c → ∀ Q : VK, (∀ v H', Z v H' → Q v H') → tb σ H Q) (q : ∀ v H', Z v H' → Q v H') : if decide c = true then ta σ H Q else tb σ H Q := by
  by_cases h : c
  · rw [if_pos (decide_eq_true h)]; exact h1 h Q q
  · rw [if_neg (by simpa using h)]; exact h2 h Q q
theorem r_make {C : Addr} {sp : Sp} {E : XK} (q : tA σ H fun vs H1 => ∀ x dx, H1 x = none → H1 dx = none → dx ≠ x → sp (.ref x :: (vs ++ [])) (upd (upd H1 dx (.own x)) x (.ins C dx [])) (fun v H2 => v = .non ∧ Q (.ref x) H2) E) : tMake C sp [] E tA σ H Q := q
theorem r_addS {m n : Str} {q : Str → Str → Prop} (h : m.length + n.length ≤ sizeLine) (g : q m n) : ∃ i j, V.str m = .str i ∧ V.str n = .str j ∧ i.length + j.length ≤ sizeLine ∧ q i j := ⟨m, n, rfl, rfl, h, g⟩
theorem iteNt {A B : Prop} (h : B) : if (!true) = true then A else B := h
theorem iteNf {A B : Prop} (h : A) : if (!false) = true then A else B := h
theorem r_ite2 {c : Prop} [Decidable c] {A B : Prop} (h1 : c → A) (h2 : ¬ c → B) : if decide c = true then A else B := by
  by_cases h : c
  · exact r_iteT h (h1 h)
  · exact r_iteF h (h2 h)
theorem r_iteN2 {c : Prop} [Decidable c] {A B : Prop} (h1 : ¬ c → A) (h2 : c → B) : if (!decide c) = true then A else B := by
  by_cases h : c
  · exact r_iteNF h (h2 h)
  · exact r_iteNT h (h1 h)
end

theorem at_start {t : TS} {D : Ends} {σ σ0 : L2.St} {H : Hp} (h : σ0 = σ) (q : t D σ H) : t D σ0 H := h ▸ q
theorem cx_K {CX : CXT} {P : Program} {w : World} {K : PySem.W.Frag} {mg : Str → Option Value} {base : Heap} {N : List Str} {qual : Str} {sc : Scope} {f : Addr} {cd : Value} {A : Around} {outer : List Env} {s : Shared} {H : Hp} {E : XK} : (cxOf CX P w K mg base N qual sc f cd A outer s H E).nox.K = K := rfl
theorem mul_bd {x y A B : Int} (h0 : 0 ≤ x) (h1 : x ≤ A) (h2 : 0 ≤ y) (h3 : y ≤ B) : 0 ≤ x * y ∧ x * y ≤ A * B := ⟨Int.mul_nonneg h0 h2, Int.mul_le_mul h1 h3 h2 (Int.le_trans h0 h1)⟩
/-! ### flat lists compared -/
theorem dp_ints {K : PySem.W.Frag} {H : Hp} : ∀ ns : List Int, DpAll K H (ns.map V.int) (ns.map PyData.int)
  | [] => .nil
  | n :: r => .cons (.int n) (dp_ints r)
theorem lay_ints : ∀ ns : List Int, PyData.canLayAll0 (ns.map PyData.int) = true
  | [] => rfl
  | n :: r => by
    show (PyData.canLay0 (.int n) && PyData.canLayAll0 (r.map PyData.int)) = true
    rw [lay_ints r]; rfl
theorem depth_ints : ∀ ns : List Int, PyData.depthAll (ns.map PyData.int) = 0
  | [] => rfl
  | n :: r => by
    show max (PyData.depth (.int n)) (PyData.depthAll (r.map PyData.int)) = 0
    rw [depth_ints r]; rfl
theorem shaped_ints (ns : List Int) : SeqAt.shaped (.list (ns.map PyData.int)) = true := by
  show (PyData.canLayAll0 (ns.map PyData.int) && decide (PyData.depthAll (ns.map PyData.int) + 1 ≤ 64)) = true
  rw [lay_ints, depth_ints]; rfl
theorem eqv_ints : ∀ ns ms : List Int, PyData.eqvAll (ns.map PyData.int) (ms.map PyData.int) = decide (ns = ms)
  | [], [] => rfl
  | [], _ :: _ => rfl
  | _ :: _, [] => rfl
  | n :: r, m :: q => by
    show ((n == m) && PyData.eqvAll (r.map PyData.int) (q.map PyData.int)) = decide (n :: r = m :: q)
    rw [eqv_ints r q]
    by_cases h1 : n = m <;> by_cases h2 : r = q <;> simp [h1, h2]
theorem r_eqInts {K : PySem.W.Frag} {H : Hp} {Q : VK} {a b : Addr} {ns ms : List Int} (h : SqL K H a (ns.map V.int)) (h' : SqL K H b (ms.map V.int)) (q : Q (.bl (decide (ns = ms))) H) : rEqD K (.ref a) (.ref b) H Q :=
  ⟨_, _, .lst h (dp_ints ns), .lst h' (dp_ints ms), shaped_ints ns, shaped_ints ms, (show Q (.bl (PyData.eqvAll (ns.map PyData.int) (ms.map PyData.int))) H by rw [eqv_ints]; exact q)⟩
theorem r_neInts {K : PySem.W.Frag} {H : Hp} {Q : VK} {a b : Addr} {ns ms : List Int} (h : SqL K H a (ns.map V.int)) (h' : SqL K H b (ms.map V.int)) (q : Q (.bl (!decide (ns = ms))) H) : rNeD K (.ref a) (.ref b) H Q :=
  ⟨_, _, .lst h (dp_ints ns), .lst h' (dp_ints ms), shaped_ints ns, shaped_ints ms, (show Q (.bl (!PyData.eqvAll (ns.map PyData.int) (ms.map PyData.int))) H by rw [eqv_ints]; exact q)⟩
theorem inV_strs {z : Str} : ∀ zs : List Str, inV (.str z) (zs.map V.str) = decide (z ∈ zs)
  | [] => by simp [inV]
  | y :: r => by
    have ih := inV_strs (z := z) r
    unfold inV at ih ⊢
    rw [List.map_cons, List.any_cons, ih]
    show (decide (y = z) || decide (z ∈ r)) = decide (z ∈ y :: r)
    by_cases e : y = z
    · subst e; simp
    · have e' : ¬ z = y := fun q => e q.symm
      simp [e, e']
theorem flat_strs : ∀ zs : List Str, (zs.map V.str).all flatV = true
  | [] => rfl
  | y :: r => by rw [List.map_cons, List.all_cons, flat_strs r]; rfl
theorem r_notInS {K : PySem.W.Frag} {H : Hp} {Q : VK} {p : Addr} {z : Str} {zs : List Str} (h : SqL K H p (zs.map V.str) ∨ SqT K H p (zs.map V.str)) (q : Q (.bl (!decide (z ∈ zs))) H) : rIn K true (.str z) (.ref p) H Q :=
  ⟨p, _, rfl, h, rfl, flat_strs zs, (show Q (.bl (!inV (.str z) (zs.map V.str))) H by rw [inV_strs]; exact q)⟩
theorem r_inS {K : PySem.W.Frag} {H : Hp} {Q : VK} {p : Addr} {z : Str} {zs : List Str} (h : SqL K H p (zs.map V.str) ∨ SqT K H p (zs.map V.str)) (q : Q (.bl (decide (z ∈ zs))) H) : rIn K false (.str z) (.ref p) H Q :=
  ⟨p, _, rfl, h, rfl, flat_strs zs, (show Q (.bl (inV (.str z) (zs.map V.str))) H by rw [inV_strs]; exact q)⟩
/-! ### heaps -/
theorem upd_new {H : Hp} {a p : Addr} {o u : HO} (hn : H p = none) (h : H a = some u) : upd H p o a = some u := by rw [upd_ne (ne_of_none h hn)]; exact h
theorem same_new {H : Hp} {p : Addr} {o : HO} (hn : H p = none) : Same H (upd H p o) := fun _ _ e => upd_new hn e
theorem Same.up {H H' : Hp} {a : Addr} {o : HO} (s : Same H H') (h : H a = some o) : H' a = some o := s a o h
theorem same_mut {H H' : Hp} {p : Addr} {o : HO} (s : Same H H') (hn : H p = none) : Same H (upd H' p o) := fun _ _ e => by rw [upd_ne (ne_of_none e hn)]; exact s _ _ e
theorem same_seqT {K : PySem.W.Frag} {H H' : Hp} {a : Addr} {xs : List V} (e : Same H H') (h : SqT K H a xs) : SqT K H' a xs := by
  rcases h with (h | ⟨o, h⟩) | h
  · exact .inl (.inl (e _ _ h))
  · exact .inl (.inr ⟨o, e _ _ h⟩)
  · exact .inr h
theorem small1000' {n : Nat} (h : n ≤ 10000) : n < sizeLine := Nat.lt_of_le_of_lt h (by decide)
/-- a comprehension whose test and element are pure -/
theorem lc_all {J : It} {n : Nat} {G : Hp → Prop} {Y : Nat → Hp → V → Hp → Prop} (wk : Walk J n G Y) {tt : TT} {te : TE} {vs : List Nat} {σ : L2.St} {H1 : Hp} {Q : VK} {j : Nat} (yv : Nat → V) (f : Nat → Bool) (v : Nat → V) (hn : n ≤ 10000)
    (hY : ∀ i H x H', i < n → Y i H x H' → H' = H ∧ x = yv i) (hG : ∀ H', Same H1 H' → G H') (hw : ∀ x, wipe ((wipe σ vs).set j (some x)) vs = wipe σ vs)
    (ht : ∀ i H', i < n → Same H1 H' → ∀ QT : Bool → Hp → Prop, (∀ H2, Same H' H2 → QT (f i) H2) → tt ((wipe σ vs).set j (some (yv i))) H' QT)
    (he : ∀ i H', i < n → f i = true → Same H1 H' → ∀ Q : VK, (∀ H2, Same H' H2 → Q (v i) H2) → te ((wipe σ vs).set j (some (yv i))) H' Q)
    (hd : ∀ D H', H1 D = none → Same H1 H' → H' D = some (.lst (Evl.given n f v)) → Q (.ref D) H') :
    LcW J (gName j) tt te vs σ H1 Q := by
  intro D hD
  refine lc_it wk (Qd := fun H => Q (.ref D) H) (fun i H => Same H1 H ∧ H D = some (.lst (Evl.given i f v))) ⟨same_new hD, upd_same⟩ (fun i H _ p => hG H p.1) (fun i x H H' hi p y => ?_) (fun H p => hd D H hD p.1 p.2)
  obtain ⟨rfl, rfl⟩ := hY i H x H' hi y
  refine ⟨hw _, ?_⟩
  refine ht i _ hi p.1 _ fun H2 s2 => ?_
  cases e : f i with
  | true =>
    refine iteT ?_
    refine he i H2 hi e (p.1.trans s2) _ fun H3 s3 => ?_
    refine ⟨_, s3 _ _ (s2 _ _ p.2), small1000' (Nat.le_trans (Evl.given_len i f v) (by omega)), same_mut ((p.1.trans s2).trans s3) hD, ?_⟩
    rw [upd_same, Evl.given_yes e]
  | false =>
    refine iteF ?_
    refine ⟨p.1.trans s2, ?_⟩
    rw [s2 _ _ p.2, Evl.given_no e]
theorem range_get {α : Type} (xs : List α) (d : α) : (List.range xs.length).map (fun i => xs.getD i d) = xs := by
  refine List.ext_getElem (by simp) fun i h1 h2 => ?_
  simp [List.getElem?_eq_getElem h2]
theorem given_filter {α : Type} (xs : List α) (d : α) (p : α → Bool) (g : α → V) : Evl.given xs.length (fun i => p (xs.getD i d)) (fun i => g (xs.getD i d)) = (xs.filter p).map g := by
  unfold Evl.given
  have e := range_get xs d
  have h2 : (List.range xs.length).filter (fun i => p (xs.getD i d)) = (List.range xs.length).filter (p ∘ fun i => xs.getD i d) := rfl
  have h3 : ((List.range xs.length).filter (p ∘ fun i => xs.getD i d)).map (g ∘ fun i => xs.getD i d) = (xs.filter p).map g := by
    rw [← List.map_map, ← List.filter_map, e]
  exact h3
theorem given_map {α : Type} (xs : List α) (d : α) (g : α → V) : Evl.given xs.length (fun _ => true) (fun i => g (xs.getD i d)) = xs.map g := by
  have h := given_filter xs d (fun _ => true) g
  rw [List.filter_eq_self.mpr (fun _ _ => rfl)] at h
  exact h
theorem atI_map {α : Type} {xs : List α} {g : α → V} {r : Int} (h0 : 0 ≤ r) (h1 : r < (xs.length : Int)) : ∃ x ∈ xs, atI (xs.map g) r = some (g x) := by
  obtain ⟨n, rfl⟩ : ∃ n : Nat, r = (n : Int) := ⟨r.toNat, by omega⟩
  have hl : n < xs.length := by omega
  refine ⟨xs[n], List.getElem_mem hl, ?_⟩
  exact atI_nat (by simp [hl])
theorem YAt_get {α : Type} {xs : List α} {d : α} {g : α → V} {i : Nat} {H : Hp} {x : V} {H' : Hp} (hi : i < (xs.map g).length) (y : YAt (xs.map g) i H x H') : H' = H ∧ x = g (xs.getD i d) := by
  obtain ⟨rfl, e⟩ := y
  refine ⟨rfl, ?_⟩
  have hl : i < xs.length := by simpa using hi
  rw [List.getElem?_map, List.getElem?_eq_getElem hl] at e
  have e' : g xs[i] = x := Option.some.inj e
  rw [← e', List.getD_eq_getElem?_getD, List.getElem?_eq_getElem hl]
  rfl
theorem r_isiS {K : PySem.W.Frag} {H : Hp} {Q : VK} {z : Str} (q : Q (.bl true) H) : rIsi K [.str z, .ty "str"] H Q := ⟨_, _, .type "str", _, _, rfl, .ty _, .base (.str z), kit_ty (by decide +kernel), q⟩
theorem cutV_take (xs : List V) (n : Nat) : cutV xs none (some (n : Int)) = xs.take n := by
  unfold cutV
  rw [HT.sIx_none, HT.sIx_nat]
  simp only [List.drop_zero, Nat.sub_zero]
  by_cases h : n ≤ xs.length
  · rw [Nat.min_eq_left h]
  · rw [Nat.min_eq_right (by omega), List.take_length, List.take_of_length_le (by omega)]
theorem decI {a b : Int} : decide (V.int a = V.int b) = decide (a = b) := by
  by_cases h : a = b
  · rw [h]; simp
  · rw [decide_eq_false h, decide_eq_false fun z => h (V.int.inj z)]
theorem decS {a b : Str} : decide (V.str a = V.str b) = decide (a = b) := by
  by_cases h : a = b
  · rw [h]; simp
  · rw [decide_eq_false h, decide_eq_false fun z => h (V.str.inj z)]
/-- a list of truths made by a comprehension -/
theorem given_bl {α : Type} (xs : List α) (d : α) (p : α → Bool) : Evl.given xs.length (fun _ => true) (fun i => V.bl (p (xs.getD i d))) = (xs.map p).map V.bl := by
  rw [given_map xs d (fun x => V.bl (p x)), List.map_map]
  rfl
theorem given_int {α : Type} (xs : List α) (d : α) (p : α → Int) : Evl.given xs.length (fun _ => true) (fun i => V.int (p (xs.getD i d))) = (xs.map p).map V.int := by
  rw [given_map xs d (fun x => V.int (p x)), List.map_map]
  rfl
theorem all_id {α : Type} (xs : List α) (p : α → Bool) : (xs.map p).all id = xs.all p := by
  rw [List.all_map]
  rfl
def optV : Option Int → V
  | none => .non
  | some i => .int i
theorem strEq {a b : Str} (h : V.str a = V.str b) : a = b := V.str.inj h
theorem strNe {a b : Str} (h : ¬ V.str a = V.str b) : ¬ a = b := fun z => h (by rw [z])
theorem intEq {a b : Int} (h : V.int a = V.int b) : a = b := V.int.inj h
theorem intNe {a b : Int} (h : ¬ V.int a = V.int b) : ¬ a = b := fun z => h (by rw [z])
theorem r_iteS2 {a b : Str} {A B : Prop} (h1 : a = b → A) (h2 : ¬ a = b → B) : if decide (V.str a = V.str b) = true then A else B := r_ite2 (fun h => h1 (strEq h)) (fun h => h2 (strNe h))
theorem r_iteI2 {a b : Int} {A B : Prop} (h1 : a = b → A) (h2 : ¬ a = b → B) : if decide (V.int a = V.int b) = true then A else B := r_ite2 (fun h => h1 (intEq h)) (fun h => h2 (intNe h))
theorem r_iteB {b : Bool} {A B : Prop} (h1 : b = true → A) (h2 : b = false → B) : if b = true then A else B := by
  cases b
  · exact iteF (h2 rfl)
  · exact iteT (h1 rfl)
theorem r_iteBN {b : Bool} {A B : Prop} (h1 : b = false → A) (h2 : b = true → B) : if (!b) = true then A else B := by
  cases b
  · exact iteT (h1 rfl)
  · exact iteF (h2 rfl)
theorem val_to {Q : VK} {v v' : V} {H : Hp} (z : Q v H) (e : v = v') : Q v' H := e ▸ z
theorem r_isiO {K : PySem.W.Frag} {H : Hp} {Q : VK} {o : Option Int} (q : Q (.bl false) H) : rIsi K [optV o, .ty "bool"] H Q := by
  cases o with
  | none => exact ⟨_, _, .type "NoneType", _, _, rfl, .ty _, .base .non, kit_ty (by decide +kernel), q⟩
  | some i => exact ⟨_, _, .type "int", _, _, rfl, .ty _, .base (.int i), kit_ty (by decide +kernel), q⟩
theorem r_neO {H : Hp} {Q : VK} {o : Option Int} (q : Q (.bl false) H) : rNe (optV o) (optV o) H Q := by
  refine ⟨by cases o <;> rfl, ?_⟩
  rw [decide_eq_true rfl]
  exact q
theorem r_isNone {B : Prop} (q : B) : V.non = V.non ∧ B := ⟨rfl, q⟩
theorem r_neB {H : Hp} {Q : VK} {b : Bool} (q : Q (.bl false) H) : rNe (.bl b) (.bl b) H Q := by
  refine ⟨rfl, ?_⟩
  rw [decide_eq_true rfl]
  exact q
theorem putF_le (f : Str) (v : V) : ∀ fs : List (Str × V), (putF f v fs).length ≤ fs.length + 1
  | [] => Nat.le_refl _
  | (g, x) :: r => by
    unfold putF
    split
    · simp
    · have := putF_le f v r
      simp only [List.length_cons]
      omega
theorem putF_lt {f : Str} {v : V} {fs : List (Str × V)} {n m : Nat} (h : fs.length + (n + 1) < m) : (putF f v fs).length + n < m := by
  have := putF_le f v fs
  omega
theorem putF_lt0 {f : Str} {v : V} {fs : List (Str × V)} {m : Nat} (h : fs.length + 1 < m) : (putF f v fs).length < m := putF_lt (n := 0) h
theorem sz_lit {n : Nat} (h : n ≤ 1000) : n ≤ sizeLine := Nat.le_of_lt (small1000 h)
end KB

/-! ### own steps of the reading -/
local macro_rules | `(tactic| walk_at "hp") => `(tactic| first | with_reducible assumption | with_reducible exact L2.upd_same | (refine KB.upd_new ?h1 ?h2; (case h1 => (with_reducible assumption)); (case h2 => walk_at "hp")) | (rw [L2.upd_ne (by first | assumption | exact Ne.symm (by assumption))]; walk_at "hp"))
local macro_rules | `(tactic| walk_at "sq") => `(tactic| first | with_reducible assumption | (refine L2.SqL.of ?h1; (case h1 => walk_at "hp")) | (refine L2.SqT.of ?h1; (case h1 => walk_at "hp")))
local macro_rules | `(tactic| walk_at "sq2") => `(tactic| first | (refine Or.inl ?_; walk_at "sq") | (refine Or.inr ?_; walk_at "sq") | (with_reducible exact Or.inr (by (first | with_reducible assumption | apply_assumption))))
local macro_rules | `(tactic| walk_at "sz") => `(tactic| exact KB.sz_lit (by simp))
local macro_rules | `(tactic| walk_at "cond") => `(tactic| first | (show _ ∨ _; first | exact Or.inl ⟨by omega, by omega⟩ | exact Or.inr ⟨by omega, by omega⟩) | (show _ ∧ _ ∧ _; exact ⟨by omega, by omega, by omega⟩) | (show _ ∧ _; exact ⟨by omega, by omega⟩) | (show _ < _; omega) | (show _ ≤ _; omega))
local macro_rules | `(tactic| walk_at "rd1") => `(tactic| first
  | with_reducible refine KB.r_seq ?_
  | with_reducible refine KB.r_next ?_
  | with_reducible refine KB.r_c ?_
  | ((with_reducible refine KB.r_var (v := ?v1) ?h1 ?q); (case h1 => exact rfl))
  | with_reducible refine KB.r_op ?_
  | with_reducible refine KB.r_un ?_
  | with_reducible refine KB.r_I0 ?_
  | ((with_reducible refine KB.r_I ?h1 ?q); (case h1 => walk_at "cond"))
  | with_reducible refine KB.r_int1 ?_
  | with_reducible refine KB.r_bl1 ?_
  | with_reducible refine KB.r_ex1 ?_
  | with_reducible refine KB.r_ex2 ?_
  | ((with_reducible refine KB.r_lenS (xs := ?v1) ?h1 ?q); (case h1 => walk_at "sq"))
  | ((with_reducible refine KB.r_eq ?h1 ?q); (case h1 => exact rfl))
  | ((with_reducible refine KB.r_ne ?h1 ?q); (case h1 => exact rfl))
  | with_reducible refine KB.r_U ?_
  | with_reducible refine KB.r_test ?_
  | with_reducible refine KB.r_B ?_
  | with_reducible refine KB.r_bl ?_
  | with_reducible refine KB.r_int ?_
  | with_reducible refine KB.r_and ?_
  | with_reducible refine KB.r_or ?_
  | with_reducible refine KB.r_not ?_
  | with_reducible refine KB.r_andV ?_
  | with_reducible refine KB.r_orV ?_
  | with_reducible refine KB.r_notV ?_
  | with_reducible refine KB.r_if ?_
  | with_reducible refine KB.r_nil ?_
  | with_reducible refine KB.r_cons ?_
  | with_reducible refine KB.r_tup ?_
  | with_reducible refine KB.r_lst ?_
  | with_reducible refine KB.r_call ?_
  | with_reducible refine KB.r_cb ?_
  | ((with_reducible refine KB.r_ixL (xs := ?v1) (v := ?v2) ?h1 ?h2 ?q); (case h1 => walk_at "sq"); (case h2 => exact rfl))
  | ((with_reducible refine KB.r_ixT (xs := ?v1) (v := ?v2) ?h1 ?h2 ?q); (case h1 => walk_at "sq"); (case h2 => exact rfl))
  | ((with_reducible refine KB.r_setL (xs := ?v1) (j := ?v2) ?h1 ?h2 ?q); (case h1 => walk_at "hp"); (case h2 => exact rfl))
  | with_reducible refine KB.r_meth ?_
  | with_reducible refine KB.r_fld ?_
  | with_reducible refine KB.r_sfld ?_
  | with_reducible refine KB.r_gname ?_
  | with_reducible refine KB.r_for ?_
  | with_reducible refine KB.r_isNone ?_
  | ((with_reducible refine KB.r_gtup (xs := ?v1) ?h1 ?h2 ?q); (case h1 => walk_at "sq"); (case h2 => exact rfl))
  | with_reducible refine KB.r_gcons ?_
  | with_reducible refine KB.r_gnil ?_
  | with_reducible refine KB.r_irng2 ?_
  | with_reducible refine KB.r_bm ?_
  | ((with_reducible refine KB.r_tyL (xs := ?v1) ?h1 ?q); (case h1 => walk_at "sq"))
  | ((with_reducible refine KB.r_fldK (C := ?v1) (dx := ?v2) (fs := ?v3) (v := ?v4) ?h1 ?h2 ?h3 ?h4 ?q); (case h1 => walk_at "hp"); (case h2 => assumption); (case h3 => assumption); (case h4 => exact rfl))
  | with_reducible refine KB.r_callD ?_
  | with_reducible refine KB.r_callN ?_
  | with_reducible refine KB.r_dget1 ?_
  | with_reducible refine KB.r_disp ?_
  | with_reducible refine KB.r_pairs ?_
  | with_reducible refine KB.r_pairs0 ?_
  | with_reducible refine KB.r_make ?_
  | with_reducible refine KB.r_m1 ?_
  | with_reducible refine KB.r_m0 ?_
  | with_reducible refine KB.r_isStr ?_
  | with_reducible refine KB.r_exStr ?_
  | with_reducible refine KB.r_lc ?_
  | with_reducible refine KB.r_irng1 ?_
  | with_reducible refine KB.r_itup ?_
  | with_reducible refine KB.r_ilist ?_
  | with_reducible refine KB.r_istr ?_
  | ((with_reducible refine KB.r_cval (v := ?v1) (mc := ?v2) (uu := ?v3) ?h1 ?h2 ?q); (case h1 => assumption); (case h2 => assumption))
  | ((with_reducible refine KB.r_notInS (zs := ?v1) ?h1 ?q); (case h1 => walk_at "sq2"))
  | ((with_reducible refine KB.r_inS (zs := ?v1) ?h1 ?q); (case h1 => walk_at "sq2"))
  | with_reducible refine KB.r_asg ?_
  | with_reducible refine KB.r_asgS ?_
  | with_reducible refine KB.r_asgG ?_
  | with_reducible refine KB.r_ifS ?_
  | with_reducible refine KB.r_ret ?_
  | with_reducible refine KB.r_drop ?_
  | with_reducible refine KB.r_par ?_
  | with_reducible refine KB.r_match ?_
  | with_reducible refine KB.r_mstr ?_
  | with_reducible refine KB.r_mnil ?_
  | with_reducible refine KB.r_sl ?_
  | with_reducible refine KB.r_nopart ?_
  | with_reducible refine KB.r_part ?_
  | ((with_reducible refine KB.r_slL (xs := ?v1) ?h1 ?q); (case h1 => walk_at "sq"))
  | with_reducible refine L2.iteF ?_
  | with_reducible refine KB.iteNt ?_
  | with_reducible refine KB.iteNf ?_
  | with_reducible refine L2.iteT ?_
  | dsimp only)
local macro_rules | `(tactic| walk_at "rd") => `(tactic| repeat walk_at "rd1")
local macro_rules | `(tactic| walk_at "sp1") => `(tactic| first | with_reducible refine KB.r_iteS2 (fun _ => ?_) (fun _ => ?_) | with_reducible refine KB.r_iteI2 (fun _ => ?_) (fun _ => ?_) | with_reducible refine KB.r_ite2 (fun _ => ?_) (fun _ => ?_) | with_reducible refine KB.r_iteN2 (fun _ => ?_) (fun _ => ?_) | with_reducible refine KB.r_iteB (fun _ => ?_) (fun _ => ?_) | with_reducible refine KB.r_iteBN (fun _ => ?_) (fun _ => ?_))
local macro_rules | `(tactic| walk_at "sp") => `(tactic| repeat' (first | walk_at "rd1" | walk_at "sp1"))
local macro_rules | `(tactic| walk_at "ifs") => `(tactic| repeat (first | rw [if_pos (by assumption)] | rw [if_neg (by assumption)]))

namespace K29
open PySem L2 KB
def top (i : Nat) : Stmt := PySem.Challenge.pw_keptbits_k29_least_moves.main.body.getD i (.Pass ⟨0, 0, 0, 0⟩)
abbrev s_least_moves : Stmt := top 5
theorem sc_least_moves : FnScope ["kind", "reset", "beside", "rises"] ["kind", "reset", "beside"] (defScope s_least_moves) := ⟨rfl, rfl, rfl, by decide +kernel, rfl, by decide +kernel, by decide +kernel⟩
abbrev s_moves_back : Stmt := top 6
theorem sc_moves_back : FnScope ["kind", "reset"] ["kind", "reset"] (defScope s_moves_back) := ⟨rfl, rfl, rfl, by decide +kernel, rfl, by decide +kernel, by decide +kernel⟩
abbrev s_Kind___init__ : Stmt := inClass (top 8) 3
theorem sc_Kind___init__ : FnScope ["self", "reading", "writing", "device", "word", "words"] ["self", "reading", "writing", "device"] (defScope s_Kind___init__) := ⟨rfl, rfl, rfl, by decide +kernel, rfl, by decide +kernel, by decide +kernel⟩
abbrev s_Kind___eq__ : Stmt := inClass (top 8) 4
theorem sc_Kind___eq__ : FnScope ["self", "other"] ["self", "other"] (defScope s_Kind___eq__) := ⟨rfl, rfl, rfl, by decide +kernel, rfl, by decide +kernel, by decide +kernel⟩
abbrev s_Kind___str__ : Stmt := inClass (top 8) 5
theorem sc_Kind___str__ : FnScope ["self"] ["self"] (defScope s_Kind___str__) := ⟨rfl, rfl, rfl, by decide +kernel, rfl, by decide +kernel, by decide +kernel⟩
abbrev s__law_pen : Stmt := top 10
theorem sc__law_pen : FnScope ["_law_script"] ["_law_script"] (defScope s__law_pen) := ⟨rfl, rfl, rfl, by decide +kernel, rfl, by decide +kernel, by decide +kernel⟩
abbrev s__law_draw : Stmt := top 11
theorem sc__law_draw : FnScope ["_law_pen_here", "_law_many", "_law_digit", "_law_at", "_law_cell", "_law_large", "_law_mixed"] ["_law_pen_here", "_law_many"] (defScope s__law_draw) := ⟨rfl, rfl, rfl, by decide +kernel, rfl, by decide +kernel, by decide +kernel⟩
abbrev s__law_state_behind : Stmt := top 12
theorem sc__law_state_behind : FnScope ["_law_written", "_law_state", "_law_bit", "_law_second", "_law_value"] ["_law_written", "_law_state", "_law_bit"] (defScope s__law_state_behind) := ⟨rfl, rfl, rfl, by decide +kernel, rfl, by decide +kernel, by decide +kernel⟩
abbrev s__law_step : Stmt := top 13
theorem sc__law_step : FnScope ["_law_words", "_law_is_beside", "_law_state", "_law_place", "_law_bit", "_law_loaded", "_law_kept", "_law_behind"] ["_law_words", "_law_is_beside", "_law_state"] (defScope s__law_step) := ⟨rfl, rfl, rfl, by decide +kernel, rfl, by decide +kernel, by decide +kernel⟩
abbrev s__law_deeds : Stmt := top 14
theorem sc__law_deeds : FnScope ["_law_words", "_law_state", "_law_place", "_law_bit", "_law_loaded", "_law_value"] ["_law_words", "_law_state"] (defScope s__law_deeds) := ⟨rfl, rfl, rfl, by decide +kernel, rfl, by decide +kernel, by decide +kernel⟩
abbrev s__law_least : Stmt := top 15
theorem sc__law_least : FnScope ["_law_words", "_law_first", "_law_is_beside", "_law_level", "_law_seen", "_law_many", "_law_after", "_law_state", "_law_behind", "_law_is_moved"] ["_law_words", "_law_first", "_law_is_beside"] (defScope s__law_least) := ⟨rfl, rfl, rfl, by decide +kernel, rfl, by decide +kernel, by decide +kernel⟩
abbrev s_law : Stmt := top 16
theorem sc_law : FnScope ["_law_script", "_law_pen_here", "_law_turn", "_law_got", "_law_written", "_law_own", "_law_first", "_law_is_beside", "_law_due", "_law_told"] ["_law_script"] (defScope s_law) := ⟨rfl, rfl, rfl, by decide +kernel, rfl, by decide +kernel, by decide +kernel⟩

structure Txt (mg : Str → Option Value) : Prop where
  z_int : mg "int" = none
  z_abs : mg "abs" = none
  z_len : mg "len" = none
  z_list : mg "list" = none
  z_max : mg "max" = none
  z_min : mg "min" = none
  z_range : mg "range" = none
  z_isinstance : mg "isinstance" = none
  z_bool : mg "bool" = none
/-- the pen: its cells, the next index, what is left; room for k draws more -/
def PenAt (H : Hp) (p : Addr) (k : Nat) : Prop := ∃ (c : Addr) (ns : List Int) (at_ : Nat) (left : Int),
  H p = some (.lst [.ref c, .int at_, .int left]) ∧ H c = some (.lst (ns.map V.int)) ∧ p ≠ c ∧ ns.length ≤ 63 ∧ at_ + k ≤ 100000
def Keep (p : Addr) (H H' : Hp) : Prop := ∀ b o, H b = some o → b ≠ p → H' b = some o
theorem PenAt.mono {H : Hp} {p : Addr} {j k : Nat} (h : PenAt H p k) (e : j ≤ k) : PenAt H p j := by
  obtain ⟨c, ns, at_, left, h1, h2, h3, h4, h5⟩ := h
  exact ⟨c, ns, at_, left, h1, h2, h3, h4, by omega⟩
theorem PenAt.up {H H' : Hp} {p : Addr} {k : Nat} (h : PenAt H p k) (s : Same H H') : PenAt H' p k := by
  obtain ⟨c, ns, at_, left, h1, h2, h3, h4, h5⟩ := h
  exact ⟨c, ns, at_, left, s _ _ h1, s _ _ h2, h3, h4, h5⟩
theorem PenAt.ne {H : Hp} {p q : Addr} {k : Nat} (h : PenAt H p k) (n : H q = none) : q ≠ p := by
  obtain ⟨c, ns, at_, left, h1, h2, h3, h4, h5⟩ := h
  exact (ne_of_none h1 n).symm
theorem PenAt.keep {H H' : Hp} {p q : Addr} {k : Nat} (h : PenAt H p k) (s : Keep q H H') (n : H q = none) : PenAt H' p k := by
  obtain ⟨c, ns, at_, left, h1, h2, h3, h4, h5⟩ := h
  exact ⟨c, ns, at_, left, s _ _ h1 (ne_of_none h1 n), s _ _ h2 (ne_of_none h2 n), h3, h4, h5⟩
def spPen (K : PySem.W.Frag) : Sp := fun vs H Q _ => ∃ (a : Addr) (ns : List Int), vs = [.ref a] ∧ SqL K H a (ns.map V.int) ∧ ns.length ≤ 63 ∧
  ∀ H' p, Same H H' → H p = none → PenAt H' p 100000 → Q (.ref p) H'
def spDraw : Sp := fun vs H Q _ => ∃ (p : Addr) (many : Int) (k : Nat), vs = [.ref p, .int many] ∧ 0 < many ∧ many < 1000000000 ∧ PenAt H p (k + 1) ∧
  ∀ (r : Int) H', 0 ≤ r → r < many → PenAt H' p k → Keep p H H' → Q (.int r) H'


section
variable {P : Program} {w : World} {K : PySem.W.Frag} {mg : Str → Option Value} {base : Heap}
theorem ok_pen {f : Addr} {fd : FuncData} {k : Nat} (F : Fun K "_law_pen" "_law_pen" s__law_pen f fd) (T : Txt mg) : FnOk P w K mg base CX0 (k + 1) f fd ["_law_script"] (spPen K) := by
  refine F.ok sc__law_pen (fun vs H Q E h => ?_) (fun cdv A outer s H vs Q E hr h => ?_)
  · obtain ⟨a, ns, rfl, _⟩ := h
    rfl
  · obtain ⟨a, ns, rfl, hS, hl, q⟩ := h
    refine ⟨_, (pss_one (ps_ret (pe_lst (pa_cons (pe_callTy call_list_of (by rfl) T.z_list (by decide +kernel) (pa_cons (pe_slice sl_list (pv 0) po_none (po_some pe_int)) pa_nil)) (pa_cons pe_int (pa_cons pe_int pa_nil)))))), at_start (σ := [some (.ref a)]) rfl ?_⟩
    dsimp only [cx_K]
    walk_at "rd"
    intro c nc
    have ec : cutV (ns.map V.int) none (some 63) = (ns.take 63).map V.int := by
      rw [show (63 : Int) = ((63 : Nat) : Int) from rfl, cutV_take, List.map_take]
    rw [ec]
    walk_at "rd"
    intro l nl
    walk_at "rd"
    refine ⟨by walk_at "sz", fun p np => ?_⟩
    have npl : p ≠ l := fun z => by rw [z, upd_same] at np; cases np
    have s0 := ((same_new (o := .lst ((ns.take 63).map V.int)) nc).trans (same_new (o := .lst ((ns.take 63).map V.int)) nl)).trans (same_new (o := .lst [.ref l, .int 0, .int 0]) np)
    refine q _ p s0 (((same_new nc).trans (same_new nl)).free np) ⟨l, ns.take 63, 0, 0, upd_same, upd_new np upd_same, npl, ?_, by omega⟩
    rw [List.length_take]
    omega
theorem ok_draw {f : Addr} {fd : FuncData} {k : Nat} (F : Fun K "_law_draw" "_law_draw" s__law_draw f fd) (T : Txt mg) : FnOk P w K mg base CX0 (k + 1) f fd ["_law_pen_here", "_law_many"] spDraw := by
  refine F.ok sc__law_draw (fun vs H Q E h => ?_) (fun cdv A outer s H vs Q E hr h => ?_)
  · obtain ⟨p, many, k, rfl, _⟩ := h
    rfl
  · obtain ⟨p, many, k, rfl, hm0, hm1, ⟨c, ns, at_, left, hp, hc, npc, hn, hat⟩, q⟩ := h
    refine ⟨_, (pss_cons (ps_if (pt_cmpR op_gt (pe_ix ix_list (pv 0) pe_int (fun _ _ => rfl)) pe_int (nomark _)) (pss_cons (ps_set (i := 2) sc__law_draw.nd rfl (by first | exact Or.inl rfl | exact Or.inr rfl) (pe_op op_mod (pe_callTy call_int1 (by rfl) T.z_int (by decide +kernel) (pa_cons (pe_ix ix_list (pv 0) pe_int (fun _ _ => rfl)) pa_nil)) (pv 1)))
 (pss_cons (ps_asg (pe_op op_fdiv (pe_ix ix_list (pv 0) pe_int (fun _ _ => rfl)) (pv 1)) (pg_sub (pv 0) pe_int set_list))
 (pss_one (ps_ret (pv 2)))))
 pss_nil)
 (pss_cons (ps_set (i := 3) sc__law_draw.nd rfl (by first | exact Or.inl rfl | exact Or.inr rfl) (pe_ix ix_list (pv 0) pe_int (fun _ _ => rfl)))
 (pss_cons (ps_asg (pe_op op_add (pv 3) pe_int) (pg_sub (pv 0) pe_int set_list))
 (pss_cons (ps_set (i := 4) sc__law_draw.nd rfl (by first | exact Or.inl rfl | exact Or.inr rfl) (pe_op op_add (pe_op op_mul pe_int (pv 3)) pe_int))
 (Evl.pss_cut (ps_if (pt_cmpR (op_neD hr.units) (pe_ix ix_list (pv 0) pe_int (fun _ _ => rfl)) (pe_lst pa_nil) (nomark _)) (pss_one (ps_set (i := 4) sc__law_draw.nd rfl (by first | exact Or.inl rfl | exact Or.inr rfl) (pe_ix ix_list (pe_ix ix_list (pv 0) pe_int (fun _ _ => rfl)) (pe_op op_mod (pe_callTy call_int1 (by rfl) T.z_int (by decide +kernel) (pa_cons (pv 3) pa_nil)) (pe_callB call_len_seq (by rfl) T.z_len (by decide +kernel) (pa_cons (pe_ix ix_list (pv 0) pe_int (fun _ _ => rfl)) pa_nil))) (fun _ _ => rfl))))
 pss_nil)
 (pss_cons (ps_if (PW.pt (pw_and (pt_cmpR op_lt (pv 3) (pe_callB call_len_seq (by rfl) T.z_len (by decide +kernel) (pa_cons (pe_ix ix_list (pv 0) pe_int (fun _ _ => rfl)) pa_nil)) (nomark _)) (pw_and1 (pt_cmpR op_ge (pe_callB call_abs (by rfl) T.z_abs (by decide +kernel) (pa_cons (pv 4) pa_nil)) (pe_op op_pow pe_int pe_int) (nomark _))))) (pss_cons (ps_set (i := 5) sc__law_draw.nd rfl (by first | exact Or.inl rfl | exact Or.inr rfl) (pe_op op_add (pe_op op_mul pe_int (pe_op op_sub (pe_callB call_abs (by rfl) T.z_abs (by decide +kernel) (pa_cons (pv 4) pa_nil)) (pe_op op_pow pe_int pe_int))) (pe_callTy call_int1 (by rfl) T.z_int (by decide +kernel) (pa_cons (pe_cmpR op_lt (pv 4) pe_int (nomark _)) pa_nil))))
 (pss_cons (ps_asg (pe_op op_fdiv (pv 5) (pv 1)) (pg_sub (pv 0) pe_int set_list))
 (pss_one (ps_ret (pe_op op_mod (pe_callTy call_int1 (by rfl) T.z_int (by decide +kernel) (pa_cons (pv 5) pa_nil)) (pv 1))))))
 pss_nil)
 (pss_cons (ps_set (i := 6) sc__law_draw.nd rfl (by first | exact Or.inl rfl | exact Or.inr rfl) (pe_op op_mod (pe_callTy call_int1 (by rfl) T.z_int (by decide +kernel) (pa_cons (pe_op op_pow (pe_op op_add (pe_op op_add (pe_op op_mod (pe_callTy call_int1 (by rfl) T.z_int (by decide +kernel) (pa_cons (pv 4) pa_nil)) pe_int) (pe_op op_mul pe_int (pv 3))) pe_int) pe_int) pa_nil)) pe_int))
 (pss_cons (ps_set (i := 6) sc__law_draw.nd rfl (by first | exact Or.inl rfl | exact Or.inr rfl) (pe_op op_mod (pe_callTy call_int1 (by rfl) T.z_int (by decide +kernel) (pa_cons (pe_op op_pow (pe_op op_add (pe_op op_add (pe_op op_mul (pv 6) (pe_op op_add (pe_op op_mul pe_int (pv 3)) pe_int)) (pe_op op_mul (pe_op op_mul pe_int (pv 3)) (pv 3))) pe_int) pe_int) pa_nil)) pe_int))
 (pss_one (ps_ret (pe_op op_mod (pe_callTy call_int1 (by rfl) T.z_int (by decide +kernel) (pa_cons (pe_op op_fdiv (pv 6) pe_int) pa_nil)) (pv 1)))))))))))), at_start (σ := [some (.ref p), some (.int many), none, none, none, none, none]) rfl ?_⟩
    dsimp only [cx_K]
    walk_at "rd"
    have upp : ∀ o, upd H p o c = some (.lst (ns.map V.int)) := fun o => by rw [upd_ne npc.symm]; exact hc
    refine r_ite2 (fun h1 => ?_) (fun h1 => ?_)
    · walk_at "rd"
      exact q (left % many) _ (Int.emod_nonneg _ (by omega)) (Int.emod_lt_of_pos _ hm0) ⟨c, ns, at_, left / many, upd_same, upp _, npc, hn, by omega⟩ fun b o e hb => by rw [upd_ne hb]; exact e
    · walk_at "rd"
      refine ⟨fun σ' H' => ∃ cell : Int, σ' = [some (.ref p), some (.int many), none, some (.int at_), some (.int cell), none, none] ∧ H' p = some (.lst [.ref c, .int (at_ + 1), .int left]) ∧ H' c = some (.lst (ns.map V.int)) ∧ Keep p H H', ?_, ?_⟩
      · walk_at "rd"
        refine ⟨by decide, fun e he => ?_⟩
        have npe : p ≠ e := fun z => by rw [z, upd_same] at he; cases he
        refine r_neInts (ns := ns) (ms := []) (by walk_at "sq") (SqL.of upd_same) ?_
        walk_at "rd"
        have k1 : Keep p H (upd (upd H p (.lst [.ref c, .int (at_ + 1), .int left])) e (.lst [])) := fun b o x hb => upd_new he (by rw [upd_ne hb]; exact x)
        refine r_iteN2 (fun h2 => ?_) (fun h2 => ?_)
        · walk_at "rd"
          have hl : 0 < ns.length := List.length_pos_iff.mpr h2
          rw [List.length_map]
          have hj : (at_ : Int) % (ns.length : Int) = ((at_ % ns.length : Nat) : Int) := by omega
          have hj2 : at_ % ns.length < ns.length := Nat.mod_lt _ hl
          refine r_I (by show (0 : Int) < _; omega) ?_
          refine r_ixL (xs := ns.map V.int) (v := .int (ns[at_ % ns.length])) (by walk_at "sq") (by rw [hj]; exact atI_nat (by simp [hj2])) ?_
          exact ⟨_, rfl, upd_new he upd_same, upd_new he (upp _), k1⟩
        · exact ⟨_, rfl, upd_new he upd_same, upd_new he (upp _), k1⟩
      · rintro σ' H' ⟨cell, rfl, hp1, hc1, k1⟩
        have h6 : ∀ (r : Int) (l2 : Int), 0 ≤ r → r < many → Q (.int r) (upd H' p (.lst [.ref c, .int ((at_ + 1 : Nat) : Int), .int l2])) := fun r l2 h7 h8 =>
          q r _ h7 h8 ⟨c, ns, at_ + 1, l2, upd_same, by rw [upd_ne npc.symm]; exact hc1, npc, hn, by omega⟩ fun b o x hb => by rw [upd_ne hb]; exact k1 b o x hb
        have h9 : ∀ r : Int, 0 ≤ r → r < many → Q (.int r) H' := fun r h7 h8 => q r _ h7 h8 ⟨c, ns, at_ + 1, left, hp1, hc1, npc, hn, by omega⟩ k1
        walk_at "rd"
        refine r_ite2 (fun h2 => ?_) (fun h2 => ?_)
        · walk_at "rd"
          refine r_ite2 (fun h3 => ?_) (fun h3 => ?_)
          · walk_at "rd"
            exact h6 _ _ (Int.emod_nonneg _ (by omega)) (Int.emod_lt_of_pos _ hm0)
          · walk_at "rd"
            have m1 : 0 ≤ (cell % 2147483323 + 51201 * (at_ : Int) + 321) ^ Int.toNat 5 % 2147483179 := Int.emod_nonneg _ (by decide)
            have m2 : (cell % 2147483323 + 51201 * (at_ : Int) + 321) ^ Int.toNat 5 % 2147483179 < 2147483179 := Int.emod_lt_of_pos _ (by decide)
            generalize (cell % 2147483323 + 51201 * (at_ : Int) + 321) ^ Int.toNat 5 % 2147483179 = m at m1 m2 ⊢
            have b1 := mul_bd (A := 2147483179) (B := 300000) m1 (by omega) (show 0 ≤ 2 * (at_ : Int) + 227 by omega) (by omega)
            have b2 := mul_bd (A := 100000 * 71863) (B := 100000) (show 0 ≤ 71863 * (at_ : Int) by omega) (by omega) (show 0 ≤ (at_ : Int) by omega) (by omega)
            refine r_I (show CPow _ _ from ⟨by decide, by decide, by omega⟩) ?_
            walk_at "rd"
            exact h9 _ (Int.emod_nonneg _ (by omega)) (Int.emod_lt_of_pos _ hm0)

        · walk_at "rd"
          have m1 : 0 ≤ (cell % 2147483323 + 51201 * (at_ : Int) + 321) ^ Int.toNat 5 % 2147483179 := Int.emod_nonneg _ (by decide)
          have m2 : (cell % 2147483323 + 51201 * (at_ : Int) + 321) ^ Int.toNat 5 % 2147483179 < 2147483179 := Int.emod_lt_of_pos _ (by decide)
          generalize (cell % 2147483323 + 51201 * (at_ : Int) + 321) ^ Int.toNat 5 % 2147483179 = m at m1 m2 ⊢
          have b1 := mul_bd (A := 2147483179) (B := 300000) m1 (by omega) (show 0 ≤ 2 * (at_ : Int) + 227 by omega) (by omega)
          have b2 := mul_bd (A := 100000 * 71863) (B := 100000) (show 0 ≤ 71863 * (at_ : Int) by omega) (by omega) (show 0 ≤ (at_ : Int) by omega) (by omega)
          refine r_I (show CPow _ _ from ⟨by decide, by decide, by omega⟩) ?_
          walk_at "rd"
          exact h9 _ (Int.emod_nonneg _ (by omega)) (Int.emod_lt_of_pos _ hm0)

end

end K29


namespace K29
open PySem L2 KB
/-! ### a Kind -/
def statesOf (w : Str) : List Int := if w = "once" then [0, 1, 2, 3] else [0, 1]
def flds (r w d : Str) (st : Addr) : List (Str × V) := [("reading", .str r), ("writing", .str w), ("device", .str d), ("states", .ref st)]
theorem fl_r {r w d : Str} {st : Addr} : (flds r w d st).lookup ("reading" : Str) = some (.str r) := rfl
theorem fl_w {r w d : Str} {st : Addr} : (flds r w d st).lookup ("writing" : Str) = some (.str w) := rfl
theorem fl_d {r w d : Str} {st : Addr} : (flds r w d st).lookup ("device" : Str) = some (.str d) := rfl
theorem fl_s {r w d : Str} {st : Addr} : (flds r w d st).lookup ("states" : Str) = some (.ref st) := rfl
theorem fl_no {r w d : Str} {st : Addr} : (flds r w d st).lookup ("after_read" : Str) = none ∧ (flds r w d st).lookup ("after_write" : Str) = none ∧ (flds r w d st).lookup ("unguarded" : Str) = none := ⟨rfl, rfl, rfl⟩
theorem fl_put {r w d : Str} {st : Addr} : putF "states" (.ref st) (putF "device" (.str d) (putF "writing" (.str w) (putF "reading" (.str r) []))) = flds r w d st := rfl
def KindAt (C : Addr) (H : Hp) (p : Addr) (r w d : Str) : Prop := ∃ dx st, H p = some (.ins C dx (flds r w d st)) ∧ H st = some (.tup ((statesOf w).map V.int))
theorem KindAt.up {C : Addr} {H H' : Hp} {p : Addr} {r w d : Str} (h : KindAt C H p r w d) (s : Same H H') : KindAt C H' p r w d := by
  obtain ⟨dx, st, h1, h2⟩ := h
  exact ⟨dx, st, s _ _ h1, s _ _ h2⟩
def RD : List Str := ["keep", "take"]
def WR : List Str := ["store", "clear1", "clear0", "set1", "flip1", "once", "none"]
def DV : List Str := ["still", "raise", "end", "drift"]
/-- what the text's class Kind is -/
structure TxtK (K : PySem.W.Frag) (mg : Str → Option Value) (C : Addr) : Prop extends Txt mg where
  cl : Cls K C
  n_reading : NoAttr K C "reading"
  n_writing : NoAttr K C "writing"
  n_device : NoAttr K C "device"
  n_states : NoAttr K C "states"
  mg_Kind : mg "Kind" = some (.ref C)
  con : ∃ (mc : Value) (a1 a2 a3 : Addr) (u1 u2 u3 : Value), ClX.CRead K C mc ∧ ClX.CVal K C mc "READINGS" (.ref a1) u1 ∧ ClX.CVal K C mc "WRITINGS" (.ref a2) u2 ∧ ClX.CVal K C mc "DEVICES" (.ref a3) u3 ∧
    (∀ H, SqT K H a1 (RD.map V.str)) ∧ (∀ H, SqT K H a2 (WR.map V.str)) ∧ (∀ H, SqT K H a3 (DV.map V.str))
def spKind (C : Addr) : Sp := fun vs H Q _ => ∃ (p dx : Addr) (r w d : Str), vs = [.ref p, .str r, .str w, .str d] ∧ r ∈ RD ∧ w ∈ WR ∧ d ∈ DV ∧ H p = some (.ins C dx []) ∧
  ∀ H', KindAt C H' p r w d → Keep p H H' → Q .non H'

def movesBack (w d : Str) (reset : Int) : Option Int :=
  if w = "store" then (if d = "still" then none else some 3)
  else if w = "clear0" then (if d = "raise" then some 3 else if d = "drift" then some (3 + reset) else none)
  else if w = "set1" then (if d = "end" then some 3 else if d = "drift" then some (4 - reset) else none)
  else some (3 - reset)
def riseL : List Str := ["raise", "drift"]
def stclL : List Str := ["store", "clear0"]
def leastMoves (r w d : Str) (reset : Int) (beside : Bool) : Option Int :=
  if r = "take" ∧ reset = 1 then some 1
  else if (r = "take" ∧ d ∈ riseL) ∨ w = "once" then some 2
  else if (reset = 0 ∧ ¬ d ∈ riseL) ∨ w = "none" then none
  else if beside = true then (if w ∈ stclL then some (3 - reset) else none)
  else movesBack w d reset
theorem dict2 {a b d : Str} {x y : Int} (h : ¬ a = b) : (valV (mergeK [] [((Sum.inr a : Key), V.int x), (Sum.inr b, .int y)]) (Sum.inr d)).getD .non = optV (if d = a then some x else if d = b then some y else none) := by
  have e : mergeK [] [((Sum.inr a : Key), V.int x), (Sum.inr b, .int y)] = [((Sum.inr a : Key), V.int x), (Sum.inr b, .int y)] := by
    simp [mergeK, putK, h]
  rw [e]
  by_cases h1 : d = a
  · subst h1; simp [valV, optV]
  · have h1' : ¬ a = d := fun z => h1 z.symm
    by_cases h2 : d = b
    · subst h2; simp [valV, optV, h1, h1']
    · have h2' : ¬ b = d := fun z => h2 z.symm
      simp [valV, optV, h1, h1', h2, h2']
def spBack (C : Addr) : Sp := fun vs H Q _ => ∃ (p : Addr) (r w d : Str) (reset : Int), vs = [.ref p, .int reset] ∧ KindAt C H p r w d ∧ ∀ H', Same H H' → Q (optV (movesBack w d reset)) H'
def spLeast (C : Addr) : Sp := fun vs H Q _ => ∃ (p : Addr) (r w d : Str) (reset : Int) (b : Bool), vs = [.ref p, .int reset, .bl b] ∧ KindAt C H p r w d ∧ ∀ H', Same H H' → Q (optV (leastMoves r w d reset b)) H'

section
variable {P : Program} {w : World} {K : PySem.W.Frag} {mg : Str → Option Value} {base : Heap}
theorem ok_kind {f C : Addr} {fd : FuncData} {k : Nat} (F : Fun K "__init__" "Kind.__init__" s_Kind___init__ f fd) (T : TxtK K mg C) : FnOk P w K mg base CX0 (k + 1) f fd ["self", "reading", "writing", "device"] (spKind C) := by
  refine F.ok sc_Kind___init__ (fun vs H Q E h => ?_) (fun cdv A outer s H vs Q E hr h => ?_)
  · obtain ⟨p, dx, r, w, d, rfl, _⟩ := h
    rfl
  · obtain ⟨p, dx, r, w, d, rfl, hr1, hw1, hd1, hp, q⟩ := h
    obtain ⟨mc, a1, a2, a3, u1, u2, u3, cr, v1, v2, v3, t1, t2, t3⟩ := T.con
    refine ⟨_, (pss_cons (ps_for PassesOwn.never rfl (pi_tup (pe_tup (pa_cons (pe_tup (pa_cons (pv 1) (pa_cons (ClX.pe_cval (pe_glob (v := .ref _) (by rfl) T.mg_Kind rfl)) pa_nil))) (pa_cons (pe_tup (pa_cons (pv 2) (pa_cons (ClX.pe_cval (pe_glob (v := .ref _) (by rfl) T.mg_Kind rfl)) pa_nil))) (pa_cons (pe_tup (pa_cons (pv 3) (pa_cons (ClX.pe_cval (pe_glob (v := .ref _) (by rfl) T.mg_Kind rfl)) pa_nil))) pa_nil))))) (pg_tup rfl (pgs_cons (pg_name (i := 4) sc_Kind___init__.nd rfl (by first | exact Or.inl rfl | exact Or.inr rfl)) (pgs_cons (pg_name (i := 5) sc_Kind___init__.nd rfl (by first | exact Or.inl rfl | exact Or.inr rfl)) pgs_nil)))
 (pss_one (ps_if (pt_cmpR op_notIn_seq (pv 4) (pv 5) (by rfl)) (pss_one ps_never)
 pss_nil)))
 (pss_cons (ps_fld (pv 0) (pv 1) rfl)
 (pss_cons (ps_fld (pv 0) (pv 2) rfl)
 (pss_cons (ps_fld (pv 0) (pv 3) rfl)
 (pss_one (ps_fld (pv 0) (pe_ifExp (pt_cmpR op_eq (pv 2) pe_str (nomark _)) (pe_tup (pa_cons pe_int (pa_cons pe_int (pa_cons pe_int (pa_cons pe_int pa_nil))))) (pe_tup (pa_cons pe_int (pa_cons pe_int pa_nil)))) rfl)))))), at_start (σ := [some (.ref p), some (.str r), some (.str w), some (.str d), none, none]) rfl ?_⟩
    dsimp only [cx_K]
    walk_at "rd"
    refine ⟨by walk_at "sz", fun c1 n1 => ?_⟩
    walk_at "rd"
    refine ⟨by walk_at "sz", fun c2 n2 => ?_⟩
    walk_at "rd"
    refine ⟨by walk_at "sz", fun c3 n3 => ?_⟩
    walk_at "rd"
    refine ⟨by walk_at "sz", fun c4 n4 => ?_⟩
    have s4 := (((same_new (o := .tup [.str r, .ref a1]) n1).trans (same_new (o := .tup [.str w, .ref a2]) n2)).trans (same_new (o := .tup [.str d, .ref a3]) n3)).trans (same_new (o := .tup [.ref c1, .ref c2, .ref c3]) n4)
    have g1 : (upd (upd (upd (upd H c1 (.tup [.str r, .ref a1])) c2 (.tup [.str w, .ref a2])) c3 (.tup [.str d, .ref a3])) c4 (.tup [.ref c1, .ref c2, .ref c3])) c1 = some (.tup [.str r, .ref a1]) := by walk_at "hp"
    have g2 : (upd (upd (upd (upd H c1 (.tup [.str r, .ref a1])) c2 (.tup [.str w, .ref a2])) c3 (.tup [.str d, .ref a3])) c4 (.tup [.ref c1, .ref c2, .ref c3])) c2 = some (.tup [.str w, .ref a2]) := by walk_at "hp"
    have g3 : (upd (upd (upd (upd H c1 (.tup [.str r, .ref a1])) c2 (.tup [.str w, .ref a2])) c3 (.tup [.str d, .ref a3])) c4 (.tup [.ref c1, .ref c2, .ref c3])) c3 = some (.tup [.str d, .ref a3]) := by walk_at "hp"
    have g4 : (upd (upd (upd (upd H c1 (.tup [.str r, .ref a1])) c2 (.tup [.str w, .ref a2])) c3 (.tup [.str d, .ref a3])) c4 (.tup [.ref c1, .ref c2, .ref c3])) c4 = some (.tup [.ref c1, .ref c2, .ref c3]) := by walk_at "hp"
    generalize (upd (upd (upd (upd H c1 (.tup [.str r, .ref a1])) c2 (.tup [.str w, .ref a2])) c3 (.tup [.str d, .ref a3])) c4 (.tup [.ref c1, .ref c2, .ref c3])) = H4 at s4 g1 g2 g3 g4 ⊢
    refine ⟨c4, rfl, ⟨_, SqT.of g4⟩, forW (walk_tup (xs := [.ref c1, .ref c2, .ref c3])) (fun i σ H' => ∃ y4 y5, σ = [some (.ref p), some (.str r), some (.str w), some (.str d), y4, y5] ∧ H' = H4) ⟨none, none, rfl, rfl⟩ (fun i σ H' _ ⟨_, _, _, e⟩ => e ▸ SqT.of g4) ?_ ?_⟩
    · rintro i x σ' H' _ hi0 ⟨y4, y5, rfl, rfl⟩ ⟨rfl, hi⟩
      have cs : (x = .ref c1 ∨ x = .ref c2 ∨ x = .ref c3) := by
        have := List.mem_of_getElem? hi
        simpa using this
      rcases cs with rfl | rfl | rfl
      · refine ⟨_, _, rfl, SqT.of g1, rfl, _, _, rfl, _, _, rfl, rfl, ?_⟩
        walk_at "rd"
        refine r_notInS (zs := RD) (.inr (t1 _)) ?_
        walk_at "rd"
        refine r_iteNF hr1 ?_
        walk_at "rd"
        exact ⟨_, _, rfl, rfl⟩
      · refine ⟨_, _, rfl, SqT.of g2, rfl, _, _, rfl, _, _, rfl, rfl, ?_⟩
        walk_at "rd"
        refine r_notInS (zs := WR) (.inr (t2 _)) ?_
        walk_at "rd"
        refine r_iteNF hw1 ?_
        walk_at "rd"
        exact ⟨_, _, rfl, rfl⟩
      · refine ⟨_, _, rfl, SqT.of g3, rfl, _, _, rfl, _, _, rfl, rfl, ?_⟩
        walk_at "rd"
        refine r_notInS (zs := DV) (.inr (t3 _)) ?_
        walk_at "rd"
        refine r_iteNF hd1 ?_
        walk_at "rd"
        exact ⟨_, _, rfl, rfl⟩
    · rintro σ' H' ⟨y4, y5, rfl, rfl⟩
      have hp4 := s4 _ _ hp
      walk_at "rd"
      refine ⟨p, C, dx, _, rfl, hp4, T.cl, T.n_reading, (by decide), ?_⟩
      walk_at "rd"
      refine ⟨p, C, dx, _, rfl, upd_same, T.cl, T.n_writing, putF_lt0 (by decide), ?_⟩
      walk_at "rd"
      refine ⟨p, C, dx, _, rfl, upd_same, T.cl, T.n_device, putF_lt0 (putF_lt (by decide)), ?_⟩
      walk_at "rd"
      have fin : ∀ st, (upd (upd (upd H' p (.ins C dx (putF "reading" (.str r) []))) p (.ins C dx (putF "writing" (.str w) (putF "reading" (.str r) [])))) p (.ins C dx (putF "device" (.str d) (putF "writing" (.str w) (putF "reading" (.str r) []))))) st = none →
          Q .non (upd (upd (upd (upd (upd H' p (.ins C dx (putF "reading" (.str r) []))) p (.ins C dx (putF "writing" (.str w) (putF "reading" (.str r) [])))) p (.ins C dx (putF "device" (.str d) (putF "writing" (.str w) (putF "reading" (.str r) []))))) st (.tup ((statesOf w).map V.int))) p (.ins C dx (flds r w d st))) := by
        intro st hst
        have np : p ≠ st := fun z => by rw [← z, upd_same] at hst; cases hst
        refine q _ ⟨dx, st, upd_same, by rw [upd_ne np.symm, upd_same]⟩ fun b o e hb => ?_
        rw [upd_ne hb, upd_new hst]
        rw [upd_ne hb, upd_ne hb, upd_ne hb]
        exact s4 _ _ e
      refine r_ite2 (fun h => ?_) (fun h => ?_)
      · have h' : w = "once" := V.str.inj h
        walk_at "rd"
        refine ⟨by walk_at "sz", fun st hst => ?_⟩
        have np : p ≠ st := fun z => by rw [← z, upd_same] at hst; cases hst
        walk_at "rd"
        refine ⟨p, C, dx, _, rfl, by rw [upd_ne np]; exact upd_same, T.cl, T.n_states, putF_lt0 (putF_lt (putF_lt (by decide))), ?_⟩
        have := fin st hst
        rw [statesOf, if_pos h'] at this
        exact this
      · have h' : ¬ w = "once" := fun z => h (by rw [z])
        walk_at "rd"
        refine ⟨by walk_at "sz", fun st hst => ?_⟩
        have np : p ≠ st := fun z => by rw [← z, upd_same] at hst; cases hst
        walk_at "rd"
        refine ⟨p, C, dx, _, rfl, by rw [upd_ne np]; exact upd_same, T.cl, T.n_states, putF_lt0 (putF_lt (putF_lt (by decide))), ?_⟩
        have := fin st hst
        rw [statesOf, if_neg h'] at this
        exact this

theorem ok_back {f C : Addr} {fd : FuncData} {k : Nat} (F : Fun K "moves_back" "moves_back" s_moves_back f fd) (T : TxtK K mg C) : FnOk P w K mg base CX0 (k + 1) f fd ["kind", "reset"] (spBack C) := by
  refine F.ok sc_moves_back (fun vs H Q E h => ?_) (fun cdv A outer s H vs Q E hr h => ?_)
  · obtain ⟨p, r, w, d, s, rfl, _⟩ := h
    rfl
  · obtain ⟨p, r, w, d, reset, rfl, ⟨dx, st, h1, h2⟩, q⟩ := h
    have hc := T.cl
    have hn1 := T.n_reading
    have hn2 := T.n_writing
    have hn3 := T.n_device
    refine ⟨_, (pss_cons (ps_match (pe_fld (pv 0) rfl) (pm_str (pss_one (ps_ret (pe_ifExp (pt_cmpR op_eq (pe_fld (pv 0) rfl) pe_str (nomark _)) pe_non pe_int)))
 (pm_str (pss_one (ps_ret (pe_dget1 (hu_of hr) (pe_disp (pps_cons pe_str pe_int (pps_cons pe_str (pe_op op_add pe_int (pv 1)) pps_nil)) (by rfl) (by rfl) (fun z => by cases z) (by decide)) (pe_fld (pv 0) rfl) ⟨rfl, rfl, rfl, rfl⟩)))
 (pm_str (pss_one (ps_ret (pe_dget1 (hu_of hr) (pe_disp (pps_cons pe_str pe_int (pps_cons pe_str (pe_op op_sub pe_int (pv 1)) pps_nil)) (by rfl) (by rfl) (fun z => by cases z) (by decide)) (pe_fld (pv 0) rfl) ⟨rfl, rfl, rfl, rfl⟩)))
 pm_nil))))
 (pss_one (ps_ret (pe_op op_sub pe_int (pv 1))))), at_start (σ := [some (.ref p), some (.int reset)]) rfl ?_⟩
    dsimp only [cx_K]
    unfold movesBack at q
    walk_at "rd"
    refine r_ite2 (fun h => ?_) (fun h => ?_)
    · rw [if_pos h] at q
      walk_at "rd"
      refine r_iteS2 (fun h => ?_) (fun h => ?_)
      · rw [if_pos h] at q
        walk_at "rd"
        exact q _ (Same.refl _)
      · rw [if_neg h] at q
        walk_at "rd"
        exact q _ (Same.refl _)
    rw [if_neg h] at q
    walk_at "rd"
    refine r_ite2 (fun h => ?_) (fun h => ?_)
    · rw [if_pos h] at q
      walk_at "rd"
      intro c nc
      walk_at "rd"
      refine ⟨upd_same, [(Sum.inr "raise", .int 3), (Sum.inr "drift", .int (3 + reset))], rfl, by simp, c, rfl, .inl ⟨_, .inl upd_same⟩, ?_⟩
      have s1 : Same H (upd (upd H c (.dK [])) c (.dK (mergeK [] [(Sum.inr "raise", .int 3), (Sum.inr "drift", .int (3 + reset))]))) := same_mut (same_new nc) nc
      have g1 := s1 _ _ h1
      walk_at "rd"
      refine ⟨_, DGet.k (k := Sum.inr d) upd_same, ?_⟩
      have e : (valV (mergeK [] [((Sum.inr "raise" : Key), V.int 3), (Sum.inr "drift", .int (3 + reset))]) (Sum.inr d)).getD .non = optV (if d = "raise" then some 3 else if d = "drift" then some (3 + reset) else none) := by
        exact dict2 (by decide +kernel)
      rw [e]
      exact q _ s1
    rw [if_neg h] at q
    walk_at "rd"
    refine r_ite2 (fun h => ?_) (fun h => ?_)
    · rw [if_pos h] at q
      walk_at "rd"
      intro c nc
      walk_at "rd"
      refine ⟨upd_same, [(Sum.inr "end", .int 3), (Sum.inr "drift", .int (4 - reset))], rfl, by simp, c, rfl, .inl ⟨_, .inl upd_same⟩, ?_⟩
      have s1 : Same H (upd (upd H c (.dK [])) c (.dK (mergeK [] [(Sum.inr "end", .int 3), (Sum.inr "drift", .int (4 - reset))]))) := same_mut (same_new nc) nc
      have g1 := s1 _ _ h1
      walk_at "rd"
      refine ⟨_, DGet.k (k := Sum.inr d) upd_same, ?_⟩
      have e : (valV (mergeK [] [((Sum.inr "end" : Key), V.int 3), (Sum.inr "drift", .int (4 - reset))]) (Sum.inr d)).getD .non = optV (if d = "end" then some 3 else if d = "drift" then some (4 - reset) else none) := by
        exact dict2 (by decide +kernel)
      rw [e]
      exact q _ s1
    rw [if_neg h] at q
    walk_at "rd"
    exact q _ (Same.refl _)
theorem ok_least {f C : Addr} {fd : FuncData} (F : Fun K "least_moves" "least_moves" s_least_moves f fd) (T : TxtK K mg C) (c_moves_back : Callee P w K mg base CX0 1 "moves_back" ["kind", "reset"] (spBack C)) : FnOk P w K mg base CX0 2 f fd ["kind", "reset", "beside"] (spLeast C) := by
  refine F.ok sc_least_moves (fun vs H Q E h => ?_) (fun cdv A outer s H vs Q E hr h => ?_)
  · obtain ⟨p, r, w, d, s, b, rfl, _⟩ := h
    rfl
  · obtain ⟨p, r, w, d, reset, b, rfl, KA, q⟩ := h
    obtain ⟨dx, st, h1, h2⟩ := id KA
    have hc := T.cl
    have hn1 := T.n_reading
    have hn2 := T.n_writing
    have hn3 := T.n_device
    refine ⟨_, (pss_cons (ps_set (i := 3) sc_least_moves.nd rfl (by first | exact Or.inl rfl | exact Or.inr rfl) (pe_cmpR op_in_seq (pe_fld (pv 0) rfl) (pe_tup (pa_cons pe_str (pa_cons pe_str pa_nil))) (by rfl)))
 (pss_cons (ps_if (PW.pt (pw_and (pt_cmpR op_eq (pe_fld (pv 0) rfl) pe_str (nomark _)) (pw_and1 (pt_cmpR op_eq (pv 1) pe_int (nomark _))))) (pss_one (ps_ret pe_int))
 pss_nil)
 (pss_cons (ps_if (PW.pt (pw_or (PW.pt (pw_and (pt_cmpR op_eq (pe_fld (pv 0) rfl) pe_str (nomark _)) (pw_and1 (pt_val (pv 3))))) (pw_or1 (pt_cmpR op_eq (pe_fld (pv 0) rfl) pe_str (nomark _))))) (pss_one (ps_ret pe_int))
 pss_nil)
 (pss_cons (ps_if (PW.pt (pw_or (PW.pt (pw_and (pt_cmpR op_eq (pv 1) pe_int (nomark _)) (pw_and1 (pt_not (pt_val (pv 3)))))) (pw_or1 (pt_cmpR op_eq (pe_fld (pv 0) rfl) pe_str (nomark _))))) (pss_one (ps_ret pe_non))
 pss_nil)
 (pss_cons (ps_if (pt_val (pv 2)) (pss_one (ps_ret (pe_ifExp (pt_cmpR op_in_seq (pe_fld (pv 0) rfl) (pe_tup (pa_cons pe_str (pa_cons pe_str pa_nil))) (by rfl)) (pe_op op_sub pe_int (pv 1)) pe_non)))
 pss_nil)
 (pss_one (ps_ret (pe_callC c_moves_back (hr.mono (by decide)) (by rfl) pass0 (pa_cons (pv 0) (pa_cons (pv 1) pa_nil)))))))))), at_start (σ := [some (.ref p), some (.int reset), some (.bl b), none]) rfl ?_⟩
    dsimp only [cx_K]
    walk_at "rd"
    refine ⟨by walk_at "sz", fun c1 n1 => ?_⟩
    have s1 := same_new (o := .tup (riseL.map V.str)) n1
    have g1 := s1 _ _ h1
    refine r_inS (zs := riseL) (.inr (SqT.of upd_same)) ?_
    walk_at "sp"
    all_goals first
      | contradiction
      | (refine val_to (q _ s1) ?_; simp [leastMoves, optV, *]; done)
      | (refine val_to (q _ s1) ?_; clear q hc hn1 hn2 hn3 h1 h2 n1 s1 g1 KA; simp_all [leastMoves, optV]; done)
      | (refine ⟨p, r, w, d, reset, rfl, KA.up s1, fun H' s2 => val_to (q _ (s1.trans s2)) ?_⟩; simp [leastMoves, *]; done)
      | (refine ⟨by walk_at "sz", fun c2 n2 => ?_⟩
         have s2 := s1.trans (same_new (o := .tup (stclL.map V.str)) n2)
         refine r_inS (zs := stclL) (.inr (SqT.of upd_same)) ?_
         walk_at "sp"
         all_goals first | contradiction | (refine val_to (q _ s2) ?_; simp [leastMoves, optV, *]; done))
end
end K29


namespace K29
open PySem L2 KB
/-! ### the law's own search: the mathematics -/
abbrev T3 := Int × Int × Int
def sBehind (w : Str) (s b : Int) : Int :=
  if w = "once" then (if s / 2 * 2 = 2 then s else 2 + b)
  else if w = "store" then s / 2 * 2 + b
  else if w = "clear1" then s / 2 * 2 + s % 2 * (1 - b)
  else if w = "clear0" then s / 2 * 2 + s % 2 * b
  else if w = "set1" then s / 2 * 2 + s % 2 + b - s % 2 * b
  else if w = "flip1" then s / 2 * 2 + s % 2 + b - 2 * (s % 2) * b
  else s
def keptF (r : Str) (b : Int) : Int := if r = "keep" then b else b / 2 * 2
def stepF (r w : Str) (bs : Bool) (t : T3) : T3 × Bool :=
  if t.1 = 0 then ((1, keptF r t.2.1, if bs = true then 0 else t.2.1 % 2), !decide (keptF r t.2.1 = t.2.1))
  else ((0, sBehind w t.2.1 t.2.2, 0), !decide (sBehind w t.2.1 t.2.2 = t.2.1))
def deedsF (d : Str) (t : T3) : List T3 :=
  if (d = "raise" ∧ t.2.1 % 2 = 0) ∨ (d = "end" ∧ t.2.1 % 2 = 1) ∨ d = "drift" then [(t.1, t.2.1 + 1 - 2 * (t.2.1 % 2), t.2.2)] else []
def afterF (r w d : Str) (bs : Bool) : List T3 → List T3 → Option (List T3)
  | [], acc => some acc
  | t :: ts, acc => if (stepF r w bs t).2 = true then none else afterF r w d bs ts (acc ++ [(stepF r w bs t).1] ++ deedsF d t)
def seenF : List T3 → List T3 → List T3 → List T3 × List T3
  | [], seen, lev => (seen, lev)
  | t :: ts, seen, lev => if t ∈ seen then seenF ts seen lev else seenF ts (seen ++ [t]) (lev ++ [t])
def searchF (r w d : Str) (bs : Bool) : Nat → Int → List T3 → List T3 → Option Int
  | 0, _, _, _ => none
  | n + 1, many, level, seen => match afterF r w d bs level [] with
    | none => some many
    | some aft => searchF r w d bs n (many + 1) (seenF aft seen []).2 (seenF aft seen []).1
def leastL (r w d : Str) (first : Int) (bs : Bool) : Option Int := searchF r w d bs 19 1 [(0, first, 0)] [(0, first, 0)]
theorem least_same : ∀ r ∈ RD, ∀ w ∈ WR, ∀ d ∈ DV, ∀ bs : Bool, leastMoves r w d 0 bs = leastL r w d 0 bs ∧ (d ≠ "raise" → leastMoves r w d 1 bs = leastL r w d 1 bs) := by decide +kernel
theorem deeds_len (d : Str) (t : T3) : (deedsF d t).length ≤ 1 := by
  unfold deedsF
  split <;> simp
theorem after_len {r w d : Str} {bs : Bool} : ∀ {ts acc res : List T3}, afterF r w d bs ts acc = some res → res.length ≤ acc.length + 2 * ts.length
  | [], acc, res, h => by
    obtain rfl : acc = res := Option.some.inj h
    simp
  | t :: ts, acc, res, h => by
    unfold afterF at h
    split at h
    · cases h
    · have := after_len h
      have h2 := deeds_len d t
      simp only [List.length_append, List.length_cons, List.length_nil] at this ⊢
      omega
theorem seen_len : ∀ {ts seen lev : List T3}, (seenF ts seen lev).1.length ≤ seen.length + ts.length ∧ (seenF ts seen lev).2.length ≤ lev.length + ts.length
  | [], seen, lev => by simp [seenF]
  | t :: ts, seen, lev => by
    unfold seenF
    split
    · have := seen_len (ts := ts) (seen := seen) (lev := lev)
      simp only [List.length_cons]
      omega
    · have := seen_len (ts := ts) (seen := seen ++ [t]) (lev := lev ++ [t])
      simp only [List.length_cons, List.length_append, List.length_nil] at this ⊢
      omega
/-! ### tuples of three ints in the heap -/
def tv (t : T3) : HO := .tup [.int t.1, .int t.2.1, .int t.2.2]
def Trip (H : Hp) (v : V) (t : T3) : Prop := ∃ a, v = .ref a ∧ H a = some (tv t)
abbrev Trips (H : Hp) : List V → List T3 → Prop := Paired (Trip H)
theorem Trip.up {H H' : Hp} {v : V} {t : T3} (h : Trip H v t) (s : ∀ a, H a = some (tv t) → H' a = some (tv t)) : Trip H' v t := by
  obtain ⟨a, rfl, h⟩ := h
  exact ⟨a, rfl, s a h⟩
theorem Trips.up {H H' : Hp} (s : ∀ a t, H a = some (tv t) → H' a = some (tv t)) : ∀ {vs : List V} {ts : List T3}, Trips H vs ts → Trips H' vs ts
  | _, _, .nil => .nil
  | _, _, .cons h r => .cons (h.up fun a => s a _) (Trips.up s r)
theorem Trips.add {H : Hp} : ∀ {vs ws : List V} {ts us : List T3}, Trips H vs ts → Trips H ws us → Trips H (vs ++ ws) (ts ++ us)
  | _, _, _, _, .nil, r => r
  | _, _, _, _, .cons h q, r => .cons h (Trips.add q r)
theorem Trips.get {H : Hp} : ∀ {vs : List V} {ts : List T3} {i : Nat} {v : V}, Trips H vs ts → vs[i]? = some v → ∃ t, ts[i]? = some t ∧ Trip H v t
  | _, _, _, _, .nil, e => by simp at e
  | _, _, 0, _, .cons h _, e => by
    simp at e
    subst e
    exact ⟨_, rfl, h⟩
  | _, _, i + 1, v, .cons _ r, e => by
    obtain ⟨t, e1, e2⟩ := Trips.get (i := i) (v := v) r (by simpa using e)
    exact ⟨t, by simpa using e1, e2⟩
theorem Trips.len {H : Hp} {vs : List V} {ts : List T3} (h : Trips H vs ts) : vs.length = ts.length := Paired.length h
def dat (t : T3) : PyData := .tuple [.int t.1, .int t.2.1, .int t.2.2]
theorem Trip.dp {K : PySem.W.Frag} {H : Hp} {v : V} {t : T3} (h : Trip H v t) : Dp K H v (dat t) := by
  obtain ⟨a, rfl, h⟩ := h
  exact .tup (SqT.of h) (.cons (.int _) (.cons (.int _) (.cons (.int _) .nil)))
theorem Trips.dp {K : PySem.W.Frag} {H : Hp} : ∀ {vs : List V} {ts : List T3}, Trips H vs ts → DpAll K H vs (ts.map dat)
  | _, _, .nil => .nil
  | _, _, .cons h r => .cons h.dp (Trips.dp r)
theorem dat_shaped (t : T3) : SeqAt.shaped (dat t) = true := rfl
theorem dat_lay : ∀ ts : List T3, PyData.canLayAll0 (ts.map dat) = true
  | [] => rfl
  | t :: r => by
    show (PyData.canLay0 (dat t) && PyData.canLayAll0 (r.map dat)) = true
    rw [dat_lay r]; rfl
theorem dat_depth : ∀ ts : List T3, PyData.depthAll (ts.map dat) ≤ 1
  | [] => Nat.zero_le _
  | t :: r => by
    show max (PyData.depth (dat t)) (PyData.depthAll (r.map dat)) ≤ 1
    have := dat_depth r
    have e : PyData.depth (dat t) = 1 := rfl
    omega
theorem dats_shaped (ts : List T3) : SeqAt.shaped (.list (ts.map dat)) = true := by
  show (PyData.canLayAll0 (ts.map dat) && decide (PyData.depthAll (ts.map dat) + 1 ≤ 64)) = true
  have := dat_depth ts
  rw [dat_lay, decide_eq_true (by omega)]; rfl
theorem dat_eq (t u : T3) : PyData.eqv (dat t) (dat u) = decide (t = u) := by
  obtain ⟨a, b, c⟩ := t
  obtain ⟨x, y, z⟩ := u
  show ((a == x) && ((b == y) && ((c == z) && true))) = _
  by_cases h1 : a = x <;> by_cases h2 : b = y <;> by_cases h3 : c = z <;> simp [h1, h2, h3]
theorem dat_any (t : T3) : ∀ ts : List T3, (ts.map dat).any (fun z => PyData.eqv z (dat t)) = decide (t ∈ ts)
  | [] => by simp
  | u :: r => by
    rw [List.map_cons, List.any_cons, dat_any t r, dat_eq]
    by_cases h : u = t
    · subst h; simp
    · have h' : ¬ t = u := fun z => h z.symm
      simp [h, h']
theorem r_notInT3 {K : PySem.W.Frag} {H : Hp} {Q : VK} {v : V} {l : Addr} {vs : List V} {t : T3} {ts : List T3} (h : Trip H v t) (hl : H l = some (.lst vs)) (hs : Trips H vs ts) (q : Q (.bl (!decide (t ∈ ts))) H) : rNotInD K v (.ref l) H Q :=
  ⟨_, _, h.dp, .lst (SqL.of hl) hs.dp, dat_shaped t, dats_shaped ts, by rw [dat_any]; exact q⟩
/-! ### the promises -/
def spSB : Sp := fun vs H Q _ => ∃ (w : Str) (s b : Int), vs = [.str w, .int s, .int b] ∧ Q (.int (sBehind w s b)) H
def spStep : Sp := fun vs H Q _ => ∃ (wd a : Addr) (r w d : Str) (bs : Bool) (t : T3), vs = [.ref wd, .bl bs, .ref a] ∧ H wd = some (.lst [.str r, .str w, .str d]) ∧ H a = some (tv t) ∧
  ∀ (H' : Hp) (p : Addr) (v : V), Same H H' → H' p = some (.tup [v, .bl (stepF r w bs t).2]) → Trip H' v (stepF r w bs t).1 → Q (.ref p) H'
def spDeeds : Sp := fun vs H Q _ => ∃ (wd a : Addr) (r w d : Str) (t : T3), vs = [.ref wd, .ref a] ∧ H wd = some (.lst [.str r, .str w, .str d]) ∧ H a = some (tv t) ∧
  ∀ (H' : Hp) (p : Addr) (vs' : List V), Same H H' → H' p = some (.lst vs') → Trips H' vs' (deedsF d t) → Q (.ref p) H'
def spSearch : Sp := fun vs H Q _ => ∃ (wd : Addr) (r w d : Str) (first : Int) (bs : Bool), vs = [.ref wd, .int first, .bl bs] ∧ H wd = some (.lst [.str r, .str w, .str d]) ∧ ∀ H', Same H H' → Q (optV (leastL r w d first bs)) H'

section
variable {P : Program} {w : World} {K : PySem.W.Frag} {mg : Str → Option Value} {base : Heap}
theorem ok_sb {f : Addr} {fd : FuncData} {k : Nat} (F : Fun K "_law_state_behind" "_law_state_behind" s__law_state_behind f fd) (T : Txt mg) : FnOk P w K mg base CX0 (k + 1) f fd ["_law_written", "_law_state", "_law_bit"] spSB := by
  refine F.ok sc__law_state_behind (fun vs H Q E h => ?_) (fun cdv A outer s H vs Q E hr h => ?_)
  · obtain ⟨w, s, b, rfl, _⟩ := h
    rfl
  · obtain ⟨w, s, b, rfl, q⟩ := h
    refine ⟨_, (pss_cons (ps_par (i := 3) (j := 4) (by rfl) sc__law_state_behind.nd rfl rfl (by decide) rfl rfl (pa_cons (pe_op op_mul (pe_op op_fdiv (pv 1) pe_int) pe_int) (pa_cons (pe_op op_mod (pe_callTy call_int1 (by rfl) T.z_int (by decide +kernel) (pa_cons (pv 1) pa_nil)) pe_int) pa_nil)) (by rfl))
 (pss_cons (ps_if (pt_cmpR op_eq (pv 0) pe_str (nomark _)) (pss_one (ps_ret (pe_ifExp (pt_cmpR op_eq (pv 3) pe_int (nomark _)) (pv 1) (pe_op op_add pe_int (pv 2)))))
 pss_nil)
 (pss_cons (ps_if (pt_cmpR op_eq (pv 0) pe_str (nomark _)) (pss_one (ps_ret (pe_op op_add (pv 3) (pv 2))))
 pss_nil)
 (pss_cons (ps_if (pt_cmpR op_eq (pv 0) pe_str (nomark _)) (pss_one (ps_ret (pe_op op_add (pv 3) (pe_op op_mul (pv 4) (pe_op op_sub pe_int (pv 2))))))
 pss_nil)
 (pss_cons (ps_if (pt_cmpR op_eq (pv 0) pe_str (nomark _)) (pss_one (ps_ret (pe_op op_add (pv 3) (pe_op op_mul (pv 4) (pv 2)))))
 pss_nil)
 (pss_cons (ps_if (pt_cmpR op_eq (pv 0) pe_str (nomark _)) (pss_one (ps_ret (pe_op op_sub (pe_op op_add (pe_op op_add (pv 3) (pv 4)) (pv 2)) (pe_op op_mul (pv 4) (pv 2)))))
 pss_nil)
 (pss_cons (ps_if (pt_cmpR op_eq (pv 0) pe_str (nomark _)) (pss_one (ps_ret (pe_op op_sub (pe_op op_add (pe_op op_add (pv 3) (pv 4)) (pv 2)) (pe_op op_mul (pe_op op_mul pe_int (pv 4)) (pv 2)))))
 pss_nil)
 (pss_one (ps_ret (pv 1)))))))))), at_start (σ := [some (.str w), some (.int s), some (.int b), none, none]) rfl ?_⟩
    try dsimp only [cx_K]
    walk_at "rd"
    refine ⟨_, _, rfl, ?_⟩
    walk_at "sp"
    all_goals (refine val_to q ?_; unfold sBehind; walk_at "ifs")
theorem ok_step {f : Addr} {fd : FuncData} (F : Fun K "_law_step" "_law_step" s__law_step f fd) (T : Txt mg) (c__law_state_behind : Callee P w K mg base CX0 1 "_law_state_behind" ["_law_written", "_law_state", "_law_bit"] spSB) : FnOk P w K mg base CX0 2 f fd ["_law_words", "_law_is_beside", "_law_state"] spStep := by
  refine F.ok sc__law_step (fun vs H Q E h => ?_) (fun cdv A outer s H vs Q E hr h => ?_)
  · obtain ⟨wd, a, r, w, d, bs, t, rfl, _⟩ := h
    rfl
  · obtain ⟨wd, a, r, w, d, bs, ⟨x, y, z⟩, rfl, hw, ha, q⟩ := h
    refine ⟨_, (pss_cons (ps_asg (pv 2) (pg_tup rfl (pgs_cons (pg_name (i := 3) sc__law_step.nd rfl (by first | exact Or.inl rfl | exact Or.inr rfl)) (pgs_cons (pg_name (i := 4) sc__law_step.nd rfl (by first | exact Or.inl rfl | exact Or.inr rfl)) (pgs_cons (pg_name (i := 5) sc__law_step.nd rfl (by first | exact Or.inl rfl | exact Or.inr rfl)) pgs_nil)))))
 (pss_cons (ps_if (pt_cmpR op_eq (pv 3) pe_int (nomark _)) (pss_cons (ps_set (i := 6) sc__law_step.nd rfl (by first | exact Or.inl rfl | exact Or.inr rfl) (pe_ifExp (pt_cmpR op_eq (pe_ix ix_list (pv 0) pe_int (fun _ _ => rfl)) pe_str (nomark _)) (pv 4) (pe_op op_mul (pe_op op_fdiv (pv 4) pe_int) pe_int)))
 (pss_one (ps_ret (pe_tup (pa_cons (pe_tup (pa_cons pe_int (pa_cons (pv 6) (pa_cons (pe_ifExp (pt_val (pv 1)) pe_int (pe_op op_mod (pe_callTy call_int1 (by rfl) T.z_int (by decide +kernel) (pa_cons (pv 4) pa_nil)) pe_int)) pa_nil)))) (pa_cons (pe_cmpR op_ne (pv 6) (pv 4) (nomark _)) pa_nil))))))
 pss_nil)
 (pss_cons (ps_set (i := 7) sc__law_step.nd rfl (by first | exact Or.inl rfl | exact Or.inr rfl) (pe_callC c__law_state_behind (hr.mono (by decide)) (by rfl) pass0 (pa_cons (pe_ix ix_list (pv 0) pe_int (fun _ _ => rfl)) (pa_cons (pv 4) (pa_cons (pv 5) pa_nil)))))
 (pss_one (ps_ret (pe_tup (pa_cons (pe_tup (pa_cons pe_int (pa_cons (pv 7) (pa_cons pe_int pa_nil)))) (pa_cons (pe_cmpR op_ne (pv 7) (pv 4) (nomark _)) pa_nil)))))))), at_start (σ := [some (.ref wd), some (.bl bs), some (.ref a), none, none, none, none, none]) rfl ?_⟩
    try dsimp only [cx_K]
    have ha : H a = some (.tup [.int x, .int y, .int z]) := ha
    walk_at "rd"
    refine r_iteI2 (fun h0 => ?_) (fun h0 => ?_)
    · subst h0
      walk_at "rd"
      refine ite_join (fun v H' => v = .int (keptF r y) ∧ H' = H) (fun h Q q => ?_) (fun h Q q => ?_) ?_
      · walk_at "rd"
        exact q _ _ ⟨by rw [keptF, if_pos (strEq h)], rfl⟩
      · walk_at "rd"
        exact q _ _ ⟨by rw [keptF, if_neg (strNe h)], rfl⟩
      rintro v H' ⟨rfl, rfl⟩
      walk_at "rd"
      have fin : ∀ (c1 c2 : Addr), H' c1 = none → upd H' c1 (tv (stepF r w bs (0, y, z)).1) c2 = none → Q (.ref c2) (upd (upd H' c1 (tv (stepF r w bs (0, y, z)).1)) c2 (.tup [.ref c1, .bl (stepF r w bs (0, y, z)).2])) := fun c1 c2 n1 n2 =>
        q _ c2 _ ((same_new n1).trans (same_new n2)) upd_same ⟨c1, rfl, upd_new n2 upd_same⟩
      refine r_iteB (fun hb => ?_) (fun hb => ?_)
      all_goals
        subst hb
        walk_at "rd"
        refine ⟨by walk_at "sz", fun c1 n1 => ?_⟩
        walk_at "rd"
        refine ⟨by walk_at "sz", fun c2 n2 => ?_⟩
        rw [decI]
        exact fin c1 c2 n1 n2
    · walk_at "rd"
      refine ⟨w, y, z, rfl, ?_⟩
      walk_at "rd"
      refine ⟨by walk_at "sz", fun c1 n1 => ?_⟩
      walk_at "rd"
      refine ⟨by walk_at "sz", fun c2 n2 => ?_⟩
      rw [decI]
      have e : stepF r w bs (x, y, z) = ((0, sBehind w y z, 0), !decide (sBehind w y z = y)) := by simp [stepF, h0]
      rw [e] at q
      exact q _ c2 _ ((same_new n1).trans (same_new n2)) upd_same ⟨c1, rfl, upd_new n2 upd_same⟩
theorem ok_deeds {f : Addr} {fd : FuncData} {k : Nat} (F : Fun K "_law_deeds" "_law_deeds" s__law_deeds f fd) (T : Txt mg) : FnOk P w K mg base CX0 (k + 1) f fd ["_law_words", "_law_state"] spDeeds := by
  refine F.ok sc__law_deeds (fun vs H Q E h => ?_) (fun cdv A outer s H vs Q E hr h => ?_)
  · obtain ⟨wd, a, r, w, d, t, rfl, _⟩ := h
    rfl
  · obtain ⟨wd, a, r, w, d, ⟨x, y, z⟩, rfl, hw, ha, q⟩ := h
    refine ⟨_, (pss_cons (ps_asg (pv 1) (pg_tup rfl (pgs_cons (pg_name (i := 2) sc__law_deeds.nd rfl (by first | exact Or.inl rfl | exact Or.inr rfl)) (pgs_cons (pg_name (i := 3) sc__law_deeds.nd rfl (by first | exact Or.inl rfl | exact Or.inr rfl)) (pgs_cons (pg_name (i := 4) sc__law_deeds.nd rfl (by first | exact Or.inl rfl | exact Or.inr rfl)) pgs_nil)))))
 (pss_cons (ps_set (i := 5) sc__law_deeds.nd rfl (by first | exact Or.inl rfl | exact Or.inr rfl) (pe_op op_mod (pe_callTy call_int1 (by rfl) T.z_int (by decide +kernel) (pa_cons (pv 3) pa_nil)) pe_int))
 (pss_cons (ps_if (PW.pt (pw_or (PW.pt (pw_and (pt_cmpR op_eq (pe_ix ix_list (pv 0) pe_int (fun _ _ => rfl)) pe_str (nomark _)) (pw_and1 (pt_cmpR op_eq (pv 5) pe_int (nomark _))))) (pw_or (PW.pt (pw_and (pt_cmpR op_eq (pe_ix ix_list (pv 0) pe_int (fun _ _ => rfl)) pe_str (nomark _)) (pw_and1 (pt_cmpR op_eq (pv 5) pe_int (nomark _))))) (pw_or1 (pt_cmpR op_eq (pe_ix ix_list (pv 0) pe_int (fun _ _ => rfl)) pe_str (nomark _)))))) (pss_one (ps_ret (pe_lst (pa_cons (pe_tup (pa_cons (pv 2) (pa_cons (pe_op op_sub (pe_op op_add (pv 3) pe_int) (pe_op op_mul pe_int (pv 5))) (pa_cons (pv 4) pa_nil)))) pa_nil))))
 pss_nil)
 (pss_one (ps_ret (pe_lst pa_nil)))))), at_start (σ := [some (.ref wd), some (.ref a), none, none, none, none]) rfl ?_⟩
    try dsimp only [cx_K]
    have ha : H a = some (.tup [.int x, .int y, .int z]) := ha
    have yes : (d = "raise" ∧ y % 2 = 0) ∨ (d = "end" ∧ y % 2 = 1) ∨ d = "drift" → ∀ c1 c2, H c1 = none → upd H c1 (.tup [.int x, .int (y + 1 - 2 * (y % 2)), .int z]) c2 = none → Q (.ref c2) (upd (upd H c1 (.tup [.int x, .int (y + 1 - 2 * (y % 2)), .int z])) c2 (.lst [.ref c1])) := fun h c1 c2 n1 n2 => by
      have e : deedsF d (x, y, z) = [(x, y + 1 - 2 * (y % 2), z)] := by rw [deedsF, if_pos h]
      rw [e] at q
      exact q _ c2 _ ((same_new n1).trans (same_new n2)) upd_same (.cons ⟨c1, rfl, upd_new n2 upd_same⟩ .nil)
    have no : ¬ ((d = "raise" ∧ y % 2 = 0) ∨ (d = "end" ∧ y % 2 = 1) ∨ d = "drift") → ∀ c1, H c1 = none → Q (.ref c1) (upd H c1 (.lst [])) := fun h c1 n1 => by
      have e : deedsF d (x, y, z) = [] := by rw [deedsF, if_neg h]
      rw [e] at q
      exact q _ c1 _ (same_new n1) upd_same .nil
    walk_at "sp"
    all_goals first
      | contradiction
      | (refine ⟨by walk_at "sz", fun c1 n1 => ?_⟩
         walk_at "rd"
         refine ⟨by walk_at "sz", fun c2 n2 => ?_⟩
         refine yes ?_ c1 c2 n1 n2
         clear yes no q
         grind)
      | (refine ⟨by walk_at "sz", fun c1 n1 => ?_⟩
         refine no ?_ c1 n1
         clear yes no q
         grind)
end
end K29


namespace K29
open PySem L2 KB
theorem drop_get {α : Type} {xs : List α} {i : Nat} {x : α} (h : xs[i]? = some x) : xs.drop i = x :: xs.drop (i + 1) := by
  obtain ⟨hl, e⟩ := List.getElem?_eq_some_iff.mp h
  rw [List.drop_eq_getElem_cons hl, e]
theorem search_hit {r w d : Str} {bs : Bool} {n : Nat} {many : Int} {level seen : List T3} (h : afterF r w d bs level [] = none) : searchF r w d bs (n + 1) many level seen = some many := by
  rw [searchF, h]
theorem search_on {r w d : Str} {bs : Bool} {n : Nat} {many : Int} {level seen aft : List T3} (h : afterF r w d bs level [] = some aft) : searchF r w d bs (n + 1) many level seen = searchF r w d bs n (many + 1) (seenF aft seen []).2 (seenF aft seen []).1 := by
  rw [searchF, h]
theorem afterF_cons {r w d : Str} {bs : Bool} {t : T3} {ts acc : List T3} : afterF r w d bs (t :: ts) acc = if (stepF r w bs t).2 = true then none else afterF r w d bs ts (acc ++ [(stepF r w bs t).1] ++ deedsF d t) := rfl
theorem seenF_cons {t : T3} {ts seen lev : List T3} : seenF (t :: ts) seen lev = if t ∈ seen then seenF ts seen lev else seenF ts (seen ++ [t]) (lev ++ [t]) := rfl
theorem tv_ne {H : Hp} {a l : Addr} {t : T3} {xs : List V} (h : H a = some (tv t)) (hl : H l = some (.lst xs)) : a ≠ l := ne_of h hl (by intro z; cases z)

section
variable {P : Program} {w : World} {K : PySem.W.Frag} {mg : Str → Option Value} {base : Heap}
theorem ok_search {f : Addr} {fd : FuncData} (F : Fun K "_law_least" "_law_least" s__law_least f fd) (T : Txt mg) (c__law_step : Callee P w K mg base CX0 2 "_law_step" ["_law_words", "_law_is_beside", "_law_state"] spStep)
    (c__law_deeds : Callee P w K mg base CX0 1 "_law_deeds" ["_law_words", "_law_state"] spDeeds) : FnOk P w K mg base CX0 3 f fd ["_law_words", "_law_first", "_law_is_beside"] spSearch := by
  refine F.ok sc__law_least (fun vs H Q E h => ?_) (fun cdv A outer s H vs Q E hr h => ?_)
  · obtain ⟨wd, r, w, d, first, bs, rfl, _⟩ := h
    rfl
  · obtain ⟨wd, r, w, d, first, bs, rfl, hw, q⟩ := h
    refine ⟨_, (pss_cons (ps_set (i := 3) sc__law_least.nd rfl (by first | exact Or.inl rfl | exact Or.inr rfl) (pe_lst (pa_cons (pe_tup (pa_cons pe_int (pa_cons (pv 1) (pa_cons pe_int pa_nil)))) pa_nil)))
 (pss_cons (ps_set (i := 4) sc__law_least.nd rfl (by first | exact Or.inl rfl | exact Or.inr rfl) (pe_callTy call_list_of (by rfl) T.z_list (by decide +kernel) (pa_cons (pv 3) pa_nil)))
 (pss_cons (ps_for PassesOwn.never rfl (pi_range2 rfl T.z_range (pa_cons pe_int (pa_cons pe_int pa_nil))) (pg_name (i := 5) sc__law_least.nd rfl (by first | exact Or.inl rfl | exact Or.inr rfl))
 (pss_cons (ps_set (i := 6) sc__law_least.nd rfl (by first | exact Or.inl rfl | exact Or.inr rfl) (pe_lst pa_nil))
 (pss_cons (ps_for PassesOwn.never rfl (pi_list (pv 3)) (pg_name (i := 7) sc__law_least.nd rfl (by first | exact Or.inl rfl | exact Or.inr rfl))
 (pss_cons (ps_asg (pe_callC c__law_step (hr.mono (by decide)) (by rfl) pass0 (pa_cons (pv 0) (pa_cons (pv 2) (pa_cons (pv 7) pa_nil)))) (pg_tup rfl (pgs_cons (pg_name (i := 8) sc__law_least.nd rfl (by first | exact Or.inl rfl | exact Or.inr rfl)) (pgs_cons (pg_name (i := 9) sc__law_least.nd rfl (by first | exact Or.inl rfl | exact Or.inr rfl)) pgs_nil))))
 (pss_cons (ps_if (pt_val (pv 9)) (pss_one (ps_ret (pv 5)))
 pss_nil)
 (pss_one (ps_set (i := 6) sc__law_least.nd rfl (by first | exact Or.inl rfl | exact Or.inr rfl) (pe_op op_cat (pe_op op_cat (pv 6) (pe_lst (pa_cons (pv 8) pa_nil))) (pe_callC c__law_deeds (hr.mono (by decide)) (by rfl) pass0 (pa_cons (pv 0) (pa_cons (pv 7) pa_nil)))))))))
 (pss_cons (ps_set (i := 3) sc__law_least.nd rfl (by first | exact Or.inl rfl | exact Or.inr rfl) (pe_lst pa_nil))
 (pss_one (ps_for PassesOwn.never rfl (pi_list (pv 6)) (pg_name (i := 7) sc__law_least.nd rfl (by first | exact Or.inl rfl | exact Or.inr rfl))
 (pss_one (ps_if (pt_cmpR (op_notInD (hu65 hr)) (pv 7) (pv 4) (by rfl)) (pss_cons (ps_expr (pe_bm PySem.F.plainAttrs_list PySem.F.slot_list_append PySem.F.type_list_append mt_append (pv 4) (pa_cons (pv 7) pa_nil)))
 (pss_one (ps_expr (pe_bm PySem.F.plainAttrs_list PySem.F.slot_list_append PySem.F.type_list_append mt_append (pv 3) (pa_cons (pv 7) pa_nil)))))
 pss_nil))))))))
 (pss_one (ps_ret pe_non))))), at_start (σ := [some (.ref wd), some (.int first), some (.bl bs), none, none, none, none, none, none, none]) rfl ?_⟩
    try dsimp only [cx_K]
    walk_at "rd"
    refine ⟨by walk_at "sz", fun c1 n1 => ?_⟩
    walk_at "rd"
    refine ⟨by walk_at "sz", fun lv nlv => ?_⟩
    walk_at "rd"
    intro sn nsn
    have s1 := ((same_new (o := .tup [.int 0, .int first, .int 0]) n1).trans (same_new (o := .lst [.ref c1]) nlv)).trans (same_new (o := .lst [.ref c1]) nsn)
    have e1 : (upd (upd (upd H c1 (.tup [.int 0, .int first, .int 0])) lv (.lst [.ref c1])) sn (.lst [.ref c1])) lv = some (.lst [.ref c1]) := by walk_at "hp"
    have e2 : (upd (upd (upd H c1 (.tup [.int 0, .int first, .int 0])) lv (.lst [.ref c1])) sn (.lst [.ref c1])) sn = some (.lst [.ref c1]) := by walk_at "hp"
    have e3 : (upd (upd (upd H c1 (.tup [.int 0, .int first, .int 0])) lv (.lst [.ref c1])) sn (.lst [.ref c1])) c1 = some (tv (0, first, 0)) := by
      show _ = some (HO.tup [.int 0, .int first, .int 0])
      walk_at "hp"
    have hsn : H sn = none := ((same_new n1).trans (same_new nlv)).free nsn
    have nls : lv ≠ sn := fun z => by rw [← z, upd_same] at nsn; cases nsn
    generalize (upd (upd (upd H c1 (.tup [.int 0, .int first, .int 0])) lv (.lst [.ref c1])) sn (.lst [.ref c1])) = H1 at s1 e1 e2 e3 ⊢
    walk_at "rd"
    refine ⟨⟨by decide, by decide, by decide, by decide⟩, ?_⟩
    refine forW (walk_range (lo := 1) (n := 19)) (fun i σ H' => ∃ (lv sn : Addr) (vl vsn : List V) (level seen : List T3) (y5 y6 y7 y8 y9 : Option V), σ = [some (.ref wd), some (.int first), some (.bl bs), some (.ref lv), some (.ref sn), y5, y6, y7, y8, y9] ∧
      Same H H' ∧ H sn = none ∧ lv ≠ sn ∧ H' lv = some (.lst vl) ∧ H' sn = some (.lst vsn) ∧ Trips H' vl level ∧ Trips H' vsn seen ∧ level.length ≤ 2 ^ i ∧ seen.length ≤ 2 ^ (i + 1) ∧ searchF r w d bs (19 - i) (1 + (i : Int)) level seen = leastL r w d first bs)
      ⟨lv, sn, _, _, [(0, first, 0)], [(0, first, 0)], _, _, _, _, _, rfl, s1, hsn, nls, e1, e2, .cons ⟨c1, rfl, e3⟩ .nil, .cons ⟨c1, rfl, e3⟩ .nil, by simp, by simp, rfl⟩ (fun _ _ _ _ _ => trivial) ?_ ?_
    · clear hsn nls e1 e2 e3 s1 n1 nlv nsn
      rintro i x σ' _ H2 hi ⟨lv, sn, vl, vsn, level, seen, y5, y6, y7, y8, y9, rfl, s2, hsn, nls, elv, esn, tl, ts, ll, ls, hse⟩ ⟨rfl, rfl⟩
      have hb : 2 ^ i ≤ 524288 := Nat.pow_le_pow_right (n := 2) (by decide) (show i ≤ 19 by omega)
      have hb2 : 2 ^ (i + 1) ≤ 1048576 := Nat.pow_le_pow_right (n := 2) (by decide) (show i + 1 ≤ 20 by omega)
      obtain ⟨m, hm⟩ : ∃ m, 19 - i = m + 1 := ⟨18 - i, by omega⟩
      have hm2 : 19 - (i + 1) = m := by omega
      walk_at "rd"
      refine ⟨by walk_at "sz", fun af naf => ?_⟩
      have s3 := s2.trans (same_new (o := .lst []) naf)
      have elv3 := upd_new (o := .lst []) naf elv
      have esn3 := upd_new (o := .lst []) naf esn
      have eaf3 : (upd H2 af (.lst [])) af = some (.lst []) := upd_same
      have tl3 : Trips (upd H2 af (.lst [])) vl level := tl.up fun a t h => upd_new naf h
      have ts3 : Trips (upd H2 af (.lst [])) vsn seen := ts.up fun a t h => upd_new naf h
      have nas : af ≠ sn := (ne_of_none esn naf).symm
      generalize upd H2 af (.lst []) = H3 at s3 elv3 esn3 eaf3 tl3 ts3 ⊢
      clear tl ts
      walk_at "rd"
      refine ⟨lv, rfl, ⟨_, SqL.of elv3⟩, ?_⟩
      refine forW (walk_list (xs := vl)) (fun j σ H4 => ∃ (af : Addr) (va : List V) (acc : List T3) (y7 y8 y9 : Option V), σ = [some (.ref wd), some (.int first), some (.bl bs), some (.ref lv), some (.ref sn), some (.int (1 + (i : Int))), some (.ref af), y7, y8, y9] ∧
        Same H3 H4 ∧ af ≠ sn ∧ H4 af = some (.lst va) ∧ Trips H4 va acc ∧ acc.length ≤ 2 * j ∧ afterF r w d bs level [] = afterF r w d bs (level.drop j) acc)
        ⟨af, [], [], _, _, _, rfl, Same.refl _, nas, eaf3, .nil, by simp, rfl⟩ (fun j σ H4 _ ⟨_, _, _, _, _, _, _, s4, _⟩ => SqL.of (s4 _ _ elv3)) ?_ ?_
      · clear eaf3 nas naf
        rintro j v σ' _ H4 hj ⟨af, va, acc, y7, y8, y9, rfl, s4, nas, eaf, ta, la, hae⟩ ⟨rfl, ev⟩
        obtain ⟨t, et, ⟨a, rfl, ha⟩⟩ := tl3.get ev
        have ha4 := s4 _ _ ha
        have hw4 := s4 _ _ (s3 _ _ hw)
        rw [drop_get et, afterF_cons] at hae
        have hjl : j < level.length := (List.getElem?_eq_some_iff.mp et).1
        walk_at "rd"
        refine ⟨wd, a, r, w, d, bs, t, rfl, hw4, ha4, fun H5 p v' s5 hp tr => ?_⟩
        walk_at "rd"
        refine r_iteB (fun hmv => ?_) (fun hmv => ?_)
        · walk_at "rd"
          rw [if_pos hmv] at hae
          refine val_to (q _ (((s3.trans s4).trans s5))) ?_
          rw [← hse, hm, search_hit hae]
          rfl
        · rw [if_neg (by rw [hmv]; decide)] at hae
          walk_at "rd"
          refine ⟨by walk_at "sz", fun c1 n1 => ?_⟩
          have h0 : va.length ≤ 1048576 := by rw [ta.len]; omega
          refine r_cat (xs := va) (ys := [v']) (upd_new n1 (s5 _ _ eaf)) upd_same (by simp only [List.length_cons, List.length_nil]; exact Nat.le_trans (Nat.add_le_add_right h0 _) (by decide)) fun c2 n2 => ?_
          walk_at "rd"
          have s6 := (s5.trans (same_new (o := .lst [v']) n1)).trans (same_new (o := .lst (va ++ [v'])) n2)
          have s56 := (same_new (o := .lst [v']) n1).trans (same_new (o := .lst (va ++ [v'])) n2)
          refine ⟨wd, a, r, w, d, t, rfl, s6 _ _ hw4, s6 _ _ ha4, fun H7 p2 vd s7 hp2 td => ?_⟩
          have e7 := s7 _ _ (show (upd (upd H5 c1 (.lst [v'])) c2 (.lst (va ++ [v']))) c2 = _ from upd_same)
          have hd1 := deeds_len d t
          refine r_cat (xs := va ++ [v']) (ys := vd) e7 hp2 (by rw [td.len]; simp only [List.length_append, List.length_cons, List.length_nil]; exact Nat.le_trans (Nat.add_le_add (Nat.add_le_add_right h0 _) hd1) (by decide)) fun c3 n3 => ?_
          walk_at "rd"
          have s8 := (s6.trans s7).trans (same_new (o := .lst (va ++ [v'] ++ vd)) n3)
          have s58 := (s56.trans s7).trans (same_new (o := .lst (va ++ [v'] ++ vd)) n3)
          have hsn8 : H7 sn = some (.lst vsn) := s7 _ _ (s6 _ _ (s4 _ _ esn3))
          refine ⟨c3, _, acc ++ [(stepF r w bs t).1] ++ deedsF d t, _, _, _, rfl, s4.trans s8, (ne_of_none hsn8 n3).symm, upd_same, ?_, ?_, hae⟩
          · refine ((ta.up fun a t h => s8 _ _ h).add (.cons (tr.up fun a h => s58 _ _ h) .nil)).add (td.up fun a t h => upd_new n3 h)
          · simp only [List.length_append, List.length_cons, List.length_nil]
            omega
      · clear eaf3 nas naf
        rintro σ' H4 ⟨af, va, acc, y7, y8, y9, rfl, s4, nas, eaf, ta, la, hae⟩
        rw [tl3.len] at la hae
        rw [List.drop_length] at hae
        have hae' : afterF r w d bs level [] = some acc := hae
        walk_at "rd"
        refine ⟨by walk_at "sz", fun l2 nl2 => ?_⟩
        have esn4 := s4 _ _ esn3
        have nl2s : l2 ≠ sn := (ne_of_none esn4 nl2).symm
        have nl2a : l2 ≠ af := (ne_of_none eaf nl2).symm
        have hl2 : H l2 = none := (s3.trans s4).free nl2
        have s5 := (s3.trans s4).trans (same_new (o := .lst []) nl2)
        walk_at "rd"
        refine ⟨af, rfl, ⟨_, SqL.of (upd_new nl2 eaf)⟩, ?_⟩
        refine forW (walk_list (xs := va)) (fun j σ H6 => ∃ (vl2 vs2 : List V) (lev2 seen2 : List T3) (y7 : Option V), σ = [some (.ref wd), some (.int first), some (.bl bs), some (.ref l2), some (.ref sn), some (.int (1 + (i : Int))), some (.ref af), y7, y8, y9] ∧
          Same H H6 ∧ H6 sn = some (.lst vs2) ∧ H6 l2 = some (.lst vl2) ∧ H6 af = some (.lst va) ∧ Trips H6 va acc ∧ Trips H6 vl2 lev2 ∧ Trips H6 vs2 seen2 ∧ lev2.length ≤ j ∧ seen2.length ≤ seen.length + j ∧ seenF acc seen [] = seenF (acc.drop j) seen2 lev2)
          ⟨[], vsn, [], seen, _, rfl, s5, upd_new nl2 esn4, upd_same, upd_new nl2 eaf, ta.up fun a t h => upd_new nl2 h, .nil, ts3.up fun a t h => upd_new nl2 (s4 _ _ h), by simp, by simp, rfl⟩
          (fun j σ H6 _ ⟨_, _, _, _, _, _, _, _, _, e, _⟩ => SqL.of e) ?_ ?_
        · rintro j v σ' _ H6 hj ⟨vl2, vs2, lev2, seen2, z7, rfl, s6, f1, f2, f3, g1, g2, g3, k1, k2, he⟩ ⟨rfl, ev⟩
          obtain ⟨t, et, tr⟩ := g1.get ev
          rw [drop_get et, seenF_cons] at he
          have hjl : j < acc.length := (List.getElem?_eq_some_iff.mp et).1
          walk_at "rd"
          refine r_notInT3 tr f1 g3 ?_
          walk_at "rd"
          refine r_iteN2 (fun hin => ?_) (fun hin => ?_)
          · rw [if_neg hin] at he
            walk_at "rd"
            have z1 : vs2.length < sizeLine := by rw [g3.len]; exact Nat.lt_of_le_of_lt (show seen2.length ≤ 4000000 by omega) (by decide)
            have z2 : vl2.length < sizeLine := by rw [g2.len]; exact Nat.lt_of_le_of_lt (show lev2.length ≤ 4000000 by omega) (by decide)
            refine r_append f1 z1 ?_
            walk_at "rd"
            refine r_append (show (upd H6 sn (.lst (vs2 ++ [v]))) l2 = some (.lst vl2) by rw [upd_ne nl2s]; exact f2) z2 ?_
            walk_at "rd"
            have up : ∀ a t, H6 a = some (tv t) → (upd (upd H6 sn (.lst (vs2 ++ [v]))) l2 (.lst (vl2 ++ [v]))) a = some (tv t) := fun a t h => by
              rw [upd_ne (tv_ne h f2), upd_ne (tv_ne h f1)]
              exact h
            refine ⟨_, _, lev2 ++ [t], seen2 ++ [t], _, rfl, same_mut (same_mut s6 hsn) hl2, by rw [upd_ne nl2s.symm, upd_same], upd_same, by rw [upd_ne nl2a.symm, upd_ne nas]; exact f3, g1.up up, (g2.up up).add (.cons (tr.up fun a => up a t) .nil), (g3.up up).add (.cons (tr.up fun a => up a t) .nil), ?_, ?_, he⟩
            · simp only [List.length_append, List.length_cons, List.length_nil]
              omega
            · simp only [List.length_append, List.length_cons, List.length_nil]
              omega
          · rw [if_pos hin] at he
            walk_at "rd"
            exact ⟨_, _, lev2, seen2, _, rfl, s6, f1, f2, f3, g1, g2, g3, by omega, by omega, he⟩
        · rintro σ' H6 ⟨vl2, vs2, lev2, seen2, z7, rfl, s6, f1, f2, f3, g1, g2, g3, k1, k2, he⟩
          rw [g1.len] at he k1 k2
          rw [List.drop_length] at he
          have he' : seenF acc seen [] = (seen2, lev2) := he
          walk_at "rd"
          have hp2 : 2 ^ (i + 1) = 2 * 2 ^ i := by rw [Nat.pow_succ]; omega
          have hp3 : 2 ^ (i + 1 + 1) = 2 * 2 ^ (i + 1) := by rw [Nat.pow_succ]; omega
          refine ⟨l2, sn, vl2, vs2, lev2, seen2, _, _, _, _, _, rfl, s6, hsn, nl2s, f2, f1, g2, g3, by omega, by omega, ?_⟩
          rw [hm2, ← hse, hm, search_on hae', he']
          all_goals (congr 1 <;> omega)
    · rintro σ' H2 ⟨lv, sn, vl, vsn, level, seen, y5, y6, y7, y8, y9, rfl, s2, hsn, nls, elv, esn, tl, ts, ll, ls, hse⟩
      walk_at "rd"
      refine val_to (q _ s2) ?_
      rw [← hse]
      rfl
end
end K29


namespace K29
open PySem L2 KB
def spLaw (K : PySem.W.Frag) : Sp := fun vs H Q _ => ∃ (a : Addr) (ns : List Int), vs = [.ref a] ∧ SqL K H a (ns.map V.int) ∧ ns.length ≤ 63 ∧ ∀ H', Q (.bl true) H'
theorem least_eq {r w d : Str} {z : Int} {bs : Bool} (hr : r ∈ RD) (hw : w ∈ WR) (hd : d ∈ DV) (hz : z = 0 ∨ (z = 1 ∧ d ≠ "raise")) : leastMoves r w d z bs = leastL r w d z bs := by
  have h := least_same r hr w hw d hd bs
  rcases hz with rfl | ⟨rfl, hn⟩
  · exact h.1
  · exact h.2 hn

section
variable {P : Program} {w : World} {K : PySem.W.Frag} {mg : Str → Option Value} {base : Heap}
theorem ok_law {f C : Addr} {fd : FuncData} (F : Fun K "law" "law" s_law f fd) (T : TxtK K mg C) (k_least_moves : CalleeKw P w K mg base CX0 2 "least_moves" ["kind", "reset", "beside"] (spLeast C) 2 ["beside"] (fun vs zs => vs ++ zs))
    (d_least_moves : CalleeD P w K mg base CX0 2 "least_moves" ["kind", "reset", "beside"] (spLeast C) [.bl false]) (c_Kind___init__ : CalleeI P w K mg base CX0 1 C "Kind" ["self", "reading", "writing", "device"] (spKind C))
    (c__law_least : Callee P w K mg base CX0 3 "_law_least" ["_law_words", "_law_first", "_law_is_beside"] spSearch)
    (c__law_draw : Callee P w K mg base CX0 1 "_law_draw" ["_law_pen_here", "_law_many"] spDraw) (c__law_pen : Callee P w K mg base CX0 1 "_law_pen" ["_law_script"] (spPen K)) : FnOk P w K mg base CX0 4 f fd ["_law_script"] (spLaw K) := by
  refine F.ok sc_law (fun vs H Q E h => ?_) (fun cdv A outer s H vs Q E hr h => ?_)
  · obtain ⟨a, ns, rfl, _⟩ := h
    rfl
  · obtain ⟨a, ns, rfl, hS, hlen, q⟩ := h
    refine ⟨_, (pss_cons (ps_set (i := 1) sc_law.nd rfl (by first | exact Or.inl rfl | exact Or.inr rfl) (pe_callC c__law_pen (hr.mono (by decide)) (by rfl) pass0 (pa_cons (pv 0) pa_nil)))
 (pss_cons (ps_for PassesOwn.never rfl (pi_range1 rfl T.z_range (pa_cons (pe_callB (call_max2 rfl) (by rfl) T.z_max (by decide +kernel) (pa_cons pe_int (pa_cons (pe_callB (call_min2 rfl) (by rfl) T.z_min (by decide +kernel) (pa_cons pe_int (pa_cons (pe_callB call_len_seq (by rfl) T.z_len (by decide +kernel) (pa_cons (pv 0) pa_nil)) pa_nil))) pa_nil))) pa_nil)) (pg_name (i := 2) sc_law.nd rfl (by first | exact Or.inl rfl | exact Or.inr rfl))
 (pss_cons (ps_set (i := 3) sc_law.nd rfl (by first | exact Or.inl rfl | exact Or.inr rfl) (pe_ix ix_tup (pe_tup (pa_cons pe_str (pa_cons pe_str pa_nil))) (pe_callC c__law_draw (hr.mono (by decide)) (by rfl) pass0 (pa_cons (pv 1) (pa_cons pe_int pa_nil))) (fun _ _ => rfl)))
 (pss_cons (ps_set (i := 4) sc_law.nd rfl (by first | exact Or.inl rfl | exact Or.inr rfl) (pe_ix ix_tup (pe_tup (pa_cons pe_str (pa_cons pe_str (pa_cons pe_str (pa_cons pe_str (pa_cons pe_str (pa_cons pe_str (pa_cons pe_str pa_nil)))))))) (pe_callC c__law_draw (hr.mono (by decide)) (by rfl) pass0 (pa_cons (pv 1) (pa_cons pe_int pa_nil))) (fun _ _ => rfl)))
 (pss_cons (ps_set (i := 5) sc_law.nd rfl (by first | exact Or.inl rfl | exact Or.inr rfl) (pe_ix ix_tup (pe_tup (pa_cons pe_str (pa_cons pe_str (pa_cons pe_str (pa_cons pe_str pa_nil))))) (pe_callC c__law_draw (hr.mono (by decide)) (by rfl) pass0 (pa_cons (pv 1) (pa_cons pe_int pa_nil))) (fun _ _ => rfl)))
 (pss_cons (ps_set (i := 6) sc_law.nd rfl (by first | exact Or.inl rfl | exact Or.inr rfl) (pe_ifExp (pt_cmpR op_eq (pv 5) pe_str (nomark _)) pe_int (pe_callC c__law_draw (hr.mono (by decide)) (by rfl) pass0 (pa_cons (pv 1) (pa_cons pe_int pa_nil)))))
 (pss_cons (ps_set (i := 7) sc_law.nd rfl (by first | exact Or.inl rfl | exact Or.inr rfl) (pe_cmpR op_eq (pe_callC c__law_draw (hr.mono (by decide)) (by rfl) pass0 (pa_cons (pv 1) (pa_cons pe_int pa_nil))) pe_int (nomark _)))
 (pss_cons (ps_set (i := 8) sc_law.nd rfl (by first | exact Or.inl rfl | exact Or.inr rfl) (pe_callC c__law_least (hr.mono (by decide)) (by rfl) pass0 (pa_cons (pe_lst (pa_cons (pv 3) (pa_cons (pv 4) (pa_cons (pv 5) pa_nil)))) (pa_cons (pv 6) (pa_cons (pv 7) pa_nil)))))
 (pss_cons (ps_set (i := 9) sc_law.nd rfl (by first | exact Or.inl rfl | exact Or.inr rfl) (pe_callKw k_least_moves (hr.mono (by decide)) (by rfl) pass0 (pa_cons (pe_makeC c_Kind___init__ (hr.mono (by decide)) (by rfl) pass0 (pa_cons (pv 3) (pa_cons (pv 4) (pa_cons (pv 5) pa_nil)))) (pa_cons (pv 6) pa_nil)) (pk_cons (pv 7) pk_nil)))
 (pss_cons (ps_if (PW.pt (pw_or (pt_val (pe_callB call_isi (by rfl) T.z_isinstance (by decide +kernel) (pa_cons (pv 9) (pa_cons (pe_bltn (v := .ty "bool") (by rfl) T.z_bool (by decide +kernel) rfl) pa_nil)))) (pw_or (pt_cmpR op_ne (pv 9) (pv 8) (nomark _)) (pw_or1 (pt_cmpR op_ne (pe_cmpR op_isN (pv 9) pe_non (nomark _)) (pe_cmpR op_isN (pv 8) pe_non (nomark _)) (nomark _)))))) (pss_one (ps_ret pe_bl))
 pss_nil)
 (pss_one (ps_if (PW.pt (pw_and (pt_not (pt_val (pv 7))) (pw_and1 (pt_cmpR op_ne (pe_callD d_least_moves (hr.mono (by decide)) (by rfl) pass0 (pa_cons (pe_makeC c_Kind___init__ (hr.mono (by decide)) (by rfl) pass0 (pa_cons (pv 3) (pa_cons (pv 4) (pa_cons (pv 5) pa_nil)))) (pa_cons (pv 6) pa_nil))) (pv 8) (nomark _))))) (pss_one (ps_ret pe_bl))
 pss_nil)))))))))))
 (pss_one (ps_ret pe_bl)))), at_start (σ := [some (.ref a), none, none, none, none, none, none, none, none, none]) rfl ?_⟩
    try dsimp only [cx_K]
    walk_at "rd"
    refine ⟨a, ns, rfl, hS, hlen, fun H1 pen s1 n1 pn => ?_⟩
    have hS1 := s1.seq hS
    walk_at "rd"
    rw [List.length_map]
    generalize hN : (if (if (ns.length : Int) < 24 then (ns.length : Int) else 24) > 8 then if (ns.length : Int) < 24 then (ns.length : Int) else 24 else 8) = N
    have hN2 : 0 ≤ N ∧ N ≤ 24 := by
      rw [← hN]
      split <;> split <;> omega
    refine ⟨by omega, by omega, ?_⟩
    refine forW (walk_range (lo := 0) (n := N.toNat)) (fun i σ H' => ∃ y2 y3 y4 y5 y6 y7 y8 y9, σ = [some (.ref a), some (.ref pen), y2, y3, y4, y5, y6, y7, y8, y9] ∧ PenAt H' pen (1000 - 5 * i))
      ⟨_, _, _, _, _, _, _, _, rfl, pn.mono (by omega)⟩ (fun _ _ _ _ _ => trivial) ?_ ?_
    · rintro i x σ' _ H2 hi ⟨y2, y3, y4, y5, y6, y7, y8, y9, rfl, pn⟩ ⟨rfl, rfl⟩
      have hi2 : i < 24 := by omega
      walk_at "rd"
      refine ⟨by walk_at "sz", fun c1 n1 => ?_⟩
      walk_at "rd"
      refine ⟨pen, 2, 1000 - 5 * i - 1, rfl, by decide, by decide, (pn.up (same_new n1)).mono (by omega), fun r1 H3 a1 b1 pn1 kp1 => ?_⟩
      have e1 : H3 c1 = some (.tup (RD.map V.str)) := kp1 _ _ upd_same (pn.ne n1)
      obtain ⟨r, hr1, at1⟩ := atI_map (xs := RD) (g := V.str) a1 b1
      refine r_ixT (xs := RD.map V.str) (SqT.of e1) at1 ?_
      walk_at "rd"
      refine ⟨by walk_at "sz", fun c2 n2 => ?_⟩
      walk_at "rd"
      refine ⟨pen, 7, 1000 - 5 * i - 2, rfl, by decide, by decide, (pn1.up (same_new n2)).mono (by omega), fun r2 H4 a2 b2 pn2 kp2 => ?_⟩
      have e2 : H4 c2 = some (.tup (WR.map V.str)) := kp2 _ _ upd_same (pn1.ne n2)
      obtain ⟨w, hw1, at2⟩ := atI_map (xs := WR) (g := V.str) a2 b2
      refine r_ixT (xs := WR.map V.str) (SqT.of e2) at2 ?_
      walk_at "rd"
      refine ⟨by walk_at "sz", fun c3 n3 => ?_⟩
      walk_at "rd"
      refine ⟨pen, 4, 1000 - 5 * i - 3, rfl, by decide, by decide, (pn2.up (same_new n3)).mono (by omega), fun r3 H5 a3 b3 pn3 kp3 => ?_⟩
      have e3 : H5 c3 = some (.tup (DV.map V.str)) := kp3 _ _ upd_same (pn2.ne n3)
      obtain ⟨d, hd1, at3⟩ := atI_map (xs := DV) (g := V.str) a3 b3
      refine r_ixT (xs := DV.map V.str) (SqT.of e3) at3 ?_
      clear e1 e2 e3 kp1 kp2 kp3 pn1 pn2
      walk_at "rd"
      refine ite_join (fun v H' => ∃ z, v = .int z ∧ (z = 0 ∨ (z = 1 ∧ d ≠ "raise")) ∧ PenAt H' pen (1000 - 5 * i - 4)) (fun h Q q => ?_) (fun h Q q => ?_) ?_
      · walk_at "rd"
        exact q _ _ ⟨0, rfl, .inl rfl, pn3.mono (by omega)⟩
      · walk_at "rd"
        refine ⟨pen, 2, 1000 - 5 * i - 4, rfl, by decide, by decide, pn3.mono (by omega), fun r4 H6 a4 b4 pn4 kp4 => ?_⟩
        refine q _ _ ⟨r4, rfl, ?_, pn4⟩
        have hd2 := strNe h
        by_cases hz : r4 = 0
        · exact .inl hz
        · exact .inr ⟨by omega, hd2⟩
      rintro v H6 ⟨z, rfl, hz, pn4⟩
      have hle := fun bs => least_eq (bs := bs) hr1 hw1 hd1 hz
      walk_at "rd"
      refine ⟨pen, 3, 1000 - 5 * (i + 1), rfl, by decide, by decide, pn4.mono (by omega), fun r5 H7 a5 b5 pn5 kp5 => ?_⟩
      walk_at "rd"
      generalize decide (V.int r5 = V.int 0) = bs
      refine ⟨by walk_at "sz", fun wd nwd => ?_⟩
      walk_at "rd"
      refine ⟨wd, r, w, d, z, bs, rfl, upd_same, fun H8 s8 => ?_⟩
      have pn8 := (pn5.up (same_new nwd)).up s8
      walk_at "rd"
      intro x dx nx ndx nxd
      refine ⟨x, dx, r, w, d, rfl, hr1, hw1, hd1, upd_same, fun H9 KA kp => ⟨rfl, ?_⟩⟩
      have s9 : Same H8 H9 := fun b o e => kp b o (by rw [upd_ne (ne_of_none e nx), upd_ne (ne_of_none e ndx)]; exact e) (ne_of_none e nx)
      walk_at "rd"
      refine ⟨rfl, rfl, x, r, w, d, z, bs, rfl, KA, fun H10 s10 => ?_⟩
      have pn10 := (pn8.up s9).up s10
      rw [hle bs]
      walk_at "rd"
      refine r_isiO ?_
      walk_at "rd"
      refine r_neO ?_
      walk_at "rd"
      refine r_iteNF rfl ?_
      walk_at "rd"
      refine r_iteBN (fun hb => ?_) (fun hb => ?_)
      · subst hb
        walk_at "rd"
        intro x2 dx2 nx2 ndx2 nxd2
        refine ⟨x2, dx2, r, w, d, rfl, hr1, hw1, hd1, upd_same, fun H11 KA2 kp2 => ⟨rfl, ?_⟩⟩
        have s11 : Same H10 H11 := fun b o e => kp2 b o (by rw [upd_ne (ne_of_none e nx2), upd_ne (ne_of_none e ndx2)]; exact e) (ne_of_none e nx2)
        walk_at "rd"
        refine ⟨x2, r, w, d, z, false, rfl, KA2, fun H12 s12 => ?_⟩
        rw [hle false]
        walk_at "rd"
        refine r_neO ?_
        walk_at "rd"
        exact ⟨_, _, _, _, _, _, _, _, rfl, (pn10.up s11).up s12⟩
      · walk_at "rd"
        exact ⟨_, _, _, _, _, _, _, _, rfl, pn10⟩
    · rintro σ' H2 ⟨y2, y3, y4, y5, y6, y7, y8, y9, rfl, pn⟩
      walk_at "rd"
      exact q _
end
end K29


namespace K29
open PySem L2 KB
theorem sqK {K : PySem.W.Frag} {a : Addr} {dd : Option Addr} {its : Array Value} {n : Nat} {sl : Array (Option Value)} {xs : List V} (h : K.lookup a = some ⟨.type "tuple", dd, .seq its n, sl⟩) (hz : its.size ≤ 100) (r : Vals xs its.toList) : ∀ H, SqT K H a xs :=
  fun _ => .inr ⟨_, its, n, h, rfl, rfl, Nat.le_trans hz (by decide), r⟩
theorem all_mk {l : PySem.W.OpenLaw} {w : World} {K : PySem.W.Frag} {h : Heap} {mg : Str → Option Value} {fa C_Kind t_Kind_READINGS t_Kind_WRITINGS t_Kind_DEVICES f_Kind___init__ f_least_moves D_least_moves f_moves_back f__law_pen f__law_draw f__law_state_behind f__law_step f__law_deeds f__law_least f_law : Addr} (X : K.In h) (G : h.Ns mainGlobals mg) (hfa : mg "law" = some (.ref fa))
    {dd_t_Kind_READINGS : Option Addr} {n_t_Kind_READINGS : Nat} {sl_t_Kind_READINGS : Array (Option Value)}
    {k_t_Kind_READINGS_0 k_t_Kind_READINGS_1 : Tok}
    {dd_t_Kind_WRITINGS : Option Addr} {n_t_Kind_WRITINGS : Nat} {sl_t_Kind_WRITINGS : Array (Option Value)}
    {k_t_Kind_WRITINGS_0 k_t_Kind_WRITINGS_1 k_t_Kind_WRITINGS_2 k_t_Kind_WRITINGS_3 k_t_Kind_WRITINGS_4 k_t_Kind_WRITINGS_5 k_t_Kind_WRITINGS_6 : Tok}
    {dd_t_Kind_DEVICES : Option Addr} {n_t_Kind_DEVICES : Nat} {sl_t_Kind_DEVICES : Array (Option Value)}
    {k_t_Kind_DEVICES_0 k_t_Kind_DEVICES_1 k_t_Kind_DEVICES_2 k_t_Kind_DEVICES_3 : Tok}
    {od_Kind___init__ an_Kind___init__ : Option Addr} {sl_Kind___init__ : Array (Option Value)} {oc_Kind___init__ kV_Kind___init__ dc_Kind___init__ pm_Kind___init__ cd_Kind___init__ ct_Kind___init__ : Value}
    {od_least_moves an_least_moves : Option Addr} {sl_least_moves : Array (Option Value)} {oc_least_moves dc_least_moves pm_least_moves cd_least_moves ct_least_moves : Value}
    {od_moves_back an_moves_back : Option Addr} {sl_moves_back : Array (Option Value)} {oc_moves_back kV_moves_back dc_moves_back pm_moves_back cd_moves_back ct_moves_back : Value}
    {od__law_pen an__law_pen : Option Addr} {sl__law_pen : Array (Option Value)} {oc__law_pen kV__law_pen dc__law_pen pm__law_pen cd__law_pen ct__law_pen : Value}
    {od__law_draw an__law_draw : Option Addr} {sl__law_draw : Array (Option Value)} {oc__law_draw kV__law_draw dc__law_draw pm__law_draw cd__law_draw ct__law_draw : Value}
    {od__law_state_behind an__law_state_behind : Option Addr} {sl__law_state_behind : Array (Option Value)} {oc__law_state_behind kV__law_state_behind dc__law_state_behind pm__law_state_behind cd__law_state_behind ct__law_state_behind : Value}
    {od__law_step an__law_step : Option Addr} {sl__law_step : Array (Option Value)} {oc__law_step kV__law_step dc__law_step pm__law_step cd__law_step ct__law_step : Value}
    {od__law_deeds an__law_deeds : Option Addr} {sl__law_deeds : Array (Option Value)} {oc__law_deeds kV__law_deeds dc__law_deeds pm__law_deeds cd__law_deeds ct__law_deeds : Value}
    {od__law_least an__law_least : Option Addr} {sl__law_least : Array (Option Value)} {oc__law_least kV__law_least dc__law_least pm__law_least cd__law_least ct__law_least : Value}
    {od_law an_law : Option Addr} {sl_law : Array (Option Value)} {oc_law kV_law dc_law pm_law cd_law ct_law : Value}
    (aC_Kind : PySem.W.nsIn K mainGlobals "Kind" = some (some (.ref C_Kind)))
    (pg_Kind : PySem.W.plainGet K C_Kind Str.empty = true)
    (hd_Kind : PySem.W.hasDictIn K C_Kind = true)
    (po_Kind : PySem.W.plainOver K C_Kind = true)
    (sa_Kind : PySem.W.findIn K (.ref C_Kind) "__setattr__" = some (some (.builtin "object.__setattr__")))
    (mk_Kind : PySem.W.makesIn K C_Kind = true)
    (kc_Kind : PySem.W.keepIn K (.ref C_Kind) = true)
    (n_Kind_reading : PySem.W.findIn K (.ref C_Kind) "reading" = some none)
    (n_Kind_writing : PySem.W.findIn K (.ref C_Kind) "writing" = some none)
    (n_Kind_device : PySem.W.findIn K (.ref C_Kind) "device" = some none)
    (n_Kind_states : PySem.W.findIn K (.ref C_Kind) "states" = some none)
    (rd_Kind : PySem.W.readsIn K C_Kind (.type "type") = true)
    (ga_Kind : PySem.W.specialIn K (.ref C_Kind) "__getattribute__" = some (some (.builtin "type.__getattribute__")))
    (fc_t_Kind_READINGS : PySem.W.findCls K (.ref C_Kind) (.type "type") "READINGS" = some (.val (.ref t_Kind_READINGS)))
    (lk_t_Kind_READINGS : K.lookup t_Kind_READINGS = some ⟨.type "tuple", dd_t_Kind_READINGS, .seq #[.str "keep" k_t_Kind_READINGS_0, .str "take" k_t_Kind_READINGS_1] n_t_Kind_READINGS, sl_t_Kind_READINGS⟩)
    (fc_t_Kind_WRITINGS : PySem.W.findCls K (.ref C_Kind) (.type "type") "WRITINGS" = some (.val (.ref t_Kind_WRITINGS)))
    (lk_t_Kind_WRITINGS : K.lookup t_Kind_WRITINGS = some ⟨.type "tuple", dd_t_Kind_WRITINGS, .seq #[.str "store" k_t_Kind_WRITINGS_0, .str "clear1" k_t_Kind_WRITINGS_1, .str "clear0" k_t_Kind_WRITINGS_2, .str "set1" k_t_Kind_WRITINGS_3, .str "flip1" k_t_Kind_WRITINGS_4, .str "once" k_t_Kind_WRITINGS_5, .str "none" k_t_Kind_WRITINGS_6] n_t_Kind_WRITINGS, sl_t_Kind_WRITINGS⟩)
    (fc_t_Kind_DEVICES : PySem.W.findCls K (.ref C_Kind) (.type "type") "DEVICES" = some (.val (.ref t_Kind_DEVICES)))
    (lk_t_Kind_DEVICES : K.lookup t_Kind_DEVICES = some ⟨.type "tuple", dd_t_Kind_DEVICES, .seq #[.str "still" k_t_Kind_DEVICES_0, .str "raise" k_t_Kind_DEVICES_1, .str "end" k_t_Kind_DEVICES_2, .str "drift" k_t_Kind_DEVICES_3] n_t_Kind_DEVICES, sl_t_Kind_DEVICES⟩)
    (a_Kind___init__ : PySem.W.findIn K (.ref C_Kind) "__init__" = some (some (.ref f_Kind___init__)))
    (i_Kind___init__ : PySem.W.isFn K (.ref f_Kind___init__) = true)
    (l_Kind___init__ : K.lookup f_Kind___init__ = some ⟨oc_Kind___init__, od_Kind___init__, .func (PySem.W.fnOf "__init__" "Kind.__init__" (defArgs s_Kind___init__) (defBody s_Kind___init__) (defScope s_Kind___init__) .none kV_Kind___init__ dc_Kind___init__ pm_Kind___init__ an_Kind___init__ cd_Kind___init__ ct_Kind___init__), sl_Kind___init__⟩)
    (c_Kind___init__ : PySem.W.codeIn K cd_Kind___init__ "Kind.__init__" = true)
    (k_Kind___init__ : PySem.W.keepIn K (.ref f_Kind___init__) = true)
    (a_least_moves : PySem.W.nsIn K mainGlobals "least_moves" = some (some (.ref f_least_moves)))
    (l_least_moves : K.lookup f_least_moves = some ⟨oc_least_moves, od_least_moves, .func (PySem.W.fnOf "least_moves" "least_moves" (defArgs s_least_moves) (defBody s_least_moves) (defScope s_least_moves) .none (.ref D_least_moves) dc_least_moves pm_least_moves an_least_moves cd_least_moves ct_least_moves), sl_least_moves⟩)
    (kw_least_moves_beside : PySem.W.nsIn K D_least_moves "beside" = some (some (.bool false)))
    (c_least_moves : PySem.W.codeIn K cd_least_moves "least_moves" = true)
    (k_least_moves : PySem.W.keepIn K (.ref f_least_moves) = true)
    (a_moves_back : PySem.W.nsIn K mainGlobals "moves_back" = some (some (.ref f_moves_back)))
    (l_moves_back : K.lookup f_moves_back = some ⟨oc_moves_back, od_moves_back, .func (PySem.W.fnOf "moves_back" "moves_back" (defArgs s_moves_back) (defBody s_moves_back) (defScope s_moves_back) .none kV_moves_back dc_moves_back pm_moves_back an_moves_back cd_moves_back ct_moves_back), sl_moves_back⟩)
    (c_moves_back : PySem.W.codeIn K cd_moves_back "moves_back" = true)
    (k_moves_back : PySem.W.keepIn K (.ref f_moves_back) = true)
    (a__law_pen : PySem.W.nsIn K mainGlobals "_law_pen" = some (some (.ref f__law_pen)))
    (l__law_pen : K.lookup f__law_pen = some ⟨oc__law_pen, od__law_pen, .func (PySem.W.fnOf "_law_pen" "_law_pen" (defArgs s__law_pen) (defBody s__law_pen) (defScope s__law_pen) .none kV__law_pen dc__law_pen pm__law_pen an__law_pen cd__law_pen ct__law_pen), sl__law_pen⟩)
    (c__law_pen : PySem.W.codeIn K cd__law_pen "_law_pen" = true)
    (k__law_pen : PySem.W.keepIn K (.ref f__law_pen) = true)
    (a__law_draw : PySem.W.nsIn K mainGlobals "_law_draw" = some (some (.ref f__law_draw)))
    (l__law_draw : K.lookup f__law_draw = some ⟨oc__law_draw, od__law_draw, .func (PySem.W.fnOf "_law_draw" "_law_draw" (defArgs s__law_draw) (defBody s__law_draw) (defScope s__law_draw) .none kV__law_draw dc__law_draw pm__law_draw an__law_draw cd__law_draw ct__law_draw), sl__law_draw⟩)
    (c__law_draw : PySem.W.codeIn K cd__law_draw "_law_draw" = true)
    (k__law_draw : PySem.W.keepIn K (.ref f__law_draw) = true)
    (a__law_state_behind : PySem.W.nsIn K mainGlobals "_law_state_behind" = some (some (.ref f__law_state_behind)))
    (l__law_state_behind : K.lookup f__law_state_behind = some ⟨oc__law_state_behind, od__law_state_behind, .func (PySem.W.fnOf "_law_state_behind" "_law_state_behind" (defArgs s__law_state_behind) (defBody s__law_state_behind) (defScope s__law_state_behind) .none kV__law_state_behind dc__law_state_behind pm__law_state_behind an__law_state_behind cd__law_state_behind ct__law_state_behind), sl__law_state_behind⟩)
    (c__law_state_behind : PySem.W.codeIn K cd__law_state_behind "_law_state_behind" = true)
    (k__law_state_behind : PySem.W.keepIn K (.ref f__law_state_behind) = true)
    (a__law_step : PySem.W.nsIn K mainGlobals "_law_step" = some (some (.ref f__law_step)))
    (l__law_step : K.lookup f__law_step = some ⟨oc__law_step, od__law_step, .func (PySem.W.fnOf "_law_step" "_law_step" (defArgs s__law_step) (defBody s__law_step) (defScope s__law_step) .none kV__law_step dc__law_step pm__law_step an__law_step cd__law_step ct__law_step), sl__law_step⟩)
    (c__law_step : PySem.W.codeIn K cd__law_step "_law_step" = true)
    (k__law_step : PySem.W.keepIn K (.ref f__law_step) = true)
    (a__law_deeds : PySem.W.nsIn K mainGlobals "_law_deeds" = some (some (.ref f__law_deeds)))
    (l__law_deeds : K.lookup f__law_deeds = some ⟨oc__law_deeds, od__law_deeds, .func (PySem.W.fnOf "_law_deeds" "_law_deeds" (defArgs s__law_deeds) (defBody s__law_deeds) (defScope s__law_deeds) .none kV__law_deeds dc__law_deeds pm__law_deeds an__law_deeds cd__law_deeds ct__law_deeds), sl__law_deeds⟩)
    (c__law_deeds : PySem.W.codeIn K cd__law_deeds "_law_deeds" = true)
    (k__law_deeds : PySem.W.keepIn K (.ref f__law_deeds) = true)
    (a__law_least : PySem.W.nsIn K mainGlobals "_law_least" = some (some (.ref f__law_least)))
    (l__law_least : K.lookup f__law_least = some ⟨oc__law_least, od__law_least, .func (PySem.W.fnOf "_law_least" "_law_least" (defArgs s__law_least) (defBody s__law_least) (defScope s__law_least) .none kV__law_least dc__law_least pm__law_least an__law_least cd__law_least ct__law_least), sl__law_least⟩)
    (c__law_least : PySem.W.codeIn K cd__law_least "_law_least" = true)
    (k__law_least : PySem.W.keepIn K (.ref f__law_least) = true)
    (a_law : PySem.W.nsIn K mainGlobals "law" = some (some (.ref f_law)))
    (l_law : K.lookup f_law = some ⟨oc_law, od_law, .func (PySem.W.fnOf "law" "law" (defArgs s_law) (defBody s_law) (defScope s_law) .none kV_law dc_law pm_law an_law cd_law ct_law), sl_law⟩)
    (c_law : PySem.W.codeIn K cd_law "law" = true)
    (k_law : PySem.W.keepIn K (.ref f_law) = true)
    (z_int : PySem.W.nsIn K mainGlobals "int" = some none)
    (z_abs : PySem.W.nsIn K mainGlobals "abs" = some none)
    (z_len : PySem.W.nsIn K mainGlobals "len" = some none)
    (z_list : PySem.W.nsIn K mainGlobals "list" = some none)
    (z_max : PySem.W.nsIn K mainGlobals "max" = some none)
    (z_min : PySem.W.nsIn K mainGlobals "min" = some none)
    (z_range : PySem.W.nsIn K mainGlobals "range" = some none)
    (z_isinstance : PySem.W.nsIn K mainGlobals "isinstance" = some none)
    (z_bool : PySem.W.nsIn K mainGlobals "bool" = some none)
    : ∃ fd : FuncData, (∀ (s : Shared) (v : Value), BindsTo s fd ⟨[v], []⟩ [("_law_script", v)]) ∧ ∀ base : Heap, K.In base → base.Ns mainGlobals mg → FnOk l.prog w K mg base CX0 4 fa fd ["_law_script"] (spLaw K) := by
  have e := hfa.symm.trans (PySem.W.mg_of X G a_law)
  cases e
  have F_Kind___init__ := fun_mk (st := s_Kind___init__) l_Kind___init__ c_Kind___init__ k_Kind___init__
  have b_Kind___init__ := F_Kind___init__.binds (ps := ["self", "reading", "writing", "device"]) fun _ _ _ _ _ _ us hl => match us, hl with | [_, _, _, _], _ => rfl
  have F_least_moves := fun_mk (st := s_least_moves) l_least_moves c_least_moves k_least_moves
  have F_moves_back := fun_mk (st := s_moves_back) l_moves_back c_moves_back k_moves_back
  have b_moves_back := F_moves_back.binds (ps := ["kind", "reset"]) fun _ _ _ _ _ _ us hl => match us, hl with | [_, _], _ => rfl
  have F__law_pen := fun_mk (st := s__law_pen) l__law_pen c__law_pen k__law_pen
  have b__law_pen := F__law_pen.binds (ps := ["_law_script"]) fun _ _ _ _ _ _ us hl => match us, hl with | [_], _ => rfl
  have F__law_draw := fun_mk (st := s__law_draw) l__law_draw c__law_draw k__law_draw
  have b__law_draw := F__law_draw.binds (ps := ["_law_pen_here", "_law_many"]) fun _ _ _ _ _ _ us hl => match us, hl with | [_, _], _ => rfl
  have F__law_state_behind := fun_mk (st := s__law_state_behind) l__law_state_behind c__law_state_behind k__law_state_behind
  have b__law_state_behind := F__law_state_behind.binds (ps := ["_law_written", "_law_state", "_law_bit"]) fun _ _ _ _ _ _ us hl => match us, hl with | [_, _, _], _ => rfl
  have F__law_step := fun_mk (st := s__law_step) l__law_step c__law_step k__law_step
  have b__law_step := F__law_step.binds (ps := ["_law_words", "_law_is_beside", "_law_state"]) fun _ _ _ _ _ _ us hl => match us, hl with | [_, _, _], _ => rfl
  have F__law_deeds := fun_mk (st := s__law_deeds) l__law_deeds c__law_deeds k__law_deeds
  have b__law_deeds := F__law_deeds.binds (ps := ["_law_words", "_law_state"]) fun _ _ _ _ _ _ us hl => match us, hl with | [_, _], _ => rfl
  have F__law_least := fun_mk (st := s__law_least) l__law_least c__law_least k__law_least
  have b__law_least := F__law_least.binds (ps := ["_law_words", "_law_first", "_law_is_beside"]) fun _ _ _ _ _ _ us hl => match us, hl with | [_, _, _], _ => rfl
  have F_law := fun_mk (st := s_law) l_law c_law k_law
  have b_law := F_law.binds (ps := ["_law_script"]) fun _ _ _ _ _ _ us hl => match us, hl with | [_], _ => rfl

  have T : TxtK K mg C_Kind := {
    z_int := PySem.W.mg_none_of X G z_int, z_abs := PySem.W.mg_none_of X G z_abs, z_len := PySem.W.mg_none_of X G z_len, z_list := PySem.W.mg_none_of X G z_list, z_max := PySem.W.mg_none_of X G z_max
    z_min := PySem.W.mg_none_of X G z_min, z_range := PySem.W.mg_none_of X G z_range, z_isinstance := PySem.W.mg_none_of X G z_isinstance, z_bool := PySem.W.mg_none_of X G z_bool
    cl := ⟨pg_Kind, hd_Kind, po_Kind, sa_Kind⟩, n_reading := n_Kind_reading, n_writing := n_Kind_writing, n_device := n_Kind_device, n_states := n_Kind_states, mg_Kind := PySem.W.mg_of X G aC_Kind
    con := ⟨.type "type", t_Kind_READINGS, t_Kind_WRITINGS, t_Kind_DEVICES, _, _, _, ⟨rd_Kind, ga_Kind⟩, ⟨fc_t_Kind_READINGS, rfl⟩, ⟨fc_t_Kind_WRITINGS, rfl⟩, ⟨fc_t_Kind_DEVICES, rfl⟩,
      sqK lk_t_Kind_READINGS (by simp) (.cons ⟨_, rfl⟩ (.cons ⟨_, rfl⟩ .nil)),
      sqK lk_t_Kind_WRITINGS (by simp) (.cons ⟨_, rfl⟩ (.cons ⟨_, rfl⟩ (.cons ⟨_, rfl⟩ (.cons ⟨_, rfl⟩ (.cons ⟨_, rfl⟩ (.cons ⟨_, rfl⟩ (.cons ⟨_, rfl⟩ .nil))))))),
      sqK lk_t_Kind_DEVICES (by simp) (.cons ⟨_, rfl⟩ (.cons ⟨_, rfl⟩ (.cons ⟨_, rfl⟩ (.cons ⟨_, rfl⟩ .nil))))⟩ }
  refine ⟨PySem.W.fnOf "law" "law" (defArgs s_law) (defBody s_law) (defScope s_law) .none kV_law dc_law pm_law an_law cd_law ct_law, fun s v => .of_eq rfl, fun base _ _ => ?_⟩
  have FD : FunD K "least_moves" "least_moves" (defArgs s_least_moves) (defBody s_least_moves) (defScope s_least_moves) [] [("beside", .bl false)] f_least_moves _ := ⟨⟨_, _, _, _, _, _, _, _, _, _, rfl, l_least_moves, c_least_moves, .inl ⟨rfl, rfl⟩, .inr ⟨D_least_moves, rfl, fun q hq => by
    obtain rfl : q = (("beside" : Str), V.bl false) := by simpa using hq
    exact ⟨_, kw_least_moves_beside, rfl⟩⟩⟩, k_least_moves⟩
  obtain ⟨ds, vd, bd⟩ := FD.binds0 (ps := ["kind", "reset", "beside"]) 2 (by simp) rfl fun D doc pm an cdv ct us ks hu hk => match us, ks, hu, hk with
    | [_, _], [_], _, _ => ⟨_, _, _, _, _, _, rfl, rfl, rfl⟩
  have ck : Callee l.prog w K mg base CX0 1 "moves_back" ["kind", "reset"] (spBack C_Kind) := ⟨⟨_, _, ok_back F_moves_back T, PySem.W.mg_of X G a_moves_back, k_moves_back, b_moves_back⟩⟩
  have okl : FnOk l.prog w K mg base CX0 2 f_least_moves _ ["kind", "reset", "beside"] (spLeast C_Kind) := ok_least F_least_moves T ck
  have dl : CalleeD l.prog w K mg base CX0 2 "least_moves" ["kind", "reset", "beside"] (spLeast C_Kind) [.bl false] := ⟨⟨_, _, ds, okl, PySem.W.mg_of X G a_least_moves, k_least_moves, bd, vd⟩⟩
  have kl : CalleeKw l.prog w K mg base CX0 2 "least_moves" ["kind", "reset", "beside"] (spLeast C_Kind) 2 ["beside"] (fun vs zs => vs ++ zs) := ⟨⟨_, _, fun us ws => us ++ ws, okl, PySem.W.mg_of X G a_least_moves, k_least_moves,
    ⟨fun s us ws _ l1 l2 => .of_eq (match us, ws, l1, l2 with | [_, _], [_], _, _ => rfl), fun r1 r2 => r1.append r2⟩⟩⟩
  have ci : CalleeI l.prog w K mg base CX0 1 C_Kind "Kind" ["self", "reading", "writing", "device"] (spKind C_Kind) := ⟨⟨_, _, ok_kind F_Kind___init__ T, ⟨mk_Kind, a_Kind___init__, i_Kind___init__, kc_Kind⟩, T.mg_Kind, b_Kind___init__⟩⟩
  have cs : Callee l.prog w K mg base CX0 1 "_law_state_behind" ["_law_written", "_law_state", "_law_bit"] spSB := ⟨⟨_, _, ok_sb F__law_state_behind T.toTxt, PySem.W.mg_of X G a__law_state_behind, k__law_state_behind, b__law_state_behind⟩⟩
  have ct : Callee l.prog w K mg base CX0 2 "_law_step" ["_law_words", "_law_is_beside", "_law_state"] spStep := ⟨⟨_, _, ok_step F__law_step T.toTxt cs, PySem.W.mg_of X G a__law_step, k__law_step, b__law_step⟩⟩
  have ce : Callee l.prog w K mg base CX0 1 "_law_deeds" ["_law_words", "_law_state"] spDeeds := ⟨⟨_, _, ok_deeds F__law_deeds T.toTxt, PySem.W.mg_of X G a__law_deeds, k__law_deeds, b__law_deeds⟩⟩
  have cL : Callee l.prog w K mg base CX0 3 "_law_least" ["_law_words", "_law_first", "_law_is_beside"] spSearch := ⟨⟨_, _, ok_search F__law_least T.toTxt ct ce, PySem.W.mg_of X G a__law_least, k__law_least, b__law_least⟩⟩
  have cd : Callee l.prog w K mg base CX0 1 "_law_draw" ["_law_pen_here", "_law_many"] spDraw := ⟨⟨_, _, ok_draw F__law_draw T.toTxt, PySem.W.mg_of X G a__law_draw, k__law_draw, b__law_draw⟩⟩
  have cp : Callee l.prog w K mg base CX0 1 "_law_pen" ["_law_script"] (spPen K) := ⟨⟨_, _, ok_pen F__law_pen T.toTxt, PySem.W.mg_of X G a__law_pen, k__law_pen, b__law_pen⟩⟩
  exact ok_law F_law T kl dl ci cL cd cp
end K29
open PySem PySem.W PyProof.Rows
set_option maxRecDepth 100000 in
set_option maxHeartbeats 0 in
theorem PySem.Challenge.cw_keptbits_k29_least_moves_holds : PySem.Challenge.rw_keptbits_k29_least_moves.Holds := by
  w_on; o_law; k_head; (case hw => w_witness2)
  k_fill
  refine L2.walk_of (l := PySem.Challenge.rw_keptbits_k29_least_moves) (n := 63) (k := 4) (x := "_law_script") (CX := fun _ => L2.CX0) (sp := fun w => K29.spLaw _) rfl (by decide) rfl ⟨rfl, by decide, by decide⟩ (fun w h Y => PySem.W.kIn_of Y) ?F (fun _ _ a ns hl _ hS => ⟨a, ns, rfl, hS, hl, fun _ => rfl⟩) (fun _ _ _ _ _ h => h)
  case F =>
    intro w mg fa h KX G hmg
    refine' K29.all_mk KX G hmg ?aC_Kind ?pg_Kind ?hd_Kind ?po_Kind ?sa_Kind ?mk_Kind ?kc_Kind ?n_Kind_reading ?n_Kind_writing ?n_Kind_device ?n_Kind_states ?rd_Kind ?ga_Kind ?fc_t_Kind_READINGS ?lk_t_Kind_READINGS ?fc_t_Kind_WRITINGS ?lk_t_Kind_WRITINGS ?fc_t_Kind_DEVICES ?lk_t_Kind_DEVICES ?a_Kind___init__ ?i_Kind___init__ ?l_Kind___init__ ?c_Kind___init__ ?k_Kind___init__ ?a_least_moves ?l_least_moves ?kw_least_moves_beside ?c_least_moves ?k_least_moves ?a_moves_back ?l_moves_back ?c_moves_back ?k_moves_back ?a__law_pen ?l__law_pen ?c__law_pen ?k__law_pen ?a__law_draw ?l__law_draw ?c__law_draw ?k__law_draw ?a__law_state_behind ?l__law_state_behind ?c__law_state_behind ?k__law_state_behind ?a__law_step ?l__law_step ?c__law_step ?k__law_step ?a__law_deeds ?l__law_deeds ?c__law_deeds ?k__law_deeds ?a__law_least ?l__law_least ?c__law_least ?k__law_least ?a_law ?l_law ?c_law ?k_law ?z_int ?z_abs ?z_len ?z_list ?z_max ?z_min ?z_range ?z_isinstance ?z_bool
    (case aC_Kind => k_is)
    (case pg_Kind => k_is)
    (case hd_Kind => k_is)
    (case po_Kind => k_is)
    (case sa_Kind => k_is)
    (case mk_Kind => k_is)
    (case kc_Kind => k_is)
    (case n_Kind_reading => k_is)
    (case n_Kind_writing => k_is)
    (case n_Kind_device => k_is)
    (case n_Kind_states => k_is)
    (case rd_Kind => k_is)
    (case ga_Kind => k_is)
    (case fc_t_Kind_READINGS => k_is)
    (case lk_t_Kind_READINGS => k_is)
    (case fc_t_Kind_WRITINGS => k_is)
    (case lk_t_Kind_WRITINGS => k_is)
    (case fc_t_Kind_DEVICES => k_is)
    (case lk_t_Kind_DEVICES => k_is)
    (case a_Kind___init__ => k_is)
    (case i_Kind___init__ => k_is)
    (case l_Kind___init__ => k_is)
    (case c_Kind___init__ => k_is)
    (case k_Kind___init__ => k_is)
    (case a_least_moves => k_is)
    (case l_least_moves => k_is)
    (case kw_least_moves_beside => k_is)
    (case c_least_moves => k_is)
    (case k_least_moves => k_is)
    (case a_moves_back => k_is)
    (case l_moves_back => k_is)
    (case c_moves_back => k_is)
    (case k_moves_back => k_is)
    (case a__law_pen => k_is)
    (case l__law_pen => k_is)
    (case c__law_pen => k_is)
    (case k__law_pen => k_is)
    (case a__law_draw => k_is)
    (case l__law_draw => k_is)
    (case c__law_draw => k_is)
    (case k__law_draw => k_is)
    (case a__law_state_behind => k_is)
    (case l__law_state_behind => k_is)
    (case c__law_state_behind => k_is)
    (case k__law_state_behind => k_is)
    (case a__law_step => k_is)
    (case l__law_step => k_is)
    (case c__law_step => k_is)
    (case k__law_step => k_is)
    (case a__law_deeds => k_is)
    (case l__law_deeds => k_is)
    (case c__law_deeds => k_is)
    (case k__law_deeds => k_is)
    (case a__law_least => k_is)
    (case l__law_least => k_is)
    (case c__law_least => k_is)
    (case k__law_least => k_is)
    (case a_law => k_is)
    (case l_law => k_is)
    (case c_law => k_is)
    (case k_law => k_is)
    (case z_int => k_is)
    (case z_abs => k_is)
    (case z_len => k_is)
    (case z_list => k_is)
    (case z_max => k_is)
    (case z_min => k_is)
    (case z_range => k_is)
    (case z_isinstance => k_is)
    (case z_bool => k_is)

