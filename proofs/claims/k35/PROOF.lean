import PyProof.Rows.All
import Wide.All
import OpenK.AllK
import Wide.FinOn
import HandS.ForMost
import HandS.Evl
import HandS.IsInst
import HandS.ClsMeth
import HandS.Flow
import HandS.TupAny
import HandS.Walk
import HandS.Defaults
import HandS.Deep
import PyProof.ReprReads
import HandS.SlotsOwn
import HandS.MakeKw
import HandS.MakeKwOnly
import HandS.FStr
import HandS.More
import KE.KCallOwn
import PyProof.InstNe
import HandS.ExcInit
import HandS.ExcSuper
import HandS.ExcField
import HandS.ExcIs
import KE.KExcIs
import KE.KIsAll
import KE.KSuper
import KE.KExcSuper
import PyProof.EqKinds
import HandS.Dict
import HandS.SetFor
import HandS.Lambda
import HandS.EndBits
import HandS.EndTab
import HandS.WordsExc
import KE.KNestM
import HandS.Wide
import HandS.RaiseMore
import KE.OsRunLaw
import OpenK.KOps
import KE.KOpsOwn
import HandS.Conv
import KE.BitLaws
import PyProof.Ascii
import PyProof.Rows.ReprOcc
import PyProof.FitsInt
import PyProof.ReprNest
import PyProof.ReprRoads
import HandS.Strs
import HandS.SortInts
import HandS.DictComp
import HandS.GenList
import HandS.Zip
import PyProof.Draws
import PyProof.EnumMake
import KE.GoesMore
import PyProof.ReprLen
import HandS.Property
import HandS.SortRule
import HandS.Style
import PyProof.StrOps2
import HandS.Star
import PyProof.ZipIter
import KE.KSortTupG
import HandS.NoneIn
import HandS.Nested
import PySem.Challenge.RW_keptbits_k35_steps_refused
set_option Elab.async false
set_option linter.all false
set_option maxRecDepth 100000
set_option maxHeartbeats 4000000
/-! KB: own helpers over the hand layer: callees bundled, match, readings as steps. -/
namespace KB
open PySem PySem.Spec PyProof.Rows L2

section
variable {X : Cx}
/-! ### callees -/
structure Callee (P : Program) (w : World) (K : PySem.W.Frag) (mg : Str → Option Value) (base : Heap) (CX : CXT) (k : Nat) (x : Str) (ps : List Str) (sp : Sp) : Prop where
  ex : ∃ (f : Addr) (fd : FuncData), FnOk P w K mg base CX k f fd ps sp ∧ mg x = some (.ref f) ∧ PySem.W.keepIn K (.ref f) = true ∧ Binds K fd ps []
structure CalleeM (P : Program) (w : World) (K : PySem.W.Frag) (mg : Str → Option Value) (base : Heap) (CX : CXT) (k : Nat) (C : Addr) (m : Str) (ps : List Str) (sp : Sp) : Prop where
  ex : ∃ (f : Addr) (fd : FuncData), FnOk P w K mg base CX k f fd ps sp ∧ Meth K C m f ∧ Binds K fd ps []
  cl : Cls K C
structure CalleeI (P : Program) (w : World) (K : PySem.W.Frag) (mg : Str → Option Value) (base : Heap) (CX : CXT) (k : Nat) (C : Addr) (x : Str) (ps : List Str) (sp : Sp) : Prop where
  ex : ∃ (f : Addr) (fd : FuncData), FnOk P w K mg base CX k f fd ps sp ∧ Mk K C f ∧ mg x = some (.ref C) ∧ Binds K fd ps []
theorem pe_callC {CX : CXT} {k : Nat} {x : Str} {ps : List Str} {sp : Sp} {E : XK} {e : Expr} {es : List Expr} {p pos : Pos} {t : TA} (c : Callee X.prog X.w X.K X.mg X.base CX k x ps sp) (hr : Room k X.A) (hg : Gl X x) (hx : Passes CX X E) (ha : PA X (e :: es) t)
    (hdb : (x == ("__debug__" : Str)) = false := by decide) (he : starEach (e :: es) X.env = (false, eval e X.env) :: starEach es X.env := by rfl) (hpl : (backTo pos (starEach es X.env)).any (·.1) = false := by rfl) :
    PE X (.Call (.Name x p) (e :: es) [] pos) (tCall sp [] E t) := by
  obtain ⟨f, fd, F, hm, hk, hb⟩ := c.ex
  exact pe_call F hr hg hm hk hb .nil hx ha hdb he hpl
theorem pe_methC0 {pl : Sem Bool} {CX : CXT} {k : Nat} {C : Addr} {m : Str} {ps : List Str} {sp : Sp} {E : XK} {o : Expr} {apos pos : Pos} {ta : TE} (c : CalleeM X.prog X.w X.K X.mg X.base CX k C m ps sp) (ho : PE X o ta) (hr : Room k X.A) (hx : Passes CX X E)
    (ht : eval (.Call (.Attribute o m apos) [] [] pos) X.env = (do
      let ov ← eval o X.env
      standAt apos.atName
      let (f, first) ← holding [ov] (getMethod ov m pl)
      callWith pos f first [] (backToKw pos (keywordEach [] X.env))) := by rfl) :
    PE X (.Call (.Attribute o m apos) [] [] pos) (tMeth C m sp [] E ta tNil) := by
  obtain ⟨f, fd, F, hm, hb⟩ := c.ex
  exact pe_meth0 ho c.cl hm F hr hb .nil hx ht
theorem pe_makeC {CX : CXT} {k : Nat} {C : Addr} {x : Str} {ps : List Str} {sp : Sp} {E : XK} {e : Expr} {es : List Expr} {p pos : Pos} {t : TA} (c : CalleeI X.prog X.w X.K X.mg X.base CX k C x ps sp) (hr : Room (k + 1) X.A) (hg : Gl X x) (hx : Passes CX X E) (ha : PA X (e :: es) t)
    (hdb : (x == ("__debug__" : Str)) = false := by decide) (he : starEach (e :: es) X.env = (false, eval e X.env) :: starEach es X.env := by rfl) (hpl : (backTo pos (starEach es X.env)).any (·.1) = false := by rfl) :
    PE X (.Call (.Name x p) (e :: es) [] pos) (tMake C sp [] E t) := by
  obtain ⟨f, fd, F, M, hm, hb⟩ := c.ex
  exact pe_make M F hr hg hm hb .nil hx ha hdb he hpl

/-- a def with defaults, called without them; called by keywords -/
structure CalleeD (P : Program) (w : World) (K : PySem.W.Frag) (mg : Str → Option Value) (base : Heap) (CX : CXT) (k : Nat) (x : Str) (ps : List Str) (sp : Sp) (dvs : List V) : Prop where
  ex : ∃ (f : Addr) (fd : FuncData) (ds : List Value), FnOk P w K mg base CX k f fd ps sp ∧ mg x = some (.ref f) ∧ PySem.W.keepIn K (.ref f) = true ∧ Binds K fd ps ds ∧ Vals dvs ds
structure CalleeKw (P : Program) (w : World) (K : PySem.W.Frag) (mg : Str → Option Value) (base : Heap) (CX : CXT) (k : Nat) (x : Str) (ps : List Str) (sp : Sp) (n : Nat) (ks : List Str) (gV : List V → List V → List V) : Prop where
  ex : ∃ (f : Addr) (fd : FuncData) (g : List Value → List Value → List Value), FnOk P w K mg base CX k f fd ps sp ∧ mg x = some (.ref f) ∧ PySem.W.keepIn K (.ref f) = true ∧ KBn K fd ps n ks g gV
/-! ### match over written texts -/
structure PM (X : Cx) (cs : List MatchCase) (tm : V → TS) : Prop where
  run : ∀ (pins : List (Addr × Obj)) (s : Shared) (σ : L2.St) (H : Hp) (D : Ends) (v : V) (u : Value) (first : Bool), Inv X pins σ H s → RelV v u → tm v D σ H → wpAny (model X.prog X.w) X.A (matchCases cs X.env u first) (SP X pins D) X.xe s
def tmNil : V → TS := fun _ D σ H => D.nx σ H
def tmStr (x : Str) (t : TS) (tr : V → TS) : V → TS := fun v D σ H => ∃ y, v = .str y ∧ if decide (y = x) = true then t D σ H else tr v D σ H
def tMatch (te : TE) (tm : V → TS) : TS := fun D σ H => te σ H fun x H1 => tm x D σ H1
end

/-! ### readings as steps -/
def ForW (J : It) (g : TG) (tb : TS) (D : Ends) (σ : L2.St) (H : Hp) : Prop := ∃ W : Nat → Nat → L2.St → Hp → Prop, (∃ m, W 0 m σ H) ∧ ∀ i m σ H, W i m σ H →
      (J.stop i H ∧ D.nx σ H) ∨ (J.go i H ∧ ∃ N : L2.St → Hp → Prop, (∀ σ' H', N σ' H' → ∃ m', m' < m ∧ W (i + 1) m' σ' H') ∧ ∀ x H', J.yld i H x H' → g x σ H' fun σ2 H2 => tb { D with nx := N, ct := N, bk := D.nx } σ2 H2)
def LcW (J : It) (g : TG) (tt : TT) (te : TE) (vs : List Nat) (σ : L2.St) (H1 : Hp) (Q : VK) : Prop := ∀ D, H1 D = none → ∃ W : Nat → Nat → Hp → Prop, (∃ m, W 0 m (upd H1 D (.lst []))) ∧ ∀ i m H, W i m H →
  (J.stop i H ∧ Q (.ref D) H) ∨ (J.go i H ∧ ∃ Nx : Hp → Prop, (∀ H', Nx H' → ∃ m', m' < m ∧ W (i + 1) m' H') ∧ ∀ x H', J.yld i H x H' → g x (wipe σ vs) H' fun σ2 H2 => wipe σ2 vs = wipe σ vs ∧ tt σ2 H2 fun b H3 =>
    if b = true then te σ2 H3 fun y H4 => ∃ acc, H4 D = some (.lst acc) ∧ acc.length < sizeLine ∧ Nx (upd H4 D (.lst (acc ++ [y]))) else Nx H3)
theorem forW {J : It} {n : Nat} {G : Hp → Prop} {Y : Nat → Hp → V → Hp → Prop} (wk : Walk J n G Y) {g : TG} {tb : TS} {D : Ends} {σ : L2.St} {H : Hp} (Pv : Nat → L2.St → Hp → Prop) (h0 : Pv 0 σ H) (hG : ∀ i σ H, i ≤ n → Pv i σ H → G H)
    (hs : ∀ i x σ H H', i < n → Pv i σ H → Y i H x H' → g x σ H' fun σ2 H2 => tb { D with nx := Pv (i + 1), ct := Pv (i + 1), bk := D.nx } σ2 H2) (hd : ∀ σ H, Pv n σ H → D.nx σ H) : ForW J g tb D σ H := for_it wk Pv h0 hG hs hd
section
variable {K : PySem.W.Frag} {σ : L2.St} {H : Hp} {D : Ends} {ta tb tc te : TE} {tA tr : TA} {t u : TT} {t1 t2 tu : TS} {x y v : V} {Q : VK} {QT : Bool → Hp → Prop} {QA : List V → Hp → Prop} {R : It → Hp → Prop} {i : Nat} {a p : Addr} {xs ys : List V}
theorem r_var (h : σ[i]? = some (some v)) (q : Q v H) : tVar i σ H Q := ⟨v, h, q⟩
theorem r_c (q : Q v H) : tC v σ H Q := q
theorem r_op {r : R2} (q : ta σ H fun x H1 => tb σ H1 fun y H2 => r x y H2 Q) : tOp r ta tb σ H Q := q
theorem r_un {r : V → Hp → VK → Prop} (q : ta σ H fun x H1 => r x H1 Q) : tUn r ta σ H Q := q
theorem r_I0 {g : Int → Int → V} {m n : Int} (q : Q (g m n) H) : rI0 g (.int m) (.int n) H Q := ⟨m, n, rfl, rfl, q⟩
theorem r_I {C : Int → Int → Prop} {g : Int → Int → V} {m n : Int} (hc : C m n) (q : Q (g m n) H) : rI C g (.int m) (.int n) H Q := ⟨m, n, rfl, rfl, hc, q⟩
theorem r_U {g : Int → V} {m : Int} (q : Q (g m) H) : rU g (.int m) H Q := ⟨m, rfl, q⟩
theorem r_eq (h : scal x y = true) (q : Q (.bl (decide (x = y))) H) : rEq x y H Q := ⟨h, q⟩
theorem r_ne (h : scal x y = true) (q : Q (.bl (!decide (x = y))) H) : rNe x y H Q := ⟨h, q⟩
theorem r_test (q : te σ H fun x H' => ∃ k, x = .bl k ∧ QT k H') : tTest te σ H QT := q
theorem r_B (q : te σ H fun x H' => ∃ k, x = .bl k ∧ QT k H') : tB te σ H QT := q
theorem r_bl {b : Bool} {q : Bool → Prop} (h : q b) : ∃ k, V.bl b = .bl k ∧ q k := ⟨b, rfl, h⟩
theorem r_and (q : t σ H fun c H1 => if c = true then u σ H1 QT else QT false H1) : tAnd t u σ H QT := q
theorem r_or (q : t σ H fun c H1 => if c = true then QT true H1 else u σ H1 QT) : tOr t u σ H QT := q
theorem r_not (q : t σ H fun c H1 => QT (!c) H1) : tNot t σ H QT := q
theorem r_andV (q : ta σ H fun x H1 => ∃ c, x = .bl c ∧ if c = true then tb σ H1 Q else Q (.bl false) H1) : tAndV ta tb σ H Q := q
theorem r_orV (q : ta σ H fun x H1 => ∃ c, x = .bl c ∧ if c = true then Q (.bl true) H1 else tb σ H1 Q) : tOrV ta tb σ H Q := q
theorem r_notV (q : ta σ H fun x H1 => ∃ c, x = .bl c ∧ Q (.bl (!c)) H1) : tNotV ta σ H Q := q
theorem r_if (q : t σ H fun c H1 => if c = true then ta σ H1 Q else tb σ H1 Q) : tIf t ta tb σ H Q := q
theorem r_nil (q : QA [] H) : tNil σ H QA := q
theorem r_cons (q : ta σ H fun x H1 => tr σ H1 fun xs H2 => QA (x :: xs) H2) : tCons ta tr σ H QA := q
theorem r_tup (q : tA σ H fun xs H1 => xs.length ≤ sizeLine ∧ ∀ p, H1 p = none → Q (.ref p) (upd H1 p (.tup xs))) : tTup tA σ H Q := q
theorem r_lst (q : tA σ H fun xs H1 => xs.length ≤ sizeLine ∧ ∀ p, H1 p = none → Q (.ref p) (upd H1 p (.lst xs))) : tLst tA σ H Q := q
theorem r_call {sp : Sp} {E : XK} (q : tA σ H fun vs H1 => sp (vs ++ []) H1 Q E) : tCall sp [] E tA σ H Q := q
theorem r_cb {r : List V → Hp → VK → Prop} (q : tA σ H fun vs H1 => r vs H1 Q) : tCB r tA σ H Q := q
theorem r_ixL {n : Int} (h : SqL K H p xs) (ha : atI xs n = some v) (q : Q v H) : rIxL K (.ref p) (.int n) H Q := ⟨p, xs, n, v, rfl, rfl, h, ha, q⟩
theorem r_ixT {n : Int} (h : SqT K H p xs) (ha : atI xs n = some v) (q : Q v H) : rIxT K (.ref p) (.int n) H Q := ⟨p, xs, n, v, rfl, rfl, h, ha, q⟩
theorem r_ixS {z : Str} {n : Int} {c : Nat} (hz : z.length ≤ sizeLine) (ha : atI z.cps.toList n = some c) (q : Q (.str ⟨#[c]⟩) H) : rIxS (.str z) (.int n) H Q := ⟨z, n, c, rfl, rfl, hz, ha, q⟩
theorem r_setL {n : Int} {j : Nat} {QH : Hp → Prop} (h : H p = some (.lst xs)) (hj : ixN xs.length n = some j) (q : QH (upd H p (.lst (xs.set j v)))) : rSetL (.ref p) (.int n) v H QH := ⟨p, xs, n, j, rfl, rfl, h, hj, q⟩
theorem r_fld {f : Str} (q : ta σ H fun x H1 => ∃ a C dx fs v, x = .ref a ∧ H1 a = some (.ins C dx fs) ∧ Cls K C ∧ NoAttr K C f ∧ fs.lookup f = some v ∧ Q v H1) : tFld K ta f σ H Q := q
theorem r_meth {C : Addr} {m : Str} {sp : Sp} {E : XK} (q : ta σ H fun x H1 => ∃ a dx fs, x = .ref a ∧ H1 a = some (.ins C dx fs) ∧ fs.lookup m = none ∧ tA σ H1 fun vs H2 => sp (x :: (vs ++ [])) H2 Q E) : tMeth C m sp [] E ta tA σ H Q := q
theorem r_cval {C : Addr} {mc : Value} {f : Str} {uu : Value} (h1 : ClX.CRead K C mc) (h2 : ClX.CVal K C mc f v uu) (q : Q v H) : ClX.tCVal K (tC (.ref C)) f σ H Q := ⟨C, mc, v, uu, rfl, h1, h2, q⟩
theorem r_sfld {f : Str} {tv : TE} (q : tv σ H fun y H1 => ta σ H1 fun x H2 => ∃ a C dx fs, x = .ref a ∧ H2 a = some (.ins C dx fs) ∧ Cls K C ∧ NoAttr K C f ∧ fs.length < 1000 ∧ D.nx σ (upd H2 a (.ins C dx (putF f y fs)))) : sFld K ta tv f D σ H := q
theorem r_itup (q : te σ H fun x H1 => ∃ a, x = .ref a ∧ (∃ xs, SqT K H1 a xs) ∧ R (Itt K a) H1) : iTup K te σ H R := q
theorem r_ilist (q : te σ H fun x H1 => ∃ a, x = .ref a ∧ (∃ xs, SqL K H1 a xs) ∧ R (Itl K a) H1) : iList K te σ H R := q
theorem r_istr (q : te σ H fun v H1 => ∃ x, v = .str x ∧ R (Its x) H1) : iStr te σ H R := q
theorem r_m1 {r : V → List V → Hp → VK → Prop} (q : ta σ H fun x H1 => (∃ a, x = .str a) ∧ te σ H1 fun y H2 => r x [y] H2 Q) : tM1 r ta te σ H Q := q
theorem r_m0 {r : V → List V → Hp → VK → Prop} (q : ta σ H fun x H1 => (∃ a, x = .str a) ∧ r x [] H1 Q) : tM0 r ta σ H Q := q
theorem r_isStr {z : Str} {B : Prop} (g : B) : (∃ a, V.str z = .str a) ∧ B := ⟨⟨z, rfl⟩, g⟩
theorem r_exStr {z : Str} {q : Str → Prop} (g : q z) : ∃ x, V.str z = .str x ∧ q x := ⟨z, rfl, g⟩
theorem r_gname {QG : L2.St → Hp → Prop} (q : QG (σ.set i (some v)) H) : gName i v σ H QG := q
theorem r_callD {sp : Sp} {dvs : List V} {E : XK} (q : tA σ H fun vs H1 => sp (vs ++ dvs) H1 Q E) : tCall sp dvs E tA σ H Q := q
theorem r_callN {n m : Nat} {sp : Sp} {gV : List V → List V → List V} {E : XK} {tk : TA} (q : tA σ H fun vs H1 => tk σ H1 fun zs H2 => vs.length = n ∧ zs.length = m ∧ sp (gV vs zs) H2 Q E) : tCallN n m sp gV E tA tk σ H Q := q
theorem r_dget1 (q : ta σ H fun x H1 => ∃ a, x = .ref a ∧ IsD H1 a ∧ tb σ H1 fun y H2 => ∃ o, DGet H2 a y o ∧ Q (o.getD .non) H2) : tDGet1 ta tb σ H Q := q
theorem r_dget (q : ta σ H fun x H1 => tb σ H1 fun y H2 => ∃ a v, x = .ref a ∧ DGet H2 a y (some v) ∧ Q v H2) : tDGet ta tb σ H Q := q
theorem r_disp {trs : List (TE × TE)} (q : ∀ p, H p = none → tPairs trs σ (upd H p (.dK [])) fun ps H2 => H2 p = some (.dK []) ∧ ∃ kvs : List (Key × V), ps = kvs.map (fun kv => (kV kv.1, kv.2)) ∧ kvs.length ≤ 15 ∧ Q (.ref p) (upd H2 p (.dK (mergeK [] kvs)))) : tDisp trs σ H Q := q
theorem r_pairs {trs : List (TE × TE)} {QP : List (V × V) → Hp → Prop} (q : ta σ H fun x H1 => tb σ H1 fun y H2 => tPairs trs σ H2 fun ps H3 => QP ((x, y) :: ps) H3) : tPairs ((ta, tb) :: trs) σ H QP := q
theorem r_pairs0 {QP : List (V × V) → Hp → Prop} (q : QP [] H) : tPairs [] σ H QP := q
theorem r_fldK {C dx : Addr} {fs : List (Str × V)} {f : Str} {G : V → Prop} (hp : H p = some (.ins C dx fs)) (hc : Cls K C) (hn : NoAttr K C f) (hl : fs.lookup f = some v) (q : G v) :
    ∃ a C dx fs v, V.ref p = .ref a ∧ H a = some (.ins C dx fs) ∧ Cls K C ∧ NoAttr K C f ∧ fs.lookup f = some v ∧ G v := ⟨p, C, dx, fs, v, rfl, hp, hc, hn, hl, q⟩
theorem r_gtup {n : Nat} {gs : TGs} {QG : L2.St → Hp → Prop} (h : SqT K H a xs) (hn : xs.length = n) (q : gs xs σ H QG) : gTup K n gs (.ref a) σ H QG := ⟨a, xs, rfl, h, hn, q⟩
theorem r_gcons {g : TG} {gs : TGs} {QG : L2.St → Hp → Prop} (q : g v σ H fun σ' H' => gs xs σ' H' QG) : gCons g gs (v :: xs) σ H QG := ⟨v, xs, rfl, q⟩
theorem r_gnil {QG : L2.St → Hp → Prop} (q : QG σ H) : gNil [] σ H QG := ⟨rfl, q⟩
theorem r_asgG {g : TG} (q : te σ H fun x H1 => g x σ H1 D.nx) : tAsg te g D σ H := q
theorem r_irng2 (q : tA σ H fun vs H1 => ∃ i j : Int, vs = [.int i, .int j] ∧ (-(2 ^ 62) ≤ i ∧ i < 2 ^ 62 ∧ -(2 ^ 62) ≤ j ∧ j < 2 ^ 62) ∧ R (Itr i (j - i).toNat) H1) : iRng2 tA σ H R := q
theorem r_cat {p' : Addr} (h : H p = some (.lst xs)) (h' : H p' = some (.lst ys)) (hl : xs.length + ys.length ≤ sizeLine) (g : ∀ c, H c = none → Q (.ref c) (upd H c (.lst (xs ++ ys)))) : rCat (.ref p) (.ref p') H Q := ⟨p, p', xs, ys, rfl, rfl, h, h', hl, g⟩
theorem r_bm {T : String} {r : V → List V → Hp → VK → Prop} (q : ta σ H fun x H1 => tyV K T x H1 ∧ tA σ H1 fun xs H2 => r x xs H2 Q) : tBM K T r ta tA σ H Q := q
theorem r_tyL {B : Prop} (h : SqL K H p xs) (g : B) : tyV K "list" (.ref p) H ∧ B := ⟨.inl ⟨rfl, xs, h⟩, g⟩
theorem r_append (h : H p = some (.lst xs)) (hl : xs.length < sizeLine) (q : Q .non (upd H p (.lst (xs ++ [v])))) : rAppend (.ref p) [v] H Q := ⟨p, xs, v, rfl, rfl, h, hl, q⟩
theorem r_seq (q : t1 { D with nx := t2 D } σ H) : tSeq t1 t2 D σ H := q
theorem r_next (q : D.nx σ H) : tNext D σ H := q
theorem r_asg (q : te σ H fun x H1 => D.nx (σ.set i (some x)) H1) : tAsg te (gName i) D σ H := q
theorem r_asgS {s : TSet} (q : te σ H fun v H1 => ta σ H1 fun o H2 => tb σ H2 fun i H3 => s o i v H3 fun H4 => D.nx σ H4) : tAsg te (gSub ta tb s) D σ H := q
theorem r_ifS (q : t σ H fun b H1 => if b = true then t1 D σ H1 else t2 D σ H1) : tIfS t t1 t2 D σ H := q
theorem r_dput (q : tc σ H fun v H1 => ta σ H1 fun x H2 => tb σ H2 fun y H3 => ∃ a H4, x = .ref a ∧ DPut H3 a y v H4 ∧ D.nx σ H4) : sDPut ta tb tc D σ H := q
theorem r_ret (q : te σ H D.rt) : tRet te D σ H := q
theorem r_drop (q : te σ H fun _ H1 => D.nx σ H1) : tDrop te D σ H := q
theorem r_par {k j : Nat} (q : tA σ H fun vs H1 => ∃ v w, vs = [v, w] ∧ D.nx ((σ.set k (some v)).set j (some w)) H1) : tPar k j tA D σ H := q
theorem r_match {tm : V → TS} (q : te σ H fun x H1 => tm x D σ H1) : tMatch te tm D σ H := q
theorem r_mstr {x y : Str} {tm : V → TS} (q : if decide (y = x) = true then t1 D σ H else tm (.str y) D σ H) : tmStr x t1 tm (.str y) D σ H := ⟨y, rfl, q⟩
theorem r_mnil (q : D.nx σ H) : tmNil v D σ H := q
theorem r_sl {r : V → Option Int → Option Int → Hp → VK → Prop} {tl th : TO} (q : te σ H fun x H1 => tl σ H1 fun l H2 => th σ H2 fun u H3 => r x l u H3 Q) : tSl r te tl th σ H Q := q
theorem r_nopart {QO : Option Int → Hp → Prop} (q : QO none H) : tNoPart σ H QO := q
theorem r_part {QO : Option Int → Hp → Prop} (q : te σ H fun x H1 => ∃ i, x = .int i ∧ QO (some i) H1) : tPart te σ H QO := q
theorem r_int {m : Int} {q : Int → Prop} (h : q m) : ∃ k, V.int m = .int k ∧ q k := ⟨m, rfl, h⟩
theorem r_int1 {m : Int} {q : Int → Prop} {B : Prop} (h : q m) : (∃ i, [V.int m] = [V.int i] ∧ q i) ∨ B := .inl ⟨m, rfl, h⟩
theorem r_bl1 {b : Bool} {q : Bool → Prop} {A : Prop} (h : q b) : A ∨ ∃ k, [V.bl b] = [V.bl k] ∧ q k := .inr ⟨b, rfl, h⟩
theorem r_ex1 {m : Int} {q : Int → Prop} (h : q m) : ∃ i, [V.int m] = [V.int i] ∧ q i := ⟨m, rfl, h⟩
theorem r_ex2 {m n : Int} {q : Int → Int → Prop} (h : q m n) : ∃ i j, [V.int m, V.int n] = [V.int i, V.int j] ∧ q i j := ⟨m, n, rfl, h⟩
theorem r_lenS {q : List V → Prop} (h : SqL K H p xs) (g : q xs) : ∃ a ys, [V.ref p] = [V.ref a] ∧ (SqL K H a ys ∨ SqT K H a ys) ∧ q ys := ⟨p, xs, rfl, .inl h, g⟩
theorem r_slL {lo hi : Option Int} (h : SqL K H p xs) (q : ∀ c, H c = none → Q (.ref c) (upd H c (.lst (cutV xs lo hi)))) : rSlL K (.ref p) lo hi H Q := ⟨p, xs, rfl, h, q⟩
theorem r_for {wi : TI} {g : TG} (q : wi σ H fun J H1 => ForW J g t1 D σ H1) : tFor wi g t1 D σ H := q
theorem r_lc {wi : TI} {g : TG} {tt : TT} {vs : List Nat} (q : wi σ H fun J H1 => LcW J g tt te vs σ H1 Q) : tLc wi g tt te vs σ H Q := q
theorem r_irng1 (q : tA σ H fun vs H1 => ∃ j : Int, vs = [.int j] ∧ -(2 ^ 62) ≤ j ∧ j < 2 ^ 62 ∧ R (Itr 0 j.toNat) H1) : iRng1 tA σ H R := q
theorem r_iteT {c : Prop} [Decidable c] {A B : Prop} (h : c) (q : A) : if decide c = true then A else B := by rw [if_pos (decide_eq_true h)]; exact q
theorem r_iteF {c : Prop} [Decidable c] {A B : Prop} (h : ¬ c) (q : B) : if decide c = true then A else B := by rw [if_neg (by simpa using h)]; exact q
theorem r_iteNT {c : Prop} [Decidable c] {A B : Prop} (h : ¬ c) (q : A) : if (!decide c) = true then A else B := by rw [if_pos (by simpa using h)]; exact q
theorem r_iteNF {c : Prop} [Decidable c] {A B : Prop} (h : c) (q : B) : if (!decide c) = true then A else B := by rw [if_neg (by simpa using h)]; exact q
theorem r_make {C : Addr} {sp : Sp} {E : XK} (q : tA σ H fun vs H1 => ∀ x dx, H1 x = none → H1 dx = none → dx ≠ x → sp (.ref x :: (vs ++ [])) (upd (upd H1 dx (.own x)) x (.ins C dx [])) (fun v H2 => v = .non ∧ Q (.ref x) H2) E) : tMake C sp [] E tA σ H Q := q
theorem iteNt {A B : Prop} (h : B) : if (!true) = true then A else B := h
theorem iteNf {A B : Prop} (h : A) : if (!false) = true then A else B := h
theorem r_ite2 {c : Prop} [Decidable c] {A B : Prop} (h1 : c → A) (h2 : ¬ c → B) : if decide c = true then A else B := by
  by_cases h : c
  · exact r_iteT h (h1 h)
  · exact r_iteF h (h2 h)
theorem r_iteN2 {c : Prop} [Decidable c] {A B : Prop} (h1 : ¬ c → A) (h2 : c → B) : if (!decide c) = true then A else B := by
  by_cases h : c
  · exact r_iteNF h (h2 h)
  · exact r_iteNT h (h1 h)
end

theorem at_start {t : TS} {D : Ends} {σ σ0 : L2.St} {H : Hp} (h : σ0 = σ) (q : t D σ H) : t D σ0 H := h ▸ q
theorem cx_K {CX : CXT} {P : Program} {w : World} {K : PySem.W.Frag} {mg : Str → Option Value} {base : Heap} {N : List Str} {qual : Str} {sc : Scope} {f : Addr} {cd : Value} {A : Around} {outer : List Env} {s : Shared} {H : Hp} {E : XK} : (cxOf CX P w K mg base N qual sc f cd A outer s H E).nox.K = K := rfl
theorem mul_bd {x y A B : Int} (h0 : 0 ≤ x) (h1 : x ≤ A) (h2 : 0 ≤ y) (h3 : y ≤ B) : 0 ≤ x * y ∧ x * y ≤ A * B := ⟨Int.mul_nonneg h0 h2, Int.mul_le_mul h1 h3 h2 (Int.le_trans h0 h1)⟩
/-! ### flat lists compared -/
theorem dp_ints {K : PySem.W.Frag} {H : Hp} : ∀ ns : List Int, DpAll K H (ns.map V.int) (ns.map PyData.int)
  | [] => .nil
  | n :: r => .cons (.int n) (dp_ints r)
theorem lay_ints : ∀ ns : List Int, PyData.canLayAll0 (ns.map PyData.int) = true
  | [] => rfl
  | n :: r => by
    show (PyData.canLay0 (.int n) && PyData.canLayAll0 (r.map PyData.int)) = true
    rw [lay_ints r]; rfl
theorem depth_ints : ∀ ns : List Int, PyData.depthAll (ns.map PyData.int) = 0
  | [] => rfl
  | n :: r => by
    show max (PyData.depth (.int n)) (PyData.depthAll (r.map PyData.int)) = 0
    rw [depth_ints r]; rfl
theorem shaped_ints (ns : List Int) : SeqAt.shaped (.list (ns.map PyData.int)) = true := by
  show (PyData.canLayAll0 (ns.map PyData.int) && decide (PyData.depthAll (ns.map PyData.int) + 1 ≤ 64)) = true
  rw [lay_ints, depth_ints]; rfl
theorem eqv_ints : ∀ ns ms : List Int, PyData.eqvAll (ns.map PyData.int) (ms.map PyData.int) = decide (ns = ms)
  | [], [] => rfl
  | [], _ :: _ => rfl
  | _ :: _, [] => rfl
  | n :: r, m :: q => by
    show ((n == m) && PyData.eqvAll (r.map PyData.int) (q.map PyData.int)) = decide (n :: r = m :: q)
    rw [eqv_ints r q]
    by_cases h1 : n = m <;> by_cases h2 : r = q <;> simp [h1, h2]
theorem r_eqInts {K : PySem.W.Frag} {H : Hp} {Q : VK} {a b : Addr} {ns ms : List Int} (h : SqL K H a (ns.map V.int)) (h' : SqL K H b (ms.map V.int)) (q : Q (.bl (decide (ns = ms))) H) : rEqD K (.ref a) (.ref b) H Q :=
  ⟨_, _, .lst h (dp_ints ns), .lst h' (dp_ints ms), shaped_ints ns, shaped_ints ms, (show Q (.bl (PyData.eqvAll (ns.map PyData.int) (ms.map PyData.int))) H by rw [eqv_ints]; exact q)⟩
theorem r_neInts {K : PySem.W.Frag} {H : Hp} {Q : VK} {a b : Addr} {ns ms : List Int} (h : SqL K H a (ns.map V.int)) (h' : SqL K H b (ms.map V.int)) (q : Q (.bl (!decide (ns = ms))) H) : rNeD K (.ref a) (.ref b) H Q :=
  ⟨_, _, .lst h (dp_ints ns), .lst h' (dp_ints ms), shaped_ints ns, shaped_ints ms, (show Q (.bl (!PyData.eqvAll (ns.map PyData.int) (ms.map PyData.int))) H by rw [eqv_ints]; exact q)⟩
theorem inV_strs {z : Str} : ∀ zs : List Str, inV (.str z) (zs.map V.str) = decide (z ∈ zs)
  | [] => by simp [inV]
  | y :: r => by
    have ih := inV_strs (z := z) r
    unfold inV at ih ⊢
    rw [List.map_cons, List.any_cons, ih]
    show (decide (y = z) || decide (z ∈ r)) = decide (z ∈ y :: r)
    by_cases e : y = z
    · subst e; simp
    · have e' : ¬ z = y := fun q => e q.symm
      simp [e, e']
theorem inV_ints {z : Int} : ∀ zs : List Int, inV (.int z) (zs.map V.int) = decide (z ∈ zs)
  | [] => by simp [inV]
  | y :: r => by
    have ih := inV_ints (z := z) r
    unfold inV at ih ⊢
    rw [List.map_cons, List.any_cons, ih]
    show ((y == z) || decide (z ∈ r)) = decide (z ∈ y :: r)
    by_cases e : y = z
    · subst e; simp
    · have e' : ¬ z = y := fun q => e q.symm
      simp [e, e']
theorem flat_ints : ∀ zs : List Int, (zs.map V.int).all flatV = true
  | [] => rfl
  | y :: r => by rw [List.map_cons, List.all_cons, flat_ints r]; rfl
theorem r_notInI {K : PySem.W.Frag} {H : Hp} {Q : VK} {p : Addr} {z : Int} {zs : List Int} (h : SqL K H p (zs.map V.int) ∨ SqT K H p (zs.map V.int)) (q : Q (.bl (!decide (z ∈ zs))) H) : rIn K true (.int z) (.ref p) H Q :=
  ⟨p, _, rfl, h, rfl, flat_ints zs, (show Q (.bl (!inV (.int z) (zs.map V.int))) H by rw [inV_ints]; exact q)⟩
theorem flat_strs : ∀ zs : List Str, (zs.map V.str).all flatV = true
  | [] => rfl
  | y :: r => by rw [List.map_cons, List.all_cons, flat_strs r]; rfl
theorem r_notInS {K : PySem.W.Frag} {H : Hp} {Q : VK} {p : Addr} {z : Str} {zs : List Str} (h : SqL K H p (zs.map V.str) ∨ SqT K H p (zs.map V.str)) (q : Q (.bl (!decide (z ∈ zs))) H) : rIn K true (.str z) (.ref p) H Q :=
  ⟨p, _, rfl, h, rfl, flat_strs zs, (show Q (.bl (!inV (.str z) (zs.map V.str))) H by rw [inV_strs]; exact q)⟩
theorem r_inS {K : PySem.W.Frag} {H : Hp} {Q : VK} {p : Addr} {z : Str} {zs : List Str} (h : SqL K H p (zs.map V.str) ∨ SqT K H p (zs.map V.str)) (q : Q (.bl (decide (z ∈ zs))) H) : rIn K false (.str z) (.ref p) H Q :=
  ⟨p, _, rfl, h, rfl, flat_strs zs, (show Q (.bl (inV (.str z) (zs.map V.str))) H by rw [inV_strs]; exact q)⟩
/-! ### heaps -/
theorem upd_new {H : Hp} {a p : Addr} {o u : HO} (hn : H p = none) (h : H a = some u) : upd H p o a = some u := by rw [upd_ne (ne_of_none h hn)]; exact h
theorem same_new {H : Hp} {p : Addr} {o : HO} (hn : H p = none) : Same H (upd H p o) := fun _ _ e => upd_new hn e
theorem Same.up {H H' : Hp} {a : Addr} {o : HO} (s : Same H H') (h : H a = some o) : H' a = some o := s a o h
theorem same_mut {H H' : Hp} {p : Addr} {o : HO} (s : Same H H') (hn : H p = none) : Same H (upd H' p o) := fun _ _ e => by rw [upd_ne (ne_of_none e hn)]; exact s _ _ e
theorem same_seqT {K : PySem.W.Frag} {H H' : Hp} {a : Addr} {xs : List V} (e : Same H H') (h : SqT K H a xs) : SqT K H' a xs := by
  rcases h with (h | ⟨o, h⟩) | h
  · exact .inl (.inl (e _ _ h))
  · exact .inl (.inr ⟨o, e _ _ h⟩)
  · exact .inr h
theorem small1000' {n : Nat} (h : n ≤ 10000) : n < sizeLine := Nat.lt_of_le_of_lt h (by decide)
/-- a comprehension whose test and element are pure -/
theorem lc_all {J : It} {n : Nat} {G : Hp → Prop} {Y : Nat → Hp → V → Hp → Prop} (wk : Walk J n G Y) {tt : TT} {te : TE} {vs : List Nat} {σ : L2.St} {H1 : Hp} {Q : VK} {j : Nat} (yv : Nat → V) (f : Nat → Bool) (v : Nat → V) (hn : n ≤ 10000)
    (hY : ∀ i H x H', i < n → Y i H x H' → H' = H ∧ x = yv i) (hG : ∀ H', Same H1 H' → G H') (hw : ∀ x, wipe ((wipe σ vs).set j (some x)) vs = wipe σ vs)
    (ht : ∀ i H', i < n → Same H1 H' → ∀ QT : Bool → Hp → Prop, (∀ H2, Same H' H2 → QT (f i) H2) → tt ((wipe σ vs).set j (some (yv i))) H' QT)
    (he : ∀ i H', i < n → f i = true → Same H1 H' → ∀ Q : VK, (∀ H2, Same H' H2 → Q (v i) H2) → te ((wipe σ vs).set j (some (yv i))) H' Q)
    (hd : ∀ D H', H1 D = none → Same H1 H' → H' D = some (.lst (Evl.given n f v)) → Q (.ref D) H') :
    LcW J (gName j) tt te vs σ H1 Q := by
  intro D hD
  refine lc_it wk (Qd := fun H => Q (.ref D) H) (fun i H => Same H1 H ∧ H D = some (.lst (Evl.given i f v))) ⟨same_new hD, upd_same⟩ (fun i H _ p => hG H p.1) (fun i x H H' hi p y => ?_) (fun H p => hd D H hD p.1 p.2)
  obtain ⟨rfl, rfl⟩ := hY i H x H' hi y
  refine ⟨hw _, ?_⟩
  refine ht i _ hi p.1 _ fun H2 s2 => ?_
  cases e : f i with
  | true =>
    refine iteT ?_
    refine he i H2 hi e (p.1.trans s2) _ fun H3 s3 => ?_
    refine ⟨_, s3 _ _ (s2 _ _ p.2), small1000' (Nat.le_trans (Evl.given_len i f v) (by omega)), same_mut ((p.1.trans s2).trans s3) hD, ?_⟩
    rw [upd_same, Evl.given_yes e]
  | false =>
    refine iteF ?_
    refine ⟨p.1.trans s2, ?_⟩
    rw [s2 _ _ p.2, Evl.given_no e]
theorem range_get {α : Type} (xs : List α) (d : α) : (List.range xs.length).map (fun i => xs.getD i d) = xs := by
  refine List.ext_getElem (by simp) fun i h1 h2 => ?_
  simp [List.getElem?_eq_getElem h2]
theorem given_filter {α : Type} (xs : List α) (d : α) (p : α → Bool) (g : α → V) : Evl.given xs.length (fun i => p (xs.getD i d)) (fun i => g (xs.getD i d)) = (xs.filter p).map g := by
  unfold Evl.given
  have e := range_get xs d
  have h2 : (List.range xs.length).filter (fun i => p (xs.getD i d)) = (List.range xs.length).filter (p ∘ fun i => xs.getD i d) := rfl
  have h3 : ((List.range xs.length).filter (p ∘ fun i => xs.getD i d)).map (g ∘ fun i => xs.getD i d) = (xs.filter p).map g := by
    rw [← List.map_map, ← List.filter_map, e]
  exact h3
theorem given_map {α : Type} (xs : List α) (d : α) (g : α → V) : Evl.given xs.length (fun _ => true) (fun i => g (xs.getD i d)) = xs.map g := by
  have h := given_filter xs d (fun _ => true) g
  rw [List.filter_eq_self.mpr (fun _ _ => rfl)] at h
  exact h
theorem YAt_get {α : Type} {xs : List α} {d : α} {g : α → V} {i : Nat} {H : Hp} {x : V} {H' : Hp} (hi : i < (xs.map g).length) (y : YAt (xs.map g) i H x H') : H' = H ∧ x = g (xs.getD i d) := by
  obtain ⟨rfl, e⟩ := y
  refine ⟨rfl, ?_⟩
  have hl : i < xs.length := by simpa using hi
  rw [List.getElem?_map, List.getElem?_eq_getElem hl] at e
  have e' : g xs[i] = x := Option.some.inj e
  rw [← e', List.getD_eq_getElem?_getD, List.getElem?_eq_getElem hl]
  rfl
theorem cutV_take (xs : List V) (n : Nat) : cutV xs none (some (n : Int)) = xs.take n := by
  unfold cutV
  rw [HT.sIx_none, HT.sIx_nat]
  simp only [List.drop_zero, Nat.sub_zero]
  by_cases h : n ≤ xs.length
  · rw [Nat.min_eq_left h]
  · rw [Nat.min_eq_right (by omega), List.take_length, List.take_of_length_le (by omega)]
/-- a list of truths made by a comprehension -/
theorem given_bl {α : Type} (xs : List α) (d : α) (p : α → Bool) : Evl.given xs.length (fun _ => true) (fun i => V.bl (p (xs.getD i d))) = (xs.map p).map V.bl := by
  rw [given_map xs d (fun x => V.bl (p x)), List.map_map]
  rfl
def optV : Option Int → V
  | none => .non
  | some i => .int i
theorem strEq {a b : Str} (h : V.str a = V.str b) : a = b := V.str.inj h
theorem strNe {a b : Str} (h : ¬ V.str a = V.str b) : ¬ a = b := fun z => h (by rw [z])
theorem intEq {a b : Int} (h : V.int a = V.int b) : a = b := V.int.inj h
theorem intNe {a b : Int} (h : ¬ V.int a = V.int b) : ¬ a = b := fun z => h (by rw [z])
theorem r_iteS2 {a b : Str} {A B : Prop} (h1 : a = b → A) (h2 : ¬ a = b → B) : if decide (V.str a = V.str b) = true then A else B := r_ite2 (fun h => h1 (strEq h)) (fun h => h2 (strNe h))
theorem r_iteI2 {a b : Int} {A B : Prop} (h1 : a = b → A) (h2 : ¬ a = b → B) : if decide (V.int a = V.int b) = true then A else B := r_ite2 (fun h => h1 (intEq h)) (fun h => h2 (intNe h))
theorem r_iteB {b : Bool} {A B : Prop} (h1 : b = true → A) (h2 : b = false → B) : if b = true then A else B := by
  cases b
  · exact iteF (h2 rfl)
  · exact iteT (h1 rfl)
theorem r_iteBN {b : Bool} {A B : Prop} (h1 : b = false → A) (h2 : b = true → B) : if (!b) = true then A else B := by
  cases b
  · exact iteT (h1 rfl)
  · exact iteF (h2 rfl)
theorem r_isNone {B : Prop} (q : B) : V.non = V.non ∧ B := ⟨rfl, q⟩
theorem putF_le (f : Str) (v : V) : ∀ fs : List (Str × V), (putF f v fs).length ≤ fs.length + 1
  | [] => Nat.le_refl _
  | (g, x) :: r => by
    unfold putF
    split
    · simp
    · have := putF_le f v r
      simp only [List.length_cons]
      omega
theorem putF_lt {f : Str} {v : V} {fs : List (Str × V)} {n m : Nat} (h : fs.length + (n + 1) < m) : (putF f v fs).length + n < m := by
  have := putF_le f v fs
  omega
theorem putF_lt0 {f : Str} {v : V} {fs : List (Str × V)} {m : Nat} (h : fs.length + 1 < m) : (putF f v fs).length < m := putF_lt (n := 0) h
theorem sz_lit {n : Nat} (h : n ≤ 1000) : n ≤ sizeLine := Nat.le_of_lt (small1000 h)
end KB

/-! KG: own layer: defs called while no repr is under way (A.guards = some []); repr of data. -/
namespace KG
open PySem PySem.Spec PyProof.Rows L2 KB
abbrev Free (A : Around) : Prop := A.guards = some []
/-- as FnOk, asked only where no repr is under way -/
structure FnG (P : Program) (w : World) (K : PySem.W.Frag) (mg : Str → Option Value) (base : Heap) (CX : CXT) (k : Nat) (f : Addr) (fd : FuncData) (ps : List Str) (sp : Sp) : Prop where
  size : ∀ xs h Z W, sp xs h Z W → xs.length = ps.length
  go : ∀ (A : Around), Free A → ∀ (out : List Env) (st : Shared) (h : Hp) (ar : Args) (ws : List Value) (xs : List V) (Z : VK) (W : XK), Room k A → Env0 P w K mg base A out st h → BindsTo st fd ar (ps.zip ws) → Vals xs ws → sp xs h Z W →
    codeAny (model P w) A (.call (.ref f) ar) (CR CX out P w h st Z W) st
theorem FnG.of {P : Program} {w : World} {K : PySem.W.Frag} {mg : Str → Option Value} {base : Heap} {CX : CXT} {k : Nat} {f : Addr} {fd : FuncData} {ps : List Str} {sp : Sp} (F : FnOk P w K mg base CX k f fd ps sp) : FnG P w K mg base CX k f fd ps sp :=
  ⟨F.len, fun A _ => F.run A⟩
section
variable {P : Program} {w : World} {K : PySem.W.Frag} {mg : Str → Option Value} {base : Heap} {CX : CXT}
theorem fnG_body {k : Nat} {f : Addr} {nm ql : Str} {pr : Arguments} {bd : List Stmt} {sc : Scope} {v1 v2 v3 v4 cv v5 v6 : Value} {a1 a2 : Option Addr} {slots : Array (Option Value)} {N ps : List Str} {sp : Sp}
    (look : K.lookup f = some ⟨v6, a2, .func (PySem.W.fnOf nm ql pr bd sc v1 v2 v3 v4 a1 cv v5), slots⟩) (code : PySem.W.codeIn K cv ql = true) (S : FnScope N ps sc) (size : ∀ xs h Z W, sp xs h Z W → xs.length = ps.length)
    (body : ∀ (A : Around) (out : List Env) (st : Shared) (h : Hp) (xs : List V) (Z : VK) (W : XK), Room k (A.deeper (envOfC ql sc st.heap.objs.size f cv)) → Free A → sp xs h Z W →
      ∃ t, PSs (cxOf CX P w K mg base N ql sc f cv A out st h W) bd t ∧ t { nx := fun _ h' => Z .non h', rt := Z } (start N xs) h) :
    FnG P w K mg base CX (k + 1) f (PySem.W.fnOf nm ql pr bd sc v1 v2 v3 v4 a1 cv v5) ps sp := by
  refine ⟨size, fun A fr out st h ar ws xs Z W room env bind vals pre => ?_⟩
  have kin : K.In st.heap := env.mod.kin.keeps fun b o q => (env.bs b o q).1
  have nolim : st.heap.NoLimit := env.mod.nolimit.keeps fun b o q => (env.bs b o q).1
  have kinds : ∀ y ∈ ps.zip ws, sc.names.lookup y.1 = some .local ∨ (sc.names.lookup y.1 = some .cell ∧ ((cellsFrom (st.heap.objs.size + 1) sc.names []).lookup y.1).isSome = true) := by
    intro y hy
    obtain ⟨n, v⟩ := y
    cases S.par n (List.of_mem_zip hy).1 with
    | inl z => exact .inl z
    | inr z => exact .inr ⟨z, PySem.W.cellsFrom_some _ _ _ (.inl z)⟩
  refine codeAny_call_function room.depth (kin _ _ look) rfl S.co S.gen rfl (PySem.W.codeRec_of kin code) (bind _ _ _ _ ?_)
  refine wpAny_newFunctionEnv_cells S.kind kinds fun en he st1 inc => ?_
  subst he
  refine ⟨nolim.keeps inc.toInCall.keep, codeAny_func ?_⟩
  obtain ⟨t, drv, rdg⟩ := body A out st h xs Z W (room.deeper _) fr pre
  have inv : Inv (cxOf CX P w K mg base N ql sc f cv A out st h W) [] (start N xs) h st1 := inv_start S room.hd env (size _ _ _ _ pre) vals inc
  refine wpAny_mono (drv.run [] st1 (start N xs) h _ inv rdg) (fun flow st2 res => ?_) fun _ _ z => z
  cases flow with
  | ret u => exact let ⟨v, _, h2, J, rel, z⟩ := res; ⟨v, h2, J.os, J.bare, J.base, J.hok, rel, z⟩
  | next => exact let ⟨_, h2, J, z⟩ := res; ⟨.non, h2, J.os, J.bare, J.base, J.hok, rfl, z⟩
  | brk => exact (let ⟨_, _, _, z⟩ := res; z : False).elim
  | cont => exact (let ⟨_, _, _, z⟩ := res; z : False).elim
/-- the rule for a def of the text, nothing raised out of it -/
theorem fun_okG {x ql : Str} {stm : Stmt} {f : Addr} {fd : FuncData} {N ps : List Str} {k : Nat} {sp : Sp} (F : Fun K x ql stm f fd) (S : FnScope N ps (defScope stm)) (size : ∀ xs h Z W, sp xs h Z W → xs.length = ps.length)
    (body : ∀ (cv : Value) (A : Around) (out : List Env) (st : Shared) (h : Hp) (xs : List V) (Z : VK) (W : XK), Room k (A.deeper (envOfC ql (defScope stm) st.heap.objs.size f cv)) → Free A → sp xs h Z W →
      ∃ t, PSs (cxOf CX0 P w K mg base N ql (defScope stm) f cv A out st h W).nox (defBody stm) t ∧ t { nx := fun _ h' => Z .non h', rt := Z } (start N xs) h) : FnG P w K mg base CX0 (k + 1) f fd ps sp := by
  obtain ⟨c1, c2, c3, c4, c5, c6, cv, c8, c9, rfl, look, code⟩ := F.ex
  refine fnG_body look code S size fun A out st h xs Z W room fr pre => ?_
  obtain ⟨t, drv, rdg⟩ := body cv A out st h xs Z W room fr pre
  exact ⟨t, drv.nox, rdg⟩
end
/-! ### calls -/
section
variable {X : Cx} {CX : CXT}
theorem runG {k : Nat} {f : Addr} {fd : FuncData} {ps : List Str} {sp : Sp} {E : XK} {dv : List V} {dw : List Value} {pins : List (Addr × Obj)} {σ : L2.St} {h : Hp} {st : Shared} {Z : VK} {ws : List Value} {xs : List V} (F : FnG X.prog X.w X.K X.mg X.base CX k f fd ps sp) (fr : Free X.A) (room : Room k X.A)
    (bind : Binds X.K fd ps dw) (dr : Vals dv dw) (pass : Passes CX X E) (inv : Inv X pins σ h st) (rel : Vals xs ws) (pre : sp (xs ++ dv) h Z E) : wpAny (model X.prog X.w) X.A (call (.ref f) ws) (EP X pins σ Z) X.xe st := by
  have rel2 := rel.append dr
  have size : (ws ++ dw).length = ps.length := rel2.length.symm.trans (F.size _ _ _ _ pre)
  refine wpAny_call (codeAny_mono (F.go X.A fr X.stack st h ⟨ws, []⟩ _ _ Z E room inv.env0 (bind st ws inv.kIn size) rel2 pre) fun res st2 z => ?_)
  match res, z with
  | .error e, z => exact pass pins σ h st e st2 inv z
  | .ok (.ret u), z => exact inv.after z
  | .ok .next, z => exact z.elim
  | .ok .brk, z => exact z.elim
  | .ok .cont, z => exact z.elim
structure CalleeG (P : Program) (w : World) (K : PySem.W.Frag) (mg : Str → Option Value) (base : Heap) (CX : CXT) (k : Nat) (x : Str) (ps : List Str) (sp : Sp) : Prop where
  ex : ∃ (f : Addr) (fd : FuncData), FnG P w K mg base CX k f fd ps sp ∧ mg x = some (.ref f) ∧ PySem.W.keepIn K (.ref f) = true ∧ Binds K fd ps []
theorem pe_callG {k : Nat} {x : Str} {ps : List Str} {sp : Sp} {E : XK} {e : Expr} {es : List Expr} {p pos : Pos} {t : TA} (c : CalleeG X.prog X.w X.K X.mg X.base CX k x ps sp) (fr : Free X.A) (room : Room k X.A) (gl : Gl X x) (pass : Passes CX X E) (ha : PA X (e :: es) t)
    (d1 : (x == ("__debug__" : Str)) = false := by decide) (d2 : starEach (e :: es) X.env = (false, eval e X.env) :: starEach es X.env := by rfl) (d3 : (backTo pos (starEach es X.env)).any (·.1) = false := by rfl) :
    PE X (.Call (.Name x p) (e :: es) [] pos) (tCall sp [] E t) := by
  obtain ⟨f, fd, F, look, keep, bind⟩ := c.ex
  refine ⟨fun pins st σ h Z inv pre => wpAny_Call_Name_kw (ld_glob inv gl look ?_ d1)⟩
  refine PySem.W.callWith_K (h₀ := X.base) inv.ok.mod.kin keep (thn (ha.run pos pins st σ h _ inv pre) fun ws st1 res => ?_) d2 d3
  obtain ⟨xs, h1, inv1, rel, z⟩ := res
  exact ⟨inv1.kIn, runG F fr room bind .nil pass inv1 rel z⟩
end
/-! ### repr of data -/
section
variable {P : Program} {w : World} {A : Around} {E : Value → Shared → Prop} {s : Shared} {Z : Value → Shared → Prop}
theorem repr_slot {v : Value} {T id : String} (hu : A.units + 2 < cLine) (ty : s.TypeIs v T) (slot : SlotG T "__repr__" id)
    (h : wpAny (model P w) A.in1 (callSpecialIfBound? v (Str.ofString "__repr__")) (fun r st => ∃ (y : Str) (u : Tok), r = some (.str y u) ∧ Z (.str y u) st) E s) : wpAny (model P w) A (call (.builtin "repr") [v]) Z E s := by
  refine (Calls.call_function_entry F.kind_repr F.plain_repr F.entry_repr (F.args_repr1 _) ?_); unfold Builtin.«repr»
  refine (wpAny_bind (m := oneArg "repr" _) (wpAny_pure ?_))
  refine (wpAny_bind (wpAny_cRoomFor (show A.units + 1 < cLine by omega) ?_))
  refine (wpAny_bind (wpAny_specialOf (name := Str.ofString "__repr__") ty slot.lookup ?_))
  refine (wpAny_bind (m := callSpecialIfBound? v (Str.ofString "__repr__")) (wpAny_mono h (fun r st z => ?_) fun _ _ z => z))
  obtain ⟨y, u, rfl, z⟩ := z
  refine (wpAny_bind (wpAny_isInstance (T := "str") (b := true) rfl isSubtype_str_str ?_))
  exact (wpAny_pure ⟨.str y u, rfl, z⟩)
end
section
variable {X : Cx}
theorem vals_one {x : V} {us : List Value} (r : Vals [x] us) : ∃ u, us = [u] ∧ RelV x u := by
  cases r with
  | cons h t => cases t; exact ⟨_, rfl, h⟩
def rRepr (K : PySem.W.Frag) : List V → Hp → VK → Prop := fun xs H Q => ∃ (v : V) (d : PyData), xs = [v] ∧ Dp K H v d ∧ d.showable = true ∧ d.hasDict = false ∧ d.depth ≤ 60 ∧ d.shown.length ≤ sizeLine ∧ Q (.str d.shown) H
end
/-! ### the law's end -/
end KG

/-! KO: own objects: methods called by keywords, own ==, != by own ==, str by own __str__. -/
namespace KO
open PySem PySem.Spec PyProof.Rows L2 KB
section
variable {X : Cx}
/-- a def run in another Around, nothing raised out of it -/
theorem run0 {A' : Around} {k : Nat} {f : Addr} {fd : FuncData} {ps : List Str} {sp : Sp} {pins : List (Addr × Obj)} {σ : L2.St} {h : Hp} {st : Shared} {Z : VK} {ws : List Value} {xs : List V} {E' : Value → Shared → Prop} (F : FnOk X.prog X.w X.K X.mg X.base CX0 k f fd ps sp) (room : Room k A')
    (env : Env0 X.prog X.w X.K X.mg X.base A' X.stack st h) (bind : Binds X.K fd ps []) (inv : Inv X pins σ h st) (rel : Vals xs ws) (pre : sp xs h Z E0) : wpAny (model X.prog X.w) A' (call (.ref f) ws) (EP X pins σ Z) E' st := by
  have size : (ws ++ []).length = ps.length := by rw [List.append_nil, ← rel.length]; exact F.len _ _ _ _ pre
  have bd := bind st ws inv.kIn size
  rw [List.append_nil] at bd
  refine wpAny_call (codeAny_mono (F.run A' X.stack st h ⟨ws, []⟩ _ _ Z E0 room env bd rel pre) fun res st2 z => ?_)
  match res, z with
  | .error e, z => exact z.elim
  | .ok (.ret u), z => exact inv.after z
  | .ok .next, z => exact z.elim
  | .ok .brk, z => exact z.elim
  | .ok .cont, z => exact z.elim
theorem inst_of {pins : List (Addr × Obj)} {σ : L2.St} {h : Hp} {st : Shared} {a C dx : Addr} {fs : List (Str × V)} (inv : Inv X pins σ h st) (e : h a = some (.ins C dx fs)) : ∃ od, PySem.W.InstAt st.heap a (PySem.W.instObj C dx) C (some od) := by
  obtain ⟨mA, O, _⟩ := ins_get inv.hok e
  obtain ⟨od, J, _⟩ := O.look
  exact ⟨od, J⟩
/-! ### own == -/
def rEqOwn (K : PySem.W.Frag) (C : Addr) (sp : Sp) : R2 := fun x y H Q => ∃ a dx fs b C' dy gs, x = .ref a ∧ y = .ref b ∧ H a = some (.ins C dx fs) ∧ H b = some (.ins C' dy gs) ∧ PySem.W.notFirst K C (.ref C') = true ∧ sp [x, y] H Q E0
theorem op_eqOwn {C g : Addr} {fd : FuncData} {ps : List Str} {sp : Sp} {n : Nat} (hs : PySem.W.findIn X.K (.ref C) "__eq__" = some (some (.ref g))) (hf : PySem.W.isFn X.K (.ref g) = true) (F : FnOk X.prog X.w X.K X.mg X.base CX0 n g fd ps sp) (bind : Binds X.K fd ps [])
    (room : Room n X.A) : OpR X (compareOp .Eq) (rEqOwn X.K C sp) := by
  intro pins st σ h x y v u Z inv rx ry pre
  obtain ⟨a, dx, fs, b, C', dy, gs, rfl, rfl, ha, hb, nf, z⟩ := pre
  obtain rfl : v = Value.ref a := rx
  obtain rfl : u = Value.ref b := ry
  obtain ⟨od, J⟩ := inst_of inv ha
  obtain ⟨od', J'⟩ := inst_of inv hb
  obtain ⟨m, hF⟩ := inv.fr
  rw [show compareOp .Eq (.ref a) (.ref b) = richCompare .Eq (.ref a) (.ref b) from rfl]
  refine PySem.W.cmp_K (op := .Eq) (tb := .ref C') room.units0 hF inv.ok.mod.kin J J'.type nf hs hf ?_
  refine wpAny_mono (run0 (E' := X.xe) (xs := [.ref a, .ref b]) F room inv.env0 bind inv (.cons rfl (.cons rfl .nil)) z) (fun w s2 r => ?_) fun _ _ z => z
  obtain ⟨z', h2, inv2, rz, qz⟩ := r
  exact SlX.cmpback rz ⟨z', h2, inv2, rz, qz⟩
/-! ### != by own == -/
/-- what the text's class must be for it -/
structure NeCls (K : PySem.W.Frag) (C g : Addr) : Prop where
  ex : ∃ (nm q : Str) (N : Addr) (bs : List Value) (hd : Bool) (sn : List Str) (sub : List Value) (ab : Bool) (col : Option Bool) (dd : Option Addr) (k0 k1 k2 k3 k5 : Option Value) (nid : String),
    K.lookup C = some (excClassObj nm q C N bs [.type "object"] hd sn sub ab col dd k0 k1 k2 k3 k5 nid) ∧ PySem.W.nsOkIn K N = true ∧ PySem.W.nsIn K N "__eq__" = some (some (.ref g)) ∧ PySem.W.nsIn K N "__ne__" = some none
  fn : ∃ o : Obj, K.lookup g = some o ∧ o.cls = .type "function"
theorem ns_val {K : PySem.W.Frag} {h : Heap} {N : Addr} {m : Str → Option Value} {x : Str} {v : Value} (kin : K.In h) (G : h.Ns N m) (e : PySem.W.nsIn K N x = some (some v)) : m x = some v := by
  obtain ⟨o, es, ep, e1, e2, _, e3⟩ := G
  unfold PySem.W.nsIn at e
  split at e
  · rename_i q
    have z := kin _ _ q
    rw [e1] at z
    cases z
    cases e2
    split at e
    · rename_i w
      rw [← e3]
      unfold nsFind findBy
      rw [← Array.find?_toList, w]
      simpa using e
    · split at e <;> cases e
  · cases e
theorem NeCls.at {K : PySem.W.Frag} {C g a dx : Addr} {h : Heap} (c : NeCls K C g) (kin : K.In h) (ha : h.get? a = some (PySem.W.instObj C dx)) : h.OwnEqNoNe a C g "object" [.type "object"] := by
  obtain ⟨nm, q, N, bs, hd, sn, sub, ab, col, dd, k0, k1, k2, k3, k5, nid, e1, e2, e3, e4⟩ := c.ex
  obtain ⟨o, e5, e6⟩ := c.fn
  have hN : h.Ns N (h.nsMap N) := .of_isNs (PySem.W.isNs_of_in kin e2)
  exact ⟨_, o, nm, q, N, bs, hd, sn, sub, ab, col, dd, k0, k1, k2, k3, k5, nid, h.nsMap N, _, ha, rfl, kin _ _ e1, hN, ns_val kin hN e3, kin _ _ e5, e6, F.cmp_object.mro, F.cmp_object.eq.lookup, PySem.W.ns_none_of kin hN e4⟩
def rNeOwn (C : Addr) (sp : Sp) : R2 := fun x y H Q => ∃ a dx fs b dy gs, x = .ref a ∧ y = .ref b ∧ H a = some (.ins C dx fs) ∧ H b = some (.ins C dy gs) ∧ sp [x, y] H (fun v H' => ∃ c, v = .bl c ∧ Q (.bl (!c)) H') E0
/-! ### str(o) by own __str__ -/
def rStrOwn (C : Addr) (sp : Sp) : List V → Hp → VK → Prop := fun xs H Q => ∃ a dx fs, xs = [.ref a] ∧ H a = some (.ins C dx fs) ∧ sp [.ref a] H (fun v H' => ∃ t, v = .str t ∧ Q (.str t) H') E0
/-! ### o.m(.., k = v, ..) -/
structure CalleeMK (P : Program) (w : World) (K : PySem.W.Frag) (mg : Str → Option Value) (base : Heap) (k : Nat) (C : Addr) (m : Str) (ps : List Str) (sp : Sp) (n : Nat) (ks : List Str) (gV : List V → List V → List V) : Prop where
  ex : ∃ (f : Addr) (fd : FuncData) (g : List Value → List Value → List Value), FnOk P w K mg base CX0 k f fd ps sp ∧ Meth K C m f ∧ KBn K fd ps (n + 1) ks g gV
  cl : Cls K C
def tMethK0 (C : Addr) (m : Str) (n : Nat) (sp : Sp) (gV : List V → List V → List V) (ta : TE) (tk : TA) : TE := fun σ H Q => ta σ H fun x H1 => ∃ a dx fs, x = .ref a ∧ H1 a = some (.ins C dx fs) ∧ fs.lookup m = none ∧ tk σ H1 fun zs H2 => zs.length = n ∧ sp (gV [.ref a] zs) H2 Q E0
theorem r_methK0 {σ : L2.St} {H : Hp} {Q : VK} {C : Addr} {m : Str} {n : Nat} {sp : Sp} {gV : List V → List V → List V} {ta : TE} {tk : TA}
    (q : ta σ H fun x H1 => ∃ a dx fs, x = .ref a ∧ H1 a = some (.ins C dx fs) ∧ fs.lookup m = none ∧ tk σ H1 fun zs H2 => zs.length = n ∧ sp (gV [.ref a] zs) H2 Q E0) : tMethK0 C m n sp gV ta tk σ H Q := q
/-! ### an item of a dict of the text -/
theorem r_joined {σ : L2.St} {H : Hp} {te : TE} {ts : List TE} {acc : Str} {QJ : Str → Hp → Prop} (q : te σ H fun x H1 => ∃ y : Str, x = .str y ∧ (acc ++ y).length ≤ sizeLine ∧ tJs ts (acc ++ y) σ H1 QJ) : tJs (te :: ts) acc σ H QJ := q
theorem r_joined0 {σ : L2.St} {H : Hp} {acc : Str} {QJ : Str → Hp → Prop} (q : QJ acc H) : tJs [] acc σ H QJ := q
theorem r_fmt {σ : L2.St} {H : Hp} {te : TE} {Q : VK} (q : te σ H fun x H1 => (∃ y : Str, x = .str y ∧ y.length ≤ sizeLine ∧ Q (.str y) H1) ∨ ∃ i : Int, x = .int i ∧ i.natAbs.log2 < 1920 ∧ Q (.str (toString i)) H1) : tFmt te σ H Q := q
/-- C(k = v, ..) -/
structure CalleeIK (P : Program) (w : World) (K : PySem.W.Frag) (mg : Str → Option Value) (base : Heap) (CX : CXT) (k : Nat) (C : Addr) (x : Str) (ps : List Str) (sp : Sp) (ks : List Str) (gV : List V → List V → List V) : Prop where
  ex : ∃ (f : Addr) (fd : FuncData) (g : List Value → List Value → List Value), FnOk P w K mg base CX k f fd ps sp ∧ Mk K C f ∧ mg x = some (.ref C) ∧ KBn K fd ps 1 ks g gV
theorem r_makeK {σ : L2.St} {H : Hp} {Q : VK} {C : Addr} {n m : Nat} {sp : Sp} {gV : List V → List V → List V} {E : XK} {t tk : TA} (q : t σ H fun vs H1 => tk σ H1 fun zs H2 => vs.length = n ∧ zs.length = m ∧ ∀ x dx, H2 x = none → H2 dx = none → dx ≠ x →
    sp (gV (.ref x :: vs) zs) (upd (upd H2 dx (.own x)) x (.ins C dx [])) (fun v H3 => v = .non ∧ Q (.ref x) H3) E) : tMakeK C n m sp gV E t tk σ H Q := q
/-- a special method of the text's class; the class for != -/
structure OwnM (P : Program) (w : World) (K : PySem.W.Frag) (mg : Str → Option Value) (base : Heap) (k : Nat) (C : Addr) (m : Str) (ps : List Str) (sp : Sp) : Prop where
  ex : ∃ (g : Addr) (fd : FuncData), PySem.W.findIn K (.ref C) m = some (some (.ref g)) ∧ PySem.W.isFn K (.ref g) = true ∧ FnOk P w K mg base CX0 k g fd ps sp ∧ Binds K fd ps []
structure OwnNe (P : Program) (w : World) (K : PySem.W.Frag) (mg : Str → Option Value) (base : Heap) (k : Nat) (C : Addr) (ps : List Str) (sp : Sp) : Prop where
  ex : ∃ (g : Addr) (fd : FuncData), NeCls K C g ∧ FnOk P w K mg base CX0 k g fd ps sp ∧ Binds K fd ps []
theorem op_eqO {C : Addr} {ps : List Str} {sp : Sp} {n : Nat} (c : OwnM X.prog X.w X.K X.mg X.base n C "__eq__" ps sp) (room : Room n X.A) : OpR X (compareOp .Eq) (rEqOwn X.K C sp) := by
  obtain ⟨g, fd, h1, h2, F, b⟩ := c.ex
  exact op_eqOwn h1 h2 F b room
end
end KO

/-! KX: own error classes over ValueError whose __init__ says super().__init__(text) and sets one field. -/
namespace KX
open PySem PySem.Spec PyProof.Rows L2 KB
/-- the frame of such an __init__ -/
def supCx (CXx : CXT) (P : Program) (w : World) (K : PySem.W.Frag) (mg : Str → Option Value) (base : Heap) (N : List Str) (ql : Str) (sc : Scope) (f cda cc : Addr) (A : Around) (out : List Env) (st : Shared) (h : Hp) (W : XK) : Cx where
  prog := P
  w := w
  K := K
  mg := mg
  base := base
  A := A.deeper (PySem.W.ksEnv ql sc st.heap.objs.size f (.ref cda) cc)
  N := N
  s_0 := st
  H_0 := h
  env := PySem.W.ksEnv ql sc st.heap.objs.size f (.ref cda) cc
  outer := out
  stack := PySem.W.ksEnv ql sc st.heap.objs.size f (.ref cda) cc :: out
  ex := []
  fn := fun _ => false
  calm := true
  pn := []
  xe := fun e s' => wpAny (model P w) (A.deeper (PySem.W.ksEnv ql sc st.heap.objs.size f (.ref cda) cc)) (leaving (PySem.W.ksEnv ql sc st.heap.objs.size f (.ref cda) cc) e) (fun _ s'' => CXx out h st W e s'') (fun e' s'' => CXx out h st W e' s'') s'
theorem cls_only {y : Str} {cc c : Addr} (e : ([(("__class__" : Str), cc)] : List (Str × Addr)).lookup y = some c) : y = "__class__" ∧ c = cc := by
  simp only [List.lookup] at e
  split at e
  · rename_i z
    exact ⟨by simpa using z, (Option.some.inj e).symm⟩
  · cases e
theorem inv_sup {CXx : CXT} {P : Program} {w : World} {K : PySem.W.Frag} {mg : Str → Option Value} {base : Heap} {vn ql : Str} {sc : Scope} {f cda cc : Addr} {A : Around} {out : List Env} {st : Shared} {h : Hp} {W : XK} {u1 u2 : Value} {v1 v2 : V} {h1 : Heap} {tk : Nat} {cl : Value} {cld : Option Addr} {csl : Array (Option Value)} {cv : Option Value}
    (e0 : Env0 P w K mg base A out st h) (hd : A.handled = none) (kind : sc.kind = .function) (nocell : ∀ y ∈ sc.names, y.2 ≠ .cell) (nofree : ∀ y, sc.names.lookup y = some .free → y = "__class__") (l1 : sc.names.lookup ("self" : Str) = some .local) (l2 : sc.names.lookup vn = some .local) (nv : vn ≠ "self")
    (hc : K.lookup cc = some ⟨cl, cld, .cell cv, csl⟩) (hns : h1.Ns st.heap.objs.size (fun y => ([(("self" : Str), u1), (vn, u2)] : List (Str × Value)).reverse.lookup y)) (kp : ∀ b o, st.heap.get? b = some o → h1.get? b = some o) (r1 : RelV v1 u1) (r2 : RelV v2 u2) :
    Inv (supCx CXx P w K mg base ["self", vn] ql sc f cda cc A out st h W) [] [some v1, some v2] h { st with heap := h1, toks := tk } := by
  have noA : ∀ b : Addr, b ∉ (supCx CXx P w K mg base ["self", vn] ql sc f cda cc A out st h W).ex := fun b z => absurd (show b ∈ ([] : List Addr) from z) (by simp)
  have ccb := e0.bs _ _ (e0.mod.kin _ _ hc)
  refine ⟨⟨e0.mod, kind, rfl, rfl, Nat.le_refl _, fun y z c a b => (cls_only a).1.trans (cls_only b).1.symm, fun y hy => ?_, fun y c z _ => ?_, fun _ => hd, Around.frames_deeper e0.frames, .inr ⟨rfl, rfl⟩, fun b z => absurd z (noA b), e0.bs, e0.bsz, fun b _ _ => noA b, fun b z => absurd z (noA b), e0.funs, e0.frf⟩,
    rfl, e0.bare, Un.kept kp, ⟨_, hns, fun i y v a b c => ?_⟩, fun y c e => ?_, e0.hok.fresh (Nat.le_refl _), fun y c e => ?_, fun p hp => absurd (show p ∈ ([] : List (Addr × Obj)) from hp) (by simp), e0.hok.kept kp, rfl⟩
  · have hy : sc.names.lookup y = some .cell ∨ sc.names.lookup y = some .free := hy
    rcases hy with hy | hy
    · exact absurd rfl (nocell _ (PySem.mem_of_lookup hy))
    · rw [nofree y hy]
      exact ⟨cc, rfl⟩
  · have z : false = true := z
    cases z
  · match i, a, b with
    | 0, a, b =>
      obtain rfl : ("self" : Str) = y := Option.some.inj a
      obtain rfl : v1 = v := Option.some.inj (Option.some.inj b)
      refine ⟨u1, r1, .inl ⟨l1, ?_⟩⟩
      have nv' : ¬ (("self" : Str) == vn) = true := by simpa using fun z : ("self" : Str) = vn => nv z.symm
      simp [List.lookup, nv']
    | 1, a, b =>
      obtain rfl : vn = y := Option.some.inj a
      obtain rfl : v2 = v := Option.some.inj (Option.some.inj b)
      exact ⟨u2, r2, .inl ⟨l2, by simp [List.lookup]⟩⟩
    | i + 2, a, b => cases a
  · obtain ⟨rfl, rfl⟩ := cls_only e
    exact ⟨cv, _, kp _ _ ccb.1, rfl⟩
  · obtain ⟨rfl, rfl⟩ := cls_only e
    exact ccb.2
section
variable {prog : Program} {w : World} {A : Around} {E : Value → Shared → Prop} {h : Heap} {g : Array GenState} {d : Drawn} {t : Nat} {os : OsState}
variable {nm q : Str} {C N : Addr} {bs bm : List Value} {hdct : Bool} {sn : List Str} {sub : List Value} {ab : Bool} {col : Option Bool} {dd : Option Addr} {k0 k1 k2 k3 k5 : Option Value}
theorem call_mw {u e t0 : Addr} {rest : List Value} {Q : Value → Shared → Prop}
    (hC : h.get? C = some (excClassObj nm q C N bs bm hdct sn sub ab col dd k0 k1 k2 k3 k5 "ValueError.__new__")) (he : h.get? e = some (HandSPX.excO C t0)) (hu : h.get? u = some (PySem.W.kxs_mw "ValueError.__init__" e)) (hrest : rest.length ≤ sizeLine)
    (hq : ∀ h' t1, (∀ b o, b ≠ e → h.get? b = some o → h'.get? b = some o) → h'.get? e = some (HandSPX.excO C t1) → Q .none ⟨h', g, d, t, os⟩) :
    wpAny (model prog w) A (call (.ref u) rest) Q E ⟨h, g, d, t, os⟩ := by
  refine (wpAny_call (codeAny_of_tree ?_)); show wpAny _ A.in1 (callAny (.ref u) ⟨rest, []⟩) _ _ _; simp only [callAny]
  refine (wpAny_bind (wpAny_load hu ?_))
  simp only [PySem.W.kxs_mw, show (Value.type "method-wrapper" == Value.type "method" || Value.type "method-wrapper" == Value.type "builtin_function_or_method" || Value.type "method-wrapper" == Value.type "method-wrapper") = true by decide, if_true]
  refine (W.KFB.if_so (by decide) ?_)
  refine (wpAny_bind (ESX.check_bound F.excBase_ValueError hC he rfl ?_))
  refine (wpAny_bind (wpAny_pure (wpAny_pure ?_)))
  refine (⟨Code.quiet_builtin _ (by decide +kernel), codeAny_builtin F.excBase_ValueError.initEntry ?_⟩)
  rw [Around.under_plainId F.excBase_ValueError.init.plain _]; wp_walk
  refine hq _ h.objs.size (fun b o n e1 => ?_) ?_
  · exact (Heap.get?_update_other _ _ (Ne.symm n)).trans (Heap.get?_push_of_some _ e1)
  · exact Heap.get?_update_self _ (Heap.get?_push_of_some _ he) rfl
end
/-- what the text says of such an __init__ of the class at C -/
structure SupFn (K : PySem.W.Frag) (P : Program) (f : Addr) (fd : FuncData) (C : Addr) (vn fld : Str) : Prop where
  ex : ∃ (ql : Str) (pr : Arguments) (sc : Scope) (dV kV doc pm ct oc ccl cl : Value) (an od cdd cld : Option Addr) (osl ccs csl : Array (Option Value)) (cda cc : Addr) (vs : Array Value) (file : Str) (tf : Tok) (p0 p1 p2 p3 p4 p5 q1 q2 q3 q4 : Pos) (msg : Str) (j : Nat) (ar : Arg) (pl : Sem Bool),
    fd = PySem.W.ksFn "__init__" ql pr [.Expr (.Call (.Attribute (.Call (.Name "super" p0) [] [] p1) "__init__" p2) [.Constant (.str msg) j p3] [] p4) p5, .Assign [.Attribute (.Name "self" q1) fld q2] (.Name vn q3) q4] sc dV kV doc pm an (.ref cda) ct cc ∧
    K.lookup f = some ⟨oc, od, .func fd, osl⟩ ∧ PySem.W.codeIn K (.ref cda) ql = true ∧ K.lookup cda = some ⟨ccl, cdd, .fields vs, ccs⟩ ∧ vs[2]? = some (.str file tf) ∧ ((P.main.file : Str) == file) = true ∧
    K.lookup cc = some ⟨cl, cld, .cell (some (.ref C)), csl⟩ ∧ (pr.posonlyargs ++ pr.args).head? = some ar ∧ ar.arg = "self" ∧
    sc.kind = .function ∧ sc.isCoroutine = false ∧ sc.isGenerator = false ∧ (∀ y ∈ sc.names, y.2 ≠ .cell) ∧ (∀ y, sc.names.lookup y = some .free → y = "__class__") ∧ sc.names.lookup ("super" : Str) = some .globalImplicit ∧ sc.names.lookup ("__class__" : Str) = some .free ∧
    sc.names.lookup ("self" : Str) = some .local ∧ sc.names.lookup vn = some .local ∧
    (∀ en : Env, eval (.Call (.Attribute (.Call (.Name "super" p0) [] [] p1) "__init__" p2) [.Constant (.str msg) j p3] [] p4) en = (do
      let ov ← attributeBase (.Call (.Name "super" p0) [] [] p1) "__init__" en (eval (.Call (.Name "super" p0) [] [] p1) en)
      standAt p2.atName
      let (g, first) ← holding [ov] (getMethod ov "__init__" pl)
      callWith p4 g first (backTo p4 (starEach [.Constant (.str msg) j p3] en)) []))
  top : (P.main.scope.names.lookup ("super" : Str)).isSome = false
  nv : vn ≠ "self" ∧ (vn == ("__debug__" : Str)) = false ∧ (vn == ("__classdict__" : Str)) = false
  opq : PySem.W.nsIn K cStatics "thirdparty.any" = some none
  sub : PySem.W.mroIn K C (.ref C) = some true
  ve : PySem.W.mroIn K C (.type "ValueError") = some true
  sup : PySem.W.ks_superIn K C C "__init__" = some (some (.builtin "ValueError.__init__"))
  nof : PySem.W.findIn K (.ref C) fld = some none
def spXI (C : Addr) (fld : Str) : Sp := fun vs H Q _ => ∃ (a : Addr) (v : V), vs = [.ref a, v] ∧ H a = some (exo a C none) ∧ ∀ dx, H dx = none → dx ≠ a → Q .non (upd (upd H dx (exd dx [(fld, v)])) a (exo a C (some dx)))
theorem sup_ok {P : Program} {w : World} {K : PySem.W.Frag} {mg : Str → Option Value} {base : Heap} {k : Nat} {f C : Addr} {fd : FuncData} {vn fld : Str} (S : SupFn K P f fd C vn fld) (T : OexC K C) (hm : mg "super" = none) (hboot : bootBuiltins "super" = some (.type "super")) : FnOk P w K mg base CX0 (k + 1) f fd ["self", vn] (spXI C fld) := by
  refine ⟨fun xs h Z W z => ?_, fun A out st h ar0 ws xs Z W room env bind vals pre => ?_⟩
  · obtain ⟨a, v, rfl, _⟩ := z
    rfl
  obtain ⟨a, v, rfl, ha, q⟩ := pre
  obtain ⟨u1, u2, rfl, r1, r2⟩ := vals2 vals
  obtain ⟨ql, pr, sc, dV, kV, doc, pm, ct, oc, ccl, cl, an, od, cdd, cld, osl, ccs, csl, cda, cc, vs, file, tf, p0, p1, p2, p3, p4, p5, q1, q2, q3, q4, msg, j, ar, pl, rfl, lf, cdf, lcd, hvs, hfile, lcc, hp, har, kind, nco, ngen, nocell, nofree, ks, kc, kself, kvn, hev⟩ := S.ex
  have kin : K.In st.heap := env.mod.kin.keeps fun b o e => (env.bs b o e).1
  have nolim : st.heap.NoLimit := env.mod.nolimit.keeps fun b o e => (env.bs b o e).1
  refine ks_codeAny_call_defAt (binds := [("self", u1), (vn, u2)]) room.depth (kin _ _ lf) rfl nolim (PySem.W.codeRec_of kin cdf) rfl bind nocell (fun y hy => ?_) (fun h1 hns kp => ?_) nco ngen kind
  · simp only [List.mem_cons, List.not_mem_nil, or_false] at hy
    rcases hy with rfl | rfl
    · exact kself
    · exact kvn
  obtain rfl : u1 = Value.ref a := r1
  have I : Inv (supCx CX0 P w K mg base ["self", vn] ql sc f cda cc A out st h W) [] [some (.ref a), some v] h { st with heap := h1, toks := st.toks + 2 } := inv_sup env room.hd kind nocell nofree kself kvn S.nv.1 lcc hns kp rfl r2
  have hi : interactive (PySem.W.ksEnv ql sc st.heap.objs.size f (.ref cda) cc) = false := by
    unfold interactive
    simp [kind]
  refine ks_wpAt_execs_cons (ks_wpAt_Expr_any (env := PySem.W.ksEnv ql sc st.heap.objs.size f (.ref cda) cc) ?_ hi)
  refine ks_wpAt_MethodCall (pl := pl) (env := PySem.W.ksEnv ql sc st.heap.objs.size f (.ref cda) cc) ?_ (hev _)
  have bk := I.bk
  have kin1 : K.In h1 := I.kIn
  obtain ⟨t1, ga⟩ := exo_at I.hok ha
  obtain ⟨nm, qn, N, bs, bm, sn, sub, ab, col, dd, k0, k1, k2, k3, k5, hC, hbm⟩ := T.cls
  have hcl : PySem.W.clsIn K C = some { name := nm, bases := bs, mro := .ref C :: bm, ns := N, qualname := qn, hasDict := true, slotNames := sn, subclasses := sub, abstract := ab, collection := col, hasDel := false } := by unfold PySem.W.clsIn; rw [hC] <;> rfl
  obtain ⟨mb, b1, b2⟩ := env.mod.blt
  have kb : ∀ b o, base.get? b = some o → h1.get? b = some o := fun b o e => kp b o (env.bs b o e).1
  refine ks_wpAt_super_base (env := PySem.W.ksEnv ql sc st.heap.objs.size f (.ref cda) cc) ks kc (by decide) rfl (kin1 _ _ lf) rfl hp rfl (kin1 _ _ lcd) rfl hvs hfile S.top ?_
  refine PySem.W.ks_loadName_global kind ks (Calls.loadGlobal_builtin (env := PySem.W.ksEnv ql sc st.heap.objs.size f (.ref cda) cc) (env.mod.glob.keeps kb) hm (b1.keeps kb) ((b2 "super" (by decide)).trans hboot) ⟨rfl, ?_⟩)
  refine wpAny_loadName_free kind kc rfl ⟨_, kin1 _ _ lcc, rfl⟩ ?_
  rw [har]
  refine wpAny_loadName_local kind kself hns (v := .ref a) ?_ ?_
  · have nv' : ¬ (("self" : Str) == vn) = true := by simpa using fun z : ("self" : Str) = vn => S.nv.1 z.symm
    simp [List.lookup, nv']
  refine ks_wpAny_isType_cls (kin1 _ _ hC) rfl ⟨rfl, ?_⟩
  refine ks_wpAny_call_super (kin1 _ _ hC) rfl ga rfl (fun c z => by cases z) (PySem.W.looks_mroIn kin1 S.sub) (fun h2 e2 kp2 => ?_)
  have kin2 : K.In h2 := kin1.keeps kp2
  have J2 : PySem.W.InstAt h2 a _ C none := ⟨kp2 _ _ ga, rfl, rfl, trivial⟩
  have hsup : PySem.W.alongIn K "__init__" (((Value.ref C :: bm).dropWhile (· != .ref C)).drop 1) = some (some (.builtin "ValueError.__init__")) := by
    have z := S.sup
    unfold PySem.W.ks_superIn at z
    rw [hcl] at z
    exact z
  refine PySem.W.kxs_getMethod PySem.W.kxs_ValueError e2 (PySem.W.looks_opaque kin2 S.opq) (l₀ := Value.ref C :: bm) (fun A Q E s k q => wpAny_bind ((PySem.W.looks_clsIn kin2 hcl) A _ E s k (wpAny_pure q))) rfl kin2 hsup (J2.type.andThen (PySem.W.looks_mroIn kin2 S.ve)) (PySem.W.ks_ne kin2 J2 hcl) (by decide) ?_
  have gu : (h2.push (PySem.W.kxs_mw "ValueError.__init__" a)).get? h2.objs.size = some (PySem.W.kxs_mw "ValueError.__init__" a) := Heap.get?_push_at rfl rfl
  have kp3 : ∀ b o, h1.get? b = some o → (h2.push (PySem.W.kxs_mw "ValueError.__init__" a)).get? b = some o := fun b o e => Heap.get?_push_of_some _ (kp2 _ _ e)
  refine PySem.W.kxs_callWith (i := "ValueError.__init__") (x := a) rfl ?_
  refine Calls.evalArgs_plain (x := eval (.Constant (.str msg) j p3) (PySem.W.ksEnv ql sc st.heap.objs.size f (.ref cda) cc)) (rest := []) ?_
  refine Calls.spliced_cons (Calls.Constant_str (Calls.spliced_nil ?_))
  refine ⟨gu, ?_⟩
  refine call_mw (kp3 _ _ (kin1 _ _ hC)) (kp3 _ _ ga) gu (show 1 ≤ sizeLine by decide) (fun h4 t4 kp4 ga4 => ?_)
  have J0 := (I.kept (t' := 0) kp3).write (t' := st.toks + 2 + 1 + 1) (x := a) (e := a) (o := exo a C none) (by rw [ha]; exact True.intro) (.inl rfl) kp4 ⟨_, ga4⟩ (exo_ok ga4)
  have eu : upd h a (exo a C none) = h := by
    funext b
    by_cases hb : b = a
    · rw [hb, upd_same, ha]
    · rw [upd_ne hb]
  rw [eu] at J0
  have ps : PSs (supCx CX0 P w K mg base ["self", vn] ql sc f cda cc A out st h W) [.Assign [.Attribute (.Name "self" q1) fld q2] (.Name vn q3) q4] _ := pss_one (ps_ost (pv 0 rfl (.inl kself)) (pv 1 rfl (.inl kvn) S.nv.2.1 S.nv.2.2))
  refine wpAt_of_wpAny (wpAny_mono (ps.run [] _ [some (.ref a), some v] h { nx := fun _ h' => Z .non h', rt := Z } J0 ?_) (fun flow s2 res => ?_) fun _ _ z => z)
  · refine ⟨v, rfl, .ref a, rfl, a, C, rfl, T, S.nof, .inl ⟨ha, fun dx ndx nda => ?_⟩⟩
    exact q dx ndx nda
  · cases flow with
    | ret u => exact let ⟨v, _, h2, J, rel, z⟩ := res; ⟨v, h2, J.os, J.bare, J.base, J.hok, rel, z⟩
    | next => exact let ⟨_, h2, J, z⟩ := res; ⟨.non, h2, J.os, J.bare, J.base, J.hok, rfl, z⟩
    | brk => exact (let ⟨_, _, _, z⟩ := res; z : False).elim
    | cont => exact (let ⟨_, _, _, z⟩ := res; z : False).elim
/-! ### an exception kept behind its suite -/
/-- at a: an exception of the class cls, its dict at d -/
def exh (a : Addr) (cls : Value) (d : Option Addr) : HO := .ext fun h => ∃ (o : Obj) (vs : Array Value), h.get? a = some o ∧ Zc cls d o ∧ o.data = .fields vs
theorem exh_at {P : Program} {w : World} {H : Hp} {h : Heap} {a : Addr} {cls : Value} {d : Option Addr} (ok : HOk P w H h) (e : H a = some (exh a cls d)) : ∃ (o : Obj) (vs : Array Value), h.get? a = some o ∧ Zc cls d o ∧ o.data = .fields vs := by
  have z := ok a _ e
  exact z.1
theorem exh_ok {P : Program} {w : World} {H : Hp} {h : Heap} {a : Addr} {cls : Value} {d : Option Addr} {o : Obj} {vs : Array Value} (e : h.get? a = some o) (z : Zc cls d o) (hd : o.data = .fields vs) : ObjOk P w H h a (exh a cls d) :=
  ⟨⟨o, vs, e, z, hd⟩, ⟨o, e⟩, fun h1 h2 ⟨o1, vs1, e1, z1, d1⟩ k => ⟨o1, vs1, k _ e1, z1, d1⟩⟩
/-- an object that was not there at the def's start is followed from now on -/
theorem track {X : Cx} {pins : List (Addr × Obj)} {σ : L2.St} {H : Hp} {s : Shared} {a : Addr} {o : Obj} {vs : Array Value} {cls : Value} {d : Option Addr} (I : Inv X ((a, o) :: pins) σ H s) (z : Zc cls d o) (hd : o.data = .fields vs) (new : X.s_0.heap.get? a = none)
    (nop : ∀ p ∈ X.pn ++ pins, p.1 ≠ a) : Inv X pins σ (upd H a (exh a cls d)) s := by
  obtain ⟨ea, na, nl, nf, _⟩ := I.pin (a, o) (List.mem_append_right _ List.mem_cons_self)
  refine ⟨I.ok, I.os, I.bare, ⟨I.base.keep, I.base.slot, fun b ob e n x => ?_, I.base.there, fun b xs e => ?_, fun b ob u e => ?_, fun b ps e => ?_⟩, I.loc, I.cell, ?_, fun y c e => ?_, fun p hp => ?_, fun b u e => ?_, I.len⟩
  · rw [upd_ne (fun z => by rw [z, new] at e; cases e)]
    exact I.base.free b ob e n x
  · have z := I.base.tups b xs e
    rw [upd_ne (ne_of_none z na)]
    exact z
  · have z := I.base.frzs b ob u e
    rw [upd_ne (ne_of_none z na)]
    exact z
  · obtain ⟨m, z⟩ := I.base.tbls b ps e
    exact ⟨m, by rw [upd_ne (ne_of_none z na)]; exact z⟩
  · rw [upd_ne (Ne.symm nl)]
    exact I.free
  · obtain ⟨v, oc, ec, dc⟩ := I.cell y c e
    rw [upd_ne (fun z => by rw [z, ea] at ec; cases ec; rw [hd] at dc; cases dc)]
    exact I.freeC y c e
  · have hp' : p ∈ X.pn ++ ((a, o) :: pins) := by
      rcases List.mem_append.mp hp with z | z
      · exact List.mem_append_left _ z
      · exact List.mem_append_right _ (List.mem_cons_of_mem _ z)
    obtain ⟨g1, g2, g3, g4, g5⟩ := I.pin p hp'
    exact ⟨g1, by rw [upd_ne (nop p hp)]; exact g2, g3, g4, g5⟩
  · by_cases hb : b = a
    · subst hb
      rw [upd_same] at e
      cases e
      exact exh_ok ea z hd
    · rw [upd_ne hb] at e
      exact (I.hok b u e).stay (fun c v _ k => k) (fun c k => by rw [upd_ne (ne_of_none k na)]; exact k) fun c xs k => by rw [upd_ne (ne_of_none k na)]; exact k
/-- what 'except x as n: ..' wishes, n's object followed behind the suite -/
def wKeep (K : PySem.W.Frag) (c : Value) (i : Nat) (ts : Addr → Value → Option Addr → TS) (Wout : WX) (D : Ends) : WX := fun cls d σ H =>
  ∃ yes, PySem.W.exmOne K cls c = some yes ∧ (yes = true → ∀ a, H a = none → ts a cls d { nx := fun σ' H' => D.nx (σ'.set i none) (upd H' a (exh a cls d)), rt := D.rt, bk := fun _ _ => False, ct := fun _ _ => False } (σ.set i (some (.ref a))) H) ∧ (yes = false → Wout cls d σ H)
section
variable {X : Cx} {x n : Str} {c : Value} {i : Nat} {body suite : List Stmt} {b₀ : Stmt} {np pos pos' : Pos} {tb : WX → TS} {ts : Addr → Value → Option Addr → TS} {Wout : WX}
theorem ps_try_keep (hst : X.stack = X.env :: X.outer) (hfm : X.env.frame = some X.env.locals) (nd : X.N.Nodup) (hix : X.N[i]? = some n) (loc : X.env.kindOf n = some .local) (nam : Names X x c) (tks : Takes X Wout) (hex : X.ex = [])
    (bodyOk : ∀ (W : WX) (pn : List (Addr × Obj)) (xe : Value → Shared → Prop), Takes (X.tr pn xe) W → PassesOwn (model X.prog X.w) X.A X.env xe → PSs (X.tr pn xe) body (tb W))
    (suiteOk : ∀ (a : Addr) (oe : Obj) (cls : Value) (d : Option Addr) (pn : List (Addr × Obj)), Zc cls d oe → (∃ vs, oe.data = .fields vs) → PSs (X.suite a ((a, oe) :: pn)) (b₀ :: suite) (ts a cls d)) :
    PS X (.Try body [.ExceptHandler (some (.Name x np)) (some n) (b₀ :: suite) pos'] [] [] pos) (fun D σ H => tb (wKeep X.K c i ts Wout D) D σ H) := by
  refine ⟨fun pins st σ h D inv rdg => ?_⟩
  have okX := inv.ok
  have fr := okX.frames; rw [hst] at fr
  refine (wpAny_Try_except ?_)
  refine wpAny_mono ((bodyOk (wKeep X.K c i ts Wout D) (X.pn ++ pins) (fun e t1 => wpAny (model X.prog X.w) X.A (noteFrame e X.env) (fun _ t2 => wpAny (model X.prog X.w) X.A (setFlight e none) (fun _ t3 =>
    wpAny (model X.prog X.w) X.A (handleBy e X.env [.ExceptHandler (some (.Name x np)) (some n) (b₀ :: suite) pos']) (SP X pins D) X.xe t3) X.xe t2) X.xe t1) (fun u st' xx => ?_) PassesOwn.looking).run [] st σ h D (inv.toTry _) rdg) (fun flow t1 res => ?_) (fun _ _ z => z)
  · obtain ⟨a, G, tI, pins', σ1, h1, cls, d, rfl, K1, ground, up, sky, na, eos, ags, yes, q1, qy, qn⟩ := xx
    have I1 : Inv X pins σ1 h1 tI := K1.ofTry okX
    have sky1 : Sky G (X.env :: X.outer) a (Zc cls d) X.env.locals st'.heap := hst ▸ sky
    show wpAny (model X.prog X.w) X.A (noteFrame (.ref a) X.env) _ _ _
    refine Sky.land Zc.steady fr hfm sky1 fun hp3 fly3 up3 => ?_
    have I3 : Inv X pins σ1 h1 { st' with heap := hp3 } := I1.landed ground fly3.1 (up.trans up3) eos ags
    obtain ⟨o3, vs3, g3, z3, d3⟩ := fly3.there
    have nfr : a ∉ frs (X.env :: X.outer) := fun m => by
      obtain ⟨_, o', e', no⟩ := fly3.2.2.1.mem m
      rw [g3] at e'
      cases e'
      exact no _ d3
    have nl : a ≠ X.env.locals := fun z => nfr (List.mem_filterMap.mpr ⟨X.env, List.mem_cons_self, by rw [hfm, z]⟩)
    have nf : a ∉ X.fs := fun m => by
      obtain ⟨e, he, e2⟩ := List.mem_filterMap.mp m
      exact nfr (List.mem_filterMap.mpr ⟨e, List.mem_cons_of_mem _ he, e2⟩)
    have freshI : tI.heap.get? a = none := by
      cases e : tI.heap.get? a with
      | none => rfl
      | some o =>
        have := ground a o e (by rw [hst]; exact nfr)
        rw [fly3.2.1] at this
        cases this
    have fresh0 : X.s_0.heap.get? a = none := by
      cases e : X.s_0.heap.get? a with
      | none => rfl
      | some o =>
        obtain ⟨o', e'⟩ := I1.base.there a o e (by rw [hex]; exact List.not_mem_nil)
        rw [freshI] at e'
        cases e'
    have nop : ∀ p ∈ X.pn ++ pins, p.1 ≠ a := fun p hp z => by
      have := (I1.pin p hp).1
      rw [z, freshI] at this
      cases this
    have S3 := I3.suite g3 d3 na nl nf
    refine wpAny_handleBy_cons (codeAny_handlers_test ?_) (by intro z; cases z)
    have ty3 : PySem.W.Looks (model X.prog X.w) hp3 (typeOf (.ref a)) cls := fun A Q E s k z => wpAny_typeOf_ref (k _ _ g3) (by rw [z3.1]; exact z)
    have mt3 := PySem.W.exm_one (M := model X.prog X.w) (I3.kIn) ty3 q1
    have named : ∀ {Q : Value → Shared → Prop} {E : Value → Shared → Prop}, Q c { st' with heap := hp3 } → wpAny (model X.prog X.w) (X.A.mark (some (.ref a))) (eval (.Name x np) X.env) Q E { st' with heap := hp3 } := fun {Q E} z => by
      obtain ⟨n1, n2, n3 | ⟨n3, n4, n5⟩⟩ := nam
      · exact ld_glob (X := X.suite a ((a, o3) :: (X.pn ++ pins))) S3 n1 n3 z n2
      · exact ld_blt (X := X.suite a ((a, o3) :: (X.pn ++ pins))) S3 n1 n3 n4 z n5 n2
    refine named (mt3.here ?_)
    cases yes with
    | true =>
      refine (codeAny_handlers_suite_as ?_)
      refine HandSPX.lands_againZ fly3 fun hp4 fly4 up4 => ?_
      have I4 : Inv X pins σ1 h1 { st' with heap := hp4 } := I1.landed ground fly4.1 ((up.trans up3).trans up4) eos ags
      obtain ⟨o4, vs4, g4, z4, d4⟩ := fly4.there
      have S4 := I4.suite g4 d4 na nl nf
      refine store_ok (X := X.suite a ((a, o4) :: (X.pn ++ pins))) (v := .ref a) S4 nd hix (.inl loc) rfl (fun t5 S5 => ?_) (.inr loc)
      refine wpAny_mono ((suiteOk a o4 cls d (X.pn ++ pins) z4 ⟨_, d4⟩).run [] t5 _ h1 _ S5 (qy rfl a na)) (fun flow t6 res => ?_) (fun _ _ z => z.elim)
      have back : ∀ {σ6 : L2.St} {h6 : Hp}, Inv (X.suite a ((a, o4) :: (X.pn ++ pins))) [] σ6 h6 t6 → Inv X ((a, o4) :: pins) σ6 h6 t6 := fun {σ6 h6} S6 =>
        (S6.unsuite okX : Inv X pins σ6 h6 t6).pins_of fun p hp => by
          rcases List.mem_cons.mp hp with z | z
          · rw [z]; exact S6.pin (a, o4) (List.mem_append_left _ List.mem_cons_self)
          · exact S6.pin p (List.mem_append_left _ (List.mem_cons_of_mem _ (List.mem_append_right _ z)))
      cases flow with
      | next =>
        obtain ⟨σ6, h6, S6, q6⟩ := res
        exact gone_ok (back S6) nd hix loc fun t7 J7 => ⟨_, _, track J7 z4 d4 fresh0 nop, q6⟩
      | brk => exact (let ⟨_, _, _, z⟩ := res; z : False).elim
      | cont => exact (let ⟨_, _, _, z⟩ := res; z : False).elim
      | ret u =>
        obtain ⟨v6, σ6, h6, S6, r6, q6⟩ := res
        exact gone_ok (S6.unsuite okX) nd hix loc fun t7 J7 => ⟨_, _, _, J7, r6, q6⟩
    | false =>
      show wpAny _ X.A (handleBy (.ref a) X.env []) _ _ _
      refine (wpAny_handleBy_nil ?_)
      obtain ⟨j1, j2, j3, oe, vs, T, oT, ts', he, hz, hd, hv1, hr⟩ := id fly3
      unfold PySem.passOn
      refine (wpAny_bind (wpAny_field he hd hv1 ?_)); rw [if_neg (show ¬ ((Value.ref T == Value.none) = true) from by simp)]
      have last : wpAny (model X.prog X.w) X.A (setFlight (.ref a) X.env.frame) (fun _ t4 => wpAny (model X.prog X.w) X.A (throw (.ref a) : Sem Flow) (SP X pins D) X.xe t4) X.xe { st' with heap := hp3 } := by
        rw [hfm]
        refine HandSPX.setFlight_upZ fly3 fun hp4 held4 up4 => wpAny_throw (tks _ _ ?_)
        exact ⟨a, G, tI, pins, σ1, h1, cls, d, rfl, I1, ground, (up.trans up3).trans up4, .inr (.inr (by rw [hst]; exact held4)), na, eos, ags, qn rfl⟩
      first | exact wpAny_bind (wpAny_pure (wpAny_bind last)) | exact wpAny_bind last
  · cases flow with
    | next => exact let ⟨σ2, h2, J, q⟩ := res; wpAny_execs_nil ⟨σ2, h2, J.ofTry okX, q⟩
    | brk => exact let ⟨σ2, h2, J, q⟩ := res; ⟨σ2, h2, J.ofTry okX, q⟩
    | cont => exact let ⟨σ2, h2, J, q⟩ := res; ⟨σ2, h2, J.ofTry okX, q⟩
    | ret u => exact let ⟨v, σ2, h2, J, r, q⟩ := res; ⟨v, σ2, h2, J.ofTry okX, r, q⟩
end
/-! ### what is asked of a kept exception -/
def tXh (K : PySem.W.Frag) (f : Str) (te : TE) : TE := fun σ H Q => te σ H fun x H1 => ∃ (a C dd : Addr) (fs : List (Str × V)) (v : V), x = .ref a ∧ H1 a = some (exh a (.ref C) (some dd)) ∧ H1 dd = some (.xd fs) ∧ XfC K C ∧ PySem.W.findIn K (.ref C) f = some none ∧ fs.lookup f = some v ∧ Q v H1
theorem pe_xh {X : Cx} {e : Expr} {te : TE} {pos : Pos} {n : Str} (he : PE X e te) (hb : attributeBase e n X.env (eval e X.env) = eval e X.env := by rfl) : PE X (.Attribute e n pos) (tXh X.K n te) := by
  refine ⟨fun pins st σ h Q inv rdg => attr_of hb (thn (he.run pins st σ h _ inv rdg) fun u s1 res => ?_)⟩
  obtain ⟨x, h1, I1, rx, a, C, dd, fs, v, rfl, ea, ed, T, no, look, q⟩ := res
  obtain rfl : u = Value.ref a := rx
  obtain ⟨o, vs, g, z, hd⟩ := exh_at I1.hok ea
  obtain ⟨mA, ns, rel⟩ := (I1.hok dd _ ed : ObjOk X.prog X.w h1 s1.heap dd (.xd fs))
  obtain ⟨od, ho, hl⟩ := lookIn_ns ns
  obtain ⟨u, hu, ru⟩ := RelO.some_of (v := v) (o := mA n) (look ▸ rel n)
  have J : PySem.W.InstAt s1.heap a o C (some od) := ⟨g, z.1, by unfold PySem.W.notCls; rw [hd] <;> rfl, z.2.symm ▸ ho⟩
  exact HandSPX.exc_get I1.kIn J T.ga T.gg T.exC (PySem.W.findObj_own T.hdC no rfl (by rw [hl, hu])) (handed_of ru) ⟨v, h1, I1.tok _, ru, q⟩
/-- isinstance(y, c), y a kept exception with a dict -/
def rIsH (K : PySem.W.Frag) : List V → Hp → VK → Prop := fun xs H Q => ∃ (a C dd : Addr) (fs : List (Str × V)) (c : V) (u : Value) (b : Bool), xs = [.ref a, c] ∧ H a = some (exh a (.ref C) (some dd)) ∧ H dd = some (.xd fs) ∧ ExcC K C ∧ ClsV c u ∧ PySem.W.kitOne K (.ref C) u = some b ∧ Q (.bl b) H
theorem call_isH {X : Cx} : CallR X (.builtin "isinstance") (rIsH X.K) := by
  intro pins st σ h xs us Q inv rel pre
  obtain ⟨a, C, dd, fs, c, u, b, rfl, ea, ed, T, k, e, q⟩ := pre
  obtain ⟨w1, w2, rfl, r1, r2⟩ := vals2 rel
  obtain rfl : w1 = Value.ref a := r1
  obtain rfl := k.eq r2
  obtain ⟨o, vs, g, z, hd⟩ := exh_at inv.hok ea
  obtain ⟨mA, ns, rl⟩ := (inv.hok dd _ ed : ObjOk X.prog X.w h st.heap dd (.xd fs))
  obtain ⟨od, ho, hl⟩ := lookIn_ns ns
  have J : PySem.W.InstAt st.heap a o C (some od) := ⟨g, z.1, by unfold PySem.W.notCls; rw [hd] <;> rfl, z.2.symm ▸ ho⟩
  have hcl : (PySem.W.clsIn X.K C).isSome = true := by
    have z := T.hd
    unfold PySem.W.hasDictIn at z
    cases e : PySem.W.clsIn X.K C with
    | none => rw [e] at z; cases z
    | some _ => rfl
  exact PySem.W.kia_one (PySem.W.kitx_exc hcl T.hg T.hk T.hs T.ha T.hn T.ht T.hm) inv.kIn J e (fun z => nomatch z) fun tk => ⟨.bl b, h, inv.tok tk, rfl, q⟩
/-! ### raise C(e) -/
structure ErrMk (P : Program) (w : World) (K : PySem.W.Frag) (mg : Str → Option Value) (base : Heap) (C : Addr) (x fld : Str) : Prop where
  ex : ∃ (fI : Addr) (fd : FuncData) (vn : Str), OexC K C ∧ PySem.W.findIn K (.ref C) "__init__" = some (some (.ref fI)) ∧ PySem.W.typeIn K (.ref fI) = some (.type "function") ∧ FnOk P w K mg base CX0 1 fI fd ["self", vn] (spXI C fld) ∧ Binds K fd ["self", vn] [] ∧ mg x = some (.ref C)
theorem pmkC {X : Cx} {C : Addr} {x fld : Str} {e : Expr} {es : List Expr} {p pos : Pos} {ta : TA} (c : ErrMk X.prog X.w X.K X.mg X.base C x fld) (room : Room 2 X.A) (gl : Gl X x) (ha : PA X (e :: es) ta)
    (d1 : (x == ("__debug__" : Str)) = false := by decide) (d2 : starEach (e :: es) X.env = (false, eval e X.env) :: starEach es X.env := by rfl) (d3 : (backTo pos (starEach es X.env)).any (·.1) = false := by rfl) :
    PMk X (.Call (.Name x p) (e :: es) [] pos) (tMkO C (spXI C fld) [] ta) := by
  obtain ⟨fI, fd, vn, T, i1, i2, F, b, hm⟩ := c.ex
  exact pmk_oex T i1 i2 F room b .nil pass0 gl hm ha d1 d2 d3
theorem r_raiseO {σ : L2.St} {H : Hp} {te : TE} {C : Addr} {fld : Str} {W : XK} (q : te σ H fun v H1 => ∀ (d : Addr) (H' : Hp), Same H1 H' → H' d = some (.xd [(fld, v)]) → W (.ref C) (some d) H') (mono : ∀ (Q1 Q2 : VK), (∀ v H1, Q1 v H1 → Q2 v H1) → te σ H Q1 → te σ H Q2) :
    tMkO C (spXI C fld) [] (tCons te tNil) σ H W := by
  refine mono _ _ (fun v H1 g => ?_) q
  refine ⟨(show 1 ≤ 1000 by decide), fun a na => ⟨a, v, rfl, upd_same, fun dx ndx nda => ?_⟩⟩
  have n1 : H1 dx = none := by
    rw [upd_ne nda] at ndx
    exact ndx
  refine ⟨rfl, dx, [(fld, v)], upd_same, by rw [upd_ne nda]; exact upd_same, n1, g dx _ (fun b o e => ?_) upd_same⟩
  have b1 := ne_of_none e n1
  have b2 := ne_of_none e na
  rw [upd_ne b1, del_ne b2, upd_ne b2, upd_ne b1, upd_ne b2]
  exact e
theorem mono_var {i : Nat} {σ : L2.St} {H : Hp} (Q1 Q2 : VK) (h : ∀ v H1, Q1 v H1 → Q2 v H1) : tVar i σ H Q1 → tVar i σ H Q2 := fun ⟨v, e, q⟩ => ⟨v, e, h _ _ q⟩
end KX

/-! KY: values of many kinds: none, truths, numbers, texts, tuples, lists and dicts of such; repr of a pair, in, isinstance. -/
namespace KY
open PySem PySem.Spec PyProof.Rows L2 KB KG
inductive Sc where
  | non | bl (b : Bool) | int (i : Int) | str (x : Str)
  deriving DecidableEq
def Sc.v : Sc → V
  | .non => .non
  | .bl b => .bl b
  | .int i => .int i
  | .str x => .str x
def Sc.d : Sc → PyData
  | .non => .none
  | .bl b => .bool b
  | .int i => .int i
  | .str x => .str x
inductive Dt where
  | sc (s : Sc) | tup (l : List Sc) | lst (l : List Sc) | dct (l : List (Key × Sc))
def keyD : Key → PyData
  | .inl i => .int i
  | .inr x => .str x
def Dt.d : Dt → PyData
  | .sc s => s.d
  | .tup l => .tuple (l.map Sc.d)
  | .lst l => .list (l.map Sc.d)
  | .dct l => .dict (l.map fun p => (keyD p.1, p.2.d))
def OdAt (H : Hp) (v : V) : Dt → Prop
  | .sc s => v = s.v
  | .tup l => ∃ a, v = .ref a ∧ H a = some (.tup (l.map Sc.v))
  | .lst l => ∃ a, v = .ref a ∧ H a = some (.lst (l.map Sc.v))
  | .dct l => ∃ a, v = .ref a ∧ H a = some (.dK (l.map fun p => (p.1, p.2.v)))
theorem OdAt.to {H H' : Hp} {v : V} {t : Dt} (h : OdAt H v t) (k : ∀ a o, v = .ref a → H a = some o → H' a = some o) : OdAt H' v t := by
  cases t with
  | sc s => exact h
  | tup l => obtain ⟨a, e, g⟩ := h; exact ⟨a, e, k a _ e g⟩
  | lst l => obtain ⟨a, e, g⟩ := h; exact ⟨a, e, k a _ e g⟩
  | dct l => obtain ⟨a, e, g⟩ := h; exact ⟨a, e, k a _ e g⟩
theorem OdAt.same {H H' : Hp} {v : V} {t : Dt} (h : OdAt H v t) (s : Same H H') : OdAt H' v t := h.to fun a o _ e => s a o e
section
variable {X : Cx} {pins : List (Addr × Obj)} {σ : L2.St} {H : Hp} {st : Shared}
theorem sc_reads {h : Heap} {u : Value} : ∀ s : Sc, RelV s.v u → Reads h u s.d []
  | .non, r => by cases (show u = Value.none from r); exact .none
  | .bl b, r => by cases (show u = Value.bool b from r); exact .bool b
  | .int i, r => by obtain ⟨t, rfl⟩ := (show ∃ t, u = Value.int i t from r); exact .int i t
  | .str x, r => by obtain ⟨t, rfl⟩ := (show ∃ t, u = Value.str x t from r); exact .str x t
theorem scs_reads {h : Heap} : ∀ (l : List Sc) (us : List Value), Vals (l.map Sc.v) us → ReadsAll h us (l.map Sc.d) []
  | [], us, r => by cases r; exact .nil
  | s :: l, us, r => by
    cases r with
    | cons r1 r2 => exact .cons (sc_reads s r1) (scs_reads l _ r2)
theorem dict_reads {P : Program} {w : World} {h : Heap} : ∀ (l : List (Key × Sc)) (vs : List (Key × Value)) (es : List DictEntry), KV (l.map fun p => (p.1, p.2.v)) vs → Pairs (mixKind P w) es vs →
    ReadsAll h (es.map (·.key)) ((l.map fun p => (keyD p.1, p.2.d)).map (·.1)) [] ∧ ReadsAll h (es.map (·.val)) ((l.map fun p => (keyD p.1, p.2.d)).map (·.2)) []
  | [], vs, es, k, p => by
    cases k
    cases p
    exact ⟨.nil, .nil⟩
  | (ky, s) :: l, vs, es, k, p => by
    cases k with
    | cons k1 k2 =>
      cases p with
      | cons p1 p2 p3 =>
        rename_i e es
        obtain ⟨g1, g2⟩ := dict_reads l _ _ k2 p3
        have r2 := k1.2
        rw [← p2] at r2
        refine ⟨?_, .cons (sc_reads s r2) g2⟩
        have e1 := k1.1
        have hk : keyIs ky e.key = true := by
          have z := p1
          rw [← e1] at z
          exact z
        have hr : Reads h e.key (keyD ky) [] := by
          rcases keyIs_shape hk with ⟨i, t, rfl, q⟩ | ⟨x, t, rfl, q⟩
          · rw [q]
            exact .int i t
          · rw [q]
            exact .str x t
        exact .cons hr g1
theorem noD_sc : ∀ s : Sc, s.d.hasDict = false
  | .non => rfl
  | .bl _ => rfl
  | .int _ => rfl
  | .str _ => rfl
theorem noD_scs : ∀ l : List Sc, PyData.hasDictAll (l.map Sc.d) = false
  | [] => by simp only [List.map_nil, PyData.hasDictAll]
  | s :: l => by simp only [List.map_cons, PyData.hasDictAll, noD_sc s, noD_scs l, Bool.or_false]
theorem od_reads {v : V} {u : Value} {t : Dt} (inv : Inv X pins σ H st) (o : OdAt H v t) (r : RelV v u) : ∃ as, Reads st.heap u t.d as ∧ (t.d.hasDict = true → sysModules ∉ as) := by
  cases t with
  | sc s =>
    obtain rfl : v = s.v := o
    exact ⟨_, sc_reads s r, fun _ => List.not_mem_nil⟩
  | tup l =>
    obtain ⟨a, rfl, e⟩ := o
    obtain rfl : u = Value.ref a := r
    obtain ⟨its, rv, ⟨ob, ho, hc, n, hd⟩, _⟩ := inv.tuple (SqT.of e)
    exact ⟨_, .tuple ho hc hd (scs_reads l _ rv), fun _ => List.not_mem_nil⟩
  | lst l =>
    obtain ⟨a, rfl, e⟩ := o
    obtain rfl : u = Value.ref a := r
    obtain ⟨its, rv, ⟨ob, n, ho, hc, _, hd⟩, _⟩ := inv.list (SqL.of e)
    refine ⟨_, .list ho hc hd (scs_reads l _ rv), fun z => ?_⟩
    simp only [Dt.d, PyData.hasDict, noD_scs l] at z
    cases z
  | dct l =>
    obtain ⟨a, rfl, e⟩ := o
    obtain rfl : u = Value.ref a := r
    obtain ⟨_, ns, vs, kv, ob, es, ep, ho, hex, hd, _, prs, _⟩ := dk_of inv.hok e
    obtain ⟨g1, g2⟩ := dict_reads (h := st.heap) l _ _ kv prs
    refine ⟨_, .dict ho hex.1 hd g1 g2, fun _ m => ?_⟩
    have m' : sysModules ∈ [a] := m
    rw [List.mem_singleton] at m'
    rw [← m'] at ns
    simp at ns
end
/-! ### repr of [tag, v] -/
section
variable {P : Program} {w : World} {A : Around} {E : Value → Shared → Prop} {s : Shared} {Z : Value → Shared → Prop}
end
/-- the pair [tag, v] as data -/
def pairD (tag : Str) (t : Dt) : PyData := .list [.str tag, t.d]
structure Fit (tag : Str) (t : Dt) : Prop where
  ok : PyData.showable t.d = true
  deep : (pairD tag t).depth ≤ 60
  sz : (pairD tag t).shown.length ≤ sizeLine
section
variable {X : Cx}
def rReprT : List V → Hp → VK → Prop := fun xs H Q => ∃ (p : Addr) (tag : Str) (v : V) (t : Dt), xs = [.ref p] ∧ H p = some (.lst [.str tag, v]) ∧ OdAt H v t ∧ Fit tag t ∧ Q (.str (pairD tag t).shown) H
end
/-! ### a text beside a dict -/
section
open PySem.SeqAt PySem.MeetsSeq PySem.AutoSeq1
variable {A : Around} {s : Shared}
end
/-! ### v in a tuple of texts -/
def Dt.isIn (zs : List Str) : Dt → Bool
  | .sc (.str x) => decide (x ∈ zs)
  | _ => false
section
variable {X : Cx}
def rNotInO (K : PySem.W.Frag) : R2 := fun x y H Q => ∃ (p : Addr) (zs : List Str) (t : Dt), y = .ref p ∧ SqT K H p (zs.map V.str) ∧ OdAt H x t ∧ Q (.bl (!t.isIn zs)) H
end
/-! ### its type -/
def Dt.ty : Dt → String
  | .sc .non => "NoneType"
  | .sc (.bl _) => "bool"
  | .sc (.int _) => "int"
  | .sc (.str _) => "str"
  | .tup _ => "tuple"
  | .lst _ => "list"
  | .dct _ => "dict"
theorem OdAt.tyX {K : PySem.W.Frag} {H : Hp} {v : V} {t : Dt} (h : OdAt H v t) : TyX K H v (.type t.ty) := by
  cases t with
  | sc s =>
    obtain rfl : v = s.v := h
    cases s with
    | non => exact .base .non
    | bl b => exact .base (.bl b)
    | int i => exact .base (.int i)
    | str x => exact .base (.str x)
  | tup l => obtain ⟨a, rfl, e⟩ := h; exact .base (.tup e)
  | lst l => obtain ⟨a, rfl, e⟩ := h; exact .base (.lst e)
  | dct l => obtain ⟨a, rfl, e⟩ := h; exact .base (.dK e)
def Dt.isStr : Dt → Bool
  | .sc (.str _) => true
  | _ => false
theorem r_isStr {K : PySem.W.Frag} {H : Hp} {Q : VK} {v : V} {t : Dt} (h : OdAt H v t) (q : Q (.bl t.isStr) H) : rIsi K [v, .ty "str"] H Q := by
  refine ⟨v, .ty "str", _, .type "str", t.isStr, rfl, .ty _, h.tyX, ?_, q⟩
  have h1 : kitB "NoneType" "str" = some false ∧ kitB "bool" "str" = some false ∧ kitB "int" "str" = some false ∧ kitB "str" "str" = some true ∧ kitB "tuple" "str" = some false ∧ kitB "list" "str" = some false ∧ kitB "dict" "str" = some false := by decide +kernel
  cases t with
  | sc s =>
    cases s with
    | non => exact kit_ty h1.1
    | bl b => exact kit_ty h1.2.1
    | int i => exact kit_ty h1.2.2.1
    | str x => exact kit_ty h1.2.2.2.1
  | tup l => exact kit_ty h1.2.2.2.2.1
  | lst l => exact kit_ty h1.2.2.2.2.2.1
  | dct l => exact kit_ty h1.2.2.2.2.2.2
/-! ### list.count of truths -/
section
variable {X : Cx}
def rCntB (K : PySem.W.Frag) : V → List V → Hp → VK → Prop := fun x xs H Q => ∃ (p : Addr) (bs : List Bool) (b : Bool), x = .ref p ∧ xs = [.bl b] ∧ SqL K H p (bs.map V.bl) ∧ Q (.int (bs.count b : Nat)) H
end
end KY

/-! KL: lambdas handed to a def that asks them; the law's end with tables of code objects, no repr under way; own == beside other types. -/
namespace KL
open PySem PySem.Spec PyProof.Rows L2 KB KG LamX
/-! ### the law's end -/
section
variable {P : Program} {w : World} {K : PySem.W.Frag} {mg bm : Str → Option Value} {k : Nat} {fa a : Addr} {cs : List (Addr × Addr)} {fd : FuncData} {x : Str} {sp : Sp} {st : Shared} {us : List Value} {ns : List Int}
def TabIs (cs : List (Addr × Addr)) (b : Addr) : Prop := ∃ p ∈ cs, p.2 = b
theorem law_GT (kin : K.In st.heap) (gl : st.heap.Ns mainGlobals mg) (bl : st.heap.Ns builtinsNs bm) (bb : ∀ y : Str, y ≠ "__name__" → bm y = bootBuiltins y) (nolim : st.heap.NoLimit) (nogen : st.gens = #[])
    (empty : ∀ p ∈ cs, st.heap.get? p.2 = some (PySem.W.tabObj #[])) (off : ∀ p ∈ cs, K.lookup p.2 = none) (codes : ∀ p ∈ cs, PySem.W.CodeHd st.heap p.1 p.2)
    (bmain : ∃ (m : Addr) (ob : Obj), mg "__builtins__" = some (.ref m) ∧ m ≠ builtinsNs ∧ st.heap.get? m = some ob ∧ ob.cls = .type "module" ∧ ob.dict = some builtinsNs ∧ ob.data = .plain)
    (at_ : st.heap.get? a = some { cls := .type "list", data := .seq us.toArray }) (allInt : IntsAre us ns) (few : ns.length ≤ sizeLine) (room : Room k callerA)
    (F : ∀ base : Heap, K.In base → base.Ns mainGlobals mg → (∀ p ∈ cs, TabB base mg p.1 p.2) → FnG P w K mg base CX0 k fa fd [x] sp) (bind : ∀ (s : Shared) (u : Value), BindsTo s fd ⟨[u], []⟩ [(x, u)])
    (pre : ∀ H : Hp, (∀ p ∈ cs, H p.2 = some (.tbl #[])) → SqL K H a (ns.map V.int) → sp [.ref a] H (fun v _ => v = .bl true) fun _ _ _ => False) :
    codeAny (model P w) callerA (.call (.ref fa) ⟨[.ref a], []⟩) (fun r s2 => r = .ok (.ret (.bool true)) ∧ OldK st.heap s2.heap ∧ s2.os = st.os ∧ AllBare s2.gens) st := by
  classical
  have isT : ∀ {b : Addr}, TabIs cs b → st.heap.get? b = some (PySem.W.tabObj #[]) := fun {b} ⟨p, hp, e⟩ => e ▸ empty p hp
  have aT : ¬ TabIs cs a := fun z => by
    have y := isT z
    rw [at_] at y
    have y2 : Data.seq us.toArray _ = Data.fields #[] := congrArg Obj.data (Option.some.inj y)
    cases y2
  have main : ∀ H : Hp, (∀ b, TabIs cs b → H b = some (.tbl #[])) → (∀ b, H b = none ∨ TabIs cs b ∨ ∃ o ys, H b = some (.frz o (.lst ys))) → SqL K H a (ns.map V.int) → HOk P w H st.heap → (∀ b, H b ≠ none → b = a ∨ TabIs cs b) → (H a ≠ none → K.lookup a = none) →
      codeAny (model P w) callerA (.call (.ref fa) ⟨[.ref a], []⟩) (fun r s2 => r = .ok (.ret (.bool true)) ∧ OldK st.heap s2.heap ∧ s2.os = st.os ∧ AllBare s2.gens) st := by
    intro H tabs only sq hok isA noK
    have free_of : ∀ {b : Addr} {o : Obj}, st.heap.get? b = some o → (∀ ys m, o.data ≠ .seq ys m) → o.data ≠ .fields #[] → H b = none := by
      intro b o e nd nf
      cases q : H b with
      | none => rfl
      | some z =>
        rcases isA b (by rw [q]; simp) with eb | eb
        · rw [eb, at_] at e
          exact absurd (congrArg Obj.data (Option.some.inj e)).symm (nd _ _)
        · rw [isT eb] at e
          exact absurd (congrArg Obj.data (Option.some.inj e)).symm nf
    have kb : K.In (hidT st.heap H) := by
      intro b o e
      refine hidT_get (kin b o e) ?_
      cases q : H b with
      | none => rfl
      | some z =>
        rcases isA b (by rw [q]; simp) with eb | ⟨p, hp, eb⟩
        · rw [eb] at e q
          rw [noK (by rw [q]; simp)] at e
          cases e
        · rw [← eb, off p hp] at e
          cases e
    have ns_of : ∀ {b : Addr} {m : Str → Option Value}, st.heap.Ns b m → (hidT st.heap H).Ns b m := by
      intro b m h
      obtain ⟨o, es, ep, e, d, r⟩ := h
      exact ⟨o, es, ep, hidT_get e (free_of e (fun ys n z => by rw [d] at z; cases z) (fun z => by rw [d] at z; cases z)), d, r⟩
    have hm : Mod K mg (hidT st.heap H) := ⟨kb, ns_of gl, ⟨bm, ns_of bl, bb⟩, by obtain ⟨mc, z1, z2⟩ := nolim; exact ⟨mc, ns_of z1, z2⟩⟩
    have tb : ∀ p ∈ cs, TabB (hidT st.heap H) mg p.1 p.2 := by
      intro p hp
      have hTp := empty p hp
      refine ⟨?_, ?_, fun z => ?_⟩
      · obtain ⟨o, ws, file, tf, flags, tg, inF, text, tt, e1, r1, r2, r3, rest⟩ := codes p hp
        refine ⟨o, ws, file, tf, flags, tg, inF, text, tt, hidT_get e1 (free_of e1 (fun ys n z => by rw [r2] at z; cases z) (fun z => ?_)), r1, r2, r3, rest⟩
        rw [r2] at z
        cases z
        simp at r3
      · obtain ⟨m, ob, b1, b2, b3, b4, b5, b6⟩ := bmain
        refine ⟨m, ob, b1, b2, fun q => ?_, fun q => ?_, hidT_get b3 (free_of b3 (fun ys n z => by rw [b6] at z; cases z) (fun z => by rw [b6] at z; cases z)), b4, b5, b6⟩
        · obtain ⟨o, es, ep, e, hd, _⟩ := gl
          rw [q, e] at b3
          cases b3
          rw [hd] at b6
          cases b6
        · rw [q, hTp] at b3
          cases b3
          cases b6
      · obtain ⟨o, es, ep, e, hd, _⟩ := gl
        rw [z, hTp] at e
        cases e
        cases hd
    have env : Env0 P w K mg (hidT st.heap H) callerA [] st H := ⟨rfl, hm, fun b o e => of_hidT e, Nat.le_of_eq (hidT_size _ _), trivial, fun b z => (List.not_mem_nil z).elim, hok, .of_eq nogen⟩
    refine codeAny_mono ((F _ kb (ns_of gl) tb).go callerA rfl [] st H ⟨[.ref a], []⟩ [.ref a] [.ref a] _ _ room env (bind st (.ref a)) (.cons rfl .nil) (pre H (fun p hp => tabs _ ⟨p, hp, rfl⟩) sq)) fun res s2 z => ?_
    match res, z with
    | .error e, z => exact z.elim
    | .ok .next, z => exact z.elim
    | .ok .brk, z => exact z.elim
    | .ok .cont, z => exact z.elim
    | .ok (.ret u), z =>
      obtain ⟨v, H2, z1, z2, un, hok2, rel, rfl⟩ := z
      obtain rfl : u = Value.bool true := rel
      have stay : ∀ b o, ¬ TabIs cs b → st.heap.get? b = some o → s2.heap.get? b = some o := by
        intro b o nb e
        cases q : H b with
        | none => exact un.keep b o e q (fun y => List.not_mem_nil y) (fun y => List.not_mem_nil y)
        | some y =>
          rcases only b with y1 | y1 | ⟨o1, ys, y1⟩
          · rw [q] at y1; cases y1
          · exact absurd y1 nb
          · have y2 := (hok b _ y1).1
            have y3 := (hok2 b _ (un.frzs b o1 _ y1)).1
            rw [e] at y2
            rw [Option.some.inj y2]
            exact y3
      have grown : ∀ p ∈ cs, ∃ more : Array Value, s2.heap.get? p.2 = some { cls := .none, data := .fields more } := by
        intro p hp
        obtain ⟨more, y⟩ := un.tbls p.2 #[] (tabs _ ⟨p, hp, rfl⟩)
        exact ⟨_, hok2 p.2 _ y⟩
      refine ⟨rfl, ⟨fun b o e => ?_, fun b o e => ?_⟩, z1, z2⟩
      · by_cases hb : TabIs cs b
        · obtain ⟨p, hp, rfl⟩ := hb
          obtain ⟨more, g⟩ := grown p hp
          rw [empty p hp] at e
          cases e
          exact .inr (.inl ⟨((codes p hp).tab (empty p hp)).isCodeTable, rfl, #[], more, rfl, by rw [Array.empty_append]; exact g⟩)
        · exact .inl (stay b o hb e)
      · by_cases hb : TabIs cs b
        · obtain ⟨p, hp, rfl⟩ := hb
          obtain ⟨more, g⟩ := grown p hp
          exact ⟨_, g⟩
        · exact ⟨o, stay b o hb e⟩
  have vals := vals_ints allInt
  have lens := allInt.length
  cases look : K.lookup a with
  | some o =>
    have e := kin a o look
    rw [at_] at e
    obtain rfl := Option.some.inj e
    refine main (fun b => if TabIs cs b then some (.tbl #[]) else none) (fun b hb => if_pos hb) (fun b => ?_) (.inr ⟨_, us.toArray, _, look, rfl, rfl, rfl, by rw [List.size_toArray, lens]; exact few, by simpa using vals⟩) (fun b u z => ?_) (fun b z => ?_) (fun z => absurd (if_neg aT) z)
    · by_cases hb : TabIs cs b
      · exact .inr (.inl hb)
      · exact .inl (if_neg hb)
    · by_cases hb : TabIs cs b
      · have y := (if_pos hb).symm.trans z
        cases y
        exact isT hb
      · have y := (if_neg hb).symm.trans z
        cases y
    · by_cases hb : TabIs cs b
      · exact .inr hb
      · exact absurd (if_neg hb) z
  | none =>
    refine main (upd (fun b => if TabIs cs b then some (.tbl #[]) else none) a (.frz { cls := .type "list", data := .seq us.toArray } (.lst (ns.map V.int)))) (fun b hb => ?_) (fun b => ?_) (.inl (.inr ⟨_, upd_same⟩)) (fun b y z => ?_) (fun b z => ?_) fun _ => look
    · rw [upd_ne (show b ≠ a from fun z => aT (by rw [← z]; exact hb))]
      exact if_pos hb
    · by_cases eb : b = a
      · rw [eb, upd_same]; exact .inr (.inr ⟨_, _, rfl⟩)
      · rw [upd_ne eb]
        by_cases hb : TabIs cs b
        · exact .inr (.inl hb)
        · exact .inl (if_neg hb)
    · by_cases eb : b = a
      · subst eb
        rw [upd_same] at z
        obtain rfl := Option.some.inj z
        exact ⟨at_, by rw [List.length_map]; exact few, us, _, vals, at_⟩
      · rw [upd_ne eb] at z
        by_cases hb : TabIs cs b
        · have y := (if_pos hb).symm.trans z
          cases y
          exact isT hb
        · have y := (if_neg hb).symm.trans z
          cases y
    · by_cases eb : b = a
      · exact .inl eb
      · by_cases hb : TabIs cs b
        · exact .inr hb
        · exact absurd ((upd_ne eb).trans (if_neg hb)) z
end
/-- the goal that the head leaves, from the law's own promise; names: the defs whose tables are wanted -/
theorem walkGT {l : PySem.W.OpenLaw} {n k : Nat} {q : Program} {loose : List Str} {XP : (Str → Option Value) → Heap → Prop} {YP : World → Heap → Prop} {d : DefRec} {K : Params → PySem.W.Frag} {sp : World → List (Addr × Addr) → Sp} {x : Str} {names : List Str}
    (hn : l.most = some n) (n2 : n ≤ sizeLine) (nodef : d.params.defaults = []) (room : Room k callerA) (recs : (names.all fun y => (recsOf q).any fun e => e.name == y) = true) (hY : ∀ (w : World) (h : Heap), YP w h → (K w.params).In h)
    (F : ∀ (w : World) (mg : Str → Option Value) (fa : Addr) (h : Heap), (K w.params).In h → h.Ns mainGlobals mg → mg d.name = some (.ref fa) →
      ∃ (fd : FuncData) (cs : List (Addr × Addr)), cs.length = names.length ∧ (∀ p ∈ names.zip cs, PySem.W.tabIn (K w.params) p.1 = some p.2) ∧ (∀ p ∈ cs, (K w.params).lookup p.2 = none) ∧ (∀ (s : Shared) (u : Value), BindsTo s fd ⟨[u], []⟩ [(x, u)]) ∧
        ∀ base : Heap, (K w.params).In base → base.Ns mainGlobals mg → (∀ p ∈ cs, TabB base mg p.1 p.2) → FnG l.prog w (K w.params) mg base CX0 k fa fd [x] (sp w cs))
    (pre : ∀ (w : World) (H : Hp) (a : Addr) (cs : List (Addr × Addr)) (ns : List Int), ns.length ≤ n → (∀ p ∈ cs, H p.2 = some (.tbl #[])) → SqL (K w.params) H a (ns.map V.int) → sp w cs [.ref a] H (fun v _ => v = .bl true) fun _ _ _ => False) :
    PySem.W.WalkO q loose XP YP l.row.toRowW d [] (fun f vs => PySem.call f vs) := by
  refine Att.attach_callB hn nodef fun w s0 st mg bm fa o pm cd doc a us ns G Y ho hd hcd hmg hobj allInt size _ nogen => ?_
  have kin := hY w _ Y
  obtain ⟨fd, cs, len, tabs, off, bind, hF⟩ := F w mg fa _ kin G.T.g hmg
  have each : ∀ p ∈ cs, PySem.W.CodeHd st.heap p.1 p.2 ∧ st.heap.get? p.2 = some (PySem.W.tabObj #[]) := by
    intro p hp
    obtain ⟨i, hi, e⟩ := List.getElem_of_mem hp
    have hi2 : i < names.length := by omega
    have m : (names[i], p) ∈ names.zip cs := by
      rw [← e]
      have hz : i < (names.zip cs).length := by rw [List.length_zip]; omega
      have := List.getElem_mem hz
      rwa [List.getElem_zip] at this
    have t := tabs _ m
    have r := List.all_eq_true.mp recs names[i] (List.getElem_mem hi2)
    have s : ((recsOf q).find? fun e => e.name == names[i]).isSome = true := by
      rw [List.find?_isSome]
      obtain ⟨y, y1, y2⟩ := List.any_eq_true.mp r
      exact ⟨y, y1, y2⟩
    obtain ⟨dL, hL⟩ := Option.isSome_iff_exists.mp s
    exact PySem.W.tab_of G.T kin hL t
  exact law_GT kin G.T.g G.T.b G.T.builtins G.T.nolimit nogen (fun p hp => (each p hp).2) off (fun p hp => (each p hp).1) G.T.bmain hobj allInt (Nat.le_trans size n2) room hF bind fun H hH sq => pre w H a cs ns size hH sq
/-! ### tables kept -/
theorem tabs_to {T : List (Addr × Str)} {H H' : Hp} (t : Tabs T H) (k : ∀ b o, H b = some o → (∀ xs, o ≠ .lst xs) → H' b = some o) : Tabs T H' := by
  intro p hp
  obtain ⟨ps, h1, h2, h3⟩ := t p hp
  refine ⟨ps, k _ _ h1 (fun xs z => by cases z), h2, fun pos cv hc => ?_⟩
  obtain ⟨c, e1, e2⟩ := h3 pos cv hc
  exact ⟨c, e1, k _ _ e2 (fun xs z => by unfold CodeO at z; cases z)⟩
theorem tabs_same {T : List (Addr × Str)} {H H' : Hp} (t : Tabs T H) (s : Same H H') : Tabs T H' := tabs_to t fun b o e _ => s b o e
/-- an exception taken knows how many names there are -/
theorem takes_len {X : Cx} {W : WX} (tk : Takes X W) : Takes X (fun cls d σ H => σ.length = X.N.length → W cls d σ H) := fun u s' ⟨a, B, sI, pins, σ, H, cls, d, e, I, nb, up, sky, na, os, ag, w⟩ =>
  tk u s' ⟨a, B, sI, pins, σ, H, cls, d, e, I, nb, up, sky, na, os, ag, w I.len⟩
/-- what the lambda's body lets out -/
theorem lam_takes {X : Cx} {A : Around} {outer : List Env} {s : Shared} {H : Hp} {E : XK} {scope : Scope} {f c' : Addr} : Takes (lamCx X A outer s H E scope f c') (fun cls d _ H' => E cls d H') := takes_of rfl rfl rfl rfl
theorem lam_pass {X : Cx} {A : Around} {outer : List Env} {s : Shared} {H : Hp} {E : XK} {scope : Scope} {f c' : Addr} : Passes (L2.CX X.prog X.w) (lamCx X A outer s H E scope f c') E := passes_call lam_takes fun _ _ _ _ h => h
/-- what a def that may raise lets out -/
theorem def_takes {P : Program} {w : World} {K : PySem.W.Frag} {mg : Str → Option Value} {base : Heap} {N : List Str} {ql : Str} {sc : Scope} {f : Addr} {cv : Value} {A : Around} {out : List Env} {st : Shared} {h : Hp} {E : XK} : Takes (cxOf (L2.CX P w) P w K mg base N ql sc f cv A out st h E) (fun cls d _ H' => E cls d H') := takes_of rfl rfl rfl rfl
/-! ### own == beside a value of another type -/
section
variable {X : Cx}
def rEqOth (K : PySem.W.Frag) (C : Addr) (sp : Sp) : R2 := fun x y H Q => ∃ (a dx : Addr) (fs : List (Str × V)) (T : String), x = .ref a ∧ H a = some (.ins C dx fs) ∧ TyB K H y T ∧ (T = "str" ∨ T = "list" ∨ T = "tuple") ∧ PySem.W.notFirst K C (.type T) = true ∧ sp [x, y] H Q E0
end
end KL


namespace K35
open PySem L2 KB
/-! ### the head, ahead of the walks -/
def spLaw (K : PySem.W.Frag) (cs : List (Addr × Addr)) : Sp := fun vs H Q _ => ∃ (a : Addr) (ns : List Int), vs = [.ref a] ∧ SqL K H a (ns.map V.int) ∧ ns.length ≤ 63 ∧ (∀ p ∈ cs, H p.2 = some (.tbl #[])) ∧ ∀ H', Q (.bl true) H'
theorem hidP {G P : Prop} (_ : G) (p : P) : P := p
/-- the head's run, looked at in parts: each part is checked by itself, so that its memory is given back -/
theorem run_split {S C D B1 B2 : Type} {E : Option S} {l : S → B1} {o : S → B2} {g : S → C → D} {as : List C} {x : B1} {y : B2} {v : List D} (h1 : E.map (fun s => (l s, o s)) = some (x, y)) (h2 : E.map (fun s => as.map (g s)) = some v) : E.map (fun s => (l s, o s, as.map (g s))) = some (x, y, v) := by
  cases E with
  | none => cases h2
  | some s =>
    have a := Option.some.inj h1
    have b := Option.some.inj h2
    simp only [Prod.mk.injEq] at a
    show some (l s, o s, as.map (g s)) = some (x, y, v)
    have b2 : as.map (g s) = v := b
    rw [a.1, a.2, b2]
theorem run_two {S B1 B2 : Type} {E : Option S} {l : S → B1} {o : S → B2} {x : B1} {y : B2} (h1 : E.map l = some x) (h2 : E.map o = some y) : E.map (fun s => (l s, o s)) = some (x, y) := by
  cases E with
  | none => cases h1
  | some s =>
    have a : l s = x := Option.some.inj h1
    have b : o s = y := Option.some.inj h2
    show some (l s, o s) = some (x, y)
    rw [a, b]
theorem run_pair {S B1 B2 : Type} {E : Option S} {f : S → B1 × B2} {v : B1 × B2} (h1 : E.map (fun s => (f s).1) = some v.1) (h2 : E.map (fun s => (f s).2) = some v.2) : E.map f = some v := by
  cases E with
  | none => cases h1
  | some s =>
    have a : (f s).1 = v.1 := Option.some.inj h1
    have b : (f s).2 = v.2 := Option.some.inj h2
    show some (f s) = some v
    rw [show f s = v from Prod.ext a b]
structure BoxN (n : Nat) (P : Prop) : Prop where
  get : P
/-- the head in parts: each part is a field of its own, so that the kernel looks at it by itself; T10 is what the head leaves -/
structure HD (G : Prop) : Type where
  T1 : Prop
  T2 : Prop
  T3 : Prop
  T4 : Prop
  T10 : Prop
  r1 : T1
  r2 : T2
  r3 : T3
  r4 : T4
  imp : BoxN 1 T1 → BoxN 2 T2 → BoxN 3 T3 → BoxN 4 T4 → BoxN 10 T10 → G
theorem HD.go {G : Prop} (d : HD G) (h : d.T10) : G := d.imp ⟨d.r1⟩ ⟨d.r2⟩ ⟨d.r3⟩ ⟨d.r4⟩ ⟨h⟩
end K35
section
open PySem PySem.W PyProof.Rows
local macro_rules
  | `($f:ident ($g $k $a (fun _ => by kernel_rfl))) => do
    let h := Lean.mkIdent `h10
    if f.getId.eraseMacroScopes == `Hook.says || f.getId.eraseMacroScopes == `PySem.W.Hook.says then `($f ($g $k $a (fun _ => K35.hidP $h (by kernel_rfl)))) else Lean.Macro.throwUnsupported
local macro_rules | `(tactic| kernel_rfl) => `(tactic| (rename_i w os; with_reducible refine K35.run_split ?a ?b; (case a => (refine K35.run_two ?a7 ?b7; (case a7 => (revert w os; refine K35.BoxN.get (n := 1) ?h; (case h => assumption))); (case b7 => (refine K35.run_pair ?a6 ?b6; (case a6 => (revert w os; refine K35.BoxN.get (n := 2) ?h; (case h => assumption))); (case b6 => (revert w os; refine K35.BoxN.get (n := 3) ?h; (case h => assumption))))))); (case b => (revert w os; refine K35.BoxN.get (n := 4) ?h; (case h => assumption)))))
set_option maxRecDepth 100000 in
set_option maxHeartbeats 0 in
noncomputable def K35.headD : K35.HD PySem.Challenge.rw_keptbits_k35_steps_refused.Holds := by
  refine' ⟨_, _, _, _, _, ?r1, ?r2, ?r3, ?r4, fun h1 h2 h3 h4 h10 => ?imp⟩
  case imp =>
    w_on; o_law; k_headL
    case hw => w_witness2
    refine KL.walkGT (l := PySem.Challenge.rw_keptbits_k35_steps_refused) (n := 63) (k := 13) (x := "_law_script") (names := ["_law_refused", "_law_plain_refused"]) (sp := fun w cs => K35.spLaw _ cs) rfl (by decide) rfl ⟨rfl, by decide, by decide⟩ ?R (fun w h Y => PySem.W.kIn_of Y) ?F (fun _ _ a cs ns hl hT hS => ⟨a, ns, rfl, hS, hl, hT, fun _ => rfl⟩)
    case R => exact rfl
    refine K35.BoxN.get (n := 10) ?hx
    case hx => assumption
  case r1 => intro w os; kernel_rfl
  case r2 => intro w os; kernel_rfl
  case r3 => intro w os; kernel_rfl
  case r4 => intro w os; kernel_rfl
end

namespace K35
open PySem L2 KB
def top (i : Nat) : Stmt := PySem.Challenge.pw_keptbits_k35_steps_refused.main.body.getD i (.Pass ⟨0, 0, 0, 0⟩)
abbrev s_NoName___init__ : Stmt := inClass (top 9) 0
abbrev s_TooLarge___init__ : Stmt := inClass (top 13) 0
abbrev s_is_integer : Stmt := top 17
abbrev s_need_width : Stmt := top 18
abbrev s_ones : Stmt := top 19
abbrev s_is_word : Stmt := top 20
abbrev s_need_word : Stmt := top 21
abbrev s_shifted : Stmt := top 22
abbrev s_need_step : Stmt := top 24
abbrev s_Blend___init__ : Stmt := inClass (top 25) 0
abbrev s_Blend_constant : Stmt := inClass (top 25) 1
abbrev s_Blend_is_constant : Stmt := inClass (top 25) 2
abbrev s_Blend___call__ : Stmt := inClass (top 25) 3
abbrev s_Blend___and__ : Stmt := inClass (top 25) 4
abbrev s_Blend___rand__ : Stmt := inClass (top 25) 5
abbrev s_Blend___or__ : Stmt := inClass (top 25) 6
abbrev s_Blend___ror__ : Stmt := inClass (top 25) 7
abbrev s_Blend___xor__ : Stmt := inClass (top 25) 8
abbrev s_Blend___rxor__ : Stmt := inClass (top 25) 9
abbrev s_Blend___invert__ : Stmt := inClass (top 25) 10
abbrev s_Blend___lshift__ : Stmt := inClass (top 25) 11
abbrev s_Blend___rshift__ : Stmt := inClass (top 25) 12
abbrev s_Blend___eq__ : Stmt := inClass (top 25) 13
abbrev s_Blend___repr__ : Stmt := inClass (top 25) 14
abbrev s_moved : Stmt := top 26
abbrev s_is_made_of : Stmt := top 32
abbrev s_is_name : Stmt := top 33
abbrev s_is_variable : Stmt := top 34
abbrev s_is_number : Stmt := top 35
abbrev s_need : Stmt := top 39
abbrev s_is_lane : Stmt := top 40
abbrev s_need_access : Stmt := top 41
abbrev s_meant : Stmt := top 42
abbrev s_with_means : Stmt := top 43
abbrev s_Step_line_words : Stmt := inClass (top 44) 0
abbrev s_Read___init__ : Stmt := inClass (top 45) 0
abbrev s_Read_of : Stmt := inClass (top 45) 1
abbrev s_Read_line_words : Stmt := inClass (top 45) 2
abbrev s_Read___eq__ : Stmt := inClass (top 45) 3
abbrev s_Read___str__ : Stmt := inClass (top 45) 4
abbrev s_Read___repr__ : Stmt := inClass (top 45) 5
abbrev s_Write___init__ : Stmt := inClass (top 46) 0
abbrev s_Write_of : Stmt := inClass (top 46) 1
abbrev s_Write_line_words : Stmt := inClass (top 46) 2
abbrev s_Write___eq__ : Stmt := inClass (top 46) 3
abbrev s_Write___str__ : Stmt := inClass (top 46) 4
abbrev s_Write___repr__ : Stmt := inClass (top 46) 5
abbrev s_Serve___init__ : Stmt := inClass (top 47) 0
abbrev s_Serve_line_words : Stmt := inClass (top 47) 1
abbrev s_Serve___eq__ : Stmt := inClass (top 47) 2
abbrev s_Serve___str__ : Stmt := inClass (top 47) 3
abbrev s_Serve___repr__ : Stmt := inClass (top 47) 4
abbrev s_Pair___init__ : Stmt := inClass (top 48) 0
abbrev s_Pair_line_words : Stmt := inClass (top 48) 1
abbrev s_Pair___eq__ : Stmt := inClass (top 48) 2
abbrev s_Pair___str__ : Stmt := inClass (top 48) 3
abbrev s_Pair___repr__ : Stmt := inClass (top 48) 4
abbrev s__law_pen : Stmt := top 50
abbrev s__law_draw : Stmt := top 51
abbrev s__law_word : Stmt := top 52
abbrev s__law_names : Stmt := top 53
abbrev s__law_variables : Stmt := top 54
abbrev s__law_normal : Stmt := top 55
abbrev s__law_made_step : Stmt := top 56
abbrev s__law_row : Stmt := top 57
abbrev s__law_wrong : Stmt := top 58
abbrev s__law_wrong_means : Stmt := top 59
abbrev s__law_arguments : Stmt := top 60
abbrev s__law_spoil : Stmt := top 61
abbrev s__law_made : Stmt := top 62
abbrev s__law_heard : Stmt := top 63
abbrev s__law_refused : Stmt := top 64
abbrev s__law_plain_refused : Stmt := top 65
abbrev s_law : Stmt := top 66
end K35

namespace K35
open PySem L2 KB
abbrev s_I0 : Stmt := inClass (top 3) 0
abbrev s_I2 : Stmt := inClass (top 5) 0
abbrev s_I3 : Stmt := inClass (top 6) 0
abbrev s_I4 : Stmt := inClass (top 10) 0
def AllMkT : Prop := ∀ {l : PySem.W.OpenLaw} {w : World} {K : PySem.W.Frag} {h : Heap} {mg : Str → Option Value} {fa C_Blend C_Read C_Write C_Serve C_Pair f_is_integer f_need_width f_ones f_is_word f_need_word f_shifted f_Blend___init__ DT_Blend___init__ f_Blend_constant p_Blend_constant f_Blend_is_constant p_Blend_is_constant f_Blend___eq__ f_is_made_of f_is_name f_is_variable f_is_number f_need f_is_lane f_need_access f_meant f_with_means f_Read___init__ f_Read_of p_Read_of DT_Read_of f_Read_line_words f_Read___eq__ f_Read___str__ f_Read___repr__ f_Write___init__ D_Write___init__ f_Write_of p_Write_of DT_Write_of f_Write_line_words f_Write___eq__ f_Write___str__ f_Write___repr__ f_Serve___init__ f_Serve_line_words f_Serve___eq__ f_Serve___str__ f_Serve___repr__ f_Pair___init__ f_Pair_line_words f_Pair___eq__ f_Pair___str__ f_Pair___repr__ f__law_pen f__law_draw f__law_word f__law_names f__law_variables f__law_normal f__law_made_step f__law_row f__law_wrong f__law_wrong_means f__law_arguments f__law_spoil f__law_made f__law_heard f__law_refused f__law_plain_refused f_law aW e0 e2 e3 cda0 ccell0 fI0 N_E0 cda2 ccell2 fI2 N_E2 cda3 ccell3 fI3 N_E3 e4 cda4 ccell4 fI4 N_E4 C_Step aL aZ0 aZ1 CB x0 x1 x2 x3 x4 x5 x7 x8 cR PR cP PP : Addr} (X : K.In h) (G : h.Ns mainGlobals mg) (hfa : mg "law" = some (.ref fa))
    {od_is_integer an_is_integer : Option Addr} {sl_is_integer : Array (Option Value)} {oc_is_integer kV_is_integer dc_is_integer pm_is_integer cd_is_integer ct_is_integer : Value}
    {od_need_width an_need_width : Option Addr} {sl_need_width : Array (Option Value)} {oc_need_width kV_need_width dc_need_width pm_need_width cd_need_width ct_need_width : Value}
    {od_ones an_ones : Option Addr} {sl_ones : Array (Option Value)} {oc_ones kV_ones dc_ones pm_ones cd_ones ct_ones : Value}
    {od_is_word an_is_word : Option Addr} {sl_is_word : Array (Option Value)} {oc_is_word kV_is_word dc_is_word pm_is_word cd_is_word ct_is_word : Value}
    {od_need_word an_need_word : Option Addr} {sl_need_word : Array (Option Value)} {oc_need_word kV_need_word dc_need_word pm_need_word cd_need_word ct_need_word : Value}
    {od_shifted an_shifted : Option Addr} {sl_shifted : Array (Option Value)} {oc_shifted kV_shifted dc_shifted pm_shifted cd_shifted ct_shifted : Value}
    {od_Blend___init__ an_Blend___init__ : Option Addr} {sl_Blend___init__ : Array (Option Value)} {oc_Blend___init__ kV_Blend___init__ dc_Blend___init__ pm_Blend___init__ cd_Blend___init__ ct_Blend___init__ : Value}
    {dd_DT_Blend___init__ : Option Addr} {n_DT_Blend___init__ : Nat} {sl_DT_Blend___init__ : Array (Option Value)} {tk_Blend___init___0 tk_Blend___init___2 : Tok}
    {od_Blend_constant an_Blend_constant : Option Addr} {sl_Blend_constant : Array (Option Value)} {oc_Blend_constant kV_Blend_constant dc_Blend_constant pm_Blend_constant cd_Blend_constant ct_Blend_constant : Value}
    {rs_Blend_constant : List Value}
    {od_Blend_is_constant an_Blend_is_constant : Option Addr} {sl_Blend_is_constant : Array (Option Value)} {oc_Blend_is_constant kV_Blend_is_constant dc_Blend_is_constant pm_Blend_is_constant cd_Blend_is_constant ct_Blend_is_constant : Value}
    {rs_Blend_is_constant : List Value}
    {od_Blend___eq__ an_Blend___eq__ : Option Addr} {sl_Blend___eq__ : Array (Option Value)} {oc_Blend___eq__ kV_Blend___eq__ dc_Blend___eq__ pm_Blend___eq__ cd_Blend___eq__ ct_Blend___eq__ : Value}
    {od_is_made_of an_is_made_of : Option Addr} {sl_is_made_of : Array (Option Value)} {oc_is_made_of kV_is_made_of dc_is_made_of pm_is_made_of cd_is_made_of ct_is_made_of : Value}
    {od_is_name an_is_name : Option Addr} {sl_is_name : Array (Option Value)} {oc_is_name kV_is_name dc_is_name pm_is_name cd_is_name ct_is_name : Value}
    {od_is_variable an_is_variable : Option Addr} {sl_is_variable : Array (Option Value)} {oc_is_variable kV_is_variable dc_is_variable pm_is_variable cd_is_variable ct_is_variable : Value}
    {od_is_number an_is_number : Option Addr} {sl_is_number : Array (Option Value)} {oc_is_number kV_is_number dc_is_number pm_is_number cd_is_number ct_is_number : Value}
    {od_need an_need : Option Addr} {sl_need : Array (Option Value)} {oc_need kV_need dc_need pm_need cd_need ct_need : Value}
    {od_is_lane an_is_lane : Option Addr} {sl_is_lane : Array (Option Value)} {oc_is_lane kV_is_lane dc_is_lane pm_is_lane cd_is_lane ct_is_lane : Value}
    {od_need_access an_need_access : Option Addr} {sl_need_access : Array (Option Value)} {oc_need_access kV_need_access dc_need_access pm_need_access cd_need_access ct_need_access : Value}
    {od_meant an_meant : Option Addr} {sl_meant : Array (Option Value)} {oc_meant kV_meant dc_meant pm_meant cd_meant ct_meant : Value}
    {od_with_means an_with_means : Option Addr} {sl_with_means : Array (Option Value)} {oc_with_means kV_with_means dc_with_means pm_with_means cd_with_means ct_with_means : Value}
    {od_Read___init__ an_Read___init__ : Option Addr} {sl_Read___init__ : Array (Option Value)} {oc_Read___init__ kV_Read___init__ dc_Read___init__ pm_Read___init__ cd_Read___init__ ct_Read___init__ : Value}
    {od_Read_of an_Read_of : Option Addr} {sl_Read_of : Array (Option Value)} {oc_Read_of kV_Read_of dc_Read_of pm_Read_of cd_Read_of ct_Read_of : Value}
    {rs_Read_of : List Value}
    {dd_DT_Read_of : Option Addr} {n_DT_Read_of : Nat} {sl_DT_Read_of : Array (Option Value)}
    {od_Read_line_words an_Read_line_words : Option Addr} {sl_Read_line_words : Array (Option Value)} {oc_Read_line_words kV_Read_line_words dc_Read_line_words pm_Read_line_words cd_Read_line_words ct_Read_line_words : Value}
    {od_Read___eq__ an_Read___eq__ : Option Addr} {sl_Read___eq__ : Array (Option Value)} {oc_Read___eq__ kV_Read___eq__ dc_Read___eq__ pm_Read___eq__ cd_Read___eq__ ct_Read___eq__ : Value}
    {od_Read___str__ an_Read___str__ : Option Addr} {sl_Read___str__ : Array (Option Value)} {oc_Read___str__ kV_Read___str__ dc_Read___str__ pm_Read___str__ cd_Read___str__ ct_Read___str__ : Value}
    {od_Read___repr__ an_Read___repr__ : Option Addr} {sl_Read___repr__ : Array (Option Value)} {oc_Read___repr__ kV_Read___repr__ dc_Read___repr__ pm_Read___repr__ cd_Read___repr__ ct_Read___repr__ : Value}
    {od_Write___init__ an_Write___init__ : Option Addr} {sl_Write___init__ : Array (Option Value)} {oc_Write___init__ dc_Write___init__ pm_Write___init__ cd_Write___init__ ct_Write___init__ : Value}
    {od_Write_of an_Write_of : Option Addr} {sl_Write_of : Array (Option Value)} {oc_Write_of kV_Write_of dc_Write_of pm_Write_of cd_Write_of ct_Write_of : Value}
    {rs_Write_of : List Value}
    {dd_DT_Write_of : Option Addr} {n_DT_Write_of : Nat} {sl_DT_Write_of : Array (Option Value)}
    {od_Write_line_words an_Write_line_words : Option Addr} {sl_Write_line_words : Array (Option Value)} {oc_Write_line_words kV_Write_line_words dc_Write_line_words pm_Write_line_words cd_Write_line_words ct_Write_line_words : Value}
    {od_Write___eq__ an_Write___eq__ : Option Addr} {sl_Write___eq__ : Array (Option Value)} {oc_Write___eq__ kV_Write___eq__ dc_Write___eq__ pm_Write___eq__ cd_Write___eq__ ct_Write___eq__ : Value}
    {od_Write___str__ an_Write___str__ : Option Addr} {sl_Write___str__ : Array (Option Value)} {oc_Write___str__ kV_Write___str__ dc_Write___str__ pm_Write___str__ cd_Write___str__ ct_Write___str__ : Value}
    {od_Write___repr__ an_Write___repr__ : Option Addr} {sl_Write___repr__ : Array (Option Value)} {oc_Write___repr__ kV_Write___repr__ dc_Write___repr__ pm_Write___repr__ cd_Write___repr__ ct_Write___repr__ : Value}
    {od_Serve___init__ an_Serve___init__ : Option Addr} {sl_Serve___init__ : Array (Option Value)} {oc_Serve___init__ kV_Serve___init__ dc_Serve___init__ pm_Serve___init__ cd_Serve___init__ ct_Serve___init__ : Value}
    {od_Serve_line_words an_Serve_line_words : Option Addr} {sl_Serve_line_words : Array (Option Value)} {oc_Serve_line_words kV_Serve_line_words dc_Serve_line_words pm_Serve_line_words cd_Serve_line_words ct_Serve_line_words : Value}
    {od_Serve___eq__ an_Serve___eq__ : Option Addr} {sl_Serve___eq__ : Array (Option Value)} {oc_Serve___eq__ kV_Serve___eq__ dc_Serve___eq__ pm_Serve___eq__ cd_Serve___eq__ ct_Serve___eq__ : Value}
    {od_Serve___str__ an_Serve___str__ : Option Addr} {sl_Serve___str__ : Array (Option Value)} {oc_Serve___str__ kV_Serve___str__ dc_Serve___str__ pm_Serve___str__ cd_Serve___str__ ct_Serve___str__ : Value}
    {od_Serve___repr__ an_Serve___repr__ : Option Addr} {sl_Serve___repr__ : Array (Option Value)} {oc_Serve___repr__ kV_Serve___repr__ dc_Serve___repr__ pm_Serve___repr__ cd_Serve___repr__ ct_Serve___repr__ : Value}
    {od_Pair___init__ an_Pair___init__ : Option Addr} {sl_Pair___init__ : Array (Option Value)} {oc_Pair___init__ kV_Pair___init__ dc_Pair___init__ pm_Pair___init__ cd_Pair___init__ ct_Pair___init__ : Value}
    {od_Pair_line_words an_Pair_line_words : Option Addr} {sl_Pair_line_words : Array (Option Value)} {oc_Pair_line_words kV_Pair_line_words dc_Pair_line_words pm_Pair_line_words cd_Pair_line_words ct_Pair_line_words : Value}
    {od_Pair___eq__ an_Pair___eq__ : Option Addr} {sl_Pair___eq__ : Array (Option Value)} {oc_Pair___eq__ kV_Pair___eq__ dc_Pair___eq__ pm_Pair___eq__ cd_Pair___eq__ ct_Pair___eq__ : Value}
    {od_Pair___str__ an_Pair___str__ : Option Addr} {sl_Pair___str__ : Array (Option Value)} {oc_Pair___str__ kV_Pair___str__ dc_Pair___str__ pm_Pair___str__ cd_Pair___str__ ct_Pair___str__ : Value}
    {od_Pair___repr__ an_Pair___repr__ : Option Addr} {sl_Pair___repr__ : Array (Option Value)} {oc_Pair___repr__ kV_Pair___repr__ dc_Pair___repr__ pm_Pair___repr__ cd_Pair___repr__ ct_Pair___repr__ : Value}
    {od__law_pen an__law_pen : Option Addr} {sl__law_pen : Array (Option Value)} {oc__law_pen kV__law_pen dc__law_pen pm__law_pen cd__law_pen ct__law_pen : Value}
    {od__law_draw an__law_draw : Option Addr} {sl__law_draw : Array (Option Value)} {oc__law_draw kV__law_draw dc__law_draw pm__law_draw cd__law_draw ct__law_draw : Value}
    {od__law_word an__law_word : Option Addr} {sl__law_word : Array (Option Value)} {oc__law_word kV__law_word dc__law_word pm__law_word cd__law_word ct__law_word : Value}
    {od__law_names an__law_names : Option Addr} {sl__law_names : Array (Option Value)} {oc__law_names kV__law_names dc__law_names pm__law_names cd__law_names ct__law_names : Value}
    {od__law_variables an__law_variables : Option Addr} {sl__law_variables : Array (Option Value)} {oc__law_variables kV__law_variables dc__law_variables pm__law_variables cd__law_variables ct__law_variables : Value}
    {od__law_normal an__law_normal : Option Addr} {sl__law_normal : Array (Option Value)} {oc__law_normal kV__law_normal dc__law_normal pm__law_normal cd__law_normal ct__law_normal : Value}
    {od__law_made_step an__law_made_step : Option Addr} {sl__law_made_step : Array (Option Value)} {oc__law_made_step kV__law_made_step dc__law_made_step pm__law_made_step cd__law_made_step ct__law_made_step : Value}
    {od__law_row an__law_row : Option Addr} {sl__law_row : Array (Option Value)} {oc__law_row kV__law_row dc__law_row pm__law_row cd__law_row ct__law_row : Value}
    {od__law_wrong an__law_wrong : Option Addr} {sl__law_wrong : Array (Option Value)} {oc__law_wrong kV__law_wrong dc__law_wrong pm__law_wrong cd__law_wrong ct__law_wrong : Value}
    {od__law_wrong_means an__law_wrong_means : Option Addr} {sl__law_wrong_means : Array (Option Value)} {oc__law_wrong_means kV__law_wrong_means dc__law_wrong_means pm__law_wrong_means cd__law_wrong_means ct__law_wrong_means : Value}
    {od__law_arguments an__law_arguments : Option Addr} {sl__law_arguments : Array (Option Value)} {oc__law_arguments kV__law_arguments dc__law_arguments pm__law_arguments cd__law_arguments ct__law_arguments : Value}
    {od__law_spoil an__law_spoil : Option Addr} {sl__law_spoil : Array (Option Value)} {oc__law_spoil kV__law_spoil dc__law_spoil pm__law_spoil cd__law_spoil ct__law_spoil : Value}
    {od__law_made an__law_made : Option Addr} {sl__law_made : Array (Option Value)} {oc__law_made kV__law_made dc__law_made pm__law_made cd__law_made ct__law_made : Value}
    {od__law_heard an__law_heard : Option Addr} {sl__law_heard : Array (Option Value)} {oc__law_heard kV__law_heard dc__law_heard pm__law_heard cd__law_heard ct__law_heard : Value}
    {od__law_refused an__law_refused : Option Addr} {sl__law_refused : Array (Option Value)} {oc__law_refused kV__law_refused dc__law_refused pm__law_refused cd__law_refused ct__law_refused : Value}
    {od__law_plain_refused an__law_plain_refused : Option Addr} {sl__law_plain_refused : Array (Option Value)} {oc__law_plain_refused kV__law_plain_refused dc__law_plain_refused pm__law_plain_refused cd__law_plain_refused ct__law_plain_refused : Value}
    {od_law an_law : Option Addr} {sl_law : Array (Option Value)} {oc_law kV_law dc_law pm_law cd_law ct_law : Value}
    {dd_W : Option Addr} {n_W : Nat} {sl_W : Array (Option Value)} {tw0 tw1 tw2 : Tok}
    {o_E0 : Obj} {nm_E0 qq_E0 : Str} {bs_E0 bm_E0 : List Value} {sn_E0 : List Str} {sub_E0 : List Value} {ab_E0 : Bool} {col_E0 : Option Bool} {dd_E0 : Option Addr} {k0_E0 k1_E0 k2_E0 k3_E0 k5_E0 : Option Value} {od_I0 an_I0 cdd_I0 cld_I0 : Option Addr} {sl_I0 ccs_I0 csl_I0 : Array (Option Value)} {oc_I0 kV_I0 dc_I0 pm_I0 ct_I0 ccl_I0 cl_I0 : Value} {vs_I0 : Array Value} {file_I0 : Str} {tf_I0 : Tok}
    {o_E2 : Obj} {nm_E2 qq_E2 : Str} {bs_E2 bm_E2 : List Value} {sn_E2 : List Str} {sub_E2 : List Value} {ab_E2 : Bool} {col_E2 : Option Bool} {dd_E2 : Option Addr} {k0_E2 k1_E2 k2_E2 k3_E2 k5_E2 : Option Value} {od_I2 an_I2 cdd_I2 cld_I2 : Option Addr} {sl_I2 ccs_I2 csl_I2 : Array (Option Value)} {oc_I2 kV_I2 dc_I2 pm_I2 ct_I2 ccl_I2 cl_I2 : Value} {vs_I2 : Array Value} {file_I2 : Str} {tf_I2 : Tok}
    {o_E3 : Obj} {nm_E3 qq_E3 : Str} {bs_E3 bm_E3 : List Value} {sn_E3 : List Str} {sub_E3 : List Value} {ab_E3 : Bool} {col_E3 : Option Bool} {dd_E3 : Option Addr} {k0_E3 k1_E3 k2_E3 k3_E3 k5_E3 : Option Value} {od_I3 an_I3 cdd_I3 cld_I3 : Option Addr} {sl_I3 ccs_I3 csl_I3 : Array (Option Value)} {oc_I3 kV_I3 dc_I3 pm_I3 ct_I3 ccl_I3 cl_I3 : Value} {vs_I3 : Array Value} {file_I3 : Str} {tf_I3 : Tok}
    {o_E4 : Obj} {nm_E4 qq_E4 : Str} {bs_E4 bm_E4 : List Value} {sn_E4 : List Str} {sub_E4 : List Value} {ab_E4 : Bool} {col_E4 : Option Bool} {dd_E4 : Option Addr} {k0_E4 k1_E4 k2_E4 k3_E4 k5_E4 : Option Value} {od_I4 an_I4 cdd_I4 cld_I4 : Option Addr} {sl_I4 ccs_I4 csl_I4 : Array (Option Value)} {oc_I4 kV_I4 dc_I4 pm_I4 ct_I4 ccl_I4 cl_I4 : Value} {vs_I4 : Array Value} {file_I4 : Str} {tf_I4 : Tok}
    {tkCA tkIN tkLO tkSM tkMM : Tok}
    {dd_L dd_Z0 : Option Addr} {n_L n_Z0 : Nat} {sl_L sl_Z0 : Array (Option Value)}
    {tl0 tl1 tl2 tl3 tl4 tl5 tl6 : Tok}
    (aC_Blend : PySem.W.nsIn K mainGlobals "Blend" = some (some (.ref C_Blend)))
    (pg_Blend : PySem.W.plainGet K C_Blend Str.empty = true)
    (hd_Blend : PySem.W.hasDictIn K C_Blend = true)
    (po_Blend : PySem.W.plainOver K C_Blend = true)
    (sa_Blend : PySem.W.findIn K (.ref C_Blend) "__setattr__" = some (some (.builtin "object.__setattr__")))
    (mk_Blend : PySem.W.makesIn K C_Blend = true)
    (kc_Blend : PySem.W.keepIn K (.ref C_Blend) = true)
    (n_Blend_width : PySem.W.findIn K (.ref C_Blend) "width" = some none)
    (n_Blend_shift : PySem.W.findIn K (.ref C_Blend) "shift" = some none)
    (n_Blend_keep : PySem.W.findIn K (.ref C_Blend) "keep" = some none)
    (n_Blend_flip : PySem.W.findIn K (.ref C_Blend) "flip" = some none)
    (aC_Read : PySem.W.nsIn K mainGlobals "Read" = some (some (.ref C_Read)))
    (pg_Read : PySem.W.plainGet K C_Read Str.empty = true)
    (hd_Read : PySem.W.hasDictIn K C_Read = true)
    (po_Read : PySem.W.plainOver K C_Read = true)
    (sa_Read : PySem.W.findIn K (.ref C_Read) "__setattr__" = some (some (.builtin "object.__setattr__")))
    (mk_Read : PySem.W.makesIn K C_Read = true)
    (kc_Read : PySem.W.keepIn K (.ref C_Read) = true)
    (n_Read_variable : PySem.W.findIn K (.ref C_Read) "variable" = some none)
    (n_Read_port : PySem.W.findIn K (.ref C_Read) "port" = some none)
    (n_Read_lane : PySem.W.findIn K (.ref C_Read) "lane" = some none)
    (n_Read_means : PySem.W.findIn K (.ref C_Read) "means" = some none)
    (aC_Write : PySem.W.nsIn K mainGlobals "Write" = some (some (.ref C_Write)))
    (pg_Write : PySem.W.plainGet K C_Write Str.empty = true)
    (hd_Write : PySem.W.hasDictIn K C_Write = true)
    (po_Write : PySem.W.plainOver K C_Write = true)
    (sa_Write : PySem.W.findIn K (.ref C_Write) "__setattr__" = some (some (.builtin "object.__setattr__")))
    (mk_Write : PySem.W.makesIn K C_Write = true)
    (kc_Write : PySem.W.keepIn K (.ref C_Write) = true)
    (n_Write_port : PySem.W.findIn K (.ref C_Write) "port" = some none)
    (n_Write_lane : PySem.W.findIn K (.ref C_Write) "lane" = some none)
    (n_Write_blend : PySem.W.findIn K (.ref C_Write) "blend" = some none)
    (n_Write_means : PySem.W.findIn K (.ref C_Write) "means" = some none)
    (n_Write_variable : PySem.W.findIn K (.ref C_Write) "variable" = some none)
    (aC_Serve : PySem.W.nsIn K mainGlobals "Serve" = some (some (.ref C_Serve)))
    (pg_Serve : PySem.W.plainGet K C_Serve Str.empty = true)
    (hd_Serve : PySem.W.hasDictIn K C_Serve = true)
    (po_Serve : PySem.W.plainOver K C_Serve = true)
    (sa_Serve : PySem.W.findIn K (.ref C_Serve) "__setattr__" = some (some (.builtin "object.__setattr__")))
    (mk_Serve : PySem.W.makesIn K C_Serve = true)
    (kc_Serve : PySem.W.keepIn K (.ref C_Serve) = true)
    (n_Serve_variable : PySem.W.findIn K (.ref C_Serve) "variable" = some none)
    (n_Serve_mask : PySem.W.findIn K (.ref C_Serve) "mask" = some none)
    (aC_Pair : PySem.W.nsIn K mainGlobals "Pair" = some (some (.ref C_Pair)))
    (pg_Pair : PySem.W.plainGet K C_Pair Str.empty = true)
    (hd_Pair : PySem.W.hasDictIn K C_Pair = true)
    (po_Pair : PySem.W.plainOver K C_Pair = true)
    (sa_Pair : PySem.W.findIn K (.ref C_Pair) "__setattr__" = some (some (.builtin "object.__setattr__")))
    (mk_Pair : PySem.W.makesIn K C_Pair = true)
    (kc_Pair : PySem.W.keepIn K (.ref C_Pair) = true)
    (n_Pair_first : PySem.W.findIn K (.ref C_Pair) "first" = some none)
    (n_Pair_second : PySem.W.findIn K (.ref C_Pair) "second" = some none)
    (n_Pair_field : PySem.W.findIn K (.ref C_Pair) "field" = some none)
    (a_is_integer : PySem.W.nsIn K mainGlobals "is_integer" = some (some (.ref f_is_integer)))
    (l_is_integer : K.lookup f_is_integer = some ⟨oc_is_integer, od_is_integer, .func (PySem.W.fnOf "is_integer" "is_integer" (defArgs s_is_integer) (defBody s_is_integer) (defScope s_is_integer) .none kV_is_integer dc_is_integer pm_is_integer an_is_integer cd_is_integer ct_is_integer), sl_is_integer⟩)
    (c_is_integer : PySem.W.codeIn K cd_is_integer "is_integer" = true)
    (k_is_integer : PySem.W.keepIn K (.ref f_is_integer) = true)
    (a_need_width : PySem.W.nsIn K mainGlobals "need_width" = some (some (.ref f_need_width)))
    (l_need_width : K.lookup f_need_width = some ⟨oc_need_width, od_need_width, .func (PySem.W.fnOf "need_width" "need_width" (defArgs s_need_width) (defBody s_need_width) (defScope s_need_width) .none kV_need_width dc_need_width pm_need_width an_need_width cd_need_width ct_need_width), sl_need_width⟩)
    (c_need_width : PySem.W.codeIn K cd_need_width "need_width" = true)
    (k_need_width : PySem.W.keepIn K (.ref f_need_width) = true)
    (a_ones : PySem.W.nsIn K mainGlobals "ones" = some (some (.ref f_ones)))
    (l_ones : K.lookup f_ones = some ⟨oc_ones, od_ones, .func (PySem.W.fnOf "ones" "ones" (defArgs s_ones) (defBody s_ones) (defScope s_ones) .none kV_ones dc_ones pm_ones an_ones cd_ones ct_ones), sl_ones⟩)
    (c_ones : PySem.W.codeIn K cd_ones "ones" = true)
    (k_ones : PySem.W.keepIn K (.ref f_ones) = true)
    (a_is_word : PySem.W.nsIn K mainGlobals "is_word" = some (some (.ref f_is_word)))
    (l_is_word : K.lookup f_is_word = some ⟨oc_is_word, od_is_word, .func (PySem.W.fnOf "is_word" "is_word" (defArgs s_is_word) (defBody s_is_word) (defScope s_is_word) .none kV_is_word dc_is_word pm_is_word an_is_word cd_is_word ct_is_word), sl_is_word⟩)
    (c_is_word : PySem.W.codeIn K cd_is_word "is_word" = true)
    (k_is_word : PySem.W.keepIn K (.ref f_is_word) = true)
    (a_need_word : PySem.W.nsIn K mainGlobals "need_word" = some (some (.ref f_need_word)))
    (l_need_word : K.lookup f_need_word = some ⟨oc_need_word, od_need_word, .func (PySem.W.fnOf "need_word" "need_word" (defArgs s_need_word) (defBody s_need_word) (defScope s_need_word) .none kV_need_word dc_need_word pm_need_word an_need_word cd_need_word ct_need_word), sl_need_word⟩)
    (c_need_word : PySem.W.codeIn K cd_need_word "need_word" = true)
    (k_need_word : PySem.W.keepIn K (.ref f_need_word) = true)
    (a_shifted : PySem.W.nsIn K mainGlobals "shifted" = some (some (.ref f_shifted)))
    (l_shifted : K.lookup f_shifted = some ⟨oc_shifted, od_shifted, .func (PySem.W.fnOf "shifted" "shifted" (defArgs s_shifted) (defBody s_shifted) (defScope s_shifted) .none kV_shifted dc_shifted pm_shifted an_shifted cd_shifted ct_shifted), sl_shifted⟩)
    (c_shifted : PySem.W.codeIn K cd_shifted "shifted" = true)
    (k_shifted : PySem.W.keepIn K (.ref f_shifted) = true)
    (a_Blend___init__ : PySem.W.findIn K (.ref C_Blend) "__init__" = some (some (.ref f_Blend___init__)))
    (i_Blend___init__ : PySem.W.isFn K (.ref f_Blend___init__) = true)
    (l_Blend___init__ : K.lookup f_Blend___init__ = some ⟨oc_Blend___init__, od_Blend___init__, .func (PySem.W.fnOf "__init__" "Blend.__init__" (defArgs s_Blend___init__) (defBody s_Blend___init__) (defScope s_Blend___init__) (.ref DT_Blend___init__) kV_Blend___init__ dc_Blend___init__ pm_Blend___init__ an_Blend___init__ cd_Blend___init__ ct_Blend___init__), sl_Blend___init__⟩)
    (dt_Blend___init__ : K.lookup DT_Blend___init__ = some ⟨.type "tuple", dd_DT_Blend___init__, .seq #[.int 0 tk_Blend___init___0, .none, .int 0 tk_Blend___init___2] n_DT_Blend___init__, sl_DT_Blend___init__⟩)
    (c_Blend___init__ : PySem.W.codeIn K cd_Blend___init__ "Blend.__init__" = true)
    (k_Blend___init__ : PySem.W.keepIn K (.ref f_Blend___init__) = true)
    (a_Blend_constant : PySem.W.findCls K (.ref C_Blend) (.type "type") "constant" = some (.get (.builtin "classmethod.__get__") (.ref p_Blend_constant) .none (.ref C_Blend)))
    (rc_Blend_constant : PySem.W.recIn K p_Blend_constant "classmethod" = some (.ref f_Blend_constant :: rs_Blend_constant))
    (fi_Blend_constant : PySem.W.fnIn K f_Blend_constant = true)
    (l_Blend_constant : K.lookup f_Blend_constant = some ⟨oc_Blend_constant, od_Blend_constant, .func (PySem.W.fnOf "constant" "Blend.constant" (defArgs s_Blend_constant) (defBody s_Blend_constant) (defScope s_Blend_constant) .none kV_Blend_constant dc_Blend_constant pm_Blend_constant an_Blend_constant cd_Blend_constant ct_Blend_constant), sl_Blend_constant⟩)
    (c_Blend_constant : PySem.W.codeIn K cd_Blend_constant "Blend.constant" = true)
    (k_Blend_constant : PySem.W.keepIn K (.ref f_Blend_constant) = true)
    (pa_Blend_is_constant : PySem.W.findIn K (.ref C_Blend) "is_constant" = some (some (.ref p_Blend_is_constant)))
    (pb_Blend_is_constant : PySem.W.specialIn K (.ref p_Blend_is_constant) "__get__" = some (some (.builtin "property.__get__")))
    (pc_Blend_is_constant : PySem.W.takesIn K (.ref p_Blend_is_constant) = some true)
    (pd_Blend_is_constant : PySem.W.recIn K p_Blend_is_constant "property" = some (.ref f_Blend_is_constant :: rs_Blend_is_constant))
    (l_Blend_is_constant : K.lookup f_Blend_is_constant = some ⟨oc_Blend_is_constant, od_Blend_is_constant, .func (PySem.W.fnOf "is_constant" "Blend.is_constant" (defArgs s_Blend_is_constant) (defBody s_Blend_is_constant) (defScope s_Blend_is_constant) .none kV_Blend_is_constant dc_Blend_is_constant pm_Blend_is_constant an_Blend_is_constant cd_Blend_is_constant ct_Blend_is_constant), sl_Blend_is_constant⟩)
    (c_Blend_is_constant : PySem.W.codeIn K cd_Blend_is_constant "Blend.is_constant" = true)
    (k_Blend_is_constant : PySem.W.keepIn K (.ref f_Blend_is_constant) = true)
    (a_Blend___eq__ : PySem.W.findIn K (.ref C_Blend) "__eq__" = some (some (.ref f_Blend___eq__)))
    (i_Blend___eq__ : PySem.W.isFn K (.ref f_Blend___eq__) = true)
    (l_Blend___eq__ : K.lookup f_Blend___eq__ = some ⟨oc_Blend___eq__, od_Blend___eq__, .func (PySem.W.fnOf "__eq__" "Blend.__eq__" (defArgs s_Blend___eq__) (defBody s_Blend___eq__) (defScope s_Blend___eq__) .none kV_Blend___eq__ dc_Blend___eq__ pm_Blend___eq__ an_Blend___eq__ cd_Blend___eq__ ct_Blend___eq__), sl_Blend___eq__⟩)
    (c_Blend___eq__ : PySem.W.codeIn K cd_Blend___eq__ "Blend.__eq__" = true)
    (k_Blend___eq__ : PySem.W.keepIn K (.ref f_Blend___eq__) = true)
    (a_is_made_of : PySem.W.nsIn K mainGlobals "is_made_of" = some (some (.ref f_is_made_of)))
    (l_is_made_of : K.lookup f_is_made_of = some ⟨oc_is_made_of, od_is_made_of, .func (PySem.W.fnOf "is_made_of" "is_made_of" (defArgs s_is_made_of) (defBody s_is_made_of) (defScope s_is_made_of) .none kV_is_made_of dc_is_made_of pm_is_made_of an_is_made_of cd_is_made_of ct_is_made_of), sl_is_made_of⟩)
    (c_is_made_of : PySem.W.codeIn K cd_is_made_of "is_made_of" = true)
    (k_is_made_of : PySem.W.keepIn K (.ref f_is_made_of) = true)
    (a_is_name : PySem.W.nsIn K mainGlobals "is_name" = some (some (.ref f_is_name)))
    (l_is_name : K.lookup f_is_name = some ⟨oc_is_name, od_is_name, .func (PySem.W.fnOf "is_name" "is_name" (defArgs s_is_name) (defBody s_is_name) (defScope s_is_name) .none kV_is_name dc_is_name pm_is_name an_is_name cd_is_name ct_is_name), sl_is_name⟩)
    (c_is_name : PySem.W.codeIn K cd_is_name "is_name" = true)
    (k_is_name : PySem.W.keepIn K (.ref f_is_name) = true)
    (a_is_variable : PySem.W.nsIn K mainGlobals "is_variable" = some (some (.ref f_is_variable)))
    (l_is_variable : K.lookup f_is_variable = some ⟨oc_is_variable, od_is_variable, .func (PySem.W.fnOf "is_variable" "is_variable" (defArgs s_is_variable) (defBody s_is_variable) (defScope s_is_variable) .none kV_is_variable dc_is_variable pm_is_variable an_is_variable cd_is_variable ct_is_variable), sl_is_variable⟩)
    (c_is_variable : PySem.W.codeIn K cd_is_variable "is_variable" = true)
    (k_is_variable : PySem.W.keepIn K (.ref f_is_variable) = true)
    (a_is_number : PySem.W.nsIn K mainGlobals "is_number" = some (some (.ref f_is_number)))
    (l_is_number : K.lookup f_is_number = some ⟨oc_is_number, od_is_number, .func (PySem.W.fnOf "is_number" "is_number" (defArgs s_is_number) (defBody s_is_number) (defScope s_is_number) .none kV_is_number dc_is_number pm_is_number an_is_number cd_is_number ct_is_number), sl_is_number⟩)
    (c_is_number : PySem.W.codeIn K cd_is_number "is_number" = true)
    (k_is_number : PySem.W.keepIn K (.ref f_is_number) = true)
    (a_need : PySem.W.nsIn K mainGlobals "need" = some (some (.ref f_need)))
    (l_need : K.lookup f_need = some ⟨oc_need, od_need, .func (PySem.W.fnOf "need" "need" (defArgs s_need) (defBody s_need) (defScope s_need) .none kV_need dc_need pm_need an_need cd_need ct_need), sl_need⟩)
    (c_need : PySem.W.codeIn K cd_need "need" = true)
    (k_need : PySem.W.keepIn K (.ref f_need) = true)
    (a_is_lane : PySem.W.nsIn K mainGlobals "is_lane" = some (some (.ref f_is_lane)))
    (l_is_lane : K.lookup f_is_lane = some ⟨oc_is_lane, od_is_lane, .func (PySem.W.fnOf "is_lane" "is_lane" (defArgs s_is_lane) (defBody s_is_lane) (defScope s_is_lane) .none kV_is_lane dc_is_lane pm_is_lane an_is_lane cd_is_lane ct_is_lane), sl_is_lane⟩)
    (c_is_lane : PySem.W.codeIn K cd_is_lane "is_lane" = true)
    (k_is_lane : PySem.W.keepIn K (.ref f_is_lane) = true)
    (a_need_access : PySem.W.nsIn K mainGlobals "need_access" = some (some (.ref f_need_access)))
    (l_need_access : K.lookup f_need_access = some ⟨oc_need_access, od_need_access, .func (PySem.W.fnOf "need_access" "need_access" (defArgs s_need_access) (defBody s_need_access) (defScope s_need_access) .none kV_need_access dc_need_access pm_need_access an_need_access cd_need_access ct_need_access), sl_need_access⟩)
    (c_need_access : PySem.W.codeIn K cd_need_access "need_access" = true)
    (k_need_access : PySem.W.keepIn K (.ref f_need_access) = true)
    (a_meant : PySem.W.nsIn K mainGlobals "meant" = some (some (.ref f_meant)))
    (l_meant : K.lookup f_meant = some ⟨oc_meant, od_meant, .func (PySem.W.fnOf "meant" "meant" (defArgs s_meant) (defBody s_meant) (defScope s_meant) .none kV_meant dc_meant pm_meant an_meant cd_meant ct_meant), sl_meant⟩)
    (c_meant : PySem.W.codeIn K cd_meant "meant" = true)
    (k_meant : PySem.W.keepIn K (.ref f_meant) = true)
    (a_with_means : PySem.W.nsIn K mainGlobals "with_means" = some (some (.ref f_with_means)))
    (l_with_means : K.lookup f_with_means = some ⟨oc_with_means, od_with_means, .func (PySem.W.fnOf "with_means" "with_means" (defArgs s_with_means) (defBody s_with_means) (defScope s_with_means) .none kV_with_means dc_with_means pm_with_means an_with_means cd_with_means ct_with_means), sl_with_means⟩)
    (c_with_means : PySem.W.codeIn K cd_with_means "with_means" = true)
    (k_with_means : PySem.W.keepIn K (.ref f_with_means) = true)
    (a_Read___init__ : PySem.W.findIn K (.ref C_Read) "__init__" = some (some (.ref f_Read___init__)))
    (i_Read___init__ : PySem.W.isFn K (.ref f_Read___init__) = true)
    (l_Read___init__ : K.lookup f_Read___init__ = some ⟨oc_Read___init__, od_Read___init__, .func (PySem.W.fnOf "__init__" "Read.__init__" (defArgs s_Read___init__) (defBody s_Read___init__) (defScope s_Read___init__) .none kV_Read___init__ dc_Read___init__ pm_Read___init__ an_Read___init__ cd_Read___init__ ct_Read___init__), sl_Read___init__⟩)
    (c_Read___init__ : PySem.W.codeIn K cd_Read___init__ "Read.__init__" = true)
    (k_Read___init__ : PySem.W.keepIn K (.ref f_Read___init__) = true)
    (a_Read_of : PySem.W.findCls K (.ref C_Read) (.type "type") "of" = some (.get (.builtin "classmethod.__get__") (.ref p_Read_of) .none (.ref C_Read)))
    (rc_Read_of : PySem.W.recIn K p_Read_of "classmethod" = some (.ref f_Read_of :: rs_Read_of))
    (fi_Read_of : PySem.W.fnIn K f_Read_of = true)
    (l_Read_of : K.lookup f_Read_of = some ⟨oc_Read_of, od_Read_of, .func (PySem.W.fnOf "of" "Read.of" (defArgs s_Read_of) (defBody s_Read_of) (defScope s_Read_of) (.ref DT_Read_of) kV_Read_of dc_Read_of pm_Read_of an_Read_of cd_Read_of ct_Read_of), sl_Read_of⟩)
    (dt_Read_of : K.lookup DT_Read_of = some ⟨.type "tuple", dd_DT_Read_of, .seq #[.ref aZ0] n_DT_Read_of, sl_DT_Read_of⟩)
    (c_Read_of : PySem.W.codeIn K cd_Read_of "Read.of" = true)
    (k_Read_of : PySem.W.keepIn K (.ref f_Read_of) = true)
    (a_Read_line_words : PySem.W.findIn K (.ref C_Read) "line_words" = some (some (.ref f_Read_line_words)))
    (i_Read_line_words : PySem.W.isFn K (.ref f_Read_line_words) = true)
    (l_Read_line_words : K.lookup f_Read_line_words = some ⟨oc_Read_line_words, od_Read_line_words, .func (PySem.W.fnOf "line_words" "Read.line_words" (defArgs s_Read_line_words) (defBody s_Read_line_words) (defScope s_Read_line_words) .none kV_Read_line_words dc_Read_line_words pm_Read_line_words an_Read_line_words cd_Read_line_words ct_Read_line_words), sl_Read_line_words⟩)
    (c_Read_line_words : PySem.W.codeIn K cd_Read_line_words "Read.line_words" = true)
    (k_Read_line_words : PySem.W.keepIn K (.ref f_Read_line_words) = true)
    (a_Read___eq__ : PySem.W.findIn K (.ref C_Read) "__eq__" = some (some (.ref f_Read___eq__)))
    (i_Read___eq__ : PySem.W.isFn K (.ref f_Read___eq__) = true)
    (l_Read___eq__ : K.lookup f_Read___eq__ = some ⟨oc_Read___eq__, od_Read___eq__, .func (PySem.W.fnOf "__eq__" "Read.__eq__" (defArgs s_Read___eq__) (defBody s_Read___eq__) (defScope s_Read___eq__) .none kV_Read___eq__ dc_Read___eq__ pm_Read___eq__ an_Read___eq__ cd_Read___eq__ ct_Read___eq__), sl_Read___eq__⟩)
    (c_Read___eq__ : PySem.W.codeIn K cd_Read___eq__ "Read.__eq__" = true)
    (k_Read___eq__ : PySem.W.keepIn K (.ref f_Read___eq__) = true)
    (a_Read___str__ : PySem.W.findIn K (.ref C_Read) "__str__" = some (some (.ref f_Read___str__)))
    (i_Read___str__ : PySem.W.isFn K (.ref f_Read___str__) = true)
    (l_Read___str__ : K.lookup f_Read___str__ = some ⟨oc_Read___str__, od_Read___str__, .func (PySem.W.fnOf "__str__" "Read.__str__" (defArgs s_Read___str__) (defBody s_Read___str__) (defScope s_Read___str__) .none kV_Read___str__ dc_Read___str__ pm_Read___str__ an_Read___str__ cd_Read___str__ ct_Read___str__), sl_Read___str__⟩)
    (c_Read___str__ : PySem.W.codeIn K cd_Read___str__ "Read.__str__" = true)
    (k_Read___str__ : PySem.W.keepIn K (.ref f_Read___str__) = true)
    (a_Read___repr__ : PySem.W.findIn K (.ref C_Read) "__repr__" = some (some (.ref f_Read___repr__)))
    (i_Read___repr__ : PySem.W.isFn K (.ref f_Read___repr__) = true)
    (l_Read___repr__ : K.lookup f_Read___repr__ = some ⟨oc_Read___repr__, od_Read___repr__, .func (PySem.W.fnOf "__repr__" "Read.__repr__" (defArgs s_Read___repr__) (defBody s_Read___repr__) (defScope s_Read___repr__) .none kV_Read___repr__ dc_Read___repr__ pm_Read___repr__ an_Read___repr__ cd_Read___repr__ ct_Read___repr__), sl_Read___repr__⟩)
    (c_Read___repr__ : PySem.W.codeIn K cd_Read___repr__ "Read.__repr__" = true)
    (k_Read___repr__ : PySem.W.keepIn K (.ref f_Read___repr__) = true)
    (a_Write___init__ : PySem.W.findIn K (.ref C_Write) "__init__" = some (some (.ref f_Write___init__)))
    (i_Write___init__ : PySem.W.isFn K (.ref f_Write___init__) = true)
    (l_Write___init__ : K.lookup f_Write___init__ = some ⟨oc_Write___init__, od_Write___init__, .func (PySem.W.fnOf "__init__" "Write.__init__" (defArgs s_Write___init__) (defBody s_Write___init__) (defScope s_Write___init__) .none (.ref D_Write___init__) dc_Write___init__ pm_Write___init__ an_Write___init__ cd_Write___init__ ct_Write___init__), sl_Write___init__⟩)
    (kw_Write___init___variable : PySem.W.nsIn K D_Write___init__ "variable" = some (some (.none)))
    (c_Write___init__ : PySem.W.codeIn K cd_Write___init__ "Write.__init__" = true)
    (k_Write___init__ : PySem.W.keepIn K (.ref f_Write___init__) = true)
    (a_Write_of : PySem.W.findCls K (.ref C_Write) (.type "type") "of" = some (.get (.builtin "classmethod.__get__") (.ref p_Write_of) .none (.ref C_Write)))
    (rc_Write_of : PySem.W.recIn K p_Write_of "classmethod" = some (.ref f_Write_of :: rs_Write_of))
    (fi_Write_of : PySem.W.fnIn K f_Write_of = true)
    (l_Write_of : K.lookup f_Write_of = some ⟨oc_Write_of, od_Write_of, .func (PySem.W.fnOf "of" "Write.of" (defArgs s_Write_of) (defBody s_Write_of) (defScope s_Write_of) (.ref DT_Write_of) kV_Write_of dc_Write_of pm_Write_of an_Write_of cd_Write_of ct_Write_of), sl_Write_of⟩)
    (dt_Write_of : K.lookup DT_Write_of = some ⟨.type "tuple", dd_DT_Write_of, .seq #[.ref aZ1, .none] n_DT_Write_of, sl_DT_Write_of⟩)
    (c_Write_of : PySem.W.codeIn K cd_Write_of "Write.of" = true)
    (k_Write_of : PySem.W.keepIn K (.ref f_Write_of) = true)
    (a_Write_line_words : PySem.W.findIn K (.ref C_Write) "line_words" = some (some (.ref f_Write_line_words)))
    (i_Write_line_words : PySem.W.isFn K (.ref f_Write_line_words) = true)
    (l_Write_line_words : K.lookup f_Write_line_words = some ⟨oc_Write_line_words, od_Write_line_words, .func (PySem.W.fnOf "line_words" "Write.line_words" (defArgs s_Write_line_words) (defBody s_Write_line_words) (defScope s_Write_line_words) .none kV_Write_line_words dc_Write_line_words pm_Write_line_words an_Write_line_words cd_Write_line_words ct_Write_line_words), sl_Write_line_words⟩)
    (c_Write_line_words : PySem.W.codeIn K cd_Write_line_words "Write.line_words" = true)
    (k_Write_line_words : PySem.W.keepIn K (.ref f_Write_line_words) = true)
    (a_Write___eq__ : PySem.W.findIn K (.ref C_Write) "__eq__" = some (some (.ref f_Write___eq__)))
    (i_Write___eq__ : PySem.W.isFn K (.ref f_Write___eq__) = true)
    (l_Write___eq__ : K.lookup f_Write___eq__ = some ⟨oc_Write___eq__, od_Write___eq__, .func (PySem.W.fnOf "__eq__" "Write.__eq__" (defArgs s_Write___eq__) (defBody s_Write___eq__) (defScope s_Write___eq__) .none kV_Write___eq__ dc_Write___eq__ pm_Write___eq__ an_Write___eq__ cd_Write___eq__ ct_Write___eq__), sl_Write___eq__⟩)
    (c_Write___eq__ : PySem.W.codeIn K cd_Write___eq__ "Write.__eq__" = true)
    (k_Write___eq__ : PySem.W.keepIn K (.ref f_Write___eq__) = true)
    (a_Write___str__ : PySem.W.findIn K (.ref C_Write) "__str__" = some (some (.ref f_Write___str__)))
    (i_Write___str__ : PySem.W.isFn K (.ref f_Write___str__) = true)
    (l_Write___str__ : K.lookup f_Write___str__ = some ⟨oc_Write___str__, od_Write___str__, .func (PySem.W.fnOf "__str__" "Write.__str__" (defArgs s_Write___str__) (defBody s_Write___str__) (defScope s_Write___str__) .none kV_Write___str__ dc_Write___str__ pm_Write___str__ an_Write___str__ cd_Write___str__ ct_Write___str__), sl_Write___str__⟩)
    (c_Write___str__ : PySem.W.codeIn K cd_Write___str__ "Write.__str__" = true)
    (k_Write___str__ : PySem.W.keepIn K (.ref f_Write___str__) = true)
    (a_Write___repr__ : PySem.W.findIn K (.ref C_Write) "__repr__" = some (some (.ref f_Write___repr__)))
    (i_Write___repr__ : PySem.W.isFn K (.ref f_Write___repr__) = true)
    (l_Write___repr__ : K.lookup f_Write___repr__ = some ⟨oc_Write___repr__, od_Write___repr__, .func (PySem.W.fnOf "__repr__" "Write.__repr__" (defArgs s_Write___repr__) (defBody s_Write___repr__) (defScope s_Write___repr__) .none kV_Write___repr__ dc_Write___repr__ pm_Write___repr__ an_Write___repr__ cd_Write___repr__ ct_Write___repr__), sl_Write___repr__⟩)
    (c_Write___repr__ : PySem.W.codeIn K cd_Write___repr__ "Write.__repr__" = true)
    (k_Write___repr__ : PySem.W.keepIn K (.ref f_Write___repr__) = true)
    (a_Serve___init__ : PySem.W.findIn K (.ref C_Serve) "__init__" = some (some (.ref f_Serve___init__)))
    (i_Serve___init__ : PySem.W.isFn K (.ref f_Serve___init__) = true)
    (l_Serve___init__ : K.lookup f_Serve___init__ = some ⟨oc_Serve___init__, od_Serve___init__, .func (PySem.W.fnOf "__init__" "Serve.__init__" (defArgs s_Serve___init__) (defBody s_Serve___init__) (defScope s_Serve___init__) .none kV_Serve___init__ dc_Serve___init__ pm_Serve___init__ an_Serve___init__ cd_Serve___init__ ct_Serve___init__), sl_Serve___init__⟩)
    (c_Serve___init__ : PySem.W.codeIn K cd_Serve___init__ "Serve.__init__" = true)
    (k_Serve___init__ : PySem.W.keepIn K (.ref f_Serve___init__) = true)
    (a_Serve_line_words : PySem.W.findIn K (.ref C_Serve) "line_words" = some (some (.ref f_Serve_line_words)))
    (i_Serve_line_words : PySem.W.isFn K (.ref f_Serve_line_words) = true)
    (l_Serve_line_words : K.lookup f_Serve_line_words = some ⟨oc_Serve_line_words, od_Serve_line_words, .func (PySem.W.fnOf "line_words" "Serve.line_words" (defArgs s_Serve_line_words) (defBody s_Serve_line_words) (defScope s_Serve_line_words) .none kV_Serve_line_words dc_Serve_line_words pm_Serve_line_words an_Serve_line_words cd_Serve_line_words ct_Serve_line_words), sl_Serve_line_words⟩)
    (c_Serve_line_words : PySem.W.codeIn K cd_Serve_line_words "Serve.line_words" = true)
    (k_Serve_line_words : PySem.W.keepIn K (.ref f_Serve_line_words) = true)
    (a_Serve___eq__ : PySem.W.findIn K (.ref C_Serve) "__eq__" = some (some (.ref f_Serve___eq__)))
    (i_Serve___eq__ : PySem.W.isFn K (.ref f_Serve___eq__) = true)
    (l_Serve___eq__ : K.lookup f_Serve___eq__ = some ⟨oc_Serve___eq__, od_Serve___eq__, .func (PySem.W.fnOf "__eq__" "Serve.__eq__" (defArgs s_Serve___eq__) (defBody s_Serve___eq__) (defScope s_Serve___eq__) .none kV_Serve___eq__ dc_Serve___eq__ pm_Serve___eq__ an_Serve___eq__ cd_Serve___eq__ ct_Serve___eq__), sl_Serve___eq__⟩)
    (c_Serve___eq__ : PySem.W.codeIn K cd_Serve___eq__ "Serve.__eq__" = true)
    (k_Serve___eq__ : PySem.W.keepIn K (.ref f_Serve___eq__) = true)
    (a_Serve___str__ : PySem.W.findIn K (.ref C_Serve) "__str__" = some (some (.ref f_Serve___str__)))
    (i_Serve___str__ : PySem.W.isFn K (.ref f_Serve___str__) = true)
    (l_Serve___str__ : K.lookup f_Serve___str__ = some ⟨oc_Serve___str__, od_Serve___str__, .func (PySem.W.fnOf "__str__" "Serve.__str__" (defArgs s_Serve___str__) (defBody s_Serve___str__) (defScope s_Serve___str__) .none kV_Serve___str__ dc_Serve___str__ pm_Serve___str__ an_Serve___str__ cd_Serve___str__ ct_Serve___str__), sl_Serve___str__⟩)
    (c_Serve___str__ : PySem.W.codeIn K cd_Serve___str__ "Serve.__str__" = true)
    (k_Serve___str__ : PySem.W.keepIn K (.ref f_Serve___str__) = true)
    (a_Serve___repr__ : PySem.W.findIn K (.ref C_Serve) "__repr__" = some (some (.ref f_Serve___repr__)))
    (i_Serve___repr__ : PySem.W.isFn K (.ref f_Serve___repr__) = true)
    (l_Serve___repr__ : K.lookup f_Serve___repr__ = some ⟨oc_Serve___repr__, od_Serve___repr__, .func (PySem.W.fnOf "__repr__" "Serve.__repr__" (defArgs s_Serve___repr__) (defBody s_Serve___repr__) (defScope s_Serve___repr__) .none kV_Serve___repr__ dc_Serve___repr__ pm_Serve___repr__ an_Serve___repr__ cd_Serve___repr__ ct_Serve___repr__), sl_Serve___repr__⟩)
    (c_Serve___repr__ : PySem.W.codeIn K cd_Serve___repr__ "Serve.__repr__" = true)
    (k_Serve___repr__ : PySem.W.keepIn K (.ref f_Serve___repr__) = true)
    (a_Pair___init__ : PySem.W.findIn K (.ref C_Pair) "__init__" = some (some (.ref f_Pair___init__)))
    (i_Pair___init__ : PySem.W.isFn K (.ref f_Pair___init__) = true)
    (l_Pair___init__ : K.lookup f_Pair___init__ = some ⟨oc_Pair___init__, od_Pair___init__, .func (PySem.W.fnOf "__init__" "Pair.__init__" (defArgs s_Pair___init__) (defBody s_Pair___init__) (defScope s_Pair___init__) .none kV_Pair___init__ dc_Pair___init__ pm_Pair___init__ an_Pair___init__ cd_Pair___init__ ct_Pair___init__), sl_Pair___init__⟩)
    (c_Pair___init__ : PySem.W.codeIn K cd_Pair___init__ "Pair.__init__" = true)
    (k_Pair___init__ : PySem.W.keepIn K (.ref f_Pair___init__) = true)
    (a_Pair_line_words : PySem.W.findIn K (.ref C_Pair) "line_words" = some (some (.ref f_Pair_line_words)))
    (i_Pair_line_words : PySem.W.isFn K (.ref f_Pair_line_words) = true)
    (l_Pair_line_words : K.lookup f_Pair_line_words = some ⟨oc_Pair_line_words, od_Pair_line_words, .func (PySem.W.fnOf "line_words" "Pair.line_words" (defArgs s_Pair_line_words) (defBody s_Pair_line_words) (defScope s_Pair_line_words) .none kV_Pair_line_words dc_Pair_line_words pm_Pair_line_words an_Pair_line_words cd_Pair_line_words ct_Pair_line_words), sl_Pair_line_words⟩)
    (c_Pair_line_words : PySem.W.codeIn K cd_Pair_line_words "Pair.line_words" = true)
    (k_Pair_line_words : PySem.W.keepIn K (.ref f_Pair_line_words) = true)
    (a_Pair___eq__ : PySem.W.findIn K (.ref C_Pair) "__eq__" = some (some (.ref f_Pair___eq__)))
    (i_Pair___eq__ : PySem.W.isFn K (.ref f_Pair___eq__) = true)
    (l_Pair___eq__ : K.lookup f_Pair___eq__ = some ⟨oc_Pair___eq__, od_Pair___eq__, .func (PySem.W.fnOf "__eq__" "Pair.__eq__" (defArgs s_Pair___eq__) (defBody s_Pair___eq__) (defScope s_Pair___eq__) .none kV_Pair___eq__ dc_Pair___eq__ pm_Pair___eq__ an_Pair___eq__ cd_Pair___eq__ ct_Pair___eq__), sl_Pair___eq__⟩)
    (c_Pair___eq__ : PySem.W.codeIn K cd_Pair___eq__ "Pair.__eq__" = true)
    (k_Pair___eq__ : PySem.W.keepIn K (.ref f_Pair___eq__) = true)
    (a_Pair___str__ : PySem.W.findIn K (.ref C_Pair) "__str__" = some (some (.ref f_Pair___str__)))
    (i_Pair___str__ : PySem.W.isFn K (.ref f_Pair___str__) = true)
    (l_Pair___str__ : K.lookup f_Pair___str__ = some ⟨oc_Pair___str__, od_Pair___str__, .func (PySem.W.fnOf "__str__" "Pair.__str__" (defArgs s_Pair___str__) (defBody s_Pair___str__) (defScope s_Pair___str__) .none kV_Pair___str__ dc_Pair___str__ pm_Pair___str__ an_Pair___str__ cd_Pair___str__ ct_Pair___str__), sl_Pair___str__⟩)
    (c_Pair___str__ : PySem.W.codeIn K cd_Pair___str__ "Pair.__str__" = true)
    (k_Pair___str__ : PySem.W.keepIn K (.ref f_Pair___str__) = true)
    (a_Pair___repr__ : PySem.W.findIn K (.ref C_Pair) "__repr__" = some (some (.ref f_Pair___repr__)))
    (i_Pair___repr__ : PySem.W.isFn K (.ref f_Pair___repr__) = true)
    (l_Pair___repr__ : K.lookup f_Pair___repr__ = some ⟨oc_Pair___repr__, od_Pair___repr__, .func (PySem.W.fnOf "__repr__" "Pair.__repr__" (defArgs s_Pair___repr__) (defBody s_Pair___repr__) (defScope s_Pair___repr__) .none kV_Pair___repr__ dc_Pair___repr__ pm_Pair___repr__ an_Pair___repr__ cd_Pair___repr__ ct_Pair___repr__), sl_Pair___repr__⟩)
    (c_Pair___repr__ : PySem.W.codeIn K cd_Pair___repr__ "Pair.__repr__" = true)
    (k_Pair___repr__ : PySem.W.keepIn K (.ref f_Pair___repr__) = true)
    (a__law_pen : PySem.W.nsIn K mainGlobals "_law_pen" = some (some (.ref f__law_pen)))
    (l__law_pen : K.lookup f__law_pen = some ⟨oc__law_pen, od__law_pen, .func (PySem.W.fnOf "_law_pen" "_law_pen" (defArgs s__law_pen) (defBody s__law_pen) (defScope s__law_pen) .none kV__law_pen dc__law_pen pm__law_pen an__law_pen cd__law_pen ct__law_pen), sl__law_pen⟩)
    (c__law_pen : PySem.W.codeIn K cd__law_pen "_law_pen" = true)
    (k__law_pen : PySem.W.keepIn K (.ref f__law_pen) = true)
    (a__law_draw : PySem.W.nsIn K mainGlobals "_law_draw" = some (some (.ref f__law_draw)))
    (l__law_draw : K.lookup f__law_draw = some ⟨oc__law_draw, od__law_draw, .func (PySem.W.fnOf "_law_draw" "_law_draw" (defArgs s__law_draw) (defBody s__law_draw) (defScope s__law_draw) .none kV__law_draw dc__law_draw pm__law_draw an__law_draw cd__law_draw ct__law_draw), sl__law_draw⟩)
    (c__law_draw : PySem.W.codeIn K cd__law_draw "_law_draw" = true)
    (k__law_draw : PySem.W.keepIn K (.ref f__law_draw) = true)
    (a__law_word : PySem.W.nsIn K mainGlobals "_law_word" = some (some (.ref f__law_word)))
    (l__law_word : K.lookup f__law_word = some ⟨oc__law_word, od__law_word, .func (PySem.W.fnOf "_law_word" "_law_word" (defArgs s__law_word) (defBody s__law_word) (defScope s__law_word) .none kV__law_word dc__law_word pm__law_word an__law_word cd__law_word ct__law_word), sl__law_word⟩)
    (c__law_word : PySem.W.codeIn K cd__law_word "_law_word" = true)
    (k__law_word : PySem.W.keepIn K (.ref f__law_word) = true)
    (a__law_names : PySem.W.nsIn K mainGlobals "_law_names" = some (some (.ref f__law_names)))
    (l__law_names : K.lookup f__law_names = some ⟨oc__law_names, od__law_names, .func (PySem.W.fnOf "_law_names" "_law_names" (defArgs s__law_names) (defBody s__law_names) (defScope s__law_names) .none kV__law_names dc__law_names pm__law_names an__law_names cd__law_names ct__law_names), sl__law_names⟩)
    (c__law_names : PySem.W.codeIn K cd__law_names "_law_names" = true)
    (k__law_names : PySem.W.keepIn K (.ref f__law_names) = true)
    (a__law_variables : PySem.W.nsIn K mainGlobals "_law_variables" = some (some (.ref f__law_variables)))
    (l__law_variables : K.lookup f__law_variables = some ⟨oc__law_variables, od__law_variables, .func (PySem.W.fnOf "_law_variables" "_law_variables" (defArgs s__law_variables) (defBody s__law_variables) (defScope s__law_variables) .none kV__law_variables dc__law_variables pm__law_variables an__law_variables cd__law_variables ct__law_variables), sl__law_variables⟩)
    (c__law_variables : PySem.W.codeIn K cd__law_variables "_law_variables" = true)
    (k__law_variables : PySem.W.keepIn K (.ref f__law_variables) = true)
    (a__law_normal : PySem.W.nsIn K mainGlobals "_law_normal" = some (some (.ref f__law_normal)))
    (l__law_normal : K.lookup f__law_normal = some ⟨oc__law_normal, od__law_normal, .func (PySem.W.fnOf "_law_normal" "_law_normal" (defArgs s__law_normal) (defBody s__law_normal) (defScope s__law_normal) .none kV__law_normal dc__law_normal pm__law_normal an__law_normal cd__law_normal ct__law_normal), sl__law_normal⟩)
    (c__law_normal : PySem.W.codeIn K cd__law_normal "_law_normal" = true)
    (k__law_normal : PySem.W.keepIn K (.ref f__law_normal) = true)
    (a__law_made_step : PySem.W.nsIn K mainGlobals "_law_made_step" = some (some (.ref f__law_made_step)))
    (l__law_made_step : K.lookup f__law_made_step = some ⟨oc__law_made_step, od__law_made_step, .func (PySem.W.fnOf "_law_made_step" "_law_made_step" (defArgs s__law_made_step) (defBody s__law_made_step) (defScope s__law_made_step) .none kV__law_made_step dc__law_made_step pm__law_made_step an__law_made_step cd__law_made_step ct__law_made_step), sl__law_made_step⟩)
    (c__law_made_step : PySem.W.codeIn K cd__law_made_step "_law_made_step" = true)
    (k__law_made_step : PySem.W.keepIn K (.ref f__law_made_step) = true)
    (a__law_row : PySem.W.nsIn K mainGlobals "_law_row" = some (some (.ref f__law_row)))
    (l__law_row : K.lookup f__law_row = some ⟨oc__law_row, od__law_row, .func (PySem.W.fnOf "_law_row" "_law_row" (defArgs s__law_row) (defBody s__law_row) (defScope s__law_row) .none kV__law_row dc__law_row pm__law_row an__law_row cd__law_row ct__law_row), sl__law_row⟩)
    (c__law_row : PySem.W.codeIn K cd__law_row "_law_row" = true)
    (k__law_row : PySem.W.keepIn K (.ref f__law_row) = true)
    (a__law_wrong : PySem.W.nsIn K mainGlobals "_law_wrong" = some (some (.ref f__law_wrong)))
    (l__law_wrong : K.lookup f__law_wrong = some ⟨oc__law_wrong, od__law_wrong, .func (PySem.W.fnOf "_law_wrong" "_law_wrong" (defArgs s__law_wrong) (defBody s__law_wrong) (defScope s__law_wrong) .none kV__law_wrong dc__law_wrong pm__law_wrong an__law_wrong cd__law_wrong ct__law_wrong), sl__law_wrong⟩)
    (c__law_wrong : PySem.W.codeIn K cd__law_wrong "_law_wrong" = true)
    (k__law_wrong : PySem.W.keepIn K (.ref f__law_wrong) = true)
    (a__law_wrong_means : PySem.W.nsIn K mainGlobals "_law_wrong_means" = some (some (.ref f__law_wrong_means)))
    (l__law_wrong_means : K.lookup f__law_wrong_means = some ⟨oc__law_wrong_means, od__law_wrong_means, .func (PySem.W.fnOf "_law_wrong_means" "_law_wrong_means" (defArgs s__law_wrong_means) (defBody s__law_wrong_means) (defScope s__law_wrong_means) .none kV__law_wrong_means dc__law_wrong_means pm__law_wrong_means an__law_wrong_means cd__law_wrong_means ct__law_wrong_means), sl__law_wrong_means⟩)
    (c__law_wrong_means : PySem.W.codeIn K cd__law_wrong_means "_law_wrong_means" = true)
    (k__law_wrong_means : PySem.W.keepIn K (.ref f__law_wrong_means) = true)
    (a__law_arguments : PySem.W.nsIn K mainGlobals "_law_arguments" = some (some (.ref f__law_arguments)))
    (l__law_arguments : K.lookup f__law_arguments = some ⟨oc__law_arguments, od__law_arguments, .func (PySem.W.fnOf "_law_arguments" "_law_arguments" (defArgs s__law_arguments) (defBody s__law_arguments) (defScope s__law_arguments) .none kV__law_arguments dc__law_arguments pm__law_arguments an__law_arguments cd__law_arguments ct__law_arguments), sl__law_arguments⟩)
    (c__law_arguments : PySem.W.codeIn K cd__law_arguments "_law_arguments" = true)
    (k__law_arguments : PySem.W.keepIn K (.ref f__law_arguments) = true)
    (a__law_spoil : PySem.W.nsIn K mainGlobals "_law_spoil" = some (some (.ref f__law_spoil)))
    (l__law_spoil : K.lookup f__law_spoil = some ⟨oc__law_spoil, od__law_spoil, .func (PySem.W.fnOf "_law_spoil" "_law_spoil" (defArgs s__law_spoil) (defBody s__law_spoil) (defScope s__law_spoil) .none kV__law_spoil dc__law_spoil pm__law_spoil an__law_spoil cd__law_spoil ct__law_spoil), sl__law_spoil⟩)
    (c__law_spoil : PySem.W.codeIn K cd__law_spoil "_law_spoil" = true)
    (k__law_spoil : PySem.W.keepIn K (.ref f__law_spoil) = true)
    (a__law_made : PySem.W.nsIn K mainGlobals "_law_made" = some (some (.ref f__law_made)))
    (l__law_made : K.lookup f__law_made = some ⟨oc__law_made, od__law_made, .func (PySem.W.fnOf "_law_made" "_law_made" (defArgs s__law_made) (defBody s__law_made) (defScope s__law_made) .none kV__law_made dc__law_made pm__law_made an__law_made cd__law_made ct__law_made), sl__law_made⟩)
    (c__law_made : PySem.W.codeIn K cd__law_made "_law_made" = true)
    (k__law_made : PySem.W.keepIn K (.ref f__law_made) = true)
    (a__law_heard : PySem.W.nsIn K mainGlobals "_law_heard" = some (some (.ref f__law_heard)))
    (l__law_heard : K.lookup f__law_heard = some ⟨oc__law_heard, od__law_heard, .func (PySem.W.fnOf "_law_heard" "_law_heard" (defArgs s__law_heard) (defBody s__law_heard) (defScope s__law_heard) .none kV__law_heard dc__law_heard pm__law_heard an__law_heard cd__law_heard ct__law_heard), sl__law_heard⟩)
    (c__law_heard : PySem.W.codeIn K cd__law_heard "_law_heard" = true)
    (k__law_heard : PySem.W.keepIn K (.ref f__law_heard) = true)
    (a__law_refused : PySem.W.nsIn K mainGlobals "_law_refused" = some (some (.ref f__law_refused)))
    (l__law_refused : K.lookup f__law_refused = some ⟨oc__law_refused, od__law_refused, .func (PySem.W.fnOf "_law_refused" "_law_refused" (defArgs s__law_refused) (defBody s__law_refused) (defScope s__law_refused) .none kV__law_refused dc__law_refused pm__law_refused an__law_refused cd__law_refused ct__law_refused), sl__law_refused⟩)
    (c__law_refused : PySem.W.codeIn K cd__law_refused "_law_refused" = true)
    (k__law_refused : PySem.W.keepIn K (.ref f__law_refused) = true)
    (a__law_plain_refused : PySem.W.nsIn K mainGlobals "_law_plain_refused" = some (some (.ref f__law_plain_refused)))
    (l__law_plain_refused : K.lookup f__law_plain_refused = some ⟨oc__law_plain_refused, od__law_plain_refused, .func (PySem.W.fnOf "_law_plain_refused" "_law_plain_refused" (defArgs s__law_plain_refused) (defBody s__law_plain_refused) (defScope s__law_plain_refused) .none kV__law_plain_refused dc__law_plain_refused pm__law_plain_refused an__law_plain_refused cd__law_plain_refused ct__law_plain_refused), sl__law_plain_refused⟩)
    (c__law_plain_refused : PySem.W.codeIn K cd__law_plain_refused "_law_plain_refused" = true)
    (k__law_plain_refused : PySem.W.keepIn K (.ref f__law_plain_refused) = true)
    (a_law : PySem.W.nsIn K mainGlobals "law" = some (some (.ref f_law)))
    (l_law : K.lookup f_law = some ⟨oc_law, od_law, .func (PySem.W.fnOf "law" "law" (defArgs s_law) (defBody s_law) (defScope s_law) .none kV_law dc_law pm_law an_law cd_law ct_law), sl_law⟩)
    (c_law : PySem.W.codeIn K cd_law "law" = true)
    (k_law : PySem.W.keepIn K (.ref f_law) = true)
    (tyg : PySem.W.specialIn K (.builtin "object.__class__") "__get__" = some (some (.builtin "getset_descriptor.__get__")))
    (tyt : PySem.W.takesIn K (.builtin "object.__class__") = some true)
    (aWd : PySem.W.nsIn K mainGlobals "WIDTHS" = some (some (.ref aW)))
    (lWd : K.lookup aW = some ⟨.type "tuple", dd_W, .seq #[.int 8 tw0, .int 16 tw1, .int 32 tw2] n_W, sl_W⟩)
    (aE0 : PySem.W.nsIn K mainGlobals "InvalidWidth" = some (some (.ref e0)))
    (xs0 : PySem.W.subIn K (.ref e0) (.type "BaseException") = some true)
    (xv0 : PySem.W.findIn K (.ref e0) "value" = some none)
    (lkE0 : K.lookup e0 = some o_E0)
    (lkF0 : o_E0 = (excClassObj nm_E0 qq_E0 e0 N_E0 bs_E0 bm_E0 true sn_E0 sub_E0 ab_E0 col_E0 dd_E0 k0_E0 k1_E0 k2_E0 k3_E0 k5_E0 "ValueError.__new__"))
    (rvE0 : PySem.HandSPX.refsVE bm_E0 = true)
    (saE0 : PySem.W.findIn K (.ref e0) "__setattr__" = some (some (.builtin "object.__setattr__")))
    (tyE0 : PySem.W.typeIn K (.ref e0) = some (.type "type"))
    (kpE0 : PySem.W.keepIn K (.ref e0) = true)
    (inE0 : PySem.W.findIn K (.ref e0) "__init__" = some (some (.ref fI0)))
    (tiE0 : PySem.W.typeIn K (.ref fI0) = some (.type "function"))
    (lIK0 : K.lookup fI0 = some ⟨oc_I0, od_I0, .func (PySem.W.ksFn "__init__" "InvalidWidth.__init__" (defArgs s_I0) (defBody s_I0) (defScope s_I0) .none kV_I0 dc_I0 pm_I0 an_I0 (.ref cda0) ct_I0 ccell0), sl_I0⟩)
    (cIK0 : PySem.W.codeIn K (.ref cda0) "InvalidWidth.__init__" = true)
    (lcd0 : K.lookup cda0 = some ⟨ccl_I0, cdd_I0, .fields vs_I0, ccs_I0⟩)
    (vsI0 : vs_I0[2]? = some (.str file_I0 tf_I0))
    (fiI0 : ((l.prog.main.file : Str) == file_I0) = true)
    (lcc0 : K.lookup ccell0 = some ⟨cl_I0, cld_I0, .cell (some (.ref e0)), csl_I0⟩)
    (sbI0 : PySem.W.mroIn K e0 (.ref e0) = some true)
    (veI0 : PySem.W.mroIn K e0 (.type "ValueError") = some true)
    (suI0 : PySem.W.ks_superIn K e0 e0 "__init__" = some (some (.builtin "ValueError.__init__")))
    (aE2 : PySem.W.nsIn K mainGlobals "InvalidWord" = some (some (.ref e2)))
    (xs2 : PySem.W.subIn K (.ref e2) (.type "BaseException") = some true)
    (xv2 : PySem.W.findIn K (.ref e2) "value" = some none)
    (lkE2 : K.lookup e2 = some o_E2)
    (lkF2 : o_E2 = (excClassObj nm_E2 qq_E2 e2 N_E2 bs_E2 bm_E2 true sn_E2 sub_E2 ab_E2 col_E2 dd_E2 k0_E2 k1_E2 k2_E2 k3_E2 k5_E2 "ValueError.__new__"))
    (rvE2 : PySem.HandSPX.refsVE bm_E2 = true)
    (saE2 : PySem.W.findIn K (.ref e2) "__setattr__" = some (some (.builtin "object.__setattr__")))
    (tyE2 : PySem.W.typeIn K (.ref e2) = some (.type "type"))
    (kpE2 : PySem.W.keepIn K (.ref e2) = true)
    (inE2 : PySem.W.findIn K (.ref e2) "__init__" = some (some (.ref fI2)))
    (tiE2 : PySem.W.typeIn K (.ref fI2) = some (.type "function"))
    (lIK2 : K.lookup fI2 = some ⟨oc_I2, od_I2, .func (PySem.W.ksFn "__init__" "InvalidWord.__init__" (defArgs s_I2) (defBody s_I2) (defScope s_I2) .none kV_I2 dc_I2 pm_I2 an_I2 (.ref cda2) ct_I2 ccell2), sl_I2⟩)
    (cIK2 : PySem.W.codeIn K (.ref cda2) "InvalidWord.__init__" = true)
    (lcd2 : K.lookup cda2 = some ⟨ccl_I2, cdd_I2, .fields vs_I2, ccs_I2⟩)
    (vsI2 : vs_I2[2]? = some (.str file_I2 tf_I2))
    (fiI2 : ((l.prog.main.file : Str) == file_I2) = true)
    (lcc2 : K.lookup ccell2 = some ⟨cl_I2, cld_I2, .cell (some (.ref e2)), csl_I2⟩)
    (sbI2 : PySem.W.mroIn K e2 (.ref e2) = some true)
    (veI2 : PySem.W.mroIn K e2 (.type "ValueError") = some true)
    (suI2 : PySem.W.ks_superIn K e2 e2 "__init__" = some (some (.builtin "ValueError.__init__")))
    (aE3 : PySem.W.nsIn K mainGlobals "InvalidShift" = some (some (.ref e3)))
    (xs3 : PySem.W.subIn K (.ref e3) (.type "BaseException") = some true)
    (xv3 : PySem.W.findIn K (.ref e3) "value" = some none)
    (lkE3 : K.lookup e3 = some o_E3)
    (lkF3 : o_E3 = (excClassObj nm_E3 qq_E3 e3 N_E3 bs_E3 bm_E3 true sn_E3 sub_E3 ab_E3 col_E3 dd_E3 k0_E3 k1_E3 k2_E3 k3_E3 k5_E3 "ValueError.__new__"))
    (rvE3 : PySem.HandSPX.refsVE bm_E3 = true)
    (saE3 : PySem.W.findIn K (.ref e3) "__setattr__" = some (some (.builtin "object.__setattr__")))
    (tyE3 : PySem.W.typeIn K (.ref e3) = some (.type "type"))
    (kpE3 : PySem.W.keepIn K (.ref e3) = true)
    (inE3 : PySem.W.findIn K (.ref e3) "__init__" = some (some (.ref fI3)))
    (tiE3 : PySem.W.typeIn K (.ref fI3) = some (.type "function"))
    (lIK3 : K.lookup fI3 = some ⟨oc_I3, od_I3, .func (PySem.W.ksFn "__init__" "InvalidShift.__init__" (defArgs s_I3) (defBody s_I3) (defScope s_I3) .none kV_I3 dc_I3 pm_I3 an_I3 (.ref cda3) ct_I3 ccell3), sl_I3⟩)
    (cIK3 : PySem.W.codeIn K (.ref cda3) "InvalidShift.__init__" = true)
    (lcd3 : K.lookup cda3 = some ⟨ccl_I3, cdd_I3, .fields vs_I3, ccs_I3⟩)
    (vsI3 : vs_I3[2]? = some (.str file_I3 tf_I3))
    (fiI3 : ((l.prog.main.file : Str) == file_I3) = true)
    (lcc3 : K.lookup ccell3 = some ⟨cl_I3, cld_I3, .cell (some (.ref e3)), csl_I3⟩)
    (sbI3 : PySem.W.mroIn K e3 (.ref e3) = some true)
    (veI3 : PySem.W.mroIn K e3 (.type "ValueError") = some true)
    (suI3 : PySem.W.ks_superIn K e3 e3 "__init__" = some (some (.builtin "ValueError.__init__")))
    (tpI : (l.prog.main.scope.names.lookup ("super" : Str)).isSome = false)
    (opI : PySem.W.nsIn K cStatics "thirdparty.any" = some none)
    (rdB : PySem.W.readsIn K C_Blend (.type "type") = true)
    (gaB : PySem.W.specialIn K (.ref C_Blend) "__getattribute__" = some (some (.builtin "type.__getattribute__")))
    (aE4 : PySem.W.nsIn K mainGlobals "InvalidStep" = some (some (.ref e4)))
    (xs4 : PySem.W.subIn K (.ref e4) (.type "BaseException") = some true)
    (xv4 : PySem.W.findIn K (.ref e4) "reason" = some none)
    (lkE4 : K.lookup e4 = some o_E4)
    (lkF4 : o_E4 = (excClassObj nm_E4 qq_E4 e4 N_E4 bs_E4 bm_E4 true sn_E4 sub_E4 ab_E4 col_E4 dd_E4 k0_E4 k1_E4 k2_E4 k3_E4 k5_E4 "ValueError.__new__"))
    (rvE4 : PySem.HandSPX.refsVE bm_E4 = true)
    (saE4 : PySem.W.findIn K (.ref e4) "__setattr__" = some (some (.builtin "object.__setattr__")))
    (tyE4 : PySem.W.typeIn K (.ref e4) = some (.type "type"))
    (kpE4 : PySem.W.keepIn K (.ref e4) = true)
    (inE4 : PySem.W.findIn K (.ref e4) "__init__" = some (some (.ref fI4)))
    (tiE4 : PySem.W.typeIn K (.ref fI4) = some (.type "function"))
    (lIK4 : K.lookup fI4 = some ⟨oc_I4, od_I4, .func (PySem.W.ksFn "__init__" "InvalidStep.__init__" (defArgs s_I4) (defBody s_I4) (defScope s_I4) .none kV_I4 dc_I4 pm_I4 an_I4 (.ref cda4) ct_I4 ccell4), sl_I4⟩)
    (cIK4 : PySem.W.codeIn K (.ref cda4) "InvalidStep.__init__" = true)
    (lcd4 : K.lookup cda4 = some ⟨ccl_I4, cdd_I4, .fields vs_I4, ccs_I4⟩)
    (vsI4 : vs_I4[2]? = some (.str file_I4 tf_I4))
    (fiI4 : ((l.prog.main.file : Str) == file_I4) = true)
    (lcc4 : K.lookup ccell4 = some ⟨cl_I4, cld_I4, .cell (some (.ref e4)), csl_I4⟩)
    (sbI4 : PySem.W.mroIn K e4 (.ref e4) = some true)
    (veI4 : PySem.W.mroIn K e4 (.type "ValueError") = some true)
    (suI4 : PySem.W.ks_superIn K e4 e4 "__init__" = some (some (.builtin "ValueError.__init__")))
    (aStep : PySem.W.nsIn K mainGlobals "Step" = some (some (.ref C_Step)))
    (gCA : PySem.W.nsIn K mainGlobals "CAPITALS" = some (some (.str "ABCDEFGHIJKLMNOPQRSTUVWXYZ" tkCA)))
    (gIN : PySem.W.nsIn K mainGlobals "INNER" = some (some (.str "ABCDEFGHIJKLMNOPQRSTUVWXYZ0123456789_" tkIN)))
    (gLO : PySem.W.nsIn K mainGlobals "LONGEST" = some (some (.int 8 tkLO)))
    (gSM : PySem.W.nsIn K mainGlobals "SMALL" = some (some (.str "abcdefghijklmnopqrstuvwxyz" tkSM)))
    (gMM : PySem.W.nsIn K mainGlobals "MOST_MASK" = some (some (.int 4294967295 tkMM)))
    (gLN : PySem.W.nsIn K mainGlobals "LANES" = some (some (.ref aL)))
    (lLN : K.lookup aL = some ⟨.type "tuple", dd_L, .seq #[.str "w" tl0, .str "b0" tl1, .str "b1" tl2, .str "b2" tl3, .str "b3" tl4, .str "h0" tl5, .str "h1" tl6] n_L, sl_L⟩)
    (lE0 : K.lookup aZ0 = some ⟨.type "tuple", dd_Z0, .seq #[] n_Z0, sl_Z0⟩)
    (tycB : PySem.W.findIn K (.ref C_Blend) "__class__" = some (some (.builtin "object.__class__")))
    (tymB : PySem.W.mroIn K C_Blend (.type "object") = some true)
    (isBB : PySem.W.kitOne K (.ref C_Blend) (.ref C_Blend) = some true)
    (nfB : PySem.W.notFirst K C_Blend (.ref C_Blend) = true)
    (kB_NoneType : PySem.W.kitOne K (.type "NoneType") (.ref C_Blend) = some false)
    (kB_bool : PySem.W.kitOne K (.type "bool") (.ref C_Blend) = some false)
    (kB_int : PySem.W.kitOne K (.type "int") (.ref C_Blend) = some false)
    (kB_str : PySem.W.kitOne K (.type "str") (.ref C_Blend) = some false)
    (kB_tuple : PySem.W.kitOne K (.type "tuple") (.ref C_Blend) = some false)
    (kB_list : PySem.W.kitOne K (.type "list") (.ref C_Blend) = some false)
    (kB_dict : PySem.W.kitOne K (.type "dict") (.ref C_Blend) = some false)
    (tycRead : PySem.W.findIn K (.ref C_Read) "__class__" = some (some (.builtin "object.__class__")))
    (tymRead : PySem.W.mroIn K C_Read (.type "object") = some true)
    (ne_Read : PySem.W.findIn K (.ref C_Read) "__ne__" = some (some (.builtin "object.__ne__")))
    (sb_Read : PySem.W.subIn K (.ref C_Read) (.type "object") = some true)
    (kp_Read : PySem.W.kitOne K (.ref C_Read) (.ref C_Step) = some true)
    (k_Read_Read : PySem.W.kitOne K (.ref C_Read) (.ref C_Read) = some true)
    (nf_Read_Read : PySem.W.notFirst K C_Read (.ref C_Read) = true)
    (k_Read_Write : PySem.W.kitOne K (.ref C_Read) (.ref C_Write) = some false)
    (nf_Read_Write : PySem.W.notFirst K C_Read (.ref C_Write) = true)
    (k_Read_Serve : PySem.W.kitOne K (.ref C_Read) (.ref C_Serve) = some false)
    (nf_Read_Serve : PySem.W.notFirst K C_Read (.ref C_Serve) = true)
    (k_Read_Pair : PySem.W.kitOne K (.ref C_Read) (.ref C_Pair) = some false)
    (nf_Read_Pair : PySem.W.notFirst K C_Read (.ref C_Pair) = true)
    (kRead_NoneType : PySem.W.kitOne K (.type "NoneType") (.ref C_Read) = some false)
    (ntRead_NoneType : PySem.W.notFirst K C_Read (.type "NoneType") = true)
    (kRead_bool : PySem.W.kitOne K (.type "bool") (.ref C_Read) = some false)
    (ntRead_bool : PySem.W.notFirst K C_Read (.type "bool") = true)
    (kRead_int : PySem.W.kitOne K (.type "int") (.ref C_Read) = some false)
    (ntRead_int : PySem.W.notFirst K C_Read (.type "int") = true)
    (kRead_str : PySem.W.kitOne K (.type "str") (.ref C_Read) = some false)
    (ntRead_str : PySem.W.notFirst K C_Read (.type "str") = true)
    (kRead_tuple : PySem.W.kitOne K (.type "tuple") (.ref C_Read) = some false)
    (ntRead_tuple : PySem.W.notFirst K C_Read (.type "tuple") = true)
    (kRead_list : PySem.W.kitOne K (.type "list") (.ref C_Read) = some false)
    (ntRead_list : PySem.W.notFirst K C_Read (.type "list") = true)
    (kRead_dict : PySem.W.kitOne K (.type "dict") (.ref C_Read) = some false)
    (ntRead_dict : PySem.W.notFirst K C_Read (.type "dict") = true)
    (tycWrite : PySem.W.findIn K (.ref C_Write) "__class__" = some (some (.builtin "object.__class__")))
    (tymWrite : PySem.W.mroIn K C_Write (.type "object") = some true)
    (ne_Write : PySem.W.findIn K (.ref C_Write) "__ne__" = some (some (.builtin "object.__ne__")))
    (sb_Write : PySem.W.subIn K (.ref C_Write) (.type "object") = some true)
    (kp_Write : PySem.W.kitOne K (.ref C_Write) (.ref C_Step) = some true)
    (k_Write_Read : PySem.W.kitOne K (.ref C_Write) (.ref C_Read) = some false)
    (nf_Write_Read : PySem.W.notFirst K C_Write (.ref C_Read) = true)
    (k_Write_Write : PySem.W.kitOne K (.ref C_Write) (.ref C_Write) = some true)
    (nf_Write_Write : PySem.W.notFirst K C_Write (.ref C_Write) = true)
    (k_Write_Serve : PySem.W.kitOne K (.ref C_Write) (.ref C_Serve) = some false)
    (nf_Write_Serve : PySem.W.notFirst K C_Write (.ref C_Serve) = true)
    (k_Write_Pair : PySem.W.kitOne K (.ref C_Write) (.ref C_Pair) = some false)
    (nf_Write_Pair : PySem.W.notFirst K C_Write (.ref C_Pair) = true)
    (kWrite_NoneType : PySem.W.kitOne K (.type "NoneType") (.ref C_Write) = some false)
    (ntWrite_NoneType : PySem.W.notFirst K C_Write (.type "NoneType") = true)
    (kWrite_bool : PySem.W.kitOne K (.type "bool") (.ref C_Write) = some false)
    (ntWrite_bool : PySem.W.notFirst K C_Write (.type "bool") = true)
    (kWrite_int : PySem.W.kitOne K (.type "int") (.ref C_Write) = some false)
    (ntWrite_int : PySem.W.notFirst K C_Write (.type "int") = true)
    (kWrite_str : PySem.W.kitOne K (.type "str") (.ref C_Write) = some false)
    (ntWrite_str : PySem.W.notFirst K C_Write (.type "str") = true)
    (kWrite_tuple : PySem.W.kitOne K (.type "tuple") (.ref C_Write) = some false)
    (ntWrite_tuple : PySem.W.notFirst K C_Write (.type "tuple") = true)
    (kWrite_list : PySem.W.kitOne K (.type "list") (.ref C_Write) = some false)
    (ntWrite_list : PySem.W.notFirst K C_Write (.type "list") = true)
    (kWrite_dict : PySem.W.kitOne K (.type "dict") (.ref C_Write) = some false)
    (ntWrite_dict : PySem.W.notFirst K C_Write (.type "dict") = true)
    (tycServe : PySem.W.findIn K (.ref C_Serve) "__class__" = some (some (.builtin "object.__class__")))
    (tymServe : PySem.W.mroIn K C_Serve (.type "object") = some true)
    (ne_Serve : PySem.W.findIn K (.ref C_Serve) "__ne__" = some (some (.builtin "object.__ne__")))
    (sb_Serve : PySem.W.subIn K (.ref C_Serve) (.type "object") = some true)
    (kp_Serve : PySem.W.kitOne K (.ref C_Serve) (.ref C_Step) = some true)
    (k_Serve_Read : PySem.W.kitOne K (.ref C_Serve) (.ref C_Read) = some false)
    (nf_Serve_Read : PySem.W.notFirst K C_Serve (.ref C_Read) = true)
    (k_Serve_Write : PySem.W.kitOne K (.ref C_Serve) (.ref C_Write) = some false)
    (nf_Serve_Write : PySem.W.notFirst K C_Serve (.ref C_Write) = true)
    (k_Serve_Serve : PySem.W.kitOne K (.ref C_Serve) (.ref C_Serve) = some true)
    (nf_Serve_Serve : PySem.W.notFirst K C_Serve (.ref C_Serve) = true)
    (k_Serve_Pair : PySem.W.kitOne K (.ref C_Serve) (.ref C_Pair) = some false)
    (nf_Serve_Pair : PySem.W.notFirst K C_Serve (.ref C_Pair) = true)
    (kServe_NoneType : PySem.W.kitOne K (.type "NoneType") (.ref C_Serve) = some false)
    (ntServe_NoneType : PySem.W.notFirst K C_Serve (.type "NoneType") = true)
    (kServe_bool : PySem.W.kitOne K (.type "bool") (.ref C_Serve) = some false)
    (ntServe_bool : PySem.W.notFirst K C_Serve (.type "bool") = true)
    (kServe_int : PySem.W.kitOne K (.type "int") (.ref C_Serve) = some false)
    (ntServe_int : PySem.W.notFirst K C_Serve (.type "int") = true)
    (kServe_str : PySem.W.kitOne K (.type "str") (.ref C_Serve) = some false)
    (ntServe_str : PySem.W.notFirst K C_Serve (.type "str") = true)
    (kServe_tuple : PySem.W.kitOne K (.type "tuple") (.ref C_Serve) = some false)
    (ntServe_tuple : PySem.W.notFirst K C_Serve (.type "tuple") = true)
    (kServe_list : PySem.W.kitOne K (.type "list") (.ref C_Serve) = some false)
    (ntServe_list : PySem.W.notFirst K C_Serve (.type "list") = true)
    (kServe_dict : PySem.W.kitOne K (.type "dict") (.ref C_Serve) = some false)
    (ntServe_dict : PySem.W.notFirst K C_Serve (.type "dict") = true)
    (tycPair : PySem.W.findIn K (.ref C_Pair) "__class__" = some (some (.builtin "object.__class__")))
    (tymPair : PySem.W.mroIn K C_Pair (.type "object") = some true)
    (ne_Pair : PySem.W.findIn K (.ref C_Pair) "__ne__" = some (some (.builtin "object.__ne__")))
    (sb_Pair : PySem.W.subIn K (.ref C_Pair) (.type "object") = some true)
    (kp_Pair : PySem.W.kitOne K (.ref C_Pair) (.ref C_Step) = some true)
    (k_Pair_Read : PySem.W.kitOne K (.ref C_Pair) (.ref C_Read) = some false)
    (nf_Pair_Read : PySem.W.notFirst K C_Pair (.ref C_Read) = true)
    (k_Pair_Write : PySem.W.kitOne K (.ref C_Pair) (.ref C_Write) = some false)
    (nf_Pair_Write : PySem.W.notFirst K C_Pair (.ref C_Write) = true)
    (k_Pair_Serve : PySem.W.kitOne K (.ref C_Pair) (.ref C_Serve) = some false)
    (nf_Pair_Serve : PySem.W.notFirst K C_Pair (.ref C_Serve) = true)
    (k_Pair_Pair : PySem.W.kitOne K (.ref C_Pair) (.ref C_Pair) = some true)
    (nf_Pair_Pair : PySem.W.notFirst K C_Pair (.ref C_Pair) = true)
    (kPair_NoneType : PySem.W.kitOne K (.type "NoneType") (.ref C_Pair) = some false)
    (ntPair_NoneType : PySem.W.notFirst K C_Pair (.type "NoneType") = true)
    (kPair_bool : PySem.W.kitOne K (.type "bool") (.ref C_Pair) = some false)
    (ntPair_bool : PySem.W.notFirst K C_Pair (.type "bool") = true)
    (kPair_int : PySem.W.kitOne K (.type "int") (.ref C_Pair) = some false)
    (ntPair_int : PySem.W.notFirst K C_Pair (.type "int") = true)
    (kPair_str : PySem.W.kitOne K (.type "str") (.ref C_Pair) = some false)
    (ntPair_str : PySem.W.notFirst K C_Pair (.type "str") = true)
    (kPair_tuple : PySem.W.kitOne K (.type "tuple") (.ref C_Pair) = some false)
    (ntPair_tuple : PySem.W.notFirst K C_Pair (.type "tuple") = true)
    (kPair_list : PySem.W.kitOne K (.type "list") (.ref C_Pair) = some false)
    (ntPair_list : PySem.W.notFirst K C_Pair (.type "list") = true)
    (kPair_dict : PySem.W.kitOne K (.type "dict") (.ref C_Pair) = some false)
    (ntPair_dict : PySem.W.notFirst K C_Pair (.type "dict") = true)
    (rd_Read : PySem.W.readsIn K C_Read (.type "type") = true)
    (ga_Read : PySem.W.specialIn K (.ref C_Read) "__getattribute__" = some (some (.builtin "type.__getattribute__")))
    (rd_Write : PySem.W.readsIn K C_Write (.type "type") = true)
    (ga_Write : PySem.W.specialIn K (.ref C_Write) "__getattribute__" = some (some (.builtin "type.__getattribute__")))
    (kS_Step : PySem.W.kitOne K (.type "str") (.ref C_Step) = some false)
    (aB : PySem.W.nsIn K mainGlobals "BitError" = some (some (.ref CB)))
    (ax0 : PySem.W.nsIn K mainGlobals "InvalidField" = some (some (.ref x0)))
    (kx_x0 : PySem.W.kitOne K (.ref e4) (.ref x0) = some false)
    (ax1 : PySem.W.nsIn K mainGlobals "InvalidLane" = some (some (.ref x1)))
    (kx_x1 : PySem.W.kitOne K (.ref e4) (.ref x1) = some false)
    (ax2 : PySem.W.nsIn K mainGlobals "InvalidMap" = some (some (.ref x2)))
    (kx_x2 : PySem.W.kitOne K (.ref e4) (.ref x2) = some false)
    (ax3 : PySem.W.nsIn K mainGlobals "InvalidSystem" = some (some (.ref x3)))
    (kx_x3 : PySem.W.kitOne K (.ref e4) (.ref x3) = some false)
    (ax4 : PySem.W.nsIn K mainGlobals "InvalidTask" = some (some (.ref x4)))
    (kx_x4 : PySem.W.kitOne K (.ref e4) (.ref x4) = some false)
    (ax5 : PySem.W.nsIn K mainGlobals "InvalidText" = some (some (.ref x5)))
    (kx_x5 : PySem.W.kitOne K (.ref e4) (.ref x5) = some false)
    (kx_e2 : PySem.W.kitOne K (.ref e4) (.ref e2) = some false)
    (ax7 : PySem.W.nsIn K mainGlobals "NoName" = some (some (.ref x7)))
    (kx_x7 : PySem.W.kitOne K (.ref e4) (.ref x7) = some false)
    (ax8 : PySem.W.nsIn K mainGlobals "TooLarge" = some (some (.ref x8)))
    (kx_x8 : PySem.W.kitOne K (.ref e4) (.ref x8) = some false)
    (kxo : PySem.W.kitOne K (.ref e4) (.ref e4) = some true)
    (ktv4 : PySem.W.kitOne K (.ref e4) (.type "ValueError") = some true)
    (exm4 : PySem.W.exmOne K (.ref e4) (.ref CB) = some true)
    (xg4 : PySem.W.findIn K (.ref e4) "__getattribute__" = some (some (.builtin "BaseException.__getattribute__")))
    (xk4 : PySem.W.findIn K (.ref e4) "__getattr__" = some none)
    (xd4 : PySem.W.hasDictIn K e4 = true)
    (xa4 : PySem.W.findIn K (.ref e4) "__class__" = some (some (.builtin "object.__class__")))
    (xm4 : PySem.W.mroIn K e4 (.type "object") = some true)
    (tabcR : PySem.W.tabIn K "_law_refused" = some (cR, PR))
    (ntbcR : K.lookup PR = none)
    (tabcP : PySem.W.tabIn K "_law_plain_refused" = some (cP, PP))
    (ntbcP : K.lookup PP = none)
    (nrp : PR ≠ PP)
    (z_int : PySem.W.nsIn K mainGlobals "int" = some none)
    (z_bool : PySem.W.nsIn K mainGlobals "bool" = some none)
    (z_str : PySem.W.nsIn K mainGlobals "str" = some none)
    (z_all : PySem.W.nsIn K mainGlobals "all" = some none)
    (z_abs : PySem.W.nsIn K mainGlobals "abs" = some none)
    (z_len : PySem.W.nsIn K mainGlobals "len" = some none)
    (z_list : PySem.W.nsIn K mainGlobals "list" = some none)
    (z_tuple : PySem.W.nsIn K mainGlobals "tuple" = some none)
    (z_range : PySem.W.nsIn K mainGlobals "range" = some none)
    (z_isinstance : PySem.W.nsIn K mainGlobals "isinstance" = some none)
    (z_min : PySem.W.nsIn K mainGlobals "min" = some none)
    (z_max : PySem.W.nsIn K mainGlobals "max" = some none)
    (z_sum : PySem.W.nsIn K mainGlobals "sum" = some none)
    (z_sorted : PySem.W.nsIn K mainGlobals "sorted" = some none)
    (z_enumerate : PySem.W.nsIn K mainGlobals "enumerate" = some none)
    (z_repr : PySem.W.nsIn K mainGlobals "repr" = some none)
    (z_ValueError : PySem.W.nsIn K mainGlobals "ValueError" = some none)
    (z_set : PySem.W.nsIn K mainGlobals "set" = some none)
    (z_super : PySem.W.nsIn K mainGlobals "super" = some none),
    ∃ (fd : FuncData) (cs : List (Addr × Addr)), cs.length = (["_law_refused", "_law_plain_refused"] : List Str).length ∧ (∀ p ∈ (["_law_refused", "_law_plain_refused"] : List Str).zip cs, PySem.W.tabIn K p.1 = some p.2) ∧ (∀ p ∈ cs, K.lookup p.2 = none) ∧ (∀ (s : Shared) (v : Value), BindsTo s fd ⟨[v], []⟩ [("_law_script", v)]) ∧ ∀ base : Heap, K.In base → base.Ns mainGlobals mg → (∀ p ∈ cs, LamX.TabB base mg p.1 p.2) → KG.FnG l.prog w K mg base CX0 13 fa fd ["_law_script"] (spLaw K cs)

structure Box (P : Prop) : Prop where
  get : P
end K35


section
open PySem PySem.W PyProof.Rows
theorem K35.headR (hbox : K35.Box K35.AllMkT) : K35.headD.T10 := by
    intro w mg fa h KX G hmg
    k_fill
    have hall := @K35.Box.get _ hbox
    refine' hall KX G hmg ?aC_Blend ?pg_Blend ?hd_Blend ?po_Blend ?sa_Blend ?mk_Blend ?kc_Blend ?n_Blend_width ?n_Blend_shift ?n_Blend_keep ?n_Blend_flip ?aC_Read ?pg_Read ?hd_Read ?po_Read ?sa_Read ?mk_Read ?kc_Read ?n_Read_variable ?n_Read_port ?n_Read_lane ?n_Read_means ?aC_Write ?pg_Write ?hd_Write ?po_Write ?sa_Write ?mk_Write ?kc_Write ?n_Write_port ?n_Write_lane ?n_Write_blend ?n_Write_means ?n_Write_variable ?aC_Serve ?pg_Serve ?hd_Serve ?po_Serve ?sa_Serve ?mk_Serve ?kc_Serve ?n_Serve_variable ?n_Serve_mask ?aC_Pair ?pg_Pair ?hd_Pair ?po_Pair ?sa_Pair ?mk_Pair ?kc_Pair ?n_Pair_first ?n_Pair_second ?n_Pair_field ?a_is_integer ?l_is_integer ?c_is_integer ?k_is_integer ?a_need_width ?l_need_width ?c_need_width ?k_need_width ?a_ones ?l_ones ?c_ones ?k_ones ?a_is_word ?l_is_word ?c_is_word ?k_is_word ?a_need_word ?l_need_word ?c_need_word ?k_need_word ?a_shifted ?l_shifted ?c_shifted ?k_shifted ?a_Blend___init__ ?i_Blend___init__ ?l_Blend___init__ ?dt_Blend___init__ ?c_Blend___init__ ?k_Blend___init__ ?a_Blend_constant ?rc_Blend_constant ?fi_Blend_constant ?l_Blend_constant ?c_Blend_constant ?k_Blend_constant ?pa_Blend_is_constant ?pb_Blend_is_constant ?pc_Blend_is_constant ?pd_Blend_is_constant ?l_Blend_is_constant ?c_Blend_is_constant ?k_Blend_is_constant ?a_Blend___eq__ ?i_Blend___eq__ ?l_Blend___eq__ ?c_Blend___eq__ ?k_Blend___eq__ ?a_is_made_of ?l_is_made_of ?c_is_made_of ?k_is_made_of ?a_is_name ?l_is_name ?c_is_name ?k_is_name ?a_is_variable ?l_is_variable ?c_is_variable ?k_is_variable ?a_is_number ?l_is_number ?c_is_number ?k_is_number ?a_need ?l_need ?c_need ?k_need ?a_is_lane ?l_is_lane ?c_is_lane ?k_is_lane ?a_need_access ?l_need_access ?c_need_access ?k_need_access ?a_meant ?l_meant ?c_meant ?k_meant ?a_with_means ?l_with_means ?c_with_means ?k_with_means ?a_Read___init__ ?i_Read___init__ ?l_Read___init__ ?c_Read___init__ ?k_Read___init__ ?a_Read_of ?rc_Read_of ?fi_Read_of ?l_Read_of ?dt_Read_of ?c_Read_of ?k_Read_of ?a_Read_line_words ?i_Read_line_words ?l_Read_line_words ?c_Read_line_words ?k_Read_line_words ?a_Read___eq__ ?i_Read___eq__ ?l_Read___eq__ ?c_Read___eq__ ?k_Read___eq__ ?a_Read___str__ ?i_Read___str__ ?l_Read___str__ ?c_Read___str__ ?k_Read___str__ ?a_Read___repr__ ?i_Read___repr__ ?l_Read___repr__ ?c_Read___repr__ ?k_Read___repr__ ?a_Write___init__ ?i_Write___init__ ?l_Write___init__ ?kw_Write___init___variable ?c_Write___init__ ?k_Write___init__ ?a_Write_of ?rc_Write_of ?fi_Write_of ?l_Write_of ?dt_Write_of ?c_Write_of ?k_Write_of ?a_Write_line_words ?i_Write_line_words ?l_Write_line_words ?c_Write_line_words ?k_Write_line_words ?a_Write___eq__ ?i_Write___eq__ ?l_Write___eq__ ?c_Write___eq__ ?k_Write___eq__ ?a_Write___str__ ?i_Write___str__ ?l_Write___str__ ?c_Write___str__ ?k_Write___str__ ?a_Write___repr__ ?i_Write___repr__ ?l_Write___repr__ ?c_Write___repr__ ?k_Write___repr__ ?a_Serve___init__ ?i_Serve___init__ ?l_Serve___init__ ?c_Serve___init__ ?k_Serve___init__ ?a_Serve_line_words ?i_Serve_line_words ?l_Serve_line_words ?c_Serve_line_words ?k_Serve_line_words ?a_Serve___eq__ ?i_Serve___eq__ ?l_Serve___eq__ ?c_Serve___eq__ ?k_Serve___eq__ ?a_Serve___str__ ?i_Serve___str__ ?l_Serve___str__ ?c_Serve___str__ ?k_Serve___str__ ?a_Serve___repr__ ?i_Serve___repr__ ?l_Serve___repr__ ?c_Serve___repr__ ?k_Serve___repr__ ?a_Pair___init__ ?i_Pair___init__ ?l_Pair___init__ ?c_Pair___init__ ?k_Pair___init__ ?a_Pair_line_words ?i_Pair_line_words ?l_Pair_line_words ?c_Pair_line_words ?k_Pair_line_words ?a_Pair___eq__ ?i_Pair___eq__ ?l_Pair___eq__ ?c_Pair___eq__ ?k_Pair___eq__ ?a_Pair___str__ ?i_Pair___str__ ?l_Pair___str__ ?c_Pair___str__ ?k_Pair___str__ ?a_Pair___repr__ ?i_Pair___repr__ ?l_Pair___repr__ ?c_Pair___repr__ ?k_Pair___repr__ ?a__law_pen ?l__law_pen ?c__law_pen ?k__law_pen ?a__law_draw ?l__law_draw ?c__law_draw ?k__law_draw ?a__law_word ?l__law_word ?c__law_word ?k__law_word ?a__law_names ?l__law_names ?c__law_names ?k__law_names ?a__law_variables ?l__law_variables ?c__law_variables ?k__law_variables ?a__law_normal ?l__law_normal ?c__law_normal ?k__law_normal ?a__law_made_step ?l__law_made_step ?c__law_made_step ?k__law_made_step ?a__law_row ?l__law_row ?c__law_row ?k__law_row ?a__law_wrong ?l__law_wrong ?c__law_wrong ?k__law_wrong ?a__law_wrong_means ?l__law_wrong_means ?c__law_wrong_means ?k__law_wrong_means ?a__law_arguments ?l__law_arguments ?c__law_arguments ?k__law_arguments ?a__law_spoil ?l__law_spoil ?c__law_spoil ?k__law_spoil ?a__law_made ?l__law_made ?c__law_made ?k__law_made ?a__law_heard ?l__law_heard ?c__law_heard ?k__law_heard ?a__law_refused ?l__law_refused ?c__law_refused ?k__law_refused ?a__law_plain_refused ?l__law_plain_refused ?c__law_plain_refused ?k__law_plain_refused ?a_law ?l_law ?c_law ?k_law ?tyg ?tyt ?aWd ?lWd ?aE0 ?xs0 ?xv0 ?lkE0 ?lkF0 ?rvE0 ?saE0 ?tyE0 ?kpE0 ?inE0 ?tiE0 ?lIK0 ?cIK0 ?lcd0 ?vsI0 ?fiI0 ?lcc0 ?sbI0 ?veI0 ?suI0 ?aE2 ?xs2 ?xv2 ?lkE2 ?lkF2 ?rvE2 ?saE2 ?tyE2 ?kpE2 ?inE2 ?tiE2 ?lIK2 ?cIK2 ?lcd2 ?vsI2 ?fiI2 ?lcc2 ?sbI2 ?veI2 ?suI2 ?aE3 ?xs3 ?xv3 ?lkE3 ?lkF3 ?rvE3 ?saE3 ?tyE3 ?kpE3 ?inE3 ?tiE3 ?lIK3 ?cIK3 ?lcd3 ?vsI3 ?fiI3 ?lcc3 ?sbI3 ?veI3 ?suI3 ?tpI ?opI ?rdB ?gaB ?aE4 ?xs4 ?xv4 ?lkE4 ?lkF4 ?rvE4 ?saE4 ?tyE4 ?kpE4 ?inE4 ?tiE4 ?lIK4 ?cIK4 ?lcd4 ?vsI4 ?fiI4 ?lcc4 ?sbI4 ?veI4 ?suI4 ?aStep ?gCA ?gIN ?gLO ?gSM ?gMM ?gLN ?lLN ?lE0 ?tycB ?tymB ?isBB ?nfB ?kB_NoneType ?kB_bool ?kB_int ?kB_str ?kB_tuple ?kB_list ?kB_dict ?tycRead ?tymRead ?ne_Read ?sb_Read ?kp_Read ?k_Read_Read ?nf_Read_Read ?k_Read_Write ?nf_Read_Write ?k_Read_Serve ?nf_Read_Serve ?k_Read_Pair ?nf_Read_Pair ?kRead_NoneType ?ntRead_NoneType ?kRead_bool ?ntRead_bool ?kRead_int ?ntRead_int ?kRead_str ?ntRead_str ?kRead_tuple ?ntRead_tuple ?kRead_list ?ntRead_list ?kRead_dict ?ntRead_dict ?tycWrite ?tymWrite ?ne_Write ?sb_Write ?kp_Write ?k_Write_Read ?nf_Write_Read ?k_Write_Write ?nf_Write_Write ?k_Write_Serve ?nf_Write_Serve ?k_Write_Pair ?nf_Write_Pair ?kWrite_NoneType ?ntWrite_NoneType ?kWrite_bool ?ntWrite_bool ?kWrite_int ?ntWrite_int ?kWrite_str ?ntWrite_str ?kWrite_tuple ?ntWrite_tuple ?kWrite_list ?ntWrite_list ?kWrite_dict ?ntWrite_dict ?tycServe ?tymServe ?ne_Serve ?sb_Serve ?kp_Serve ?k_Serve_Read ?nf_Serve_Read ?k_Serve_Write ?nf_Serve_Write ?k_Serve_Serve ?nf_Serve_Serve ?k_Serve_Pair ?nf_Serve_Pair ?kServe_NoneType ?ntServe_NoneType ?kServe_bool ?ntServe_bool ?kServe_int ?ntServe_int ?kServe_str ?ntServe_str ?kServe_tuple ?ntServe_tuple ?kServe_list ?ntServe_list ?kServe_dict ?ntServe_dict ?tycPair ?tymPair ?ne_Pair ?sb_Pair ?kp_Pair ?k_Pair_Read ?nf_Pair_Read ?k_Pair_Write ?nf_Pair_Write ?k_Pair_Serve ?nf_Pair_Serve ?k_Pair_Pair ?nf_Pair_Pair ?kPair_NoneType ?ntPair_NoneType ?kPair_bool ?ntPair_bool ?kPair_int ?ntPair_int ?kPair_str ?ntPair_str ?kPair_tuple ?ntPair_tuple ?kPair_list ?ntPair_list ?kPair_dict ?ntPair_dict ?rd_Read ?ga_Read ?rd_Write ?ga_Write ?kS_Step ?aB ?ax0 ?kx_x0 ?ax1 ?kx_x1 ?ax2 ?kx_x2 ?ax3 ?kx_x3 ?ax4 ?kx_x4 ?ax5 ?kx_x5 ?kx_e2 ?ax7 ?kx_x7 ?ax8 ?kx_x8 ?kxo ?ktv4 ?exm4 ?xg4 ?xk4 ?xd4 ?xa4 ?xm4 ?tabcR ?ntbcR ?tabcP ?ntbcP ?nrp ?z_int ?z_bool ?z_str ?z_all ?z_abs ?z_len ?z_list ?z_tuple ?z_range ?z_isinstance ?z_min ?z_max ?z_sum ?z_sorted ?z_enumerate ?z_repr ?z_ValueError ?z_set ?z_super
    (case aC_Blend => k_is)
    (case pg_Blend => k_is)
    (case hd_Blend => k_is)
    (case po_Blend => k_is)
    (case sa_Blend => k_is)
    (case mk_Blend => k_is)
    (case kc_Blend => k_is)
    (case n_Blend_width => k_is)
    (case n_Blend_shift => k_is)
    (case n_Blend_keep => k_is)
    (case n_Blend_flip => k_is)
    (case aC_Read => k_is)
    (case pg_Read => k_is)
    (case hd_Read => k_is)
    (case po_Read => k_is)
    (case sa_Read => k_is)
    (case mk_Read => k_is)
    (case kc_Read => k_is)
    (case n_Read_variable => k_is)
    (case n_Read_port => k_is)
    (case n_Read_lane => k_is)
    (case n_Read_means => k_is)
    (case aC_Write => k_is)
    (case pg_Write => k_is)
    (case hd_Write => k_is)
    (case po_Write => k_is)
    (case sa_Write => k_is)
    (case mk_Write => k_is)
    (case kc_Write => k_is)
    (case n_Write_port => k_is)
    (case n_Write_lane => k_is)
    (case n_Write_blend => k_is)
    (case n_Write_means => k_is)
    (case n_Write_variable => k_is)
    (case aC_Serve => k_is)
    (case pg_Serve => k_is)
    (case hd_Serve => k_is)
    (case po_Serve => k_is)
    (case sa_Serve => k_is)
    (case mk_Serve => k_is)
    (case kc_Serve => k_is)
    (case n_Serve_variable => k_is)
    (case n_Serve_mask => k_is)
    (case aC_Pair => k_is)
    (case pg_Pair => k_is)
    (case hd_Pair => k_is)
    (case po_Pair => k_is)
    (case sa_Pair => k_is)
    (case mk_Pair => k_is)
    (case kc_Pair => k_is)
    (case n_Pair_first => k_is)
    (case n_Pair_second => k_is)
    (case n_Pair_field => k_is)
    (case a_is_integer => k_is)
    (case l_is_integer => k_is)
    (case c_is_integer => k_is)
    (case k_is_integer => k_is)
    (case a_need_width => k_is)
    (case l_need_width => k_is)
    (case c_need_width => k_is)
    (case k_need_width => k_is)
    (case a_ones => k_is)
    (case l_ones => k_is)
    (case c_ones => k_is)
    (case k_ones => k_is)
    (case a_is_word => k_is)
    (case l_is_word => k_is)
    (case c_is_word => k_is)
    (case k_is_word => k_is)
    (case a_need_word => k_is)
    (case l_need_word => k_is)
    (case c_need_word => k_is)
    (case k_need_word => k_is)
    (case a_shifted => k_is)
    (case l_shifted => k_is)
    (case c_shifted => k_is)
    (case k_shifted => k_is)
    (case a_Blend___init__ => k_is)
    (case i_Blend___init__ => k_is)
    (case l_Blend___init__ => k_is)
    (case dt_Blend___init__ => k_is)
    (case c_Blend___init__ => k_is)
    (case k_Blend___init__ => k_is)
    (case a_Blend_constant => k_is)
    (case rc_Blend_constant => k_is)
    (case fi_Blend_constant => k_is)
    (case l_Blend_constant => k_is)
    (case c_Blend_constant => k_is)
    (case k_Blend_constant => k_is)
    (case pa_Blend_is_constant => k_is)
    (case pb_Blend_is_constant => k_is)
    (case pc_Blend_is_constant => k_is)
    (case pd_Blend_is_constant => k_is)
    (case l_Blend_is_constant => k_is)
    (case c_Blend_is_constant => k_is)
    (case k_Blend_is_constant => k_is)
    (case a_Blend___eq__ => k_is)
    (case i_Blend___eq__ => k_is)
    (case l_Blend___eq__ => k_is)
    (case c_Blend___eq__ => k_is)
    (case k_Blend___eq__ => k_is)
    (case a_is_made_of => k_is)
    (case l_is_made_of => k_is)
    (case c_is_made_of => k_is)
    (case k_is_made_of => k_is)
    (case a_is_name => k_is)
    (case l_is_name => k_is)
    (case c_is_name => k_is)
    (case k_is_name => k_is)
    (case a_is_variable => k_is)
    (case l_is_variable => k_is)
    (case c_is_variable => k_is)
    (case k_is_variable => k_is)
    (case a_is_number => k_is)
    (case l_is_number => k_is)
    (case c_is_number => k_is)
    (case k_is_number => k_is)
    (case a_need => k_is)
    (case l_need => k_is)
    (case c_need => k_is)
    (case k_need => k_is)
    (case a_is_lane => k_is)
    (case l_is_lane => k_is)
    (case c_is_lane => k_is)
    (case k_is_lane => k_is)
    (case a_need_access => k_is)
    (case l_need_access => k_is)
    (case c_need_access => k_is)
    (case k_need_access => k_is)
    (case a_meant => k_is)
    (case l_meant => k_is)
    (case c_meant => k_is)
    (case k_meant => k_is)
    (case a_with_means => k_is)
    (case l_with_means => k_is)
    (case c_with_means => k_is)
    (case k_with_means => k_is)
    (case a_Read___init__ => k_is)
    (case i_Read___init__ => k_is)
    (case l_Read___init__ => k_is)
    (case c_Read___init__ => k_is)
    (case k_Read___init__ => k_is)
    (case a_Read_of => k_is)
    (case rc_Read_of => k_is)
    (case fi_Read_of => k_is)
    (case l_Read_of => k_is)
    (case dt_Read_of => k_is)
    (case c_Read_of => k_is)
    (case k_Read_of => k_is)
    (case a_Read_line_words => k_is)
    (case i_Read_line_words => k_is)
    (case l_Read_line_words => k_is)
    (case c_Read_line_words => k_is)
    (case k_Read_line_words => k_is)
    (case a_Read___eq__ => k_is)
    (case i_Read___eq__ => k_is)
    (case l_Read___eq__ => k_is)
    (case c_Read___eq__ => k_is)
    (case k_Read___eq__ => k_is)
    (case a_Read___str__ => k_is)
    (case i_Read___str__ => k_is)
    (case l_Read___str__ => k_is)
    (case c_Read___str__ => k_is)
    (case k_Read___str__ => k_is)
    (case a_Read___repr__ => k_is)
    (case i_Read___repr__ => k_is)
    (case l_Read___repr__ => k_is)
    (case c_Read___repr__ => k_is)
    (case k_Read___repr__ => k_is)
    (case a_Write___init__ => k_is)
    (case i_Write___init__ => k_is)
    (case l_Write___init__ => k_is)
    (case kw_Write___init___variable => k_is)
    (case c_Write___init__ => k_is)
    (case k_Write___init__ => k_is)
    (case a_Write_of => k_is)
    (case rc_Write_of => k_is)
    (case fi_Write_of => k_is)
    (case l_Write_of => k_is)
    (case dt_Write_of => k_is)
    (case c_Write_of => k_is)
    (case k_Write_of => k_is)
    (case a_Write_line_words => k_is)
    (case i_Write_line_words => k_is)
    (case l_Write_line_words => k_is)
    (case c_Write_line_words => k_is)
    (case k_Write_line_words => k_is)
    (case a_Write___eq__ => k_is)
    (case i_Write___eq__ => k_is)
    (case l_Write___eq__ => k_is)
    (case c_Write___eq__ => k_is)
    (case k_Write___eq__ => k_is)
    (case a_Write___str__ => k_is)
    (case i_Write___str__ => k_is)
    (case l_Write___str__ => k_is)
    (case c_Write___str__ => k_is)
    (case k_Write___str__ => k_is)
    (case a_Write___repr__ => k_is)
    (case i_Write___repr__ => k_is)
    (case l_Write___repr__ => k_is)
    (case c_Write___repr__ => k_is)
    (case k_Write___repr__ => k_is)
    (case a_Serve___init__ => k_is)
    (case i_Serve___init__ => k_is)
    (case l_Serve___init__ => k_is)
    (case c_Serve___init__ => k_is)
    (case k_Serve___init__ => k_is)
    (case a_Serve_line_words => k_is)
    (case i_Serve_line_words => k_is)
    (case l_Serve_line_words => k_is)
    (case c_Serve_line_words => k_is)
    (case k_Serve_line_words => k_is)
    (case a_Serve___eq__ => k_is)
    (case i_Serve___eq__ => k_is)
    (case l_Serve___eq__ => k_is)
    (case c_Serve___eq__ => k_is)
    (case k_Serve___eq__ => k_is)
    (case a_Serve___str__ => k_is)
    (case i_Serve___str__ => k_is)
    (case l_Serve___str__ => k_is)
    (case c_Serve___str__ => k_is)
    (case k_Serve___str__ => k_is)
    (case a_Serve___repr__ => k_is)
    (case i_Serve___repr__ => k_is)
    (case l_Serve___repr__ => k_is)
    (case c_Serve___repr__ => k_is)
    (case k_Serve___repr__ => k_is)
    (case a_Pair___init__ => k_is)
    (case i_Pair___init__ => k_is)
    (case l_Pair___init__ => k_is)
    (case c_Pair___init__ => k_is)
    (case k_Pair___init__ => k_is)
    (case a_Pair_line_words => k_is)
    (case i_Pair_line_words => k_is)
    (case l_Pair_line_words => k_is)
    (case c_Pair_line_words => k_is)
    (case k_Pair_line_words => k_is)
    (case a_Pair___eq__ => k_is)
    (case i_Pair___eq__ => k_is)
    (case l_Pair___eq__ => k_is)
    (case c_Pair___eq__ => k_is)
    (case k_Pair___eq__ => k_is)
    (case a_Pair___str__ => k_is)
    (case i_Pair___str__ => k_is)
    (case l_Pair___str__ => k_is)
    (case c_Pair___str__ => k_is)
    (case k_Pair___str__ => k_is)
    (case a_Pair___repr__ => k_is)
    (case i_Pair___repr__ => k_is)
    (case l_Pair___repr__ => k_is)
    (case c_Pair___repr__ => k_is)
    (case k_Pair___repr__ => k_is)
    (case a__law_pen => k_is)
    (case l__law_pen => k_is)
    (case c__law_pen => k_is)
    (case k__law_pen => k_is)
    (case a__law_draw => k_is)
    (case l__law_draw => k_is)
    (case c__law_draw => k_is)
    (case k__law_draw => k_is)
    (case a__law_word => k_is)
    (case l__law_word => k_is)
    (case c__law_word => k_is)
    (case k__law_word => k_is)
    (case a__law_names => k_is)
    (case l__law_names => k_is)
    (case c__law_names => k_is)
    (case k__law_names => k_is)
    (case a__law_variables => k_is)
    (case l__law_variables => k_is)
    (case c__law_variables => k_is)
    (case k__law_variables => k_is)
    (case a__law_normal => k_is)
    (case l__law_normal => k_is)
    (case c__law_normal => k_is)
    (case k__law_normal => k_is)
    (case a__law_made_step => k_is)
    (case l__law_made_step => k_is)
    (case c__law_made_step => k_is)
    (case k__law_made_step => k_is)
    (case a__law_row => k_is)
    (case l__law_row => k_is)
    (case c__law_row => k_is)
    (case k__law_row => k_is)
    (case a__law_wrong => k_is)
    (case l__law_wrong => k_is)
    (case c__law_wrong => k_is)
    (case k__law_wrong => k_is)
    (case a__law_wrong_means => k_is)
    (case l__law_wrong_means => k_is)
    (case c__law_wrong_means => k_is)
    (case k__law_wrong_means => k_is)
    (case a__law_arguments => k_is)
    (case l__law_arguments => k_is)
    (case c__law_arguments => k_is)
    (case k__law_arguments => k_is)
    (case a__law_spoil => k_is)
    (case l__law_spoil => k_is)
    (case c__law_spoil => k_is)
    (case k__law_spoil => k_is)
    (case a__law_made => k_is)
    (case l__law_made => k_is)
    (case c__law_made => k_is)
    (case k__law_made => k_is)
    (case a__law_heard => k_is)
    (case l__law_heard => k_is)
    (case c__law_heard => k_is)
    (case k__law_heard => k_is)
    (case a__law_refused => k_is)
    (case l__law_refused => k_is)
    (case c__law_refused => k_is)
    (case k__law_refused => k_is)
    (case a__law_plain_refused => k_is)
    (case l__law_plain_refused => k_is)
    (case c__law_plain_refused => k_is)
    (case k__law_plain_refused => k_is)
    (case a_law => k_is)
    (case l_law => k_is)
    (case c_law => k_is)
    (case k_law => k_is)
    (case tyg => k_is)
    (case tyt => k_is)
    (case aWd => k_is)
    (case lWd => k_is)
    (case aE0 => k_is)
    (case xs0 => exact rfl)
    (case xv0 => k_is)
    (case lkE0 => k_is)
    (case lkF0 => exact rfl)
    (case rvE0 => exact rfl)
    (case saE0 => k_is)
    (case tyE0 => exact rfl)
    (case kpE0 => k_is)
    (case inE0 => k_is)
    (case tiE0 => exact rfl)
    (case lIK0 => k_is)
    (case cIK0 => k_is)
    (case lcd0 => k_is)
    (case vsI0 => exact rfl)
    (case fiI0 => exact rfl)
    (case lcc0 => k_is)
    (case sbI0 => k_is)
    (case veI0 => k_is)
    (case suI0 => exact rfl)
    (case aE2 => k_is)
    (case xs2 => exact rfl)
    (case xv2 => k_is)
    (case lkE2 => k_is)
    (case lkF2 => exact rfl)
    (case rvE2 => exact rfl)
    (case saE2 => k_is)
    (case tyE2 => exact rfl)
    (case kpE2 => k_is)
    (case inE2 => k_is)
    (case tiE2 => exact rfl)
    (case lIK2 => k_is)
    (case cIK2 => k_is)
    (case lcd2 => k_is)
    (case vsI2 => exact rfl)
    (case fiI2 => exact rfl)
    (case lcc2 => k_is)
    (case sbI2 => k_is)
    (case veI2 => k_is)
    (case suI2 => exact rfl)
    (case aE3 => k_is)
    (case xs3 => exact rfl)
    (case xv3 => k_is)
    (case lkE3 => k_is)
    (case lkF3 => exact rfl)
    (case rvE3 => exact rfl)
    (case saE3 => k_is)
    (case tyE3 => exact rfl)
    (case kpE3 => k_is)
    (case inE3 => k_is)
    (case tiE3 => exact rfl)
    (case lIK3 => k_is)
    (case cIK3 => k_is)
    (case lcd3 => k_is)
    (case vsI3 => exact rfl)
    (case fiI3 => exact rfl)
    (case lcc3 => k_is)
    (case sbI3 => k_is)
    (case veI3 => k_is)
    (case suI3 => exact rfl)
    (case tpI => exact rfl)
    (case opI => k_is)
    (case rdB => k_is)
    (case gaB => k_is)
    (case aE4 => k_is)
    (case xs4 => exact rfl)
    (case xv4 => k_is)
    (case lkE4 => k_is)
    (case lkF4 => exact rfl)
    (case rvE4 => exact rfl)
    (case saE4 => k_is)
    (case tyE4 => exact rfl)
    (case kpE4 => k_is)
    (case inE4 => k_is)
    (case tiE4 => exact rfl)
    (case lIK4 => k_is)
    (case cIK4 => k_is)
    (case lcd4 => k_is)
    (case vsI4 => exact rfl)
    (case fiI4 => exact rfl)
    (case lcc4 => k_is)
    (case sbI4 => k_is)
    (case veI4 => k_is)
    (case suI4 => exact rfl)
    (case aStep => k_is)
    (case gCA => k_is)
    (case gIN => k_is)
    (case gLO => k_is)
    (case gSM => k_is)
    (case gMM => k_is)
    (case gLN => k_is)
    (case lLN => k_is)
    (case lE0 => k_is)
    (case tycB => k_is)
    (case tymB => k_is)
    (case isBB => exact rfl)
    (case nfB => exact rfl)
    (case kB_NoneType => exact rfl)
    (case kB_bool => exact rfl)
    (case kB_int => exact rfl)
    (case kB_str => exact rfl)
    (case kB_tuple => exact rfl)
    (case kB_list => exact rfl)
    (case kB_dict => exact rfl)
    (case tycRead => k_is)
    (case tymRead => k_is)
    (case ne_Read => k_is)
    (case sb_Read => exact rfl)
    (case kp_Read => exact rfl)
    (case k_Read_Read => exact rfl)
    (case nf_Read_Read => exact rfl)
    (case k_Read_Write => exact rfl)
    (case nf_Read_Write => exact rfl)
    (case k_Read_Serve => exact rfl)
    (case nf_Read_Serve => exact rfl)
    (case k_Read_Pair => exact rfl)
    (case nf_Read_Pair => exact rfl)
    (case kRead_NoneType => exact rfl)
    (case ntRead_NoneType => exact rfl)
    (case kRead_bool => exact rfl)
    (case ntRead_bool => exact rfl)
    (case kRead_int => exact rfl)
    (case ntRead_int => exact rfl)
    (case kRead_str => exact rfl)
    (case ntRead_str => exact rfl)
    (case kRead_tuple => exact rfl)
    (case ntRead_tuple => exact rfl)
    (case kRead_list => exact rfl)
    (case ntRead_list => exact rfl)
    (case kRead_dict => exact rfl)
    (case ntRead_dict => exact rfl)
    (case tycWrite => k_is)
    (case tymWrite => k_is)
    (case ne_Write => k_is)
    (case sb_Write => exact rfl)
    (case kp_Write => exact rfl)
    (case k_Write_Read => exact rfl)
    (case nf_Write_Read => exact rfl)
    (case k_Write_Write => exact rfl)
    (case nf_Write_Write => exact rfl)
    (case k_Write_Serve => exact rfl)
    (case nf_Write_Serve => exact rfl)
    (case k_Write_Pair => exact rfl)
    (case nf_Write_Pair => exact rfl)
    (case kWrite_NoneType => exact rfl)
    (case ntWrite_NoneType => exact rfl)
    (case kWrite_bool => exact rfl)
    (case ntWrite_bool => exact rfl)
    (case kWrite_int => exact rfl)
    (case ntWrite_int => exact rfl)
    (case kWrite_str => exact rfl)
    (case ntWrite_str => exact rfl)
    (case kWrite_tuple => exact rfl)
    (case ntWrite_tuple => exact rfl)
    (case kWrite_list => exact rfl)
    (case ntWrite_list => exact rfl)
    (case kWrite_dict => exact rfl)
    (case ntWrite_dict => exact rfl)
    (case tycServe => k_is)
    (case tymServe => k_is)
    (case ne_Serve => k_is)
    (case sb_Serve => exact rfl)
    (case kp_Serve => exact rfl)
    (case k_Serve_Read => exact rfl)
    (case nf_Serve_Read => exact rfl)
    (case k_Serve_Write => exact rfl)
    (case nf_Serve_Write => exact rfl)
    (case k_Serve_Serve => exact rfl)
    (case nf_Serve_Serve => exact rfl)
    (case k_Serve_Pair => exact rfl)
    (case nf_Serve_Pair => exact rfl)
    (case kServe_NoneType => exact rfl)
    (case ntServe_NoneType => exact rfl)
    (case kServe_bool => exact rfl)
    (case ntServe_bool => exact rfl)
    (case kServe_int => exact rfl)
    (case ntServe_int => exact rfl)
    (case kServe_str => exact rfl)
    (case ntServe_str => exact rfl)
    (case kServe_tuple => exact rfl)
    (case ntServe_tuple => exact rfl)
    (case kServe_list => exact rfl)
    (case ntServe_list => exact rfl)
    (case kServe_dict => exact rfl)
    (case ntServe_dict => exact rfl)
    (case tycPair => k_is)
    (case tymPair => k_is)
    (case ne_Pair => k_is)
    (case sb_Pair => exact rfl)
    (case kp_Pair => exact rfl)
    (case k_Pair_Read => exact rfl)
    (case nf_Pair_Read => exact rfl)
    (case k_Pair_Write => exact rfl)
    (case nf_Pair_Write => exact rfl)
    (case k_Pair_Serve => exact rfl)
    (case nf_Pair_Serve => exact rfl)
    (case k_Pair_Pair => exact rfl)
    (case nf_Pair_Pair => exact rfl)
    (case kPair_NoneType => exact rfl)
    (case ntPair_NoneType => exact rfl)
    (case kPair_bool => exact rfl)
    (case ntPair_bool => exact rfl)
    (case kPair_int => exact rfl)
    (case ntPair_int => exact rfl)
    (case kPair_str => exact rfl)
    (case ntPair_str => exact rfl)
    (case kPair_tuple => exact rfl)
    (case ntPair_tuple => exact rfl)
    (case kPair_list => exact rfl)
    (case ntPair_list => exact rfl)
    (case kPair_dict => exact rfl)
    (case ntPair_dict => exact rfl)
    (case rd_Read => k_is)
    (case ga_Read => k_is)
    (case rd_Write => k_is)
    (case ga_Write => k_is)
    (case kS_Step => exact rfl)
    (case aB => k_is)
    (case ax0 => k_is)
    (case kx_x0 => exact rfl)
    (case ax1 => k_is)
    (case kx_x1 => exact rfl)
    (case ax2 => k_is)
    (case kx_x2 => exact rfl)
    (case ax3 => k_is)
    (case kx_x3 => exact rfl)
    (case ax4 => k_is)
    (case kx_x4 => exact rfl)
    (case ax5 => k_is)
    (case kx_x5 => exact rfl)
    (case kx_e2 => exact rfl)
    (case ax7 => k_is)
    (case kx_x7 => exact rfl)
    (case ax8 => k_is)
    (case kx_x8 => exact rfl)
    (case kxo => exact rfl)
    (case ktv4 => exact rfl)
    (case exm4 => exact rfl)
    (case xg4 => k_is)
    (case xk4 => k_is)
    (case xd4 => k_is)
    (case xa4 => k_is)
    (case xm4 => k_is)
    (case tabcR => exact rfl)
    (case ntbcR => exact rfl)
    (case tabcP => exact rfl)
    (case ntbcP => exact rfl)
    (case nrp => decide)
    (case z_int => k_is)
    (case z_bool => k_is)
    (case z_str => k_is)
    (case z_all => k_is)
    (case z_abs => k_is)
    (case z_len => k_is)
    (case z_list => k_is)
    (case z_tuple => k_is)
    (case z_range => k_is)
    (case z_isinstance => k_is)
    (case z_min => k_is)
    (case z_max => k_is)
    (case z_sum => k_is)
    (case z_sorted => k_is)
    (case z_enumerate => k_is)
    (case z_repr => k_is)
    (case z_ValueError => k_is)
    (case z_set => k_is)
    (case z_super => k_is)

theorem K35.headT (hbox : K35.Box K35.AllMkT) : PySem.Challenge.rw_keptbits_k35_steps_refused.Holds := K35.headD.go (K35.headR hbox)
end

/-! KC: own objects called, shown by repr, compared with data of any type; classes made with defaults. -/
namespace KC
open PySem PySem.Spec PyProof.Rows L2 KB KG KO
theorem cx_KX {CX : CXT} {P : Program} {w : World} {K : PySem.W.Frag} {mg : Str → Option Value} {base : Heap} {N : List Str} {qual : Str} {sc : Scope} {f : Addr} {cd : Value} {A : Around} {outer : List Env} {s : Shared} {H : Hp} {E : XK} : (cxOf CX P w K mg base N qual sc f cd A outer s H E).K = K := rfl
/-! ### b(e, ..), b an own object -/
section
variable {M : Model} {A : Around} {E : Value → Shared → Prop} {s : Shared} {C dx x : Addr} {pos : Pos} {Q : Value → Shared → Prop}
end
section
variable {X : Cx}
structure OwnC (P : Program) (w : World) (K : PySem.W.Frag) (mg : Str → Option Value) (base : Heap) (CX : CXT) (k : Nat) (C : Addr) (ps : List Str) (sp : Sp) : Prop where
  ex : ∃ (g : Addr) (fd : FuncData), PySem.W.findIn K (.ref C) "__call__" = some (some (.ref g)) ∧ PySem.W.isFn K (.ref g) = true ∧ PySem.W.fnIn K g = true ∧ FnOk P w K mg base CX k g fd ps sp ∧ Binds K fd ps []
def tCallO (C : Addr) (sp : Sp) (E : XK) (tf : TE) (t : TA) : TE := fun σ H Q => tf σ H fun x H1 => ∃ (a dx : Addr) (fs : List (Str × V)), x = .ref a ∧ H1 a = some (.ins C dx fs) ∧ t σ H1 fun vs H2 => H2 a = some (.ins C dx fs) ∧ sp (x :: vs) H2 Q E
/-! ### repr(o) by own __repr__ -/
def rReprOwn (C : Addr) (sp : Sp) : List V → Hp → VK → Prop := fun xs H Q => ∃ a dx fs, xs = [.ref a] ∧ H a = some (.ins C dx fs) ∧ sp [.ref a] H (fun v H' => ∃ t, v = .str t ∧ Q (.str t) H') E0
/-! ### own == beside data -/
def rEqAny (K : PySem.W.Frag) (C : Addr) (sp : Sp) : R2 := fun x y H Q => ∃ (a dx : Addr) (fs : List (Str × V)) (T : String), x = .ref a ∧ H a = some (.ins C dx fs) ∧ TyB K H y T ∧ T ≠ "bytes" ∧ PySem.W.notFirst K C (.type T) = true ∧ sp [x, y] H Q E0
/-! ### C(e, ..) with defaults -/
structure CalleeID (P : Program) (w : World) (K : PySem.W.Frag) (mg : Str → Option Value) (base : Heap) (CX : CXT) (k : Nat) (C : Addr) (x : Str) (ps : List Str) (sp : Sp) (dvs : List V) : Prop where
  ex : ∃ (f : Addr) (fd : FuncData) (ds : List Value), FnOk P w K mg base CX k f fd ps sp ∧ Mk K C f ∧ mg x = some (.ref C) ∧ Binds K fd ps ds ∧ Vals dvs ds
theorem pe_makeD {CX : CXT} {k : Nat} {C : Addr} {x : Str} {ps : List Str} {sp : Sp} {dvs : List V} {E : XK} {e : Expr} {es : List Expr} {p pos : Pos} {t : TA} (c : CalleeID X.prog X.w X.K X.mg X.base CX k C x ps sp dvs) (room : Room (k + 1) X.A) (gl : Gl X x) (pass : Passes CX X E) (ha : PA X (e :: es) t)
    (d1 : (x == ("__debug__" : Str)) = false := by decide) (d2 : starEach (e :: es) X.env = (false, eval e X.env) :: starEach es X.env := by rfl) (d3 : (backTo pos (starEach es X.env)).any (·.1) = false := by rfl) :
    PE X (.Call (.Name x p) (e :: es) [] pos) (tMake C sp dvs E t) := by
  obtain ⟨f, fd, ds, F, M, hm, hb, hd⟩ := c.ex
  exact pe_make M F room gl hm hb hd pass ha d1 d2 d3
/-! ### f(k = v, ..) -/
end
theorem r_chain {σ : L2.St} {H : Hp} {Q : VK} {r r' : R2} {ta tb tc : TE} (q : ta σ H fun x H1 => tb σ H1 fun y H2 => r x y H2 fun z H3 => ∃ k, z = .bl k ∧ if k = true then tc σ H3 fun w' H4 => r' y w' H4 Q else Q (.bl false) H3) : tChain r r' ta tb tc σ H Q := q
end KC
/-! ### own object op number -/
namespace KC
open PySem PySem.Spec PyProof.Rows L2 KB KG KO
section
variable {X : Cx}
structure OwnB (P : Program) (w : World) (K : PySem.W.Frag) (mg : Str → Option Value) (base : Heap) (CX : CXT) (k : Nat) (C : Addr) (op : Operator) (ps : List Str) (sp : Sp) : Prop where
  ex : ∃ (g : Addr) (fd : FuncData) (rc fo ro : Option Value), PySem.W.selfFirst K C = true ∧ PySem.W.findIn K (.ref C) (PySem.dunder op.info.2) = some (some (.ref g)) ∧ PySem.W.isFn K (.ref g) = true ∧ PySem.W.findIn K (.ref C) (dunderR op.info.2) = some rc ∧ (rc = none ∨ ∃ g : Addr, rc = some (.ref g)) ∧
    PySem.W.findIn K (.type "int") (PySem.dunder op.info.2) = some fo ∧ PySem.W.findIn K (.type "int") (dunderR op.info.2) = some ro ∧ PySem.W.subIn K (.type "int") (.ref C) = some false ∧ FnOk P w K mg base CX k g fd ps sp ∧ Binds K fd ps []
def rBinO (C : Addr) (sp : Sp) (E : XK) : R2 := fun x y H Q => ∃ (a dx : Addr) (fs : List (Str × V)) (i : Int), x = .ref a ∧ H a = some (.ins C dx fs) ∧ y = .int i ∧ sp [x, y] H Q E
end
end KC

/-! KBL: blends: the mathematics (natural numbers, bit by bit). -/
namespace KBL
/-- the word moved by s -/
def shN (w v : Nat) (s : Int) : Nat := if s < 0 then v / 2 ^ (0 - s).toNat else v * 2 ^ s.toNat % 2 ^ w
theorem bit_sh {w v : Nat} {s : Int} (hv : v < 2 ^ w) (p : Nat) : (shN w v s).testBit p = (decide (p < w) && (decide (s ≤ (p : Int)) && v.testBit ((p : Int) - s).toNat)) := by
  unfold shN
  by_cases h : s < 0
  · rw [if_pos h, Nat.testBit_div_two_pow, show p + (0 - s).toNat = ((p : Int) - s).toNat by omega, decide_eq_true (show s ≤ (p : Int) by omega), Bool.true_and]
    by_cases hp : p < w
    · rw [decide_eq_true hp, Bool.true_and]
    · rw [decide_eq_false hp, Bool.false_and]
      exact Nat.testBit_lt_two_pow (Nat.lt_of_lt_of_le hv (Nat.pow_le_pow_right (by decide) (by omega)))
  · rw [if_neg h, Nat.testBit_mod_two_pow, Nat.testBit_mul_two_pow]
    by_cases hs : s ≤ (p : Int)
    · rw [decide_eq_true (show s.toNat ≤ p by omega), decide_eq_true hs, show p - s.toNat = ((p : Int) - s).toNat by omega]
    · rw [decide_eq_false (show ¬ s.toNat ≤ p by omega), decide_eq_false hs]
      simp
theorem sh_lt {w v : Nat} {s : Int} (hv : v < 2 ^ w) : shN w v s < 2 ^ w := by
  unfold shN
  split
  · exact Nat.lt_of_le_of_lt (Nat.div_le_self _ _) hv
  · exact Nat.mod_lt _ (Nat.two_pow_pos w)
def onesN (w : Nat) : Nat := 2 ^ w - 1
theorem ones_lt (w : Nat) : onesN w < 2 ^ w := by
  have := Nat.two_pow_pos w
  unfold onesN
  omega
def keepN (w : Nat) (s : Int) (k : Nat) : Nat := shN w (onesN w) s &&& k
def shiftN (w : Nat) (s : Int) (k : Nat) : Int := if keepN w s k = 0 then 0 else s
/-- the place p has a source -/
def src (w : Nat) (s : Int) (k p : Nat) : Bool := decide (p < w) && (decide (s ≤ (p : Int)) && (decide ((p : Int) - s < w) && k.testBit p))
theorem bit_keep (w : Nat) (s : Int) (k p : Nat) : (keepN w s k).testBit p = src w s k p := by
  unfold keepN src
  rw [Nat.testBit_and, bit_sh (ones_lt w)]
  unfold onesN
  rw [Nat.testBit_two_pow_sub_one]
  by_cases h : s ≤ (p : Int)
  · rw [decide_eq_true h, show decide (((p : Int) - s).toNat < w) = decide ((p : Int) - s < w) from by
      by_cases q : (p : Int) - s < w
      · rw [decide_eq_true q, decide_eq_true (by omega)]
      · rw [decide_eq_false q, decide_eq_false (by omega)]]
    simp only [Bool.true_and, Bool.and_assoc]
  · rw [decide_eq_false h]
    simp
theorem keep_lt (w : Nat) (s : Int) (k : Nat) : keepN w s k < 2 ^ w := by
  unfold keepN
  rw [Nat.and_comm]
  exact Nat.and_lt_two_pow _ (sh_lt (ones_lt w))
/-- what a blend makes of a word -/
def ap (w : Nat) (s : Int) (k f v : Nat) : Nat := f ^^^ (keepN w s k &&& shN w v s)
theorem bit_ap {w : Nat} {s : Int} {k f v : Nat} (hv : v < 2 ^ w) (p : Nat) : (ap w s k f v).testBit p = (f.testBit p ^^ (src w s k p && v.testBit ((p : Int) - s).toNat)) := by
  unfold ap
  rw [Nat.testBit_xor, Nat.testBit_and, bit_keep, bit_sh hv]
  unfold src
  by_cases h1 : p < w <;> by_cases h2 : s ≤ (p : Int) <;> by_cases h3 : (p : Int) - s < w <;> simp [h1, h2, h3]
theorem ap_zero (w : Nat) (s : Int) (k f : Nat) : ap w s k f 0 = f := by
  refine Nat.eq_of_testBit_eq fun p => ?_
  rw [bit_ap (Nat.two_pow_pos w), Nat.zero_testBit, Bool.and_false, Bool.xor_false]
theorem two_lt {j w : Nat} (h : j < w) : 2 ^ j < 2 ^ w := Nat.pow_lt_pow_right (by decide) h
theorem bit_two {w : Nat} {s : Int} {k f j : Nat} (h : j < w) (p : Nat) : (ap w s k f (2 ^ j)).testBit p = (f.testBit p ^^ (src w s k p && decide ((p : Int) - s = j))) := by
  rw [bit_ap (two_lt h), Nat.testBit_two_pow]
  unfold src
  by_cases h2 : s ≤ (p : Int)
  · have e : decide (j = ((p : Int) - s).toNat) = decide ((p : Int) - s = j) := by
      by_cases q : (p : Int) - s = j
      · rw [decide_eq_true q, decide_eq_true (by omega)]
      · rw [decide_eq_false q, decide_eq_false (by omega)]
    rw [e]
  · simp [h2]
theorem src_of {w : Nat} {s : Int} {k p : Nat} (h : src w s k p = true) : p < w ∧ s ≤ (p : Int) ∧ (p : Int) - s < w := by
  unfold src at h
  simp only [Bool.and_eq_true, decide_eq_true_eq] at h
  exact ⟨h.1, h.2.1, h.2.2.1⟩
/-- where two agree at the single bits below n, a source of the one is that of the other -/
theorem src_same {w n : Nat} {s s' : Int} {k k' f f' : Nat} (hf : f = f') (h : ∀ j, j < n → ap w s k f (2 ^ j) = ap w s' k' f' (2 ^ j)) (hn : n ≤ w) {p : Nat} (hp : src w s k p = true) (hj : (p : Int) - s < n) : src w s' k' p = true ∧ (p : Int) - s' = (p : Int) - s := by
  obtain ⟨h1, h2, h3⟩ := src_of hp
  obtain ⟨j, ej⟩ : ∃ j : Nat, (p : Int) - s = j := ⟨((p : Int) - s).toNat, by omega⟩
  have hjn : j < n := by omega
  have e := congrArg (fun x => Nat.testBit x p) (h j hjn)
  simp only [bit_two (show j < w by omega), hp, hf] at e
  rw [decide_eq_true ej] at e
  cases hq : src w s' k' p with
  | false => rw [hq] at e; simp at e
  | true =>
    rw [hq] at e
    by_cases z : (p : Int) - s' = j
    · exact ⟨rfl, by omega⟩
    · rw [decide_eq_false z] at e
      simp at e
theorem bits_below {v n i : Nat} (hv : v < 2 ^ n) (h : v.testBit i = true) : i < n := by
  rcases Nat.lt_or_ge i n with z | z
  · exact z
  · rw [Nat.testBit_lt_two_pow (Nat.lt_of_lt_of_le hv (Nat.pow_le_pow_right (by decide) z))] at h
    cases h
/-- .. then they agree at all words below 2 ^ n -/
theorem agree {w n : Nat} {s s' : Int} {k k' f f' : Nat} (hf : f = f') (h : ∀ j, j < n → ap w s k f (2 ^ j) = ap w s' k' f' (2 ^ j)) (hn : n ≤ w) {v : Nat} (hv : v < 2 ^ n) : ap w s k f v = ap w s' k' f' v := by
  have hvw : v < 2 ^ w := Nat.lt_of_lt_of_le hv (Nat.pow_le_pow_right (by decide) hn)
  have one : ∀ {s s' : Int} {k k' f f' : Nat}, f = f' → (∀ j, j < n → ap w s k f (2 ^ j) = ap w s' k' f' (2 ^ j)) → ∀ p, (src w s k p && v.testBit ((p : Int) - s).toNat) = true → (src w s' k' p && v.testBit ((p : Int) - s').toNat) = true := by
    intro s s' k k' f f' hf h p hp
    obtain ⟨h1, h2⟩ := Bool.and_eq_true_iff.mp hp
    have h3 := bits_below hv h2
    obtain ⟨g1, g2⟩ := src_same hf h hn h1 (by have := (src_of h1).2.1; omega)
    rw [g1, g2, h2]
    rfl
  refine Nat.eq_of_testBit_eq fun p => ?_
  rw [bit_ap hvw, bit_ap hvw, hf]
  congr 1
  cases e : (src w s k p && v.testBit ((p : Int) - s).toNat) with
  | true => exact (one hf h p e).symm
  | false =>
    cases e' : (src w s' k' p && v.testBit ((p : Int) - s').toNat) with
    | false => rfl
    | true =>
      have := one hf.symm (fun j hj => (h j hj).symm) p e'
      rw [e] at this
      cases this
/-! ### where two part -/
def parts (F G : Nat → Nat) (v : Nat) : Bool := decide (F v ≠ G v)
def bits (w : Nat) : List Nat := (List.range w).map (2 ^ ·)
/-- the least word of 0 and the single bits at which F and G part -/
def parting (w : Nat) (F G : Nat → Nat) : Option Nat := (0 :: bits w).find? (parts F G)
theorem parting_some {w : Nat} {F G : Nat → Nat} {d : Nat} (h : parting w F G = some d) : F d ≠ G d ∧ (d = 0 ∨ ∃ j, j < w ∧ d = 2 ^ j ∧ F 0 = G 0 ∧ ∀ i, i < j → F (2 ^ i) = G (2 ^ i)) := by
  have hp : parts F G d = true := List.find?_some h
  refine ⟨by simpa [parts] using hp, ?_⟩
  unfold parting at h
  rw [List.find?_cons] at h
  cases e : parts F G 0 with
  | true => rw [e] at h; exact .inl (Option.some.inj h).symm
  | false =>
    rw [e] at h
    have h0 : F 0 = G 0 := by simpa [parts] using e
    have h' : (bits w).find? (parts F G) = some d := h
    unfold bits at h'
    rw [List.find?_map] at h'
    cases e2 : (List.range w).find? (parts F G ∘ fun x => 2 ^ x) with
    | none => rw [e2] at h'; cases h'
    | some j =>
      rw [e2] at h'
      have hd : 2 ^ j = d := Option.some.inj h'
      obtain ⟨as, bs, e3, e4⟩ := List.find?_eq_some_iff_append.mp e2 |>.2
      refine .inr ⟨j, List.mem_range.mp (List.mem_of_find?_eq_some e2), hd.symm, h0, fun i hi => ?_⟩
      have : i ∈ as := by
        have hl : as.length = j := by
          have := congrArg (fun l => l[as.length]?) e3
          simp at this
          have h5 : as.length < w := by
            have := congrArg List.length e3
            simp at this
            omega
          simp [h5] at this
          exact this
        have hi2 : i < as.length := by omega
        have q := congrArg (fun l => l[i]?) e3
        have hiw : i < w := by
          have := congrArg List.length e3
          simp at this
          omega
        rw [show (as ++ j :: bs)[i]? = as[i]? from List.getElem?_append_left hi2, List.getElem?_range hiw] at q
        exact List.mem_of_getElem? q.symm
      have := e4 i this
      simpa [parts] using this
/-- two blends: all words below the parting word agree -/
theorem below {w : Nat} {s s' : Int} {k k' f f' d v : Nat} (h : parting w (ap w s k f) (ap w s' k' f') = some d) (hv : v < d) : ap w s k f v = ap w s' k' f' v := by
  rcases (parting_some h).2 with rfl | ⟨j, hj, rfl, h0, h1⟩
  · omega
  · rw [ap_zero, ap_zero] at h0
    exact agree h0 h1 (Nat.le_of_lt hj) hv
end KBL
/-! ### numbers of the model -/
namespace KBL
open PySem
theorem bAnd (a b : Nat) : Builtin.bitAnd (a : Int) (b : Int) = ((a &&& b : Nat) : Int) := by
  rw [PyProof.Rows.bitAnd_pp (by omega) (by omega)]
  rfl
theorem ofShr (v : Nat) (j : Int) : (v : Int) / 2 ^ j.toNat = ((v / 2 ^ j.toNat : Nat) : Int) := by
  rw [Int.natCast_ediv, Int.natCast_pow]
  rfl
theorem ofShl (v : Nat) (j : Int) : (v : Int) * 2 ^ j.toNat = ((v * 2 ^ j.toNat : Nat) : Int) := by
  rw [Int.natCast_mul, Int.natCast_pow]
  rfl
theorem shl_and (w v : Nat) (j : Int) : Builtin.bitAnd ((v : Int) * 2 ^ j.toNat) ((onesN w : Nat) : Int) = ((v * 2 ^ j.toNat % 2 ^ w : Nat) : Int) := by
  rw [ofShl, bAnd]
  unfold onesN
  rw [Nat.and_two_pow_sub_one_eq_mod]
end KBL
/-! ### texts of numbers -/
namespace KBL
open PySem
def dg (i : Int) : List Nat := (Str.ofString (toString i)).cps.toList
def bText (w s k f : Int) : Str := Str.empty ++ "Blend(" ++ toString w ++ ", " ++ toString s ++ ", " ++ toString k ++ ", " ++ toString f ++ ")"
end KBL
namespace KBL
open PySem
def b2n (b : Bool) : Nat := if b then 1 else 0
theorem bit_one (n p : Nat) : Builtin.bitAnd ((n : Int) / 2 ^ p) 1 = ((b2n (n.testBit p) : Nat) : Int) := by
  rw [show ((n : Int) / 2 ^ p) = ((n / 2 ^ p : Nat) : Int) by rw [Int.natCast_ediv, Int.natCast_pow]; rfl]
  rw [show (1 : Int) = ((1 : Nat) : Int) from rfl, bAnd, Nat.and_one_is_mod, Nat.testBit_eq_decide_div_mod_eq]
  unfold b2n
  have := Nat.mod_two_eq_zero_or_one (n / 2 ^ p)
  rcases this with h | h <;> rw [h] <;> rfl
theorem mod_next (x i : Nat) : x % 2 ^ (i + 1) = x % 2 ^ i + b2n (x.testBit i) * 2 ^ i := by
  rw [Nat.mod_pow_succ, Nat.testBit_eq_decide_div_mod_eq]
  unfold b2n
  have := Nat.mod_two_eq_zero_or_one (x / 2 ^ i)
  rcases this with h | h <;> rw [h] <;> simp
end KBL

/-! KD: comprehensions whose elements are made. -/
namespace KD
open PySem PySem.Spec PyProof.Rows L2 KB KG KO
/-- all but lists is kept -/
def SameN (H H' : Hp) : Prop := ∀ a o, H a = some o → (∀ xs, o ≠ .lst xs) → H' a = some o
theorem SameN.of {H H' : Hp} (s : Same H H') : SameN H H' := fun a o e _ => s a o e
theorem SameN.trans {H H' H2 : Hp} (s : SameN H H') (t : SameN H' H2) : SameN H H2 := fun a o e n => t a o (s a o e n) n
theorem SameN.tup {H H' : Hp} {a : Addr} {xs : List V} (s : SameN H H') (h : H a = some (.tup xs)) : H' a = some (.tup xs) := s a _ h (fun _ z => by cases z)
theorem SameN.ins {H H' : Hp} {a C dx : Addr} {fs : List (Str × V)} (s : SameN H H') (h : H a = some (.ins C dx fs)) : H' a = some (.ins C dx fs) := s a _ h (fun _ z => by cases z)
theorem r_yes {σ : L2.St} {H : Hp} {QT : Bool → Hp → Prop} (q : QT true H) : tYes σ H QT := q
/-! ### what repr shows -/
open KY
def fitB (tag : Str) (t : Dt) : Bool := PyData.showable t.d && decide ((KY.pairD tag t).depth ≤ 60) && decide ((KY.pairD tag t).shown.length ≤ 1000)
/-! ### f(k = v, ..), its reading named -/
section
variable {X : Cx}
def tCK (ks : List Str) (sp : Sp) (gV : List V → List V → List V) (E : XK) (tk : TA) : TE := fun σ H Q => tk σ H fun zs H2 => zs.length = ks.length ∧ sp (gV [] zs) H2 Q E
end
end KD

/-! KR: own object beside data of any type under &, |, ^, <<, >>, on either side. -/
namespace KR
open PySem PySem.Spec PyProof.Rows L2 KB KG KO KY
section
variable {prog : Program} {w : World} {A : Around} {E : Value → Shared → Prop} {s : Shared} {K : PySem.W.Frag} {x C L g g2 : Addr} {hb : Heap} {m : Str → Option Value} {ox : Obj} {od : Option Obj} {T : String}
end
section
variable {X : Cx} {pins : List (Addr × Obj)} {σ : L2.St} {H : Hp} {st : Shared}
end
section
variable {M : Model} {s : Shared} {x C dx : Addr}
open PySem.SeqAt PySem.MeetsSeq PySem.AutoSeq1
end
section
variable {prog : Program} {w : World} {M : Model} {s : Shared} {x l C dx : Addr}
open PySem.SeqAt PySem.MeetsSeq PySem.AutoSeq1
end
section
variable {prog : Program} {w : World} {A : Around} {E : Value → Shared → Prop} {s : Shared} {x C dx : Addr} {Q : Option Value → Shared → Prop}
end
/-! ### the rules -/
theorem ty_in (t : Dt) : t.ty ∈ ["NoneType", "bool", "int", "str", "tuple", "list", "dict"] := by
  cases t with
  | sc s => cases s <;> simp [Dt.ty]
  | tup => simp [Dt.ty]
  | lst => simp [Dt.ty]
  | dct => simp [Dt.ty]
section
variable {X : Cx}
def ops3 : List Operator := [.BitAnd, .BitOr, .BitXor]
def ops5 : List Operator := [.BitAnd, .BitOr, .BitXor, .LShift, .RShift]
structure OwnBD (P : Program) (w : World) (K : PySem.W.Frag) (mg : Str → Option Value) (base : Heap) (CX : CXT) (k : Nat) (C : Addr) (op : Operator) (ps : List Str) (sp : Sp) : Prop where
  ex : ∃ (g : Addr) (fd : FuncData) (rc : Option Value), op ∈ ops5 ∧ PySem.W.selfFirst K C = true ∧ PySem.W.findIn K (.ref C) (PySem.dunder op.info.2) = some (some (.ref g)) ∧ PySem.W.isFn K (.ref g) = true ∧ PySem.W.findIn K (.ref C) (dunderR op.info.2) = some rc ∧ (rc = none ∨ ∃ g : Addr, rc = some (.ref g)) ∧ FnOk P w K mg base CX k g fd ps sp ∧ Binds K fd ps []
structure OwnBR (P : Program) (w : World) (K : PySem.W.Frag) (mg : Str → Option Value) (base : Heap) (CX : CXT) (k : Nat) (C : Addr) (op : Operator) (ps : List Str) (sp : Sp) : Prop where
  ex : ∃ (g g2 : Addr) (fd : FuncData), op ∈ ops3 ∧ PySem.W.selfFirst K C = true ∧ PySem.W.findIn K (.ref C) (PySem.dunder op.info.2) = some (some (.ref g2)) ∧ PySem.W.isFn K (.ref g) = true ∧ PySem.W.findIn K (.ref C) (dunderR op.info.2) = some (some (.ref g)) ∧
    PySem.W.subIn K (.ref C) (.type "int") = some false ∧ PySem.W.subIn K (.ref C) (.type "bool") = some false ∧ PySem.W.subIn K (.ref C) (.type "dict") = some false ∧ FnOk P w K mg base CX k g fd ps sp ∧ Binds K fd ps []
def rBinD (C : Addr) (sp : Sp) (E : XK) : R2 := fun x y H Q => ∃ (a dx : Addr) (fs : List (Str × V)) (t : Dt), x = .ref a ∧ H a = some (.ins C dx fs) ∧ OdAt H y t ∧ sp [x, y] H Q E
def rBinR (C : Addr) (sp : Sp) (E : XK) : R2 := fun x y H Q => ∃ (a dx : Addr) (fs : List (Str × V)) (t : Dt), y = .ref a ∧ H a = some (.ins C dx fs) ∧ OdAt H x t ∧ sp [y, x] H Q E
end
end KR

/-! KP: repr of a list of scalars and of own objects that have a __repr__ of their own. -/
namespace KP
open PySem PySem.Spec PyProof.Rows L2 KB KG KO KY
section
variable {prog : Program} {w : World} {A : Around} {E : Value → Shared → Prop} {s : Shared} {K : PySem.W.Frag} {x C L f : Addr} {hb : Heap} {m : Str → Option Value} {ox : Obj} {od : Option Obj}
open PySem.W in
theorem boundBy_K {M : Model} {last : Value → List Value → Sem Value} {name : Str} {Z : Option Value → Shared → Prop} (XK : K.In s.heap) (J : InstAt s.heap x ox C od) (c1 : findIn K (.ref C) name = some (some (.ref f))) (c2 : isFn K (.ref f) = true)
    (go : wpAny M A (last (.ref f) [.ref x]) (fun v => Z (some v)) E s) : wpAny M A (callSpecialIfBoundBy? last (.ref x) name) Z E s := by
  simp only [callSpecialIfBoundBy?, bindSpecialIfBound?]
  refine wpAny_holding (wpAny_bind (wpAny_bind (wpAny_bind (J.type.here ((looks_findIn XK c1).here ?_)))))
  refine wpAny_bind (wpAny_askSetting (wpAny_ite ?_))
  have last1 : wpAny M A (last (.ref f) [.ref x] >>= fun v => pure (some v)) Z E s := wpAny_bind (wpAny_mono go (fun _ _ y => wpAny_pure y) fun _ _ y => y)
  split
  · exact wpAny_bind ((bind_fn XK _ (beq_iff_eq.mp c2)).here (wpAny_pure (by exact last1)))
  · exact wpAny_tryCatch (wpAny_bind ((bind_fn XK _ (beq_iff_eq.mp c2)).here (wpAny_pure (by exact last1))))
open PySem.W in
theorem reprUnder_K {b : Nat} {Z : Str → Shared → Prop} (hz : b ≤ sizeLine) (hu : A.units < cLine) (XK : K.In s.heap) (J : InstAt s.heap x ox C od) (c1 : findIn K (.ref C) "__repr__" = some (some (.ref f))) (c2 : isFn K (.ref f) = true)
    (go : wpAny (model prog w) A (call (.ref f) [.ref x]) (fun v s' => ∃ t u, v = .str t u ∧ Z t s') E s) : wpAny (model prog w) A (pyReprUnder b (.ref x)) Z E s := by
  refine wpAny_pyReprUnder_ref hz ?_
  unfold pyReprObjUnder pyReprObjBy
  refine wpAny_bind (wpAny_cRoomFor hu ?_)
  refine wpAny_bind (wpAny_bind (J.type.here ((looks_findIn XK c1).here ?_)))
  show wpAny _ _ (if (some (Value.ref f)).isNone = true then _ else _) _ _ _
  rw [if_neg (by simp)]
  refine wpAny_bind (m := callSpecialIfBoundBy? _ (.ref x) (Str.ofString "__repr__")) (boundBy_K XK J c1 c2 ?_)
  refine wpAny_mono go (fun v s' y => ?_) fun _ _ y => y
  obtain ⟨t, u, rfl, q⟩ := y
  exact wpAny_bind (wpAny_isInstance (T := "str") (b := true) rfl isSubtype_str_str (wpAny_pure ⟨_, _, rfl, q⟩))
end
/-- an item and its text -/
def ItOk (P : Program) (w : World) (C : Addr) (sp : Sp) (H : Hp) (v : V) (t : Str) : Prop :=
  (∀ u, RelV v u → ReprIs P w u t) ∨ ∃ (a dx : Addr) (fs : List (Str × V)), v = .ref a ∧ H a = some (.ins C dx fs) ∧ ∀ H', Same H H' → ∀ Q : VK, Q (.str t) H' → sp [.ref a] H' Q E0
section
variable {X : Cx}
theorem frames_loop (A : Around) (args : Args) : (A.under (.builtin "list.__repr__.loop" args)).frames = A.frames ∧ (A.under (.builtin "list.__repr__.loop" args)).handled = A.handled ∧ (A.under (.builtin "list.__repr__.loop" args)).depth ≤ A.depth + 1 := by
  refine ⟨?_, ?_, ?_⟩ <;> first | rfl | simp [Around.under, Code.weight, Code.isCreation, Code.isGuard, Code.isCaller, Code.frames, Code.isFrame, guardIds]
theorem strs_done : ∀ (ts : List Str) (us : List Value), Vals (ts.map V.str) us → ∃ dn : List (Str × Tok), us = strValues dn ∧ dn.map (·.1) = ts
  | [], us, r => by cases r; exact ⟨[], rfl, rfl⟩
  | t :: ts, us, r => by
    cases r with
    | cons r1 r2 =>
      obtain ⟨tk, rfl⟩ := r1
      obtain ⟨dn, rfl, e⟩ := strs_done ts _ r2
      exact ⟨(t, tk) :: dn, rfl, by rw [List.map_cons, e]⟩
theorem vals_at : ∀ {xs : List V} {us : List Value}, Vals xs us → ∀ (i : Nat) (v : V), xs[i]? = some v → ∃ u, us[i]? = some u ∧ RelV v u
  | _, _, .nil, i, v, e => by simp at e
  | _, _, .cons r1 r2, 0, v, e => ⟨_, rfl, by cases e; exact r1⟩
  | _, _, .cons r1 r2, i + 1, v, e => vals_at r2 i v e
theorem loop {C : Addr} {sp : Sp} {ps : List Str} {n : Nat} (c : OwnM X.prog X.w X.K X.mg X.base n C "__repr__" ps sp) {A : Around} (hfr : A.frames = X.A.frames) (hh : A.handled = none) (hd : A.depth + 1 + 3 * n + 5 < recursionLimit) (hu : A.units + 1 + 16 * n + 200 < cLine)
    {p P : Addr} {vs : List V} {ts : List Str} {H0 : Hp} (len : ts.length = vs.length) (sz : (listText ts).length ≤ sizeLine) (its : ∀ (i : Nat) (v : V) (t : Str), vs[i]? = some v → ts[i]? = some t → ItOk X.prog X.w C sp H0 v t) (nP : H0 P = none) (hp : H0 p = some (.lst vs)) {pins : List (Addr × Obj)} {σ : L2.St} {R : Result → Shared → Prop}
    (last : ∀ H' s' u, Same H0 H' → Inv X pins σ H' s' → R (.ok (.ret (.str (listText ts) u))) s') :
    ∀ (k i : Nat) (s : Shared) (H : Hp), vs.length - i = k → i ≤ vs.length → Same H0 H → Inv X pins σ H s → H P = some (.lst ((ts.take i).map V.str)) →
      codeAny (model X.prog X.w) A (.builtin "list.__repr__.loop" ⟨[.ref p, rawInt i, .ref P, rawInt ((piled (ts.take i) : Nat) : Int)], []⟩) R s := by
  obtain ⟨g, fd, hs, hf, F, bind⟩ := c.ex
  have tl := textFrom_len ts 0 "["
  have sl : (listText ts).length = (textFrom 0 "[" ts).length + 1 := by
    show (textFrom 0 "[" ts ++ "]").length = _
    rw [strLen_append]; rfl
  have s2 : ∀ t ∈ ts, t.length ≤ sizeLine := fun t ht => by
    have := tl.2.1 t ht
    omega
  have pl := piled_le_listText ts
  intro k
  induction k with
  | zero =>
    intro i s H hk hi sm inv eP
    have hin : i = vs.length := by omega
    obtain ⟨us, rv, ⟨ob, nb, ho, hc, _, hdt⟩, _⟩ := inv.list (SqL.of (sm _ _ hp))
    obtain ⟨z2, us2, n2, r2, l2, e2⟩ := inv.lstM eP
    have lu := rv.length
    refine codeAny_builtin PySem.F.entry_list_repr_loop ?_
    show wpAny _ _ (Builtin.«list.__repr__.loop» ⟨[.ref p, .int i 0, .ref P, .int ((piled (ts.take i) : Nat) : Int) 0], []⟩) _ _ s
    rw [repr_loop_tree]
    refine wpAny_bind (wpAny_listItems ho hdt ?_)
    have hno : us.toArray[(i : Int).toNat]? = none := by simp [hin, lu]
    simp only [hno]
    unfold reprEnd
    refine wpAny_bind (wpAny_listItems e2 rfl ?_)
    rw [hin, ← len, List.take_length] at r2
    obtain ⟨dn, rfl, ed⟩ := strs_done ts us2 r2
    rw [repr_fold, ed]
    refine wpAny_bind (wpAny_pure ?_)
    refine wpAny_bind (wpAny_mkStr (wpAny_pure ?_) sz)
    exact last H _ _ sm (inv.tok _)
  | succ k ih =>
    intro i s H hk hi sm inv eP
    have hlt : i < vs.length := by omega
    obtain ⟨us, rv, ⟨ob, nb, ho, hc, _, hdt⟩, _⟩ := inv.list (SqL.of (sm _ _ hp))
    have lu := rv.length
    have ev : vs[i]? = some vs[i] := List.getElem?_eq_getElem hlt
    have et : ts[i]? = some (ts[i]'(by omega)) := List.getElem?_eq_getElem (by omega)
    obtain ⟨u, eu, ru⟩ := vals_at rv i _ ev
    have it := its i _ _ ev et
    generalize ts[i]'(by omega) = t at et it
    generalize vs[i] = v at ev ru it
    have p1 := piled_take_succ et
    have p2 := piled_take_le ts (i + 1)
    refine codeAny_builtin PySem.F.entry_list_repr_loop ?_
    show wpAny _ _ (Builtin.«list.__repr__.loop» ⟨[.ref p, .int i 0, .ref P, .int ((piled (ts.take i) : Nat) : Int) 0], []⟩) _ _ s
    rw [repr_loop_tree]
    refine wpAny_bind (wpAny_listItems ho hdt ?_)
    have hso : us.toArray[(i : Int).toNat]? = some u := by simpa using eu
    simp only [hso]
    rw [Int.toNat_natCast]
    have rest : ∀ s', Inv X pins σ H s' → wpAny (model X.prog X.w) (A.under (.builtin "list.__repr__.loop" ⟨[.ref p, rawInt i, .ref P, rawInt ((piled (ts.take i) : Nat) : Int)], []⟩)) (do
        let r ← mkStr t
        Builtin.List.listUpdate (.ref P) (·.push r)
        again (.builtin "list.__repr__.loop" ⟨[.ref p, rawInt (i + 1), .ref P, rawInt ((piled (ts.take i) + (t.length + 2) : Nat) : Int)], []⟩))
        (fun fin s' => match fin with | .done f => R (.ok f) s' | .again c' => c'.quiet = true ∧ codeAny (model X.prog X.w) A c' R s') (fun e s' => R (.error e) s') s' := by
      intro s' inv'
      obtain ⟨z2, us2, n2, r2, l2, e2⟩ := inv'.lstM eP
      have l3 := r2.length
      have l4 : ((ts.take i).map V.str).length ≤ i := by simp; omega
      have l5 : i < sizeLine := by
        have := tl.1
        rw [if_neg (Nat.lt_irrefl 0)] at this
        omega
      refine wpAny_bind (wpAny_mkStr ?_ (s2 t (List.mem_of_getElem? et)))
      refine wpAny_bind ?_
      show wpAny _ _ (updateSeq P _) _ _ _
      refine wpAny_updateSeq e2 rfl (wpAny_pure ⟨PySem.F.quiet_list_repr_loop _, ?_⟩) (by rw [List.size_toArray]; omega)
      have a1 : ((i : Int) + 1) = ((i + 1 : Nat) : Int) := by omega
      have a2 : piled (ts.take i) + (t.length + 2) = piled (ts.take (i + 1)) := by omega
      rw [a1, a2]
      refine ih (i + 1) _ (upd H P (.lst ((ts.take (i + 1)).map V.str))) (by omega) hlt (same_mut sm nP) ?_ upd_same
      refine inv'.lset (its' := us2 ++ [.str t s'.toks]) eP e2 (by simp) ?_ (by simp; omega)
      rw [List.take_add_one, et, List.map_append]
      exact r2.append (.cons ⟨_, rfl⟩ .nil)
    rcases it with it | ⟨a, dx, fs, rfl, ha, it⟩
    · refine wpAny_bind (wpAny_holding (it u ru (piled (ts.take i) + 1) (by omega) _ _ _ _ fun tk => ?_))
      exact rest _ (inv.tok _)
    · obtain rfl : u = Value.ref a := ru
      obtain ⟨oo, J⟩ := inst_of inv (sm _ _ ha)
      have fl := frames_loop A ⟨[.ref p, rawInt i, .ref P, rawInt ((piled (ts.take i) : Nat) : Int)], []⟩
      have ul := units_under_list_loop A ⟨[.ref p, rawInt i, .ref P, rawInt ((piled (ts.take i) : Nat) : Int)], []⟩
      refine wpAny_bind (wpAny_holding (reprUnder_K (by omega) (by rw [ul]; omega) inv.kIn J hs hf ?_))
      have e0 := inv.env0
      refine wpAny_mono (run0 (E' := fun e s' => R (.error e) s') (xs := [.ref a]) F ⟨by rw [fl.2.1]; exact hh, by have := fl.2.2; omega, by rw [ul]; omega⟩ ⟨by rw [fl.1, hfr]; exact e0.frames, e0.mod, e0.bs, e0.bsz, e0.funs, e0.frf, e0.hok, e0.bare⟩ bind inv (.cons rfl .nil) (it H sm (fun v' H' => v' = .str t ∧ H' = H) ⟨rfl, rfl⟩)) (fun v' st y => ?_) fun _ _ y => y
      obtain ⟨w', H', inv2, rw', e1, e2⟩ := y
      subst e1 e2
      obtain ⟨tk, rfl⟩ := (show ∃ tk, v' = Value.str t tk from rw')
      exact ⟨t, tk, rfl, rest _ inv2⟩
def rReprL (P : Program) (w : World) (C : Addr) (sp : Sp) : List V → Hp → VK → Prop := fun xs H Q => ∃ (p : Addr) (vs : List V) (ts : List Str), xs = [.ref p] ∧ H p = some (.lst vs) ∧ vs ≠ [] ∧ ts.length = vs.length ∧ (listText ts).length ≤ sizeLine ∧
  (∀ (i : Nat) (v : V) (t : Str), vs[i]? = some v → ts[i]? = some t → ItOk P w C sp H v t) ∧ ∀ H', Same H H' → Q (.str (listText ts)) H'
end
end KP
/-! ### classmethods; cls(..) -/
namespace KP
open PySem PySem.Spec PyProof.Rows L2 KB KG KO KY
section
variable {X : Cx}
structure CalleeC (P : Program) (w : World) (K : PySem.W.Frag) (mg : Str → Option Value) (base : Heap) (CX : CXT) (k : Nat) (C : Addr) (m : Str) (sp : Sp) : Prop where
  ex : ∃ (mc : Value) (p g : Addr), ClX.CRead K C mc ∧ ClX.CMet K C mc m p g ∧ FnR P w K mg base CX k g sp
theorem pe_cmethC {pl : Sem Bool} {CX : CXT} {k : Nat} {C : Addr} {m : Str} {sp : Sp} {E : XK} {o e : Expr} {es : List Expr} {apos pos : Pos} {ta : TE} {t : TA} (c : CalleeC X.prog X.w X.K X.mg X.base CX k C m sp) (ho : PE X o ta) (room : Room k X.A) (pass : Passes CX X E) (ha : PA X (e :: es) t)
    (d1 : starEach (e :: es) X.env = (false, eval e X.env) :: starEach es X.env := by rfl) (d2 : (backTo pos (starEach es X.env)).any (·.1) = false := by rfl)
    (d3 : eval (.Call (.Attribute o m apos) (e :: es) [] pos) X.env = (do
      let ov ← eval o X.env
      standAt apos.atName
      let (f, first) ← holding [ov] (getMethod ov m pl)
      callWith pos f first (backTo pos (starEach (e :: es) X.env)) (backToKw pos (keywordEach [] X.env))) := by rfl) :
    PE X (.Call (.Attribute o m apos) (e :: es) [] pos) (ClX.tCMeth C sp E ta t) := by
  obtain ⟨mc, p, g, r, cm, F⟩ := c.ex
  exact ClX.pe_cmeth ho r cm F room pass ha d1 d2 d3
def tMakeL (C : Addr) (sp : Sp) (E : XK) (tf : TE) (t : TA) : TE := fun σ H Q => tf σ H fun v H1 => v = .ref C ∧ tMake C sp [] E t σ H1 Q
theorem pe_makeL {CX : CXT} {k : Nat} {C : Addr} {x y : Str} {ps : List Str} {sp : Sp} {E : XK} {e : Expr} {es : List Expr} {p pos : Pos} {tf : TE} {t : TA} (c : CalleeI X.prog X.w X.K X.mg X.base CX k C y ps sp) (room : Room (k + 1) X.A) (pass : Passes CX X E) (hn : PE X (.Name x p) tf) (ha : PA X (e :: es) t)
    (d1 : starEach (e :: es) X.env = (false, eval e X.env) :: starEach es X.env := by rfl) (d2 : (backTo pos (starEach es X.env)).any (·.1) = false := by rfl) :
    PE X (.Call (.Name x p) (e :: es) [] pos) (tMakeL C sp E tf t) := by
  obtain ⟨f, fd, F, M, hm, hb⟩ := c.ex
  refine ⟨fun pins s σ H Q I h => wpAny_Call_Name_kw (thn (hn.run pins s σ H _ I h) fun u s1 r => ?_)⟩
  obtain ⟨v, H1, I1, rv, rfl, z⟩ := r
  obtain rfl : u = Value.ref C := rv
  refine PySem.W.callWith_K (h₀ := X.base) I1.ok.mod.kin M.kp (thn (ha.run pos pins s1 σ H1 _ I1 z) fun us s2 y => ?_) d1 d2
  obtain ⟨vs, H2, I2, r2, q2⟩ := y
  exact ⟨I2.kIn, run_make M F room hb .nil pass I2 r2 q2⟩
end
theorem r_cmeth {σ : L2.St} {H : Hp} {Q : VK} {C : Addr} {sp : Sp} {E : XK} {ta : TE} {t : TA} (q : ta σ H fun x H1 => x = .ref C ∧ t σ H1 fun vs H2 => sp (.ref C :: vs) H2 Q E) : ClX.tCMeth C sp E ta t σ H Q := q
theorem r_makeL {σ : L2.St} {H : Hp} {Q : VK} {C : Addr} {sp : Sp} {E : XK} {tf : TE} {t : TA} (q : tf σ H fun v H1 => v = .ref C ∧ tMake C sp [] E t σ H1 Q) : tMakeL C sp E tf t σ H Q := q
end KP

/-! KS: lists of texts compared; small helpers. -/
namespace KS
open PySem PySem.Spec PyProof.Rows L2 KB KG KO KY
theorem dp_strs {K : PySem.W.Frag} {H : Hp} : ∀ zs : List Str, DpAll K H (zs.map V.str) (zs.map PyData.str)
  | [] => .nil
  | z :: r => .cons (.str z) (dp_strs r)
theorem lay_strs : ∀ zs : List Str, (∀ z ∈ zs, PyData.strOk z = true) → PyData.canLayAll0 (zs.map PyData.str) = true
  | [], _ => rfl
  | n :: r, h => by
    show (PyData.canLay0 (.str n) && PyData.canLayAll0 (r.map PyData.str)) = true
    rw [lay_strs r fun z m => h z (List.mem_cons_of_mem _ m)]
    simp [PyData.canLay0, h n (List.mem_cons_self ..)]
theorem depth_strs : ∀ zs : List Str, PyData.depthAll (zs.map PyData.str) = 0
  | [] => rfl
  | n :: r => by
    show max (PyData.depth (.str n)) (PyData.depthAll (r.map PyData.str)) = 0
    rw [depth_strs r]; rfl
theorem shaped_strs {zs : List Str} (h : ∀ z ∈ zs, PyData.strOk z = true) : SeqAt.shaped (.list (zs.map PyData.str)) = true := by
  show (PyData.canLayAll0 (zs.map PyData.str) && decide (PyData.depthAll (zs.map PyData.str) + 1 ≤ 64)) = true
  rw [lay_strs zs h, depth_strs]; rfl
theorem eqv_strs : ∀ ns ms : List Str, PyData.eqvAll (ns.map PyData.str) (ms.map PyData.str) = decide (ns = ms)
  | [], [] => rfl
  | [], _ :: _ => rfl
  | _ :: _, [] => rfl
  | n :: r, m :: q => by
    show (PyData.eqv (.str n) (.str m) && PyData.eqvAll (r.map PyData.str) (q.map PyData.str)) = decide (n :: r = m :: q)
    rw [eqv_strs r q]
    have e : PyData.eqv (.str n) (.str m) = decide (n = m) := by
      simp only [PyData.eqv]
      by_cases h : n = m <;> simp [h]
    rw [e]
    by_cases h1 : n = m <;> by_cases h2 : r = q <;> simp [h1, h2]
theorem r_neStrs {K : PySem.W.Frag} {H : Hp} {Q : VK} {a b : Addr} {ns ms : List Str} (h : SqL K H a (ns.map V.str)) (h' : SqL K H b (ms.map V.str)) (o1 : ∀ z ∈ ns, PyData.strOk z = true) (o2 : ∀ z ∈ ms, PyData.strOk z = true) (q : Q (.bl (!decide (ns = ms))) H) : rNeD K (.ref a) (.ref b) H Q :=
  ⟨_, _, .lst h (dp_strs ns), .lst h' (dp_strs ms), shaped_strs o1, shaped_strs o2, (show Q (.bl (!PyData.eqvAll (ns.map PyData.str) (ms.map PyData.str))) H by rw [eqv_strs]; exact q)⟩
theorem r_sls {H : Hp} {Q : VK} {z : Str} {lo hi : Option Int} (h : z.length ≤ sizeLine) (q : Q (.str (cutS z lo hi)) H) : rSlS (.str z) lo hi H Q := ⟨z, rfl, h, q⟩
/-! ### repr of a value of a kind -/
section
variable {X : Cx}
def rReprOd : List V → Hp → VK → Prop := fun xs H Q => ∃ (v : V) (t : Dt), xs = [v] ∧ OdAt H v t ∧ t.d.showable = true ∧ t.d.depth ≤ 60 ∧ t.d.shown.length ≤ sizeLine ∧ Q (.str t.d.shown) H
end
end KS

/-! KT: sets of ints made of lists; enumerate over texts and tuples; keywords at own objects and classmethods. -/
namespace KT
open PySem PySem.Spec PyProof.Rows L2 KB KG KO KY
/-! ### set(l) of a list of ints -/
def freshSet (w : World) : Obj := { cls := .type "set", dict := none, data := .set #[] 0 (.fresh 0 0 (!w.params.followText "set-order")) }
section
variable {P : Program} {w : World} {A : Around} {E : Value → Shared → Prop} {s : Shared}
theorem set_ofL {l : Addr} {items : Array Value} (ns : List Int) {Z : Value → Shared → Prop} (calm : A.handled = none) (isL : s.heap.IsList l items) (allI : IntsAre items.toList ns) (few : ns.length + 1 < scanBound)
    (fin : ∀ (h' : Heap) (tk c : Nat), SetR w h' s.heap.objs.size (fun j => decide (j ∈ ns)) c → c ≤ ns.length → (∀ b o, s.heap.get? b = some o → h'.get? b = some o) → Z (.ref s.heap.objs.size) { s with heap := h', toks := tk }) :
    wpAny (model P w) A (call (.type "set") [.ref l]) Z E s := by
  have size : items.size = ns.length := (Array.length_toList ▸ allI.length : items.size = ns.length)
  obtain ⟨c0, tl0, mro0⟩ := F.called_set.mro
  have made0 := F.called_set.made
  have sub0 := F.called_set.sub
  refine wpAny_call (codeAny_of_tree ?_)
  show wpAny _ _ (callAny (.type "set") _) _ _ _
  refine wpAny_pure ⟨Code.quiet_builtin _ (by decide +kernel), codeAny_builtin F.entry_type_call ?_⟩
  rw [Around.under_plain (weight_type_call_type "set" [.ref l] []) rfl]
  have nt0 := F.called_set.notType
  have cc0 := F.called_set.canCreate
  have tc0 := F.typeCall_set_1 (.ref l)
  repeat (any_goals (first | assumption | wp_step))
  refine codeAny_mono (code_set_led1 (.ref l) (E := E) (Q₁ := fun ob s1 => ob = .ref s.heap.objs.size ∧ s1 = { s with heap := s.heap.push (freshSet w) }) ⟨rfl, rfl⟩) fun res s1 hres => ?_
  match res, hres with
  | .error e, hres => exact hres
  | .ok .next, hres => exact hres.elim
  | .ok .brk, hres => exact hres.elim
  | .ok .cont, hres => exact hres.elim
  | .ok (.ret ob), hres =>
    obtain ⟨rfl, rfl⟩ := hres
    have atS : (s.heap.push (freshSet w)).get? s.heap.objs.size = some (freshSet w) := Heap.get?_push_size _ rfl
    have tyS : Shared.TypeIs { s with heap := s.heap.push (freshSet w) } (.ref s.heap.objs.size) "set" := ⟨_, atS, rfl⟩
    have li0 := F.called_set.init.lookup
    have bi0 := F.called_set.init.bind (.ref s.heap.objs.size)
    repeat (any_goals (first | assumption | wp_step))
    refine codeAny_mono (codeAny_call_builtin (R := wants (fun u s2 => u = .none ∧ ∃ h' tk c, s2 = { s with heap := h', toks := tk } ∧ SetR w h' s.heap.objs.size (fun j => decide (j ∈ ns)) c ∧ c ≤ ns.length ∧ ∀ b o, s.heap.get? b = some o → h'.get? b = some o) E) F.called_set.init.plain F.entry_set_init (check_set_init_1 tyS ?_)) fun res2 s2 hres2 => ?_
    · obtain ⟨⟨lc, ld, lda, lsl⟩, lat, lcl, ln, ldd⟩ := isL
      simp only at lcl ldd
      subst lcl ldd
      have lat2 : (s.heap.push (freshSet w)).get? l = some { cls := .type "list", dict := ld, data := .seq items ln, slots := lsl } := Heap.get?_push_of_some _ lat
      have sls := F.sub_list_set
      have slf := F.sub_list_frozenset
      have lnd : (Value.type "list" == Value.type "dict") = false := by decide
      have isL2 : (s.heap.push (freshSet w)).IsList l items := ⟨_, lat2, rfl, ln, rfl⟩
      unfold Builtin.«set.__init__» noKeywords Builtin.Frozenset.updateFrom
      generalize hPI : pyIter = PI
      wp_walk
      subst hPI
      refine wpAny_pyIter_list isL2 ?_
      refine wpAny_bind (wpAny_runValue ?_)
      have lt0 : l < s.heap.objs.size := Heap.lt_size lat
      have calm3 : A.in1.in1.in1.handled = none := by simp [calm]
      have sz1 : (s.heap.push (freshSet w)).objs.size = s.heap.objs.size + 1 := Heap.size_push ..
      have ne1 : l ≠ (s.heap.push (freshSet w)).objs.size := by rw [sz1]; exact Nat.ne_of_lt (Nat.lt_succ_of_lt lt0)
      have off1 : s.heap.objs.size ∉ [(s.heap.push (freshSet w)).objs.size, l] := by
        rw [sz1]
        simp only [List.mem_cons, List.not_mem_nil, or_false, not_or]
        exact ⟨Nat.ne_of_lt (Nat.lt_succ_self _), Nat.ne_of_gt lt0⟩
      have vals1 : ∀ (i : Nat) (v : Value), items[i]? = some v → ∃ k t, ns[i]? = some k ∧ v = .int k t := fun i v hv => by
        have hi : i < ns.length := size ▸ (Array.getElem?_eq_some_iff.mp hv).1
        obtain ⟨t, e⟩ := PyProof.Rows.IntsAre.int_at allI i v ((Array.getElem?_toList ..).trans hv)
        refine ⟨ns[i], t, List.getElem?_eq_getElem hi, e.trans ?_⟩
        rw [List.getD_eq_getElem?_getD, List.getElem?_eq_getElem hi]
        rfl
      refine set_update_ints ((Walks.list calm3 _ l ne1 items).toS) s.heap.objs.size off1 ns size few vals1 (items.size - 0) 0 _ (by omega) (Nat.zero_le _) ⟨⟨_, Heap.get?_push_size _ rfl, rfl, rfl⟩, isL2.at fun o e => Heap.get?_push_of_some _ e⟩ ?S0 ?SR
      case S0 => exact ⟨0, Nat.le_refl 0, setR_new_at (Heap.get?_push_of_some _ atS)⟩
      case SR =>
        intro s3 c3 mv le3 R3
        obtain ⟨h3, g3, d3, tk3, os3⟩ := s3
        obtain rfl : g3 = s.gens := mv.gens
        obtain rfl : d3 = s.drawn := mv.drawn
        obtain rfl : os3 = s.os := mv.os
        show wpAny _ _ _ _ _ _
        refine wpAny_pure ?_
        show wpAny _ _ (ret Value.none) _ _ _
        refine wpAny_pure ⟨rfl, h3, tk3, c3, rfl, R3, size ▸ le3, fun b o e => ?_⟩
        have lb : b < s.heap.objs.size := Heap.lt_size e
        refine mv.heap b o ?_ (Heap.get?_push_of_some _ (Heap.get?_push_of_some _ e))
        simp only [List.mem_cons, List.not_mem_nil, or_false, not_or]
        exact ⟨Nat.ne_of_lt lb, fun z => absurd (z.trans sz1) (Nat.ne_of_lt (Nat.lt_succ_of_lt lb))⟩
    · match res2, hres2 with
      | .error e, hres2 => exact hres2
      | .ok .next, hres2 => exact hres2.elim
      | .ok .brk, hres2 => exact hres2.elim
      | .ok .cont, hres2 => exact hres2.elim
      | .ok (.ret u), hres2 =>
        obtain ⟨rfl, h3, tk3, c3, rfl, R3, le3, kp3⟩ := hres2
        repeat (any_goals (first | assumption | wp_step))
        exact fin _ _ _ R3 le3 kp3
end
section
variable {X : Cx}
def rSetOfI (K : PySem.W.Frag) (w : World) : List V → Hp → VK → Prop := fun xs H Q => ∃ (l : Addr) (ns : List Int), xs = [.ref l] ∧ (SqL K H l (ns.map V.int) ∨ SqT K H l (ns.map V.int)) ∧ ns.length ≤ 1000 ∧ ∀ p n, H p = none → n ≤ ns.length → Q (.ref p) (upd H p (SetO w p (fun j => decide (j ∈ ns)) n))
theorem cr_setOfI (calm : X.calm = true) : CallR X (.type "set") (rSetOfI X.K X.w) := by
  intro pins st σ h xs us Z inv rel pre
  obtain ⟨l, ns, rfl, sq, few, q⟩ := pre
  obtain ⟨u, rfl, rv⟩ := vals_one rel
  obtain rfl : u = Value.ref l := rv
  have hd := inv.ok.hd calm
  have fin : ∀ (h' : Heap) (tk c : Nat), SetR X.w h' st.heap.objs.size (fun j => decide (j ∈ ns)) c → c ≤ ns.length → (∀ b o, st.heap.get? b = some o → h'.get? b = some o) → EP X pins σ Z (.ref st.heap.objs.size) { st with heap := h', toks := tk } := fun h' tk c R le kp =>
    ⟨.ref _, upd h st.heap.objs.size (SetO X.w st.heap.objs.size (fun j => decide (j ∈ ns)) c), inv.laid (t' := tk) kp (Nat.le_refl _) (setO_new R), rfl, q _ c (inv.hok.fresh (Nat.le_refl _)) le⟩
  rcases sq with sq | sq
  · obtain ⟨its, r, pl, _⟩ := inv.list sq
    exact set_ofL ns hd pl.isList (by simpa using RZ.intsAre_vals r) (by unfold scanBound; omega) fin
  · obtain ⟨its, r, pt, _⟩ := inv.tuple sq
    exact call_set_tupI ns hd (show st.heap.IsTuple l its.toArray from pt) (by simpa using RZ.intsAre_vals r) (by unfold scanBound; omega) fin
end
/-! ### enumerate over a text, over a tuple -/
def ItES (z : Str) : It := ⟨fun i _ => i < z.cps.size, fun i H v H' => ∃ T c, v = .ref T ∧ H T = none ∧ H' = upd H T (.tup [.int (i : Nat), .str ⟨#[c]⟩]) ∧ z.cps[i]? = some c, fun i _ => i = z.cps.size⟩
def ItET (K : PySem.W.Frag) (a : Addr) : It :=
  ⟨fun i H => ∃ (xs : List V) (x : V), SqT K H a xs ∧ xs[i]? = some x, fun i H v H' => ∃ T x, v = .ref T ∧ H T = none ∧ H' = upd H T (.tup [.int (i : Nat), x]) ∧ ∀ xs, SqT K H a xs → xs[i]? = some x, fun i H => ∃ xs : List V, SqT K H a xs ∧ xs.length = i⟩
section
variable {P : Program} {w : World} {K : PySem.W.Frag}
theorem two_obj {h : Heap} {e it : Addr} {oe oi : Obj} (h1 : h.get? e = some oe) (h2 : h.get? it = some oi) (n1 : ∀ v, oe.data ≠ .cell v) (n2 : ∀ v, oi.data ≠ .cell v) : ∀ b ∈ [e, it], ∃ o, h.get? b = some o ∧ ∀ v, o.data ≠ .cell v := fun b hb => by
  rcases List.mem_cons.mp hb with rfl | hb
  · exact ⟨_, h1, n1⟩
  · rw [List.mem_singleton.mp hb]; exact ⟨_, h2, n2⟩
/-- a new pair has come -/
theorem pair_new {X : Cx} {pins : List (Addr × Obj)} {σ : L2.St} {H : Hp} {s : Shared} {e it : Addr} {x : V} {u : Value} {i tk : Nat} {h1 h2 : Heap} (I : Inv X pins σ H s) (fp : ∀ b ∈ [e, it], FpOk X pins H b) (le : e < s.heap.objs.size) (li : it < s.heap.objs.size) (ru : RelV x u)
    (pr : h1.get? s.heap.objs.size = some { cls := .type "tuple", data := .seq #[.int i tk, u] }) (kp : ∀ b o, b ≠ e → b ≠ it → s.heap.get? b = some o → h1.get? b = some o) (sb : Heap.SameBut e h1 h2) :
    Inv X pins σ (upd H s.heap.objs.size (.tup [.int (i : Nat), x])) { s with heap := h2, toks := tk + 1 } ∧ H s.heap.objs.size = none ∧ ∀ b ∈ [e, it], upd H s.heap.objs.size (.tup [.int (i : Nat), x]) b = none := by
  have pr2 := (sb.2 _ (Nat.ne_of_gt le)).trans pr
  have ok : ObjOk X.prog X.w (upd H s.heap.objs.size (.tup [.int (i : Nat), x])) h2 s.heap.objs.size (.tup [.int (i : Nat), x]) := ⟨(by show 2 ≤ sizeLine; decide), [.int i tk, u], .cons ⟨_, rfl⟩ (.cons ru .nil), ⟨_, pr2, rfl, _, rfl⟩⟩
  refine ⟨I.turnedNew (ch := [e, it]) (fun b ob hb q => (sb.2 b (fun z => hb (by simp [z]))).trans (kp b ob (fun z => hb (by simp [z])) (fun z => hb (by simp [z])) q)) fp (Nat.le_refl _) ok, I.hok.fresh (Nat.le_refl _), fun b hb => ?_⟩
  have lb : b < s.heap.objs.size := by
    rcases List.mem_cons.mp hb with rfl | hb
    · exact le
    · rw [List.mem_singleton.mp hb]; exact li
  rw [upd_ne (Nat.ne_of_lt lb)]
  exact (fp b hb).1
theorem turn_enumT {elts : List Expr} {kk : Nat} {tpos : Pos} (a e it : Addr) :
    Turn P w K (.Tuple elts kk tpos) (ItET K a) [e, it] e (fun i h => (∃ old, IsEnum h e it ((i : Nat) : Int) old) ∧ h.IsTupleIter it a i ∧ e ≠ it ∧ e ≠ a ∧ a ≠ it) where
  mem := List.mem_cons_self
  obj := fun i h st => by
    obtain ⟨⟨old, he⟩, ⟨o, ho, _, hd⟩, _⟩ := st
    exact two_obj he ho (fun v q => nomatch q) (fun v q => by rw [hd] at q; cases q)
  keep := fun i h h' st k => by
    obtain ⟨⟨old, he⟩, ⟨o, ho, r⟩, ne⟩ := st
    exact ⟨⟨old, k e (by simp) _ he⟩, ⟨o, k it (by simp) o ho, r⟩, ne⟩
  item := by
    intro X e1 e2 e3 calm i pins s σ H E I fp st go
    subst e1 e2 e3
    obtain ⟨⟨old, he⟩, hit, ne, nea, nai⟩ := st
    obtain ⟨xs, x, sq, hx⟩ := go
    obtain ⟨its, rv, pt, _⟩ := I.tuple sq
    obtain ⟨u, hu, ru⟩ := rv.get hx
    have li : it < s.heap.objs.size := by obtain ⟨_, q, _⟩ := hit; exact Heap.lt_size q
    have hd : X.A.in1.handled = none := I.ok.hd calm
    have lt : i < its.toArray.size := by
      rw [List.size_toArray]
      exact (List.getElem?_eq_some_iff.mp hu).1
    refine wpAny_pyNext_enum_itemD (Draws.tuple hd it a nai its.toArray) he ⟨hit, (show s.heap.IsTuple a its.toArray from pt)⟩ lt ne (by simp [ne, nea]) fun y h1 tk hy out hit1 pr _ kp => ?_
    obtain rfl : y = u := by
      have hy' : its.toArray[i]? = some y := hy
      rw [List.getElem?_toArray, hu] at hy'
      exact (Option.some.inj hy').symm
    refine ⟨_, rfl, wpAny_letOwnedTupleGo_enum (s := { s with heap := h1, toks := tk + 1 }) out fun h2 he2 sb => ?_⟩
    obtain ⟨I2, fr, no⟩ := pair_new (x := x) I fp (Heap.lt_size he) li ru pr kp sb
    refine ⟨.ref s.heap.objs.size, _, I2, rfl, ⟨_, x, rfl, fr, rfl, fun ys hy2 => ?_⟩, ⟨⟨_, he2⟩, ?_, ne, nea, nai⟩, no⟩
    · rw [I.tuple_inj hy2 sq]; exact hx
    · obtain ⟨o, ho, r⟩ := hit1.1
      exact ⟨o, (sb.2 it (Ne.symm ne)).trans ho, r⟩
  done := by
    intro X e1 e2 e3 calm i pins s σ H E I fp st stop
    subst e1 e2 e3
    obtain ⟨⟨old, he⟩, hit, ne, nea, nai⟩ := st
    obtain ⟨xs, sq, hl⟩ := stop
    obtain ⟨its, rv, pt, _⟩ := I.tuple sq
    obtain ⟨f0, f1, f2, f3, f4, f5⟩ := fp it (by simp)
    have hd : X.A.in1.handled = none := I.ok.hd calm
    have sz : its.toArray.size = i := by rw [List.size_toArray, ← rv.length, hl]
    refine wpAny_pyNext_enum_endD (Draws.tuple hd it a nai its.toArray) he ⟨sz ▸ hit, (show s.heap.IsTuple a its.toArray from pt)⟩ fun h' eb => ⟨rfl, I.turned (t' := s.toks) (fun b o hb q => eb b o hb q) f0 f1 f3 f4 f5⟩
  self := fun A i s Q E st h => by
    obtain ⟨⟨_, he⟩, _⟩ := st
    exact wpAny_pyIter_enum he h
end
section
abbrev iterT (l : Addr) : Obj := { cls := .type "tuple_iterator", data := .fields #[.ref l, .int 0 0] }
abbrev enumO (n : Addr) : Obj := { cls := .type "enumerate", data := .fields #[.none, .bool false, .ref n, rawInt 0, .none, .none] }
open AutoSeq1 (wpAny_loadPart') in
theorem enum_newT (l : Addr) (items : Array Value) (n : Nat) (dct : Option Addr) (sl : Array (Option Value)) :
    Meets (Builtin.«enumerate.__new__» ⟨[.type "enumerate", .ref l], []⟩) (fun _ R s => s.heap.get? l = some { cls := .type "tuple", dict := dct, data := .seq items n, slots := sl } ∧
      R (.ok (.ret (.ref (s.heap.push (iterT l)).objs.size))) { s with heap := (s.heap.push (iterT l)).push (enumO s.heap.objs.size) }) :=
  .of_wp fun prog w A R s pre => by
    obtain ⟨hp, g, d, tk, os⟩ := s
    obtain ⟨at0, fin⟩ := pre
    have sub0 := sub_enumerate
    have isT : Heap.IsTuple (Shared.heap ⟨hp, g, d, tk, os⟩) l items := ⟨_, at0, rfl, n, rfl⟩
    wp_walk using wpAny_loadPart' at0
    refine wpAny_stack_any fun stk => wpAny_pure ?_
    split
    · rename_i cl _ _ _ _ _
      cases (cl == Value.type "enumerate")
      · wp_walk using wpAny_loadPart' at0, wpAny_pyIter_tuple isT
        exact ⟨_, rfl, fin⟩
      · wp_walk using wpAny_loadPart' at0, wpAny_pyIter_tuple isT
        exact ⟨_, rfl, fin⟩
    · wp_walk using wpAny_loadPart' at0, wpAny_pyIter_tuple isT
      exact ⟨_, rfl, fin⟩
theorem enum_tuple {prog : Program} {w : World} {A : Around} {E : Value → Shared → Prop} {s : Shared} {l : Addr} {items : Array Value} {Z : Value → Shared → Prop} (isT : s.heap.IsTuple l items)
    (fin : ∀ h', IsEnum h' (s.heap.objs.size + 1) s.heap.objs.size 0 .none → h'.IsTupleIter s.heap.objs.size l 0 → (∀ b o, s.heap.get? b = some o → h'.get? b = some o) → Z (.ref (s.heap.objs.size + 1)) { s with heap := h' }) :
    wpAny (model prog w) A (call (.type "enumerate") [.ref l]) Z E s := by
  obtain ⟨⟨oc, od, oda, osl⟩, at0, oc1, n, od1⟩ := isT
  simp only at oc1 od1
  subst oc1 od1
  refine callType_new F.called_enumerate (by decide) (F.typeCall_enumerate_1 _) (F.newCall_enumerate_1 _) (fun ob => F.args_object_init_2 ob _) F.entry_enumerate_new (enum_newT l items n od osl) ⟨at0, ?_⟩
  have sz : (s.heap.push (iterT l)).objs.size = s.heap.objs.size + 1 := Heap.size_push ..
  show _ ∧ _
  rw [sz]
  have en : IsEnum ((s.heap.push (iterT l)).push (enumO s.heap.objs.size)) (s.heap.objs.size + 1) s.heap.objs.size 0 .none := by
    have z := Heap.get?_push_size (s.heap.push (iterT l)) (o := enumO s.heap.objs.size) rfl
    rw [sz] at z
    exact z
  exact ⟨⟨_, en, rfl⟩, fin _ en ⟨_, Heap.get?_push_of_some _ (Heap.get?_push_size _ rfl), rfl, rfl⟩ fun b o x => Heap.get?_push_of_some _ (Heap.get?_push_of_some _ x)⟩
end
section
variable {X : Cx} {e : Expr} {ta : TA} {p pos tpos : Pos} {elts : List Expr} {kk : Nat}
def iEnumS (ta : TA) : TI := fun σ H R => ta σ H fun vs H1 => ∃ z, vs = [.str z] ∧ R (ItES z) H1
def iEnumT (K : PySem.W.Frag) (ta : TA) : TI := fun σ H R => ta σ H fun vs H1 => ∃ a xs, vs = [.ref a] ∧ SqT K H1 a xs ∧ R (ItET K a) H1
theorem two_new {pins : List (Addr × Obj)} {σ : L2.St} {H : Hp} {s : Shared} (I : Inv X pins σ H s) : ∀ b ∈ [s.heap.objs.size + 1, s.heap.objs.size], FpOk X pins H b := fun b hb => by
  have le : s.heap.objs.size ≤ b := by
    rcases List.mem_cons.mp hb with rfl | hb
    · exact Nat.le_add_right _ _
    · rw [List.mem_singleton.mp hb]; exact Nat.le_refl _
  exact I.fpOk le (I.hok.fresh le)
theorem pi_enumT (hg : Gl X "enumerate") (hm : X.mg "enumerate" = none) (ha : PA X [e] ta) (hs : starEach [e] X.env = [(false, eval e X.env)] := by rfl) : PI X (.Tuple elts kk tpos) (.Call (.Name "enumerate" p) [e] [] pos) (iEnumT X.K ta) := by
  refine ⟨fun pins s σ H R I h => ?_⟩
  refine Call_ (ld_blt I hg hm boot_enumerate (PyProof.Rows.callWith_type1 (thn (ha.run pos pins s σ H _ I h) fun us s1 res => ?_) hs rfl))
  obtain ⟨vs, H1, I1, r1, a, xs, rfl, sq, q⟩ := res
  obtain ⟨u, rfl, ru⟩ := vals_one r1
  obtain rfl : u = Value.ref a := ru
  obtain ⟨its, rv, pt, _⟩ := I1.tuple sq
  have isT : s1.heap.IsTuple a its.toArray := pt
  have la : a < s1.heap.objs.size := by obtain ⟨o, ho, _⟩ := isT; exact Heap.lt_size ho
  refine enum_tuple isT fun h' en hit kp => wpAny_pyIter_enum en ?_
  exact ⟨s1.heap.objs.size + 1, [s1.heap.objs.size + 1, s1.heap.objs.size], _, _, H1, rfl, I1.kept (t' := s1.toks) kp, turn_enumT a (s1.heap.objs.size + 1) s1.heap.objs.size, ⟨⟨.none, en⟩, hit, Nat.succ_ne_self _, Nat.ne_of_gt (Nat.lt_succ_of_lt la), Nat.ne_of_lt la⟩, two_new I1, q⟩
end
/-! ### walks -/
theorem walk_enumT {K : PySem.W.Frag} {a : Addr} {xs : List V} : Walk (ItET K a) xs.length (fun H => SqT K H a xs) (fun i H v H' => ∃ T x, v = .ref T ∧ H T = none ∧ H' = upd H T (.tup [.int (i : Nat), x]) ∧ xs[i]? = some x) :=
  ⟨fun i _ hi q => ⟨xs, xs[i], q, by simp [hi]⟩, fun _ q => ⟨xs, q, rfl⟩, fun _ _ _ _ _ q y => by obtain ⟨T, x, h1, h2, h3, h4⟩ := y; exact ⟨T, x, h1, h2, h3, h4 xs q⟩⟩
end KT

/-! KGen: if and for within a generator def. -/
namespace KGen
open PySem PySem.Spec PyProof.Rows L2 GenW
section
variable {X : Cx}
/-! ### if -/
def tGIf (tc : TT) (t1 t2 : TGn) : TGn := fun D ys σ H => tc σ H fun b H1 => if b = true then t1 D ys σ H1 else t2 D ys σ H1
/-! ### for -/
def tGFor (wi : TI) (g : TG) (tb : TGn) : TGn := fun D ys σ H => wi σ H fun J H1 => ∃ W : Nat → Nat → List V → L2.St → Hp → Prop, (∃ m, W 0 m ys σ H1) ∧ ∀ i m ys σ H, W i m ys σ H →
  (J.stop i H ∧ D.nx ys σ H) ∨ (J.go i H ∧ ∃ N : List V → L2.St → Hp → Prop, (∀ ys' σ' H', N ys' σ' H' → ∃ m', m' < m ∧ W (i + 1) m' ys' σ' H') ∧ ∀ x H', J.yld i H x H' → g x σ H' fun σ2 H2 => tb { D with nx := N, ct := N, bk := D.nx } ys σ2 H2)
/-- what a loop does with an exception -/
abbrev noted (e : Value) (env : Env) : Sem PySem.Fin := (do noteFrame e env; theTreesLotGoes e : Sem Unit).wrap (fun _ => .raise e) .raise id id
abbrev turned (tg : Expr) (it : Value) (body : List Stmt) (env : Env) : Flow → Sem PySem.Fin := fun f => match f with
  | .next | .cont => .pure (.again (.forLoop tg it body [] env))
  | .brk => .pure (.done .next)
  | .ret v => .pure (.done (.ret v))
end
end KGen

/-! KU: classmethods and own objects called by keywords; list(o.m()) of a generator method. -/
namespace KU
open PySem PySem.Spec PyProof.Rows L2 KB KG KO KY
section
variable {X : Cx}
/-- n: the positional values, the class among them -/
structure CalleeCK (P : Program) (w : World) (K : PySem.W.Frag) (mg : Str → Option Value) (base : Heap) (CX : CXT) (k : Nat) (C : Addr) (m : Str) (ps : List Str) (sp : Sp) (n : Nat) (ks : List Str) (gV : List V → List V → List V) : Prop where
  ex : ∃ (mc : Value) (p g : Addr) (fd : FuncData) (gg : List Value → List Value → List Value), ClX.CRead K C mc ∧ ClX.CMet K C mc m p g ∧ FnOk P w K mg base CX k g fd ps sp ∧ KBn K fd ps n ks gg gV
def tCMethK (C : Addr) (sp : Sp) (n m : Nat) (gV : List V → List V → List V) (E : XK) (ta : TE) (t tk : TA) : TE := fun σ H Q => ta σ H fun x H1 => x = .ref C ∧ t σ H1 fun vs H2 => tk σ H2 fun zs H3 => (vs.length + 1 = n ∧ zs.length = m) ∧ sp (gV (.ref C :: vs) zs) H3 Q E
/-! ### o(k = v) of an own object -/
structure OwnCK (P : Program) (w : World) (K : PySem.W.Frag) (mg : Str → Option Value) (base : Heap) (CX : CXT) (k : Nat) (C : Addr) (ps : List Str) (sp : Sp) (ks : List Str) (gV : List V → List V → List V) : Prop where
  ex : ∃ (g : Addr) (fd : FuncData) (gg : List Value → List Value → List Value), PySem.W.findIn K (.ref C) "__call__" = some (some (.ref g)) ∧ PySem.W.isFn K (.ref g) = true ∧ PySem.W.fnIn K g = true ∧ FnOk P w K mg base CX k g fd ps sp ∧ KBn K fd ps 1 ks gg gV
def tCallOK (C : Addr) (sp : Sp) (m : Nat) (gV : List V → List V → List V) (E : XK) (tf : TE) (tk : TA) : TE := fun σ H Q => tf σ H fun x H1 => ∃ (a dx : Addr) (fs : List (Str × V)), x = .ref a ∧ H1 a = some (.ins C dx fs) ∧ tk σ H1 fun zs H2 => H2 a = some (.ins C dx fs) ∧ zs.length = m ∧ sp (gV [.ref a] zs) H2 Q E
/-! ### list(o.m()) -/
structure CalleeGM (P : Program) (w : World) (K : PySem.W.Frag) (mg : Str → Option Value) (base : Heap) (k : Nat) (C : Addr) (m : Str) (ps : List Str) (sp : SpG) : Prop where
  ex : ∃ (f : Addr) (fd : FuncData), GFn P w K mg base k f fd ps sp ∧ Meth K C m f ∧ Binds K fd ps []
  cl : Cls K C
end
/-! ### name = {k: v for ..} -/
section
variable {X : Cx}
end
theorem r_enumT {K : PySem.W.Frag} {σ : L2.St} {H : Hp} {ta : TA} {R : It → Hp → Prop} (q : ta σ H fun vs H1 => ∃ a xs, vs = [.ref a] ∧ SqT K H1 a xs ∧ R (KT.ItET K a) H1) : KT.iEnumT K ta σ H R := q
end KU

/-! KV: data that is small enough to be shown by repr; what of a pen is kept; comprehensions that draw. -/
namespace KV
open PySem PySem.Spec PyProof.Rows L2 KB KG KO
/-- may be shown: at most n signs, at most k deep -/
structure Sm (n k : Nat) (d : PyData) : Prop where
  ok : d.showable = true
  nod : d.hasDict = false
  deep : d.depth ≤ k
  len : d.shown.length ≤ n
theorem Sm.mono {n k n' k' : Nat} {d : PyData} (h : Sm n k d) (a : n ≤ n') (b : k ≤ k') : Sm n' k' d := ⟨h.ok, h.nod, Nat.le_trans h.deep b, Nat.le_trans h.len a⟩
theorem sm_all {n k : Nat} : ∀ xs : List PyData, (∀ x ∈ xs, Sm n k x) → PyData.showableAll xs = true ∧ PyData.hasDictAll xs = false ∧ PyData.depthAll xs ≤ k ∧ ((PyData.shownAll xs).map (·.length)).sum ≤ xs.length * n
  | [], _ => ⟨rfl, rfl, Nat.zero_le _, by simp [PyData.shownAll]⟩
  | x :: xs, h => by
    obtain ⟨a, b, c, d⟩ := sm_all xs fun y m => h y (List.mem_cons_of_mem _ m)
    have z := h x List.mem_cons_self
    refine ⟨by simp only [PyData.showableAll, z.ok, a, Bool.and_self], by simp only [PyData.hasDictAll, z.nod, b, Bool.or_self], ?_, ?_⟩
    · simp only [PyData.depthAll]
      exact Nat.max_le.mpr ⟨z.deep, c⟩
    · simp only [PyData.shownAll, List.map_cons, List.sum_cons, List.length_cons, Nat.succ_mul]
      have := z.len
      omega
theorem Sm.tuple {n k : Nat} {xs : List PyData} (h : ∀ x ∈ xs, Sm n k x) : Sm (xs.length * (n + 2) + 3) (k + 1) (.tuple xs) := by
  obtain ⟨a, b, c, d⟩ := sm_all xs h
  refine ⟨by simpa only [PyData.showable] using a, by simpa only [PyData.hasDict] using b, by simp only [PyData.depth]; omega, ?_⟩
  have l := tupleText_len_le (PyData.shownAll xs)
  rw [PyData.shownAll_length] at l
  simp only [PyData.shown]
  rw [Nat.mul_add]
  omega
theorem Sm.list {n k : Nat} {xs : List PyData} (h : ∀ x ∈ xs, Sm n k x) : Sm (xs.length * (n + 2) + 3) (k + 1) (.list xs) := by
  obtain ⟨a, b, c, d⟩ := sm_all xs h
  refine ⟨by simpa only [PyData.showable] using a, by simpa only [PyData.hasDict] using b, by simp only [PyData.depth]; omega, ?_⟩
  have l := listText_len_le (PyData.shownAll xs)
  rw [PyData.shownAll_length] at l
  simp only [PyData.shown]
  rw [Nat.mul_add]
  omega
theorem Sm.int {i : Int} (h : i.natAbs < 10 ^ 12) : Sm 13 0 (.int i) := by
  refine ⟨?_, rfl, Nat.le_refl _, PyData.shown_int_le h⟩
  simp only [PyData.showable]
  refine decide_eq_true ?_
  by_cases z : i.natAbs = 0
  · rw [z]; decide
  · exact (Nat.log2_lt z).mpr (Nat.lt_of_lt_of_le h (by decide +kernel))
theorem Sm.bool {b : Bool} : Sm 5 0 (.bool b) := by cases b <;> exact ⟨rfl, rfl, Nat.le_refl _, by decide +kernel⟩
theorem Sm.none : Sm 4 0 .none := ⟨rfl, rfl, Nat.le_refl _, by decide +kernel⟩
theorem Sm.str {z : Str} {n : Nat} (h : (reprText z).length ≤ n) : Sm n 0 (.str z) := ⟨rfl, rfl, Nat.le_refl _, h⟩
/-! ### the pen -/
/-- the pen: its cells, the next index, what is left; room for k draws more -/
def PenC (H : Hp) (p c : Addr) (k : Nat) : Prop := ∃ (ns : List Int) (at_ : Nat) (left : Int),
  H p = some (.lst [.ref c, .int at_, .int left]) ∧ H c = some (.lst (ns.map V.int)) ∧ p ≠ c ∧ ns.length ≤ 63 ∧ at_ + k ≤ 100000
def Keep (p : Addr) (H H' : Hp) : Prop := ∀ b o, H b = some o → b ≠ p → H' b = some o
theorem PenC.mono {H : Hp} {p c : Addr} {j k : Nat} (h : PenC H p c k) (e : j ≤ k) : PenC H p c j := by
  obtain ⟨ns, at_, left, h1, h2, h3, h4, h5⟩ := h
  exact ⟨ns, at_, left, h1, h2, h3, h4, by omega⟩
theorem PenC.up {H H' : Hp} {p c : Addr} {k : Nat} (h : PenC H p c k) (s : Same H H') : PenC H' p c k := by
  obtain ⟨ns, at_, left, h1, h2, h3, h4, h5⟩ := h
  exact ⟨ns, at_, left, s _ _ h1, s _ _ h2, h3, h4, h5⟩
theorem PenC.ne {H : Hp} {p c q : Addr} {k : Nat} (h : PenC H p c k) (n : H q = none) : q ≠ p := by
  obtain ⟨ns, at_, left, h1, h2, h3, h4, h5⟩ := h
  exact (ne_of_none h1 n).symm
theorem PenC.nec {H : Hp} {p c q : Addr} {k : Nat} (h : PenC H p c k) (n : H q = none) : q ≠ c := by
  obtain ⟨ns, at_, left, h1, h2, h3, h4, h5⟩ := h
  exact (ne_of_none h2 n).symm
theorem PenC.keep {H H' : Hp} {p c q : Addr} {k : Nat} (h : PenC H p c k) (s : Keep q H H') (n1 : q ≠ p) (n2 : q ≠ c) : PenC H' p c k := by
  obtain ⟨ns, at_, left, h1, h2, h3, h4, h5⟩ := h
  exact ⟨ns, at_, left, s _ _ h1 n1.symm, s _ _ h2 n2.symm, h3, h4, h5⟩
theorem PenC.lst {H : Hp} {p c : Addr} {k : Nat} (h : PenC H p c k) : ∃ xs, H p = some (.lst xs) := by
  obtain ⟨ns, at_, left, h1, _⟩ := h
  exact ⟨_, h1⟩
theorem PenC.not {H : Hp} {p c b : Addr} {k : Nat} {o : HO} (h : PenC H p c k) (e : H b = some o) (n : ∀ xs, o ≠ .lst xs) : b ≠ p := by
  obtain ⟨xs, h1⟩ := h.lst
  intro z
  rw [z, h1] at e
  exact n xs (Option.some.inj e).symm
def spPen (K : PySem.W.Frag) : Sp := fun vs H Q _ => ∃ (a : Addr) (ns : List Int), vs = [.ref a] ∧ SqL K H a (ns.map V.int) ∧ ns.length ≤ 63 ∧
  ∀ H' p c, Same H H' → H p = none → H c = none → PenC H' p c 100000 → Q (.ref p) H'
def spDraw : Sp := fun vs H Q _ => ∃ (p c : Addr) (many : Int) (k : Nat), vs = [.ref p, .int many] ∧ 0 < many ∧ many < 10000000000 ∧ PenC H p c (k + 1) ∧
  ∀ (r : Int) H', 0 ≤ r → r < many → PenC H' p c k → Keep p H H' → Q (.int r) H'
theorem Keep.tr {p : Addr} {H1 H2 H3 : Hp} (a : Keep p H1 H2) (b : Keep p H2 H3) : Keep p H1 H3 := fun x o e n => b x o (a x o e n) n
theorem Keep.same {p : Addr} {H1 H2 : Hp} (a : Same H1 H2) : Keep p H1 H2 := fun x o e n => a x o e
theorem Keep.refl {p : Addr} {H : Hp} : Keep p H H := fun _ _ e _ => e
open KD
/-- a draw keeps all but lists -/
theorem Keep.sn {p c : Addr} {k : Nat} {H H' : Hp} (s : Keep p H H') (pn : PenC H p c k) : SameN H H' := fun a o e n => s a o e (pn.not e n)
theorem SameN.refl {H : Hp} : SameN H H := fun _ _ e _ => e
theorem SameN.lset {H : Hp} {D : Addr} {xs ys : List V} (h : H D = some (.lst xs)) : SameN H (upd H D (.lst ys)) := fun a o e n => by
  rw [upd_ne (fun z => n xs (by rw [z, h] at e; exact (Option.some.inj e).symm))]
  exact e
theorem Keep.mut {p D : Addr} {H1 H : Hp} {o : HO} (s : Keep p H1 H) (hD : H1 D = none) : Keep p H1 (upd H D o) := fun b o e n => by
  rw [upd_ne (ne_of_none e hD)]
  exact s b o e n
theorem PenC.mut {H : Hp} {p c D : Addr} {k : Nat} {o : HO} (h : PenC H p c k) (n1 : D ≠ p) (n2 : D ≠ c) : PenC (upd H D o) p c k := by
  obtain ⟨ns, at_, left, h1, h2, h3, h4, h5⟩ := h
  exact ⟨ns, at_, left, by rw [upd_ne n1.symm]; exact h1, by rw [upd_ne n2.symm]; exact h2, h3, h4, h5⟩
/-- a comprehension that draws: Kr i: the draws that are left ahead of the i-th element -/
theorem lc_pen {J : It} {n : Nat} {G : Hp → Prop} {Y : Nat → Hp → V → Hp → Prop} (wk : Walk J n G Y) {g : TG} {tt : TT} {te : TE} {vs : List Nat} {σ : L2.St} {H1 : Hp} {Q : VK} {pen c : Addr} (R : Nat → V → Hp → Prop) (Kr : Nat → Nat) (hn : n ≤ 10000) (pn : PenC H1 pen c (Kr 0))
    (up : ∀ i v H H', R i v H → SameN H H' → R i v H') (hG : ∀ H', Keep pen H1 H' → G H')
    (hs : ∀ i x H H' (N : V → Hp → Prop) (B : Hp → Prop), i < n → Keep pen H1 H → PenC H pen c (Kr i) → Y i H x H' → (∀ v H2, Keep pen H H2 → PenC H2 pen c (Kr (i + 1)) → R i v H2 → N v H2) → g x (wipe σ vs) H' fun σ2 H2 => wipe σ2 vs = wipe σ vs ∧ tt σ2 H2 fun b H3 => if b = true then te σ2 H3 N else B H3)
    (hd : ∀ D H' (ys : List V), H1 D = none → Keep pen H1 H' → PenC H' pen c (Kr n) → H' D = some (.lst ys) → ys.length = n → (∀ i v, ys[i]? = some v → R i v H') → Q (.ref D) H') :
    LcW J g tt te vs σ H1 Q := by
  intro D hD
  have dp := pn.ne hD
  have dc := pn.nec hD
  refine lc_it wk (Qd := fun H => Q (.ref D) H) (fun i H => Keep pen H1 H ∧ PenC H pen c (Kr i) ∧ ∃ ys : List V, H D = some (.lst ys) ∧ ys.length = i ∧ ∀ j v, ys[j]? = some v → R j v H) ⟨Keep.same (same_new hD), pn.up (same_new hD), [], upd_same, rfl, fun j v e => by simp at e⟩ (fun i H _ p => hG H p.1) (fun i x H H' hi p y => ?_) (fun H p => ?_)
  · obtain ⟨sm, pi, ys, hy, hl, hR⟩ := p
    refine hs i x H H' _ _ hi sm pi y (fun v H2 k2 p2 r => ?_)
    have e2 := k2 _ _ hy dp
    refine ⟨ys, e2, small1000' (by omega), (sm.tr k2).mut hD, p2.mut dp dc, ys ++ [v], upd_same, by simp [hl], fun j w e => ?_⟩
    by_cases hj : j < ys.length
    · rw [List.getElem?_append_left hj] at e
      exact up _ _ _ _ (hR j w e) ((k2.sn pi).trans (SameN.lset e2))
    · rw [List.getElem?_append_right (by omega)] at e
      have h0 : j - ys.length = 0 := by
        cases z : j - ys.length with
        | zero => rfl
        | succ m => rw [z] at e; simp at e
      rw [h0] at e
      have ew : v = w := Option.some.inj e
      subst ew
      have ej : j = i := by omega
      subst ej
      exact up _ _ _ _ r (SameN.lset e2)
  · obtain ⟨sm, pi, ys, hy, hl, hR⟩ := p
    exact hd D H ys hD sm pi hy hl hR
theorem atI_mem {α : Type} {xs : List α} {r : Int} (h0 : 0 ≤ r) (h1 : r < (xs.length : Int)) : ∃ x ∈ xs, atI xs r = some x := by
  obtain ⟨n, rfl⟩ : ∃ n : Nat, r = (n : Int) := ⟨r.toNat, by omega⟩
  have hl : n < xs.length := by omega
  exact ⟨xs[n], List.getElem_mem hl, atI_nat (by simp [hl])⟩
/-- what all elements are, as one list -/
theorem choose_list {α : Type} {f : α → V} {Pr : Nat → α → Prop} : ∀ (ys : List V), (∀ (i : Nat) (v : V), ys[i]? = some v → ∃ a, Pr i a ∧ v = f a) → ∃ as : List α, ys = as.map f ∧ as.length = ys.length ∧ ∀ (i : Nat) (a : α), as[i]? = some a → Pr i a
  | ys, h => by
    induction ys generalizing Pr with
    | nil => exact ⟨[], rfl, rfl, fun i a e => by simp at e⟩
    | cons y ys ih =>
      obtain ⟨a, pa, rfl⟩ := h 0 y rfl
      obtain ⟨as, rfl, l, q⟩ := ih (Pr := fun i a => Pr (i + 1) a) fun i v e => h (i + 1) v e
      refine ⟨a :: as, rfl, by simp, fun i b e => ?_⟩
      cases i with
      | zero => cases e; exact pa
      | succ i => exact q i b e
def sign (c : Nat) : Str := ⟨#[c]⟩
theorem str_ext {a b : Str} (h : a.cps.toList = b.cps.toList) : a = b := by
  cases a; cases b
  congr 1
  exact Array.toList_inj.mp h
theorem append_toList (a b : Str) : (a ++ b).cps.toList = a.cps.toList ++ b.cps.toList := Array.toList_append
theorem join_signs : ∀ cs : List Nat, (Str.join ⟨#[]⟩ (cs.map sign)).cps.toList = cs
  | [] => rfl
  | [c] => rfl
  | c :: d :: r => by
    show (sign c ++ (⟨#[]⟩ : Str) ++ Str.join ⟨#[]⟩ ((d :: r).map sign)).cps.toList = c :: d :: r
    rw [append_toList, append_toList, join_signs (d :: r)]
    rfl
theorem sum_signs (cs : List Nat) : ((cs.map sign).map (·.length)).sum = cs.length := by
  induction cs with
  | nil => rfl
  | cons c r ih =>
    rw [List.map_cons, List.map_cons, List.sum_cons, ih, List.length_cons]
    show 1 + r.length = _
    omega
end KV

/-! KW: o op= v by an own operator without an in-place form; ~o; a property read. -/
namespace KW
open PySem PySem.Spec PyProof.Rows L2 KB KG KO KY KR
section
variable {prog : Program} {w : World} {A : Around} {E : Value → Shared → Prop} {s : Shared} {K : PySem.W.Frag} {x C L g g2 : Addr} {hb : Heap} {m : Str → Option Value} {ox : Obj} {od : Option Obj} {T : String} {nm : String}
end
section
variable {X : Cx} {pins : List (Addr × Obj)} {σ : L2.St} {H : Hp} {st : Shared}
structure OwnIn (P : Program) (w : World) (K : PySem.W.Frag) (mg : Str → Option Value) (base : Heap) (CX : CXT) (k : Nat) (C : Addr) (op : Operator) (ps : List Str) (sp : Sp) : Prop where
  ex : ∃ (g : Addr) (fd : FuncData) (rc fo ro : Option Value), (∃ cd, PySem.W.clsIn K C = some cd ∧ cd.mro = [.ref C, .type "object"]) ∧ PySem.W.findIn K (.ref C) (PySem.dunder op.info.2) = some (some (.ref g)) ∧ PySem.W.isFn K (.ref g) = true ∧ PySem.W.findIn K (.ref C) (dunderR op.info.2) = some rc ∧ (rc = none ∨ ∃ g : Addr, rc = some (.ref g)) ∧
    PySem.W.findIn K (.type "int") (PySem.dunder op.info.2) = some fo ∧ PySem.W.findIn K (.type "int") (dunderR op.info.2) = some ro ∧ PySem.W.subIn K (.type "int") (.ref C) = some false ∧ PySem.W.findIn K (.ref C) (dunderI op.info.2) = some none ∧ PySem.W.findIn K (.type "object") (dunderI op.info.2) = some none ∧
    FnOk P w K mg base CX k g fd ps sp ∧ Binds K fd ps []
/-- x op= v, v an int -/
def tipO (C : Addr) (sp : Sp) (E : XK) : TIp := fun x y H Q => ∃ (a dx : Addr) (fs : List (Str × V)) (i : Int), x = .ref a ∧ H a = some (.ins C dx fs) ∧ y = .int i ∧ sp [x, y] H Q E
structure OwnU (P : Program) (w : World) (K : PySem.W.Frag) (mg : Str → Option Value) (base : Heap) (CX : CXT) (k : Nat) (C : Addr) (ps : List Str) (sp : Sp) : Prop where
  ex : ∃ (g : Addr) (fd : FuncData), PySem.W.findIn K (.ref C) "__invert__" = some (some (.ref g)) ∧ PySem.W.isFn K (.ref g) = true ∧ FnOk P w K mg base CX k g fd ps sp ∧ Binds K fd ps []
def rUnO (C : Addr) (sp : Sp) (E : XK) : V → Hp → VK → Prop := fun x H Q => ∃ (a dx : Addr) (fs : List (Str × V)), x = .ref a ∧ H a = some (.ins C dx fs) ∧ sp [x] H Q E
structure OwnP (P : Program) (w : World) (K : PySem.W.Frag) (mg : Str → Option Value) (base : Heap) (k : Nat) (C : Addr) (f : Str) (ps : List Str) (sp : Sp) : Prop where
  ex : ∃ (p g : Addr) (fd : FuncData), PropOf K C f p g ∧ FnOk P w K mg base CX0 k g fd ps sp ∧ Binds K fd ps []
  cl : Cls K C
theorem pe_propO {C : Addr} {f : Str} {ps : List Str} {sp : Sp} {n : Nat} {e : Expr} {pos : Pos} {ta : TE} (c : OwnP X.prog X.w X.K X.mg X.base n C f ps sp) (he : PE X e ta) (room : Room (n + 1) X.A)
    (hab : attributeBase e f X.env (eval e X.env) = eval e X.env := by rfl) : PE X (.Attribute e f pos) (tProp C sp [] E0 ta) := by
  obtain ⟨p, g, fd, hp, F, hb⟩ := c.ex
  exact pe_prop he c.cl hp F room hb .nil pass0 hab
theorem r_prop {σ : L2.St} {H : Hp} {Q : VK} {C : Addr} {sp : Sp} {E : XK} {ta : TE} (q : ta σ H fun x H1 => ∃ a dx fs, x = .ref a ∧ H1 a = some (.ins C dx fs) ∧ sp [.ref a] H1 Q E) : tProp C sp [] E ta σ H Q := q
end
/-! ### lists of pairs of ints -/
def PairsAt (H : Hp) (ys : List V) (ps : List (Int × Int)) : Prop := ys.length = ps.length ∧ ∀ (i : Nat) (v : V) (p : Int × Int), ys[i]? = some v → ps[i]? = some p → ∃ a, v = .ref a ∧ H a = some (.tup [.int p.1, .int p.2])
theorem PairsAt.sn {H H' : Hp} {ys : List V} {ps : List (Int × Int)} (h : PairsAt H ys ps) (s : KD.SameN H H') : PairsAt H' ys ps := ⟨h.1, fun i v p h1 h2 => by
  obtain ⟨a, e1, e2⟩ := h.2 i v p h1 h2
  exact ⟨a, e1, s.tup e2⟩⟩
theorem PairsAt.up {H H' : Hp} {ys : List V} {ps : List (Int × Int)} (h : PairsAt H ys ps) (s : Same H H') : PairsAt H' ys ps := h.sn (KD.SameN.of s)
theorem PairsAt.nil {H : Hp} : PairsAt H [] [] := ⟨rfl, fun i v p h1 _ => by simp at h1⟩
theorem PairsAt.append {H : Hp} {ys zs : List V} {ps qs : List (Int × Int)} (h : PairsAt H ys ps) (g : PairsAt H zs qs) : PairsAt H (ys ++ zs) (ps ++ qs) := by
  refine ⟨by simp [h.1, g.1], fun i v p h1 h2 => ?_⟩
  by_cases lt : i < ys.length
  · rw [List.getElem?_append_left lt] at h1
    rw [List.getElem?_append_left (by rw [← h.1]; exact lt)] at h2
    exact h.2 i v p h1 h2
  · rw [List.getElem?_append_right (by omega)] at h1
    rw [List.getElem?_append_right (by rw [← h.1]; omega), ← h.1] at h2
    exact g.2 _ v p h1 h2
theorem PairsAt.one {H : Hp} {a : Addr} {p : Int × Int} (e : H a = some (.tup [.int p.1, .int p.2])) : PairsAt H [.ref a] [p] := by
  refine ⟨rfl, fun i v q h1 h2 => ?_⟩
  cases i with
  | zero => cases h1; cases h2; exact ⟨a, rfl, e⟩
  | succ i => simp at h1
theorem PairsAt.tail {H : Hp} {y : V} {p : Int × Int} {ys : List V} {ps : List (Int × Int)} (h : PairsAt H (y :: ys) (p :: ps)) : PairsAt H ys ps := ⟨by simpa using h.1, fun i v q h1 h2 => h.2 (i + 1) v q h1 h2⟩
def dPair (p : Int × Int) : PyData := .tuple [.int p.1, .int p.2]
def dPairs (ps : List (Int × Int)) : PyData := .list (ps.map dPair)
theorem PairsAt.dp {K : PySem.W.Frag} {H : Hp} : ∀ {ys : List V} {ps : List (Int × Int)}, PairsAt H ys ps → DpAll K H ys (ps.map dPair)
  | [], [], _ => .nil
  | [], _ :: _, h => by have := h.1; simp at this
  | _ :: _, [], h => by have := h.1; simp at this
  | y :: ys, p :: ps, h => by
    obtain ⟨a, rfl, e⟩ := h.2 0 y p rfl rfl
    exact .cons (.tup (SqT.of e) (.cons (.int _) (.cons (.int _) .nil))) (PairsAt.dp h.tail)
/-- the pair that a value is -/
noncomputable def pairV (H : Hp) (v : V) : Int × Int := match v with
  | .ref a => match H a with
    | some (.tup [.int i, .int j]) => (i, j)
    | _ => (0, 0)
  | _ => (0, 0)
theorem pairV_at {H : Hp} {a : Addr} {p : Int × Int} (e : H a = some (.tup [.int p.1, .int p.2])) : pairV H (.ref a) = p := by
  simp only [pairV, e]
theorem PairsAt.map {H : Hp} : ∀ {ys : List V} {ps : List (Int × Int)}, PairsAt H ys ps → ys.map (pairV H) = ps ∧ ∀ y ∈ ys, ∃ t, y = .ref t ∧ H t = some (.tup [.int (pairV H y).1, .int (pairV H y).2])
  | [], [], _ => ⟨rfl, fun y m => (List.not_mem_nil m).elim⟩
  | [], _ :: _, h => by have := h.1; simp at this
  | _ :: _, [], h => by have := h.1; simp at this
  | y :: ys, p :: ps, h => by
    obtain ⟨a, rfl, e⟩ := h.2 0 y p rfl rfl
    obtain ⟨m1, m2⟩ := PairsAt.map h.tail
    have e2 := pairV_at e
    refine ⟨by rw [List.map_cons, e2, m1], fun z m => ?_⟩
    rcases List.mem_cons.mp m with rfl | m
    · exact ⟨a, rfl, by rw [e2]; exact e⟩
    · exact m2 z m
end KW

/-! KN: methods of own classes that say super().m(..) at their own level (in a statement of the body, in an if, in a return). -/
namespace KN
open PySem PySem.Spec PyProof.Rows L2 KB KG KO
/-! ### binding by position -/
theorem lookup_nd {y : Str} {u : Value} : ∀ {l : List (Str × Value)}, (l.map (·.1)).Nodup → (y, u) ∈ l → l.lookup y = some u
  | [], _, m => by cases m
  | (k, v) :: l, nd, m => by
    obtain ⟨h1, h2⟩ := List.nodup_cons.mp nd
    rcases List.mem_cons.mp m with e | m
    · cases e
      simp [List.lookup]
    · have hk : (y == k) = false := by
        refine Bool.eq_false_iff.mpr fun z => h1 ?_
        rw [← beq_iff_eq.mp z]
        exact List.mem_map.mpr ⟨_, m, rfl⟩
      rw [List.lookup, hk]
      exact lookup_nd h2 m
theorem zip_fst : ∀ {ps : List Str} {us : List Value}, ps.length = us.length → (ps.zip us).map (·.1) = ps
  | [], [], _ => rfl
  | [], _ :: _, h => by simp at h
  | _ :: _, [], h => by simp at h
  | p :: ps, u :: us, h => by
    rw [List.zip_cons_cons, List.map_cons, zip_fst (by simpa using h)]
theorem zip_get {ps : List Str} {us : List Value} {i : Nat} {y : Str} {u : Value} (h1 : ps[i]? = some y) (h2 : us[i]? = some u) : (y, u) ∈ ps.zip us := by
  refine List.mem_of_getElem? (i := i) ?_
  rw [List.getElem?_zip_eq_some]
  exact ⟨h1, h2⟩
/-- a scope of such a def -/
structure SScope (N ps : List Str) (sc : Scope) : Prop where
  kind : sc.kind = .function
  co : sc.isCoroutine = false
  gen : sc.isGenerator = false
  nd : N.Nodup
  pre : N.take ps.length = ps
  par : ∀ x ∈ ps, sc.names.lookup x = some .local
  nocell : ∀ y ∈ sc.names, y.2 ≠ .cell
  nofree : ∀ y ∈ sc.names, y.2 = .free → y.1 = "__class__"
  sup : sc.names.lookup ("super" : Str) = some .globalImplicit
  cls : sc.names.lookup ("__class__" : Str) = some .free
theorem SScope.free {N ps : List Str} {sc : Scope} (S : SScope N ps sc) : ∀ y, sc.names.lookup y = some .free → y = "__class__" := fun y e => S.nofree (y, .free) (PySem.mem_of_lookup e) rfl
theorem inv_supN {CXx : CXT} {P : Program} {w : World} {K : PySem.W.Frag} {mg : Str → Option Value} {base : Heap} {N ps : List Str} {ql : Str} {sc : Scope} {f cda cc : Addr} {A : Around} {out : List Env} {st : Shared} {h : Hp} {W : XK} {us : List Value} {vs : List V} {h1 : Heap} {tk : Nat} {cl : Value} {cld : Option Addr} {csl : Array (Option Value)} {cv : Option Value}
    (S : SScope N ps sc) (e0 : Env0 P w K mg base A out st h) (hd : A.handled = none) (hl : vs.length = ps.length)
    (hc : K.lookup cc = some ⟨cl, cld, .cell cv, csl⟩) (hns : h1.Ns st.heap.objs.size (fun y => (ps.zip us).reverse.lookup y)) (kp : ∀ b o, st.heap.get? b = some o → h1.get? b = some o) (r : Vals vs us) :
    Inv (KX.supCx CXx P w K mg base N ql sc f cda cc A out st h W) [] (L2.start N vs) h { st with heap := h1, toks := tk } := by
  have noA : ∀ b : Addr, b ∉ (KX.supCx CXx P w K mg base N ql sc f cda cc A out st h W).ex := fun b z => absurd (show b ∈ ([] : List Addr) from z) (by simp)
  have ccb := e0.bs _ _ (e0.mod.kin _ _ hc)
  have hpl : ps.length ≤ N.length := by have := congrArg List.length S.pre; rw [List.length_take] at this; omega
  refine ⟨⟨e0.mod, S.kind, rfl, rfl, Nat.le_refl _, fun y z c a b => (KX.cls_only a).1.trans (KX.cls_only b).1.symm, fun y hy => ?_, fun y c z _ => ?_, fun _ => hd, Around.frames_deeper e0.frames, .inr ⟨rfl, rfl⟩, fun b z => absurd z (noA b), e0.bs, e0.bsz, fun b _ _ => noA b, fun b z => absurd z (noA b), e0.funs, e0.frf⟩,
    rfl, e0.bare, Un.kept kp, ⟨_, hns, fun i y v a b c => ?_⟩, fun y c e => ?_, e0.hok.fresh (Nat.le_refl _), fun y c e => ?_, fun p hp => absurd (show p ∈ ([] : List (Addr × Obj)) from hp) (by simp), e0.hok.kept kp, ?_⟩
  · have hy : sc.names.lookup y = some .cell ∨ sc.names.lookup y = some .free := hy
    rcases hy with hy | hy
    · exact absurd rfl (S.nocell _ (PySem.mem_of_lookup hy))
    · rw [S.free y hy]
      exact ⟨cc, rfl⟩
  · have z : false = true := z
    cases z
  · have hi : i < vs.length := by
      unfold L2.start at b
      by_cases hi : i < vs.length
      · exact hi
      · rw [List.getElem?_append_right (by simpa using hi)] at b
        rw [List.getElem?_replicate] at b
        split at b <;> cases b
    have ha : vs[i]? = some v := by
      unfold L2.start at b
      rw [List.getElem?_append_left (by simpa using hi), List.getElem?_map] at b
      cases e : vs[i]? with
      | none => rw [e] at b; cases b
      | some a => rw [e] at b; cases b; rfl
    obtain ⟨u, hu, rv⟩ := r.get ha
    have hp : ps[i]? = some y := by
      rw [← S.pre, List.getElem?_take_of_lt (by omega)]; exact a
    have ndP : ps.Nodup := by rw [← S.pre]; exact S.nd.sublist (List.take_sublist _ _)
    refine ⟨u, rv, .inl ⟨S.par y (List.mem_of_getElem? hp), ?_⟩⟩
    refine lookup_nd ?_ (List.mem_reverse.mpr (zip_get hp hu))
    rw [List.map_reverse, zip_fst (by rw [← r.length, hl])]
    exact List.pairwise_reverse.mpr (List.Pairwise.imp Ne.symm ndP)
  · obtain ⟨rfl, rfl⟩ := KX.cls_only e
    exact ⟨cv, _, kp _ _ ccb.1, rfl⟩
  · obtain ⟨rfl, rfl⟩ := KX.cls_only e
    exact ccb.2
  · unfold L2.start
    show _ = N.length
    rw [List.length_append, List.length_map, List.length_replicate]
    omega
/-! ### statements at the def's own level -/
structure PEA (X : Cx) (c : Code) (e : Expr) (t : TE) : Prop where
  run : ∀ (pins : List (Addr × Obj)) (s : Shared) (σ : L2.St) (H : Hp) (Q : VK), Inv X pins σ H s → t σ H Q → _root_.PySem.wpAt (model X.prog X.w) X.A c (eval e X.env) (EP X pins σ Q) X.xe s
structure PSA (X : Cx) (c : Code) (st : Stmt) (t : TS) : Prop where
  run : ∀ (pins : List (Addr × Obj)) (s : Shared) (σ : L2.St) (H : Hp) (D : Ends), Inv X pins σ H s → t D σ H → _root_.PySem.wpAt (model X.prog X.w) X.A c (exec st X.env) (SP X pins D) X.xe s
structure PSsA (X : Cx) (c : Code) (st : List Stmt) (t : TS) : Prop where
  run : ∀ (pins : List (Addr × Obj)) (s : Shared) (σ : L2.St) (H : Hp) (D : Ends), Inv X pins σ H s → t D σ H → _root_.PySem.wpAt (model X.prog X.w) X.A c (execs st X.env) (SP X pins D) X.xe s
section
variable {X : Cx} {c : Code} {st : Stmt} {rest : List Stmt} {t u : TS} {e : Expr} {te : TE} {pos : Pos}
end
/-! ### such a def -/
structure SupF (P : Program) (K : PySem.W.Frag) (f : Addr) (fd : FuncData) (name qual : Str) (params : Arguments) (body : List Stmt) (scope : Scope) (cda cc D : Addr) : Prop where
  fn : ∃ (oc dV kV doc pm ct : Value) (an od : Option Addr) (osl : Array (Option Value)), fd = PySem.W.ksFn name qual params body scope dV kV doc pm an (.ref cda) ct cc ∧ K.lookup f = some ⟨oc, od, .func fd, osl⟩
  code : PySem.W.codeIn K (.ref cda) qual = true
  cd : ∃ (ccl : Value) (cdd : Option Addr) (vs : Array Value) (ccs : Array (Option Value)) (file : Str) (tf : Tok), K.lookup cda = some ⟨ccl, cdd, .fields vs, ccs⟩ ∧ vs[2]? = some (.str file tf) ∧ ((P.main.file : Str) == file) = true
  cell : ∃ (cl : Value) (cld : Option Addr) (csl : Array (Option Value)), K.lookup cc = some ⟨cl, cld, .cell (some (.ref D)), csl⟩
  top : (P.main.scope.names.lookup ("super" : Str)).isSome = false
  opq : PySem.W.nsIn K cStatics "thirdparty.any" = some none
  dcl : ∃ cdD, PySem.W.clsIn K D = some cdD
section
variable {P : Program} {w : World} {K : PySem.W.Frag} {mg : Str → Option Value} {base : Heap} {f cda cc D : Addr} {fd : FuncData} {name qual : Str} {params : Arguments} {body : List Stmt} {scope : Scope} {N ps : List Str}
theorem SupF.ok {CX : CXT} {k : Nat} {sp : Sp} (F : SupF P K f fd name qual params body scope cda cc D) (S : SScope N ps scope) (len : ∀ vs H Q E, sp vs H Q E → vs.length = ps.length)
    (hbody : ∀ (A : Around) (outer : List Env) (s : Shared) (H : Hp) (vs : List V) (Q : VK) (E : XK), Room k (A.deeper (PySem.W.ksEnv qual scope s.heap.objs.size f (.ref cda) cc)) → sp vs H Q E →
      ∃ t, PSsA (KX.supCx CX P w K mg base N qual scope f cda cc A outer s H E) (.func body (PySem.W.ksEnv qual scope s.heap.objs.size f (.ref cda) cc)) body t ∧ t { nx := fun _ H' => Q .non H', rt := Q } (L2.start N vs) H) :
    FnOk P w K mg base CX (k + 1) f fd ps sp := by
  refine ⟨len, fun A outer st h args us vs Q E room env bind r pre => ?_⟩
  have hl := len _ _ _ _ pre
  obtain ⟨oc, dV, kV, doc, pm, ct, an, od, osl, rfl, lf⟩ := F.fn
  obtain ⟨cl, cld, csl, lcc⟩ := F.cell
  have kin : K.In st.heap := env.mod.kin.keeps fun b o e => (env.bs b o e).1
  have nolim : st.heap.NoLimit := env.mod.nolimit.keeps fun b o e => (env.bs b o e).1
  refine ks_codeAny_call_defAt (binds := ps.zip us) room.depth (kin _ _ lf) rfl nolim (PySem.W.codeRec_of kin F.code) rfl bind S.nocell (fun y hy => S.par y.1 (List.of_mem_zip (show (y.1, y.2) ∈ ps.zip us from hy)).1) (fun h1 hns kp => ?_) S.co S.gen S.kind
  obtain ⟨t, ht, hq⟩ := hbody A outer st h vs Q E (room.deeper _) pre
  have I : Inv (KX.supCx CX P w K mg base N qual scope f cda cc A outer st h E) [] (L2.start N vs) h { st with heap := h1, toks := st.toks + (ps.zip us).length } := inv_supN S env room.hd hl lcc hns kp r
  refine PySem.wpAt_mono (ht.run [] _ (L2.start N vs) h _ I hq) (fun fl s' hs => ?_) fun e s' hs => hs
  cases fl with
  | ret u => obtain ⟨v, _, h2, J, rel, z⟩ := hs; exact ⟨v, h2, J.os, J.bare, J.base, J.hok, rel, z⟩
  | next => obtain ⟨_, h2, J, z⟩ := hs; exact ⟨.non, h2, J.os, J.bare, J.base, J.hok, rfl, z⟩
  | brk => exact (let ⟨_, _, _, z⟩ := hs; z : False).elim
  | cont => exact (let ⟨_, _, _, z⟩ := hs; z : False).elim
/-- super().m(e, ..): self stands in the slot 0; C: the object's class -/
def tSup (C : Addr) (sp : Sp) (E : XK) (t : TA) : TE := fun σ H Q => ∃ (a dx : Addr) (fs : List (Str × V)), σ[0]? = some (some (.ref a)) ∧ H a = some (.ins C dx fs) ∧ t σ H fun vs H1 => sp (.ref a :: vs) H1 Q E
structure SupM (P : Program) (w : World) (K : PySem.W.Frag) (mg : Str → Option Value) (base : Heap) (CX : CXT) (k : Nat) (C D : Addr) (m : Str) (ps : List Str) (sp : Sp) : Prop where
  ex : ∃ (g : Addr) (gd : FuncData), PySem.W.ks_superIn K C D m = some (some (.ref g)) ∧ PySem.W.typeIn K (.ref g) = some (.type "function") ∧ PySem.W.fnIn K g = true ∧ FnOk P w K mg base CX k g gd ps sp ∧ Binds K gd ps []
  sub : PySem.W.mroIn K C (.ref D) = some true
end
end KN

/-! KX2: own error classes over ValueError whose __init__ says super().__init__(text) and sets two fields (printed by mkx2.py). -/
namespace KX2
open PySem PySem.Spec PyProof.Rows L2 KB KX
structure SupFn2 (K : PySem.W.Frag) (P : Program) (f : Addr) (fd : FuncData) (C : Addr) (vn vm fld fle : Str) : Prop where
  ex : ∃ (ql : Str) (pr : Arguments) (sc : Scope) (dV kV doc pm ct oc ccl cl : Value) (an od cdd cld : Option Addr) (osl ccs csl : Array (Option Value)) (cda cc : Addr) (vs : Array Value) (file : Str) (tf : Tok) (p0 p1 p2 p3 p4 p5 q1 q2 q3 q4 q5 q6 q7 q8 : Pos) (msg : Str) (j : Nat) (ar : Arg) (pl : Sem Bool),
    fd = PySem.W.ksFn "__init__" ql pr [.Expr (.Call (.Attribute (.Call (.Name "super" p0) [] [] p1) "__init__" p2) [.Constant (.str msg) j p3] [] p4) p5, .Assign [.Attribute (.Name "self" q1) fld q2] (.Name vn q3) q4, .Assign [.Attribute (.Name "self" q5) fle q6] (.Name vm q7) q8] sc dV kV doc pm an (.ref cda) ct cc ∧
    K.lookup f = some ⟨oc, od, .func fd, osl⟩ ∧ PySem.W.codeIn K (.ref cda) ql = true ∧ K.lookup cda = some ⟨ccl, cdd, .fields vs, ccs⟩ ∧ vs[2]? = some (.str file tf) ∧ ((P.main.file : Str) == file) = true ∧
    K.lookup cc = some ⟨cl, cld, .cell (some (.ref C)), csl⟩ ∧ (pr.posonlyargs ++ pr.args).head? = some ar ∧ ar.arg = "self" ∧
    sc.kind = .function ∧ sc.isCoroutine = false ∧ sc.isGenerator = false ∧ (∀ y ∈ sc.names, y.2 ≠ .cell) ∧ (∀ y, sc.names.lookup y = some .free → y = "__class__") ∧ sc.names.lookup ("super" : Str) = some .globalImplicit ∧ sc.names.lookup ("__class__" : Str) = some .free ∧
    sc.names.lookup ("self" : Str) = some .local ∧ sc.names.lookup vn = some .local ∧ sc.names.lookup vm = some .local ∧
    (∀ en : Env, eval (.Call (.Attribute (.Call (.Name "super" p0) [] [] p1) "__init__" p2) [.Constant (.str msg) j p3] [] p4) en = (do
      let ov ← attributeBase (.Call (.Name "super" p0) [] [] p1) "__init__" en (eval (.Call (.Name "super" p0) [] [] p1) en)
      standAt p2.atName
      let (g, first) ← holding [ov] (getMethod ov "__init__" pl)
      callWith p4 g first (backTo p4 (starEach [.Constant (.str msg) j p3] en)) []))
  top : (P.main.scope.names.lookup ("super" : Str)).isSome = false
  nv : vn ≠ "self" ∧ (vn == ("__debug__" : Str)) = false ∧ (vn == ("__classdict__" : Str)) = false
  nw : vm ≠ "self" ∧ (vm == ("__debug__" : Str)) = false ∧ (vm == ("__classdict__" : Str)) = false
  nx : vm ≠ vn
  opq : PySem.W.nsIn K cStatics "thirdparty.any" = some none
  sub : PySem.W.mroIn K C (.ref C) = some true
  ve : PySem.W.mroIn K C (.type "ValueError") = some true
  sup : PySem.W.ks_superIn K C C "__init__" = some (some (.builtin "ValueError.__init__"))
  nof : PySem.W.findIn K (.ref C) fld = some none
  nog : PySem.W.findIn K (.ref C) fle = some none
def spXI2 (C : Addr) (fld fle : Str) : Sp := fun vs H Q _ => ∃ (a : Addr) (v w : V), vs = [.ref a, v, w] ∧ H a = some (exo a C none) ∧ ∀ dx, H dx = none → dx ≠ a → Q .non (upd (upd (upd H dx (exd dx [(fld, v)])) a (exo a C (some dx))) dx (exd dx [(fle, w), (fld, v)]))
structure ErrMk2 (P : Program) (w : World) (K : PySem.W.Frag) (mg : Str → Option Value) (base : Heap) (C : Addr) (x fld fle : Str) : Prop where
  ex : ∃ (fI : Addr) (fd : FuncData) (vn vm : Str), OexC K C ∧ PySem.W.findIn K (.ref C) "__init__" = some (some (.ref fI)) ∧ PySem.W.typeIn K (.ref fI) = some (.type "function") ∧ FnOk P w K mg base CX0 1 fI fd ["self", vn, vm] (spXI2 C fld fle) ∧ Binds K fd ["self", vn, vm] [] ∧ mg x = some (.ref C)
end KX2

/-! KTr: values of any kind as trees: their type, not in a tuple of texts, isinstance of a kept exception by a tuple of classes. -/
namespace KTr
open PySem PySem.Spec PyProof.Rows L2 KB KG KY
inductive Tr where
  | sc (s : Sc) | tup (l : List Tr) | lst (l : List Tr) | dct (l : List (Key × Sc))
mutual
inductive TrAt (H : Hp) : V → Tr → Prop
  | sc (s : Sc) : TrAt H s.v (.sc s)
  | tup {a : Addr} {xs : List V} {l : List Tr} (h : H a = some (.tup xs)) (r : TrsAt H xs l) : TrAt H (.ref a) (.tup l)
  | lst {a : Addr} {xs : List V} {l : List Tr} (h : H a = some (.lst xs)) (r : TrsAt H xs l) : TrAt H (.ref a) (.lst l)
  | dct {a : Addr} {l : List (Key × Sc)} (h : H a = some (.dK (l.map fun p => (p.1, p.2.v)))) : TrAt H (.ref a) (.dct l)
inductive TrsAt (H : Hp) : List V → List Tr → Prop
  | nil : TrsAt H [] []
  | cons {x : V} {t : Tr} {xs : List V} {l : List Tr} (h : TrAt H x t) (r : TrsAt H xs l) : TrsAt H (x :: xs) (t :: l)
end
/-- lists and texts in it are short -/
inductive Sm : Tr → Prop
  | sc (s : Sc) (h : ∀ x, s = .str x → x.length ≤ 1000) : Sm (.sc s)
  | tup {l : List Tr} (h : ∀ t ∈ l, Sm t) : Sm (.tup l)
  | lst {l : List Tr} (n : l.length ≤ 2) (h : ∀ t ∈ l, Sm t) : Sm (.lst l)
  | dct (l : List (Key × Sc)) (n : (l.map (·.1)).Nodup) : Sm (.dct l)
theorem TrsAt.len {H : Hp} : ∀ {xs : List V} {l : List Tr}, TrsAt H xs l → xs.length = l.length
  | _, _, .nil => rfl
  | _, _, .cons _ r => by rw [List.length_cons, List.length_cons, TrsAt.len r]
mutual
theorem TrAt.up {H H' : Hp} (s : Same H H') : ∀ (t : Tr) (v : V), TrAt H v t → TrAt H' v t
  | .sc x, _, h => by cases h; exact .sc x
  | .tup l, _, h => by cases h with | tup h r => exact .tup (s _ _ h) (TrsAt.up s l _ r)
  | .lst l, _, h => by cases h with | lst h r => exact .lst (s _ _ h) (TrsAt.up s l _ r)
  | .dct l, _, h => by cases h with | dct h => exact .dct (s _ _ h)
theorem TrsAt.up {H H' : Hp} (s : Same H H') : ∀ (l : List Tr) (xs : List V), TrsAt H xs l → TrsAt H' xs l
  | [], _, h => by cases h; exact .nil
  | t :: l, _, h => by cases h with | cons h r => exact .cons (TrAt.up s t _ h) (TrsAt.up s l _ r)
end
/-- all but long lists is kept -/
def Fr (H H' : Hp) : Prop := ∀ b o, H b = some o → (∀ xs, o = .lst xs → xs.length ≤ 2) → H' b = some o
theorem Fr.same {H H' : Hp} (s : Same H H') : Fr H H' := fun b o e _ => s b o e
theorem Fr.tr {H H1 H2 : Hp} (s : Fr H H1) (t : Fr H1 H2) : Fr H H2 := fun b o e n => t b o (s b o e n) n
theorem Fr.tup {H H' : Hp} (s : Fr H H') {a : Addr} {xs : List V} (h : H a = some (.tup xs)) : H' a = some (.tup xs) := s _ _ h fun _ z => by cases z
theorem Fr.ins {H H' : Hp} (s : Fr H H') {a C dx : Addr} {fs : List (Str × V)} (h : H a = some (.ins C dx fs)) : H' a = some (.ins C dx fs) := s _ _ h fun _ z => by cases z
theorem Fr.mut {H : Hp} {a : Addr} {xs : List V} {o : HO} (h : H a = some (.lst xs)) (l : 2 < xs.length) : Fr H (upd H a o) := fun b u e n => by
  rw [upd_ne (fun z => by rw [z, h] at e; have := n xs (Option.some.inj e).symm; omega)]
  exact e
mutual
theorem TrAt.fr {H H' : Hp} (s : Fr H H') : ∀ (t : Tr) (v : V), Sm t → TrAt H v t → TrAt H' v t
  | .sc x, _, _, h => by cases h; exact .sc x
  | .tup l, _, m, h => by
    cases m with
    | tup m => cases h with | tup h r => exact .tup (s.tup h) (TrsAt.fr s l _ m r)
  | .lst l, _, m, h => by
    cases m with
    | lst n m => cases h with | lst h r => exact .lst (s _ _ h fun xs z => by cases z; rw [r.len]; exact n) (TrsAt.fr s l _ m r)
  | .dct l, _, _, h => by cases h with | dct h => exact .dct (s _ _ h fun xs z => by cases z)
theorem TrsAt.fr {H H' : Hp} (s : Fr H H') : ∀ (l : List Tr) (xs : List V), (∀ t ∈ l, Sm t) → TrsAt H xs l → TrsAt H' xs l
  | [], _, _, h => by cases h; exact .nil
  | t :: l, _, m, h => by cases h with | cons h r => exact .cons (TrAt.fr s t _ (m t List.mem_cons_self) h) (TrsAt.fr s l _ (fun u mu => m u (List.mem_cons_of_mem _ mu)) r)
end
/-- all but instances is kept -/
def Ki (H H' : Hp) : Prop := ∀ b o, H b = some o → (∀ C dx fs, o ≠ .ins C dx fs) → H' b = some o
theorem Ki.tup {H H' : Hp} (s : Ki H H') {a : Addr} {xs : List V} (h : H a = some (.tup xs)) : H' a = some (.tup xs) := s _ _ h fun _ _ _ z => by cases z
mutual
theorem TrAt.ki {H H' : Hp} (s : Ki H H') : ∀ (t : Tr) (v : V), TrAt H v t → TrAt H' v t
  | .sc x, _, h => by cases h; exact .sc x
  | .tup l, _, h => by cases h with | tup h r => exact .tup (s.tup h) (TrsAt.ki s l _ r)
  | .lst l, _, h => by cases h with | lst h r => exact .lst (s _ _ h fun _ _ _ z => by cases z) (TrsAt.ki s l _ r)
  | .dct l, _, h => by cases h with | dct h => exact .dct (s _ _ h fun _ _ _ z => by cases z)
theorem TrsAt.ki {H H' : Hp} (s : Ki H H') : ∀ (l : List Tr) (xs : List V), TrsAt H xs l → TrsAt H' xs l
  | [], _, h => by cases h; exact .nil
  | t :: l, _, h => by cases h with | cons h r => exact .cons (TrAt.ki s t _ h) (TrsAt.ki s l _ r)
end
theorem Ki.keep {H H' : Hp} {p C dx : Addr} {fs : List (Str × V)} (k : KV.Keep p H H') (hp : H p = some (.ins C dx fs)) : Ki H H' := fun b o e n => k b o e fun z => by rw [z, hp] at e; cases e; exact n _ _ _ rfl
theorem Ki.same {H H' : Hp} (s : Same H H') : Ki H H' := fun b o e _ => s b o e
theorem Ki.tr {H H1 H2 : Hp} (s : Ki H H1) (t : Ki H1 H2) : Ki H H2 := fun b o e n => t b o (s b o e n) n
theorem Ki.mut {H : Hp} {p C dx : Addr} {fs : List (Str × V)} {o : HO} (hp : H p = some (.ins C dx fs)) : Ki H (upd H p o) := fun b u e n => by
  rw [upd_ne (fun z => by rw [z, hp] at e; cases e; exact n _ _ _ rfl)]
  exact e
theorem TrsAt.get {H : Hp} : ∀ {xs : List V} {l : List Tr} {i : Nat} {x : V}, TrsAt H xs l → xs[i]? = some x → ∃ t, l[i]? = some t ∧ TrAt H x t
  | _, _, _, _, .nil, e => by simp at e
  | _, _, 0, _, .cons h _, e => by cases e; exact ⟨_, rfl, h⟩
  | _, _, i + 1, _, .cons _ r, e => TrsAt.get (i := i) r e
theorem TrsAt.at_ {H : Hp} : ∀ {xs : List V} {l : List Tr} {i : Nat} {t : Tr}, TrsAt H xs l → l[i]? = some t → ∃ x, xs[i]? = some x ∧ TrAt H x t
  | _, _, _, _, .nil, e => by simp at e
  | _, _, 0, _, .cons h _, e => by cases e; exact ⟨_, rfl, h⟩
  | _, _, i + 1, _, .cons _ r, e => TrsAt.at_ (i := i) r e
theorem TrsAt.set {H : Hp} : ∀ {xs : List V} {l : List Tr} {i : Nat} {x : V} {t : Tr}, TrsAt H xs l → TrAt H x t → TrsAt H (xs.set i x) (l.set i t)
  | _, _, _, _, _, .nil, _ => .nil
  | _, _, 0, _, _, .cons _ r, h => .cons h r
  | _, _, i + 1, _, _, .cons g r, h => .cons g (TrsAt.set (i := i) r h)
theorem sc_at {H : Hp} {v : V} {s : Sc} (h : TrAt H v (.sc s)) : v = s.v := by cases h; rfl
def Tr.ty : Tr → String
  | .sc .non => "NoneType"
  | .sc (.bl _) => "bool"
  | .sc (.int _) => "int"
  | .sc (.str _) => "str"
  | .tup _ => "tuple"
  | .lst _ => "list"
  | .dct _ => "dict"
def BT : List String := ["NoneType", "bool", "int", "str", "tuple", "list", "dict"]
theorem Tr.ty_in (t : Tr) : t.ty ∈ BT := by
  cases t with
  | sc s => cases s <;> simp [Tr.ty, BT]
  | tup => simp [Tr.ty, BT]
  | lst => simp [Tr.ty, BT]
  | dct => simp [Tr.ty, BT]
theorem TrAt.tyX {K : PySem.W.Frag} {H : Hp} {v : V} {t : Tr} (h : TrAt H v t) : TyX K H v (.type t.ty) := by
  cases h with
  | sc s =>
    cases s with
    | non => exact .base .non
    | bl b => exact .base (.bl b)
    | int i => exact .base (.int i)
    | str x => exact .base (.str x)
  | tup h _ => exact .base (.tup h)
  | lst h _ => exact .base (.lst h)
  | dct h => exact .base (.dK h)
/-- isinstance by a built-in type -/
def isaB (A B : String) : Bool := decide (A = B) || (decide (A = "bool") && decide (B = "int"))
theorem kit_BT : ∀ A ∈ BT, ∀ B ∈ BT, kitB A B = some (isaB A B) := by decide +kernel
theorem r_isT {K : PySem.W.Frag} {H : Hp} {Q : VK} {v : V} {t : Tr} {T : String} (h : TrAt H v t) (hT : T ∈ BT) (q : Q (.bl (isaB t.ty T)) H) : rIsi K [v, .ty T] H Q :=
  ⟨v, .ty T, _, .type T, isaB t.ty T, rfl, .ty _, h.tyX, kit_ty (kit_BT _ t.ty_in _ hT), q⟩
def Tr.isIn (zs : List Str) : Tr → Bool
  | .sc (.str x) => decide (x ∈ zs)
  | _ => false
section
variable {X : Cx}
def rNotInT (K : PySem.W.Frag) : R2 := fun x y H Q => ∃ (p : Addr) (zs : List Str) (t : Tr), y = .ref p ∧ SqT K H p (zs.map V.str) ∧ TrAt H x t ∧ Q (.bl (!t.isIn zs)) H
/-- isinstance(y, (c1, c2, ..)), y a kept exception with a dict -/
def rIsHT (K : PySem.W.Frag) : List V → Hp → VK → Prop := fun xs H Q => ∃ (a C dd tp : Addr) (fs : List (Str × V)) (cs : List V) (us : List Value) (b : Bool), xs = [.ref a, .ref tp] ∧ H a = some (KX.exh a (.ref C) (some dd)) ∧ H dd = some (.xd fs) ∧ ExcC K C ∧ H tp = some (.tup cs) ∧ Paired ClsV cs us ∧ PySem.W.kitAny K (.ref C) us = some b ∧ Q (.bl b) H
/-! ### own classes made with positional values and keywords -/
structure CalleeIN (P : Program) (w : World) (K : PySem.W.Frag) (mg : Str → Option Value) (base : Heap) (CX : CXT) (k : Nat) (C : Addr) (x : Str) (ps : List Str) (sp : Sp) (n : Nat) (ks : List Str) (gV : List V → List V → List V) : Prop where
  ex : ∃ (f : Addr) (fd : FuncData) (g : List Value → List Value → List Value), FnOk P w K mg base CX k f fd ps sp ∧ Mk K C f ∧ mg x = some (.ref C) ∧ KBn K fd ps (n + 1) ks g gV
/-! ### equal trees -/
def rEqT (K : PySem.W.Frag) : R2 := fun x y H Q => ∃ t : Tr, TrAt H x t ∧ TrAt H y t ∧ Sm t ∧ ((∃ s, t = .sc s) ∨ ∃ l, t = .dct l) ∧ Q (.bl true) H
end
end KTr

/-! KX3: try with several 'except x as n' clauses. -/
namespace KX
open PySem PySem.Spec PyProof.Rows L2 KB
structure Hk where
  c : Value
  i : Nat
  ts : Addr → Value → Option Addr → TS
def wKeeps (K : PySem.W.Frag) (Wout : WX) (D : Ends) : List Hk → WX
  | [] => Wout
  | h :: r => fun cls d σ H => ∃ yes, PySem.W.exmOne K cls h.c = some yes ∧ (yes = true → ∀ a, H a = none → h.ts a cls d { nx := fun σ' H' => H' a = none → D.nx (σ'.set h.i none) (upd H' a (exh a cls d)), rt := D.rt, bk := fun _ _ => False, ct := fun _ _ => False } (σ.set h.i (some (.ref a))) H) ∧ (yes = false → wKeeps K Wout D r cls d σ H)
inductive HksOk (X : Cx) : List ExceptHandler → List Hk → Prop
  | nil : HksOk X [] []
  | cons {x n : Str} {c : Value} {i : Nat} {ts : Addr → Value → Option Addr → TS} {b₀ : Stmt} {suite : List Stmt} {np pos' : Pos} {hds : List ExceptHandler} {l : List Hk} (hix : X.N[i]? = some n) (loc : X.env.kindOf n = some .local) (nam : Names X x c)
      (suiteOk : ∀ (a : Addr) (oe : Obj) (cls : Value) (d : Option Addr) (pn : List (Addr × Obj)), Zc cls d oe → (∃ vs, oe.data = .fields vs) → PSs (X.suite a ((a, oe) :: pn)) (b₀ :: suite) (ts a cls d)) (r : HksOk X hds l) :
      HksOk X (.ExceptHandler (some (.Name x np)) (some n) (b₀ :: suite) pos' :: hds) (⟨c, i, ts⟩ :: l)
section
variable {X : Cx} {body : List Stmt} {h₀ : ExceptHandler} {hds : List ExceptHandler} {l : List Hk} {pos : Pos} {tb : WX → TS} {Wout : WX}
end
/-- the body of a try, one call's exceptions in it -/
def tBody (n : Nat) (tt : XK → TS) (W : WX) : TS := fun D σ H => ∃ Ech : XK, (∀ cls d σ' H', σ'.length = n → Ech cls d H' → W cls d σ' H') ∧ tt Ech D σ H
end KX

/-! KA: text * number; isinstance by a written tuple of types. -/
namespace KA
open PySem PySem.Spec PyProof.Rows L2 KB
def mulS (x : Str) (n : Int) : Str := if n < 1 then Str.empty else if (n == 1 || x.length == 0) = true then x else ⟨(List.replicate n.toNat x.cps).foldl (· ++ ·) #[]⟩
theorem fold_size (a : Array Nat) : ∀ (n : Nat) (b : Array Nat), ((List.replicate n a).foldl (· ++ ·) b).size = b.size + n * a.size
  | 0, b => by simp
  | n + 1, b => by
    rw [List.replicate_succ, List.foldl_cons, fold_size a n, Array.size_append, Nat.succ_mul]
    omega
def rMulS : R2 := fun x y H Q => ∃ (z : Str) (n : Int), x = .str z ∧ y = .int n ∧ -1000 ≤ n ∧ n ≤ 1000 ∧ z.length ≤ 1000 ∧ Q (.str (mulS z n)) H
theorem op_mulS {X : Cx} : OpR X (binaryOp .Mult) rMulS := by
  intro pins s σ H x y v u Q I rx ry h
  obtain ⟨z, n, rfl, rfl, h1, h2, h3, q⟩ := h
  obtain ⟨t, rfl⟩ := rx
  obtain ⟨t', rfl⟩ := ry
  have fit : ¬ n < 1 → Builtin.Str.tooLong (z.length * n.toNat) = false := fun _ => short24 (by
    have h4 : n.toNat ≤ 1000 := by omega
    exact Nat.le_trans (Nat.mul_le_mul h3 h4) (by decide))
  refine P.mul_str (by rw [decide_eq_false (show ¬ n < -(2 ^ 63 : Int) by omega), decide_eq_false (show ¬ n ≥ 2 ^ 63 by omega)]; rfl) (fun a _ b => ?_) (fun a _ => fit a) ?_
  · have n0 : 0 < n := by omega
    have := (Int.le_ediv_iff_mul_le n0 (a := 1000) (b := 2 ^ 63 - 1)).mpr (by omega)
    omega
  · unfold mulS at q
    split
    · rename_i a
      rw [if_pos a] at q
      exact ⟨by decide, .str Str.empty, H, I.tok _, ⟨_, rfl⟩, q⟩
    · rename_i a
      rw [if_neg a] at q
      split
      · rename_i b
        rw [if_pos b] at q
        exact ⟨.str z, H, I.tok _, ⟨_, rfl⟩, q⟩
      · rename_i b
        rw [if_neg b] at q
        refine ⟨?_, .str _, H, I.tok _, ⟨_, rfl⟩, q⟩
        show Array.size _ ≤ sizeLine
        rw [fold_size]
        have h4 : n.toNat ≤ 1000 := by omega
        have h5 : z.cps.size ≤ 1000 := h3
        have := Nat.mul_le_mul h4 h5
        have h6 : 1000 * 1000 ≤ sizeLine := by decide
        simp only [List.size_toArray, List.length_nil, Nat.zero_add]
        omega
/-! ### a written list or tuple, one of its items drawn -/
open KV
end KA

/-! KSc: lists of scalars that hold no truths, compared. -/
namespace KSc
open PySem PySem.Spec PyProof.Rows L2 KB KG KY
def ok : Sc → Bool
  | .non => true
  | .bl _ => false
  | .int _ => true
  | .str x => PyData.strOk x
theorem dp {K : PySem.W.Frag} {H : Hp} : ∀ zs : List Sc, DpAll K H (zs.map Sc.v) (zs.map Sc.d)
  | [] => .nil
  | .non :: r => .cons .non (dp r)
  | .bl b :: r => .cons (.bl b) (dp r)
  | .int i :: r => .cons (.int i) (dp r)
  | .str x :: r => .cons (.str x) (dp r)
theorem lay1 {s : Sc} (h : ok s = true) : PyData.canLay0 s.d = true := by
  cases s with
  | non => rfl
  | bl b => cases h
  | int i => rfl
  | str x =>
    have h : PyData.strOk x = true := h
    simp only [Sc.d, PyData.canLay0, h]
theorem lay : ∀ zs : List Sc, (∀ z ∈ zs, ok z = true) → PyData.canLayAll0 (zs.map Sc.d) = true
  | [], _ => rfl
  | n :: r, h => by
    show (PyData.canLay0 n.d && PyData.canLayAll0 (r.map Sc.d)) = true
    rw [lay r fun z m => h z (List.mem_cons_of_mem _ m), lay1 (h n List.mem_cons_self)]
    rfl
theorem depth : ∀ zs : List Sc, PyData.depthAll (zs.map Sc.d) = 0
  | [] => rfl
  | n :: r => by
    show max (PyData.depth n.d) (PyData.depthAll (r.map Sc.d)) = 0
    rw [depth r]
    cases n <;> rfl
theorem shaped {zs : List Sc} (h : ∀ z ∈ zs, ok z = true) : SeqAt.shaped (.list (zs.map Sc.d)) = true := by
  show (PyData.canLayAll0 (zs.map Sc.d) && decide (PyData.depthAll (zs.map Sc.d) + 1 ≤ 64)) = true
  rw [lay zs h, depth]; rfl
theorem eqv1 {a b : Sc} (ha : ok a = true) (hb : ok b = true) : PyData.eqv a.d b.d = decide (a = b) := by
  cases a with
  | non => cases b <;> simp [Sc.d, PyData.eqv]
  | bl b => cases ha
  | int i =>
    cases b with
    | bl b => cases hb
    | int j =>
      simp only [Sc.d, PyData.eqv]
      by_cases h : i = j <;> simp [h]
    | non => simp [Sc.d, PyData.eqv]
    | str => simp [Sc.d, PyData.eqv]
  | str x =>
    cases b with
    | str y =>
      simp only [Sc.d, PyData.eqv]
      by_cases h : x = y <;> simp [h]
    | bl b => cases hb
    | int j => simp [Sc.d, PyData.eqv]
    | non => simp [Sc.d, PyData.eqv]
theorem eqv : ∀ ns ms : List Sc, (∀ z ∈ ns, ok z = true) → (∀ z ∈ ms, ok z = true) → PyData.eqvAll (ns.map Sc.d) (ms.map Sc.d) = decide (ns = ms)
  | [], [], _, _ => rfl
  | [], _ :: _, _, _ => rfl
  | _ :: _, [], _, _ => rfl
  | n :: r, m :: q, h, g => by
    show (PyData.eqv n.d m.d && PyData.eqvAll (r.map Sc.d) (q.map Sc.d)) = decide (n :: r = m :: q)
    rw [eqv r q (fun z k => h z (List.mem_cons_of_mem _ k)) (fun z k => g z (List.mem_cons_of_mem _ k)), eqv1 (h n List.mem_cons_self) (g m List.mem_cons_self)]
    by_cases h1 : n = m <;> by_cases h2 : r = q <;> simp [h1, h2]
end KSc

/-! KIx: places of lists and tuples whose reading names K. -/
namespace KIx
open PySem PySem.Spec PyProof.Rows L2
section
variable {X : Cx}
theorem ix_listW (K : PySem.W.Frag) (hK : X.K = K) : IxR X (rIxL K) := by
  subst hK
  exact ix_list
end
/-! ### a caught error of an own class, asked of within the suite -/
section
variable {X : Cx} {a : Addr} {oe : Obj} {cls : Value} {d : Option Addr} {pn : List (Addr × Obj)}
def tXs (K : PySem.W.Frag) (a : Addr) (cls : Value) (d : Option Addr) (f : Str) (te : TE) : TE := fun σ H Q => te σ H fun x H1 => x = .ref a ∧ ∃ (C dd : Addr) (fs : List (Str × V)) (v : V), cls = .ref C ∧ d = some dd ∧ H1 dd = some (.xd fs) ∧ XfC K C ∧ PySem.W.findIn K (.ref C) f = some none ∧ fs.lookup f = some v ∧ Q v H1
def rIsS (K : PySem.W.Frag) (a : Addr) (cls : Value) (d : Option Addr) : List V → Hp → VK → Prop := fun xs H Q => ∃ (C dd : Addr) (fs : List (Str × V)) (c : V) (u : Value) (b : Bool), xs = [.ref a, c] ∧ cls = .ref C ∧ d = some dd ∧ H dd = some (.xd fs) ∧ ExcC K C ∧ ClsV c u ∧ PySem.W.kitOne K (.ref C) u = some b ∧ Q (.bl b) H
def rIsTS (K : PySem.W.Frag) (a : Addr) (cls : Value) (d : Option Addr) : List V → Hp → VK → Prop := fun xs H Q => ∃ (C dd tp : Addr) (fs : List (Str × V)) (cs : List V) (us : List Value) (b : Bool), xs = [.ref a, .ref tp] ∧ cls = .ref C ∧ d = some dd ∧ H dd = some (.xd fs) ∧ ExcC K C ∧ H tp = some (.tup cs) ∧ Paired ClsV cs us ∧ PySem.W.kitAny K (.ref C) us = some b ∧ Q (.bl b) H
end
end KIx

/-! KSt: own classes whose __init__ has a star parameter and keyword-only ones; calls of them by keywords and with a star; own == within ==, of tuples too. -/
namespace KSt
open PySem PySem.Spec PyProof.Rows L2 KB StX
/-! ### defs with a star parameter, called with keywords ks -/
def SpK : Type := List V → List V → Hp → VK → XK → Prop
def FnK (P : Program) (w : World) (K : PySem.W.Frag) (mg : Str → Option Value) (base : Heap) (CX : CXT) (k : Nat) (f : Addr) (ks : List Str) (sp : SpK) : Prop :=
  ∀ (A : Around) (outer : List Env) (s : Shared) (H : Hp) (us ws : List Value) (vs zs : List V) (Q : VK) (E : XK), Room k A → Env0 P w K mg base A outer s H → Vals vs us → Vals zs ws → zs.length = ks.length → sp vs zs H Q E →
    codeAny (model P w) A (.call (.ref f) ⟨us, ks.zip ws⟩) (CR CX outer P w H s Q E) s
/-- how values, star values and keywords' values are bound -/
def BStar (K : PySem.W.Frag) (fd : FuncData) (ps : List Str) (pv : Str) (n : Nat) (ks : List Str) (g : List Value → List Value → List Value) : Prop :=
  ∀ (M : Model) (A : Around) (E : Value → Shared → Prop) (Q : List (Str × Value) → Shared → Prop) (s : Shared) (us rest ws : List Value), K.In s.heap → us.length = n → ws.length = ks.length →
    wpAny M A (newTuple rest >>= fun t => pure (ps.zip (g us ws) ++ [(pv, t)])) Q E s → wpAny M A (bindArgs fd ⟨us ++ rest, ks.zip ws⟩) Q E s
section
variable {CX : CXT} {P : Program} {w : World} {K : PySem.W.Frag} {mg : Str → Option Value} {base : Heap} {k n : Nat} {f : Addr} {name qual : Str} {params : Arguments} {body : List Stmt} {scope : Scope} {dV kV doc pm cdv ct oc : Value} {an od : Option Addr}
  {osl : Array (Option Value)} {N ps ks : List Str} {pv : Str} {sp : Sp} {g : List Value → List Value → List Value} {gV : List V → List V → List V}
theorem FnK.mono {j : Nat} {sp : SpK} (F : FnK P w K mg base CX j f ks sp) (h : j ≤ k) : FnK P w K mg base CX k f ks sp := fun A outer s H us ws vs zs Q E hr => F A outer s H us ws vs zs Q E (hr.mono h)
theorem FnK.imp {sp sp' : SpK} (F : FnK P w K mg base CX k f ks sp) (h : ∀ vs zs H Q E, sp' vs zs H Q E → sp vs zs H Q E) : FnK P w K mg base CX k f ks sp' := fun A outer s H us ws vs zs Q E hr e0 r r2 l hs => F A outer s H us ws vs zs Q E hr e0 r r2 l (h _ _ _ _ _ hs)
/-- what such a def promises: xs its values, rest the star ones (a new tuple), zs the keywords' -/
def spStar (sp : Sp) (n : Nat) (gV : List V → List V → List V) : SpK := fun vs zs H Q E => ∃ xs rest, vs = xs ++ rest ∧ xs.length = n ∧ rest.length ≤ sizeLine ∧ ∀ p, H p = Option.none → sp (gV xs zs ++ [V.ref p]) (upd H p (.tup rest)) Q E
theorem fn_starK (lk : K.lookup f = some ⟨oc, od, .func (PySem.W.fnOf name qual params body scope dV kV doc pm an cdv ct), osl⟩) (hcd : PySem.W.codeIn K cdv qual = true) (S : FnScope N (ps ++ [pv]) scope) (hCX : CXUp CX)
    (hb : BStar K (PySem.W.fnOf name qual params body scope dV kV doc pm an cdv ct) ps pv n ks g) (hg : ∀ {vs us zs ws}, Vals vs us → Vals zs ws → Vals (gV vs zs) (g us ws)) (hgl : ∀ vs zs, vs.length = n → zs.length = ks.length → (gV vs zs).length = ps.length)
    (hbody : ∀ (A : Around) (outer : List Env) (s : Shared) (H : Hp) (vs : List V) (Q : VK) (E : XK), Room k (A.deeper (envOfC qual scope s.heap.objs.size f cdv)) → sp vs H Q E →
      ∃ t, PSs (cxOf CX P w K mg base N qual scope f cdv A outer s H E) body t ∧ t { nx := fun _ H' => Q .non H', rt := Q } (start N vs) H) :
    FnK P w K mg base CX (k + 1) f ks (spStar sp n gV) := by
  intro A outer s H us ws vs zs Q E hr e0 r rz lz hsp
  obtain ⟨xs, rest, ev, hl, hz, hq⟩ := hsp
  subst ev
  obtain ⟨u1, u2, eu, r1, r2⟩ := vals_split r
  subst eu
  have hn : H s.heap.objs.size = Option.none := e0.hok.fresh (Nat.le_refl _)
  have hl1 : u1.length = n := by rw [← r1.length]; exact hl
  have hl2 : u2.length ≤ sizeLine := by rw [← r2.length]; exact hz
  have rg := hg r1 rz
  have lg := hgl xs zs hl lz
  refine run_bnd lk hcd S hr e0 (G := fun ys H2 => ∃ p, H p = Option.none ∧ ys = gV xs zs ++ [V.ref p] ∧ H2 = upd H p (.tup rest)) (fun A' Ex Q' h => ?_) fun s2 H2 ys ⟨p, hp, ex, eH⟩ hr' => ?_
  · refine hb _ _ _ _ _ u1 u2 ws (e0.mod.kin.keeps fun b o e => (e0.bs b o e).1) hl1 (by rw [← rz.length]; exact lz) ?_
    refine wpAny_bind (wpAny_newTuple (wpAny_pure ?_) hl2)
    have new : ObjOk P w (upd H s.heap.objs.size (.tup rest)) (s.heap.push ({ cls := .type "tuple", data := .seq u2.toArray } : Obj)) s.heap.objs.size (.tup rest) := ⟨hz, u2, r2, ⟨_, Heap.get?_push_size _ rfl, rfl, _, rfl⟩⟩
    have un := un_laid (fs := frs outer) (s := s) (o := ({ cls := .type "tuple", data := .seq u2.toArray } : Obj)) (u := .tup rest) hn
    have z := h _ _ (gV xs zs ++ [V.ref s.heap.objs.size]) (g u1 ws ++ [Value.ref s.heap.objs.size]) (env0_laid e0 new) un rfl (fun e s' => hCX outer s H _ _ E e s' un (fun b o q => Heap.get?_push_of_some _ q) rfl) (rg.append (.cons rfl .nil))
      (by rw [List.length_append, List.length_append, lg] <;> rfl) ⟨_, hn, rfl, rfl⟩
    rw [List.zip_append (by rw [← rg.length, lg])] at z
    exact z
  · subst ex eH
    exact hbody A outer s2 _ _ Q E hr' (hq p hp)
end
/-! ### C(.., k = v) by such an __init__ -/
structure CalleeIK (P : Program) (w : World) (K : PySem.W.Frag) (mg : Str → Option Value) (base : Heap) (CX : CXT) (k : Nat) (C : Addr) (x : Str) (ks : List Str) (sp : SpK) : Prop where
  ex : ∃ f : Addr, FnK P w K mg base CX k f ks sp ∧ Mk K C f ∧ mg x = some (.ref C)
def tMakeRK (C : Addr) (m : Nat) (sp : SpK) (E : XK) (t tk : TA) : TE := fun σ H Q => t σ H fun vs H1 => tk σ H1 fun zs H2 => zs.length = m ∧ ∀ x dx, H2 x = Option.none → H2 dx = Option.none → dx ≠ x →
  sp (V.ref x :: vs) zs (upd (upd H2 dx (.own x)) x (.ins C dx [])) (fun v H3 => v = .non ∧ Q (.ref x) H3) E
theorem r_makeRK {C : Addr} {m : Nat} {sp : SpK} {E : XK} {t tk : TA} {σ : L2.St} {H : Hp} {Q : VK} (q : t σ H fun vs H1 => tk σ H1 fun zs H2 => zs.length = m ∧ ∀ x dx, H2 x = Option.none → H2 dx = Option.none → dx ≠ x →
  sp (V.ref x :: vs) zs (upd (upd H2 dx (.own x)) x (.ins C dx [])) (fun v H3 => v = .non ∧ Q (.ref x) H3) E) : tMakeRK C m sp E t tk σ H Q := q
section
variable {X : Cx} {CX : CXT} {k : Nat} {f C : Addr} {ks : List Str} {sp : SpK} {E : XK} {x : Str} {p pos : Pos} {e : Expr} {es : List Expr} {kws : List Keyword} {t tk : TA}
theorem run_makeRK {pins : List (Addr × Obj)} {σ : L2.St} {H : Hp} {s : Shared} {Q : VK} {us ws : List Value} {vs zs : List V} (M : Mk X.K C f) (F : FnK X.prog X.w X.K X.mg X.base CX k f ks sp) (hr : Room (k + 1) X.A) (hx : Passes CX X E)
    (I : Inv X pins σ H s) (r : Vals vs us) (rz : Vals zs ws) (l2 : zs.length = ks.length)
    (h : ∀ x dx, H x = Option.none → H dx = Option.none → dx ≠ x → sp (V.ref x :: vs) zs (upd (upd H dx (.own x)) x (.ins C dx [])) (fun v H2 => v = .non ∧ Q (.ref x) H2) E) :
    wpAny (model X.prog X.w) X.A (call (.ref C) us (ks.zip ws)) (EP X pins σ Q) X.xe s := by
  have hq := h (s.heap.objs.size + 1) s.heap.objs.size (I.hok.fresh (Nat.le_succ _)) (I.hok.fresh (Nat.le_refl _)) (Nat.ne_of_lt (Nat.lt_succ_self _))
  have I2 := Inv.made (C := C) I
  have r1 : Vals (V.ref (s.heap.objs.size + 1) :: vs) (Value.ref (s.heap.objs.size + 1) :: us) := .cons rfl r
  refine wpAny_call (make_map (f := f) I.kIn M.makes M.init (beq_iff_eq.mp M.fn) (codeAny_mono (F _ X.stack _ _ (Value.ref (s.heap.objs.size + 1) :: us) ws _ _ _ E (hr.make C us (ks.zip ws)) (I2.env0.make C us (ks.zip ws)) r1 rz l2 hq) fun r s' hq' => ?_))
  cases r with
  | error e => exact hx pins σ _ _ e s' I2 hq'
  | ok fl =>
    cases fl with
    | ret u =>
      obtain ⟨v, H', I3, rv, ev, q3⟩ := I2.after hq'
      subst ev
      exact ⟨rv, ⟨V.ref (s.heap.objs.size + 1), H', I3, rfl, q3⟩⟩
    | next => exact False.elim hq'
    | brk => exact False.elim hq'
    | cont => exact False.elim hq'
/-- C(e, .., k = v, ..) -/
theorem pe_makeRK (c : CalleeIK X.prog X.w X.K X.mg X.base CX k C x ks sp) (hr : Room (k + 1) X.A) (hg : Gl X x) (hx : Passes CX X E) (ha : PA X (e :: es) t) (hkw : PK X kws tk)
    (hall : (backToKw pos (keywordEach kws X.env)).all (·.1.isSome) = true := by rfl) (hks : (backToKw pos (keywordEach kws X.env)).filterMap (·.1) = ks := by rfl) (hdb : (x == ("__debug__" : Str)) = false := by decide)
    (he : starEach (e :: es) X.env = (false, eval e X.env) :: starEach es X.env := by rfl) (hpl : ((backTo pos (starEach (e :: es) X.env)).any (·.1) || (backToKw pos (keywordEach kws X.env)).any (·.1.isNone)) = false := by rfl) :
    PE X (.Call (.Name x p) (e :: es) kws pos) (tMakeRK C ks.length sp E t tk) := by
  obtain ⟨f, F, M, hm⟩ := c.ex
  refine ⟨fun pins s σ H Q I h => ?_⟩
  refine wpAny_Call_Name_kw (ld_glob I hg hm ?_ hdb)
  refine PySem.W.callWith_KW (h₀ := X.base) I.ok.mod.kin M.kp hall (thn (ha.run pos pins s σ H _ I h) fun us s1 ⟨vs, H1, I1, r, q⟩ => ?_) hpl he
  refine thn (hkw.run pos pins s1 σ H1 _ I1 q) fun ws s2 ⟨zs, H2, I2, rz, l2, q2⟩ => ⟨I2.kIn, ?_⟩
  rw [hks]
  exact run_makeRK M F hr hx I2 r rz l2 q2
/-- C(e, ..) -/
theorem pe_makeR0 (c : CalleeIK X.prog X.w X.K X.mg X.base CX k C x [] sp) (hr : Room (k + 1) X.A) (hg : Gl X x) (hx : Passes CX X E) (ha : PA X (e :: es) t) (hdb : (x == ("__debug__" : Str)) = false := by decide)
    (he : starEach (e :: es) X.env = (false, eval e X.env) :: starEach es X.env := by rfl) (hpl : (backTo pos (starEach es X.env)).any (·.1) = false := by rfl) :
    PE X (.Call (.Name x p) (e :: es) [] pos) (tMakeRK C 0 sp E t tNil) := by
  obtain ⟨f, F, M, hm⟩ := c.ex
  refine ⟨fun pins s σ H Q I h => ?_⟩
  refine wpAny_Call_Name_kw (ld_glob I hg hm ?_ hdb)
  refine PySem.W.callWith_K (h₀ := X.base) I.ok.mod.kin M.kp (thn (ha.run pos pins s σ H _ I h) fun us s1 ⟨vs, H1, I1, r, q⟩ => ⟨I1.kIn, ?_⟩) he hpl
  obtain ⟨l2, q2⟩ := q
  exact run_makeRK (ks := []) (ws := []) M F hr hx I1 r .nil rfl q2
/-- the node of a call with a star and keywords -/
theorem call_starK {M : Model} {A : Around} {Er : Value → Shared → Prop} {s : Shared} {fv : Value} {first : List Value} {pos : Pos} {Q : Value → Shared → Prop} {Pr : Heap → Prop} {args : List (Bool × Sem Value)} {kw : List (Option Str × Sem Value)} (hst : (args.any (·.1) || kw.any (·.1.isNone)) = true)
    (hk : ∀ h, Pr h → ∃ k, (k = Keeper.frame ∨ k = Keeper.machine ∨ k = Keeper.boundFrame) ∧ PySem.W.Looks M h (keeperOf fv) k)
    (h : wpAny M A (evalArgs fv true args kw) (fun a s₁ => Pr s₁.heap ∧ wpAny M A (call fv (first ++ a.pos) a.kw) Q Er s₁) Er s) : wpAny M A (callWith pos fv first args kw) Q Er s := by
  unfold callWith
  refine wpAny_bind (wpAny_holding (wpAny_mono h (fun a s₁ h₁ => wpAny_bind (wpAny_standAt ?_)) fun _ _ x => x))
  obtain ⟨k, hk', L⟩ := hk _ h₁.1
  simp only [hst]
  refine wpAny_bind (L.here ?_)
  have tail : ∀ {t : Sem Value}, wpAny M A t Q Er s₁ → wpAny M A (t >>= fun r => holding [r] point >>= fun _ => pure r) Q Er s₁ :=
    fun ht => wpAny_bind (wpAny_mono ht (fun r s₂ hr => wpAny_bind (wpAny_holding (wpAny_point (wpAny_pure hr)))) fun _ _ x => x)
  have marked (mk : Value) : wpAny M A (callMarked mk fv (first ++ a.pos) a.kw) Q Er s₁ := by unfold callMarked; exact Calls.wpAny_keep h₁.2
  rcases hk' with rfl | rfl | rfl <;> dsimp only <;> first | exact tail (marked _) | exact tail (wpAny_operating h₁.2)
/-- C(e, *y, k = v) -/
theorem pe_makeRKS (c : CalleeIK X.prog X.w X.K X.mg X.base CX k C x ks sp) (hr : Room (k + 1) X.A) (hg : Gl X x) (hx : Passes CX X E) (ha : PA X (e :: es) t) (hkw : PK X kws tk)
    (hall : (backToKw pos (keywordEach kws X.env)).all (·.1.isSome) = true := by rfl) (hks : (backToKw pos (keywordEach kws X.env)).filterMap (·.1) = ks := by rfl) (hdb : (x == ("__debug__" : Str)) = false := by decide)
    (he : starEach (e :: es) X.env = (false, eval e X.env) :: starEach es X.env := by rfl) (hst : ((backTo pos (starEach (e :: es) X.env)).any (·.1) || (backToKw pos (keywordEach kws X.env)).any (·.1.isNone)) = true := by rfl) :
    PE X (.Call (.Name x p) (e :: es) kws pos) (tMakeRK C ks.length sp E t tk) := by
  obtain ⟨f, F, M, hm⟩ := c.ex
  refine ⟨fun pins s σ H Q I h => ?_⟩
  refine wpAny_Call_Name_kw (ld_glob I hg hm ?_ hdb)
  refine call_starK hst (PySem.W.keeps_K M.kp) (evalArgs_kw2 hall (thn (ha.run pos pins s σ H _ I h) fun us s1 ⟨vs, H1, I1, r, q⟩ => ?_) he)
  refine thn (hkw.run pos pins s1 σ H1 _ I1 q) fun ws s2 ⟨zs, H2, I2, rz, l2, q2⟩ => ⟨I2.kIn, ?_⟩
  rw [hks]
  exact run_makeRK M F hr hx I2 r rz l2 q2
/-- C(e, *y) -/
theorem pe_makeRS (c : CalleeIK X.prog X.w X.K X.mg X.base CX k C x [] sp) (hr : Room (k + 1) X.A) (hg : Gl X x) (hx : Passes CX X E) (ha : PA X (e :: es) t) (hdb : (x == ("__debug__" : Str)) = false := by decide)
    (he : starEach (e :: es) X.env = (false, eval e X.env) :: starEach es X.env := by rfl) (hst : (backTo pos (starEach es X.env)).any (·.1) = true := by rfl) :
    PE X (.Call (.Name x p) (e :: es) [] pos) (tMakeRK C 0 sp E t tNil) := by
  obtain ⟨f, F, M, hm⟩ := c.ex
  refine ⟨fun pins s σ H Q I h => ?_⟩
  refine wpAny_Call_Name_kw (ld_glob I hg hm ?_ hdb)
  refine PySem.W.callWith_S2 (h₀ := X.base) I.ok.mod.kin M.kp (thn (ha.run pos pins s σ H _ I h) fun us s1 ⟨vs, H1, I1, r, q⟩ => ⟨I1.kIn, ?_⟩) he hst
  obtain ⟨l2, q2⟩ := q
  exact run_makeRK (ks := []) (ws := []) M F hr hx I1 r .nil rfl q2
end
end KSt

/-! KSt2: __init__ with a star parameter that says super().__init__(..); == of own objects where the subclass's goes first; == of tuples of own objects. -/
namespace KSt
open PySem PySem.Spec PyProof.Rows L2 KB StX KN KO
section
variable {P : Program} {w : World} {K : PySem.W.Frag} {mg : Str → Option Value} {base : Heap} {f cda cc D : Addr} {fd : FuncData} {name qual : Str} {params : Arguments} {body : List Stmt} {scope : Scope} {N ps : List Str} {pv : Str} {n : Nat} {g : List Value → List Value → List Value} {gV : List V → List V → List V}
/-! ### own == where the right one's class stands below the left one's -/
end
section
open PySem.W
variable {prog : Program} {w : World} {A : Around} {E : Value → Shared → Prop} {s : Shared} {K : Frag} {x y C C2 g : Addr} {ox oy : Obj} {od od2 : Option Obj}
/-! ### tuples, the state going on -/
end
section
variable {X : Cx}
def rEqRefl (K : PySem.W.Frag) (C C2 : Addr) (sp : Sp) : R2 := fun x y H Q => ∃ a dx fs b dy gs, x = .ref a ∧ y = .ref b ∧ H a = some (.ins C dx fs) ∧ H b = some (.ins C2 dy gs) ∧ sp [y, x] H Q E0
/-- != of two instances of one class that has an __eq__ of its own, wherever it stands -/
structure OwnNeK (P : Program) (w : World) (K : PySem.W.Frag) (mg : Str → Option Value) (base : Heap) (k : Nat) (C : Addr) (ps : List Str) (sp : Sp) : Prop where
  eq : OwnM P w K mg base k C "__eq__" ps sp
  ne : PySem.W.findIn K (.ref C) "__ne__" = some (some (.builtin "object.__ne__"))
  sub : PySem.W.subIn K (.ref C) (.type "object") = some true
/-- what two items of tuples answer to == -/
def ItE (K : PySem.W.Frag) (C : Addr) (sp : Sp) (H : Hp) (a b : V) (r : Bool) : Prop := (flatV a = true ∧ flatV b = true ∧ r = eqV a b) ∨
  ∃ p dx fs q C' dy gs, a = .ref p ∧ b = .ref q ∧ H p = some (.ins C dx fs) ∧ H q = some (.ins C' dy gs) ∧ PySem.W.notFirst K C (.ref C') = true ∧ (p = q → r = true) ∧ ∀ H', Same H H' → ∀ Q : VK, (∀ H2, Same H' H2 → Q (.bl r) H2) → sp [.ref p, .ref q] H' Q E0
def rEqTupO (K : PySem.W.Frag) (C : Addr) (sp : Sp) : R2 := fun x y H Q => ∃ (p q : Addr) (xs ys : List V) (e : Nat → Bool), x = .ref p ∧ y = .ref q ∧ SqT K H p xs ∧ SqT K H q ys ∧ (∀ j a b, xs[j]? = some a → ys[j]? = some b → ItE K C sp H a b (e j)) ∧
  ∀ H', Same H H' → Q (.bl ((List.range (min xs.length ys.length)).all e && decide (xs.length = ys.length))) H'
end
end KSt

/-! KSt3: is True, is False of any value; == [] of a list of anything; one of two operators' rules; classmethods that make objects. -/
namespace KSt
open PySem PySem.Spec PyProof.Rows L2 KB
section
variable {X : Cx}
def rIsB : R2 := fun x y H Q => ∃ b, y = .bl b ∧ Q (.bl (decide (x = .bl b))) H
def rNotB : R2 := fun x y H Q => ∃ b, y = .bl b ∧ Q (.bl (!decide (x = .bl b))) H
def rEqNil (K : PySem.W.Frag) : R2 := fun x y H Q => ∃ a b xs, x = .ref a ∧ y = .ref b ∧ SqL K H a xs ∧ SqL K H b [] ∧ Q (.bl (decide (xs = []))) H
end
/-! ### super().m(e, ..), m a def with a star parameter -/
section
open KN KO
variable {P : Program} {w : World} {K : PySem.W.Frag} {mg : Str → Option Value} {base : Heap} {f cda cc D : Addr} {fd : FuncData} {name qual : Str} {params : Arguments} {body : List Stmt} {scope : Scope} {N ps : List Str}
structure SupR (P : Program) (w : World) (K : PySem.W.Frag) (mg : Str → Option Value) (base : Heap) (CX : CXT) (k : Nat) (C D : Addr) (m : Str) (sp : Sp) : Prop where
  ex : ∃ g : Addr, PySem.W.ks_superIn K C D m = some (some (.ref g)) ∧ PySem.W.typeIn K (.ref g) = some (.type "function") ∧ PySem.W.fnIn K g = true ∧ FnR P w K mg base CX k g sp
  sub : PySem.W.mroIn K C (.ref D) = some true
end
end KSt
namespace KIx
open PySem PySem.Spec PyProof.Rows L2
section
variable {X : Cx}
theorem call_isiW (K : PySem.W.Frag) (hK : X.K = K) : CallR X (.builtin "isinstance") (rIsi K) := by
  subst hK
  exact call_isi
end
end KIx

/-! KZm: zip of a tuple and a list (printed by mkzm.py). -/
namespace KZm
open PySem PySem.Spec PyProof.Rows L2
open PySem.Sem (wp)
section
variable {prog : Program} {w : World} {A : Around} {E : Value → Shared → Prop} {s : Shared}
end

abbrev zipMH1 (h : Heap) (l1 : Addr) : Heap := h.push { cls := .type "tuple_iterator", data := .fields #[.ref l1, .int 0 0] }
abbrev zipMH2 (h : Heap) (l1 l2 : Addr) : Heap := (zipMH1 h l1).push { cls := .type "list_iterator", data := .fields #[.ref l2, .int 0 0] }
abbrev zipMH3 (h : Heap) (l1 l2 : Addr) : Heap := (zipMH2 h l1 l2).push { cls := .type "tuple", data := .seq #[.ref h.objs.size, .ref (zipMH1 h l1).objs.size] }
abbrev zipMH4 (h : Heap) (l1 l2 : Addr) : Heap := (zipMH3 h l1 l2).push { cls := .type "tuple", data := .seq #[.none, .none] }
abbrev zipMH5 (h : Heap) (l1 l2 : Addr) : Heap := (zipMH4 h l1 l2).push { cls := .type "zip", data := .fields #[.none, .bool false, .bool false, .ref (zipMH2 h l1 l2).objs.size, .ref (zipMH3 h l1 l2).objs.size] }

section
variable {prog : Program} {w : World} {A : Around} {E : Value → Shared → Prop} {s : Shared}
end
/-- the tuple at a and the list at b as they stand at each turn, the items in new pairs -/
def ItzM (K : PySem.W.Frag) (a b : Addr) : It :=
  ⟨fun i H => ∃ (xs ys : List V) (x y : V), SqT K H a xs ∧ SqL K H b ys ∧ xs[i]? = some x ∧ ys[i]? = some y,
    fun i H v H' => ∃ T x y, v = .ref T ∧ H T = none ∧ H' = upd H T (.tup [x, y]) ∧ (∀ xs, SqT K H a xs → xs[i]? = some x) ∧ ∀ ys, SqL K H b ys → ys[i]? = some y,
    fun i H => ∃ xs ys : List V, SqT K H a xs ∧ SqL K H b ys ∧ (xs.length ≤ i ∨ ys.length ≤ i)⟩
def iZipM (K : PySem.W.Frag) (ta : TA) : TI := fun σ H R => ta σ H fun vs H1 => ∃ a b xs ys, vs = [.ref a, .ref b] ∧ SqT K H1 a xs ∧ SqL K H1 b ys ∧ R (ItzM K a b) H1
end KZm

/-! KMp: list comprehensions of two generators; an expression read in one of two ways; a tuple's items by a named K. -/
namespace KMp
open PySem PySem.Spec PyProof.Rows L2 KB KD
section
variable {X : Cx}
theorem pe_or {e : Expr} {t1 t2 : TE} (h1 : PE X e t1) (h2 : PE X e t2) : PE X e (fun σ H Q => t1 σ H Q ∨ t2 σ H Q) := ⟨fun pins s σ H Q I h => h.elim (h1.run pins s σ H Q I) (h2.run pins s σ H Q I)⟩
end
/-- what stands behind the inner iterable of a comprehension of two generators -/
def Lc2In (g1 : TG) (tt1 : TT) (te : TE) (vs1 : List Nat) (D : Addr) (Nx : Hp → Prop) (σ2 : L2.St) : It → Hp → Prop := fun J1 H4 => ∃ W1 : Nat → Nat → Hp → Prop, (∃ m, W1 0 m H4) ∧ ∀ j k H, W1 j k H →
  (J1.stop j H ∧ Nx H) ∨ (J1.go j H ∧ ∃ Nx1 : Hp → Prop, (∀ H', Nx1 H' → ∃ k', k' < k ∧ W1 (j + 1) k' H') ∧ ∀ x H', J1.yld j H x H' → g1 x (wipe σ2 vs1) H' fun σ3 H5 => wipe σ3 vs1 = wipe σ2 vs1 ∧ tt1 σ3 H5 fun b H6 =>
    if b = true then te σ3 H6 fun y H7 => ∃ acc, H7 D = some (.lst acc) ∧ acc.length < sizeLine ∧ Nx1 (upd H7 D (.lst (acc ++ [y]))) else Nx1 H6)
def Lc2W (J : It) (g : TG) (tt : TT) (wi1 : TI) (g1 : TG) (tt1 : TT) (te : TE) (vs vs1 : List Nat) (σ : L2.St) (H1 : Hp) (Q : VK) : Prop := ∀ D, H1 D = none → ∃ W : Nat → Nat → Hp → Prop, (∃ m, W 0 m (upd H1 D (.lst []))) ∧ ∀ i m H, W i m H →
  (J.stop i H ∧ Q (.ref D) H) ∨ (J.go i H ∧ ∃ Nx : Hp → Prop, (∀ H', Nx H' → ∃ m', m' < m ∧ W (i + 1) m' H') ∧ ∀ x H', J.yld i H x H' → g x (wipe σ vs) H' fun σ2 H2 => wipe σ2 vs = wipe σ vs ∧ tt σ2 H2 fun b H3 =>
    if b = true then wi1 σ2 H3 (Lc2In g1 tt1 te vs1 D Nx σ2) else Nx H3)
/-- one turn of the outer generator, told by what the inner one adds -/
def In2 (g1 : TG) (tt1 : TT) (te : TE) (vs1 : List Nat) (H1 : Hp) (R : Nat → List V → Hp → Prop) (m : Nat) (σ2 : L2.St) (J1 : It) : Prop := ∃ (G1 : Hp → Prop) (Y1 : Nat → Hp → V → Hp → Prop), Walk J1 m G1 Y1 ∧ (∀ H', Same H1 H' → G1 H') ∧
  ∀ j x1 H5 H5' (N : V → Hp → Prop) (B : Hp → Prop), j < m → Same H1 H5 → Y1 j H5 x1 H5' → (∀ v H6, Same H5 H6 → (∀ ys, R j ys H6 → R (j + 1) (ys ++ [v]) H6) → N v H6) → g1 x1 (wipe σ2 vs1) H5' fun σ3 H7 => wipe σ3 vs1 = wipe σ2 vs1 ∧ tt1 σ3 H7 fun b H8 => if b = true then te σ3 H8 N else B H8
end KMp

/-! KTe: == of tuples whose items answer to == by a reading of their own. -/
namespace KTe
open PySem PySem.Spec PyProof.Rows L2 KB
abbrev X1 (X : Cx) : Cx := { X with A := X.A.in1 }
theorem of1 {X : Cx} {pins : List (Addr × Obj)} {σ : L2.St} {H : Hp} {s : Shared} (I : Inv (X1 X) pins σ H s) : Inv X pins σ H s :=
  ⟨{ I.ok with }, I.os, I.bare, I.base, I.loc, I.cell, I.free, I.freeC, I.pin, I.hok, I.len⟩
def rEqTupE (K : PySem.W.Frag) (r : R2) : R2 := fun x y H Q => ∃ (p q : Addr) (xs ys : List V) (e : Nat → Bool), x = .ref p ∧ y = .ref q ∧ SqT K H p xs ∧ SqT K H q ys ∧
  (∀ j a b, xs[j]? = some a → ys[j]? = some b → ∃ p1 q1, a = .ref p1 ∧ b = .ref q1 ∧ (p1 = q1 → e j = true) ∧ ∀ H', Same H H' → ∀ Q : VK, (∀ H2, Same H' H2 → Q (.bl (e j)) H2) → r a b H' Q) ∧
  ∀ H', Same H H' → Q (.bl ((List.range (min xs.length ys.length)).all e && decide (xs.length = ys.length))) H'
/-- xs != [] -/
def rNeNil (K : PySem.W.Frag) : R2 := fun x y H Q => ∃ a b xs, x = .ref a ∧ y = .ref b ∧ SqL K H a xs ∧ SqL K H b [] ∧ Q (.bl (!decide (xs = []))) H
section
variable {X : Cx}
end
section
variable {X : Cx}
end
end KTe

/-! KSrt: sorted of a list of tuples (int, text, int), in the order of their first ints. -/
namespace KSrt
open PySem L2 KB
def sh3 : Nat → Bool := fun i => i == 1
/-- sorted(xs), xs a list of tuples (int, text, int) of any length (k says which) -/
def rSorted3 (K : PySem.W.Frag) : List V → Hp → VK → Prop := fun vs H Q => ∃ (a : Addr) (xs : List V) (k : V → Int × Str × Int), vs = [V.ref a] ∧ SqL K H a xs ∧ (∀ x ∈ xs, ∃ t, x = V.ref t ∧ H t = some (.tup [.int (k x).1, .str (k x).2.1, .int (k x).2.2])) ∧
  ∀ ys p, ys.Perm xs → ys.Pairwise (fun x y => (k x).1 ≤ (k y).1) → H p = none → Q (.ref p) (upd H p (.lst ys))
section
variable {X : Cx}
/-! ### a text == a tree -/
open KTr in
/-- z == t, z a text, t any tree: whether t is this text -/
def rEqST : R2 := fun x y H Q => ∃ (z : Str) (t : Tr), x = .str z ∧ TrAt H y t ∧ Q (.bl (t.isIn [z])) H
end
end KSrt
namespace KSrt
open PySem L2 KB KV KMp KD
/-! ### a comprehension of two generators with a filter -/
def In2F (g1 : TG) (tt1 : TT) (te : TE) (vs1 : List Nat) (H1 : Hp) (R : Nat → List V → Hp → Prop) (m : Nat) (σ2 : L2.St) (J1 : It) : Prop := ∃ (G1 : Hp → Prop) (Y1 : Nat → Hp → V → Hp → Prop), Walk J1 m G1 Y1 ∧ (∀ H', Same H1 H' → G1 H') ∧
  ∀ j x1 H5 H5' (N : V → Hp → Prop) (B : Hp → Prop), j < m → Same H1 H5 → Y1 j H5 x1 H5' → (∀ v H6, Same H5 H6 → (∀ ys, R j ys H6 → R (j + 1) (ys ++ [v]) H6) → N v H6) → (∀ H6, Same H5 H6 → (∀ ys, R j ys H6 → R (j + 1) ys H6) → B H6) → g1 x1 (wipe σ2 vs1) H5' fun σ3 H7 => wipe σ3 vs1 = wipe σ2 vs1 ∧ tt1 σ3 H7 fun b H8 => if b = true then te σ3 H8 N else B H8
/-- a comprehension of one generator, told by what a turn adds (or leaves out) -/
theorem lc_mkF {J : It} {n : Nat} {G : Hp → Prop} {Y : Nat → Hp → V → Hp → Prop} (wk : Walk J n G Y) {g : TG} {tt : TT} {te : TE} {vs : List Nat} {σ : L2.St} {H1 : Hp} {Q : VK} (R : Nat → List V → Hp → Prop) (h0 : ∀ H, R 0 [] H) (lenB : ∀ i ys H, R i ys H → ys.length ≤ 100000)
    (up : ∀ i ys H H', R i ys H → SameN H H' → R i ys H') (hG : ∀ H', Same H1 H' → G H')
    (hs : ∀ i x H H' (N : V → Hp → Prop) (B : Hp → Prop), i < n → Same H1 H → Y i H x H' → (∀ v H2, Same H H2 → (∀ ys, R i ys H2 → R (i + 1) (ys ++ [v]) H2) → N v H2) → (∀ H2, Same H H2 → (∀ ys, R i ys H2 → R (i + 1) ys H2) → B H2) → g x (wipe σ vs) H' fun σ2 H2 => wipe σ2 vs = wipe σ vs ∧ tt σ2 H2 fun b H3 => if b = true then te σ2 H3 N else B H3)
    (hd : ∀ D H' (ys : List V), H1 D = none → Same H1 H' → H' D = some (.lst ys) → R n ys H' → Q (.ref D) H') :
    LcW J g tt te vs σ H1 Q := by
  intro D hD
  refine lc_it wk (Qd := fun H => Q (.ref D) H) (fun i H => Same H1 H ∧ ∃ ys : List V, H D = some (.lst ys) ∧ R i ys H) ⟨same_new hD, [], upd_same, h0 _⟩ (fun i H _ p => hG H p.1) (fun i x H H' hi p y => ?_) (fun H p => ?_)
  · obtain ⟨sm, ys, hy, hR⟩ := p
    refine hs i x H H' _ _ hi sm y (fun v H2 s2 r => ?_) (fun H2 s2 r => ⟨sm.trans s2, ys, s2 _ _ hy, r ys (up _ _ _ _ hR (SameN.of s2))⟩)
    have kp : SameN H2 (upd H2 D (.lst (ys ++ [v]))) := fun a o e no => by
      rw [upd_ne (fun z => no ys (by rw [z, s2 _ _ hy] at e; exact (Option.some.inj e).symm))]
      exact e
    exact ⟨ys, s2 _ _ hy, Nat.lt_of_le_of_lt (lenB _ _ _ hR) (by decide), same_mut (sm.trans s2) hD, ys ++ [v], upd_same, up _ _ _ _ (r ys (up _ _ _ _ hR (SameN.of s2))) kp⟩
  · obtain ⟨sm, ys, hy, hR⟩ := p
    exact hd D H ys hD sm hy hR
end KSrt

/-! KDu: own __getitem__, __contains__, __len__ as rules of the hand layer. -/
namespace KDu
open PySem PySem.Spec PyProof.Rows L2 KB KO
structure OwnMX (P : Program) (w : World) (K : PySem.W.Frag) (mg : Str → Option Value) (base : Heap) (CX : CXT) (k : Nat) (C : Addr) (m : Str) (ps : List Str) (sp : Sp) : Prop where
  ex : ∃ (g : Addr) (fd : FuncData), PySem.W.findIn K (.ref C) m = some (some (.ref g)) ∧ PySem.W.isFn K (.ref g) = true ∧ PySem.W.fnIn K g = true ∧ FnOk P w K mg base CX k g fd ps sp ∧ Binds K fd ps []
def rGetOwn (C : Addr) (sp : Sp) (E : XK) : R2 := fun x y H Q => ∃ a dx fs, x = .ref a ∧ H a = some (.ins C dx fs) ∧ sp [.ref a, y] H Q E
def rInOwn (C : Addr) (sp : Sp) : R2 := fun x y H Q => ∃ a dx fs, y = .ref a ∧ H a = some (.ins C dx fs) ∧ sp [.ref a, x] H (fun v H' => ∃ b, v = .bl b ∧ Q (.bl b) H') E0
def rLenOwn (C : Addr) (sp : Sp) : List V → Hp → VK → Prop := fun xs H Q => ∃ a dx fs, xs = [.ref a] ∧ H a = some (.ins C dx fs) ∧ sp [.ref a] H (fun v H' => ∃ n : Nat, v = .int n ∧ n ≤ sizeLine ∧ Q (.int n) H') E0
structure CalleeMKX (P : Program) (w : World) (K : PySem.W.Frag) (mg : Str → Option Value) (base : Heap) (CX : CXT) (k : Nat) (C : Addr) (m : Str) (ps : List Str) (sp : Sp) (n : Nat) (ks : List Str) (gV : List V → List V → List V) : Prop where
  ex : ∃ (f : Addr) (fd : FuncData) (g : List Value → List Value → List Value), FnOk P w K mg base CX k f fd ps sp ∧ Meth K C m f ∧ KBn K fd ps (n + 1) ks g gV
  cl : Cls K C
def tMethKX (C : Addr) (m : Str) (n : Nat) (sp : Sp) (gV : List V → List V → List V) (E : XK) (ta : TE) (tk : TA) : TE := fun σ H Q => ta σ H fun x H1 => ∃ a dx fs, x = .ref a ∧ H1 a = some (.ins C dx fs) ∧ fs.lookup m = none ∧ tk σ H1 fun zs H2 => zs.length = n ∧ sp (gV [.ref a] zs) H2 Q E
section
variable {X : Cx}
/-! ### o.m(k = v, ..), also raising -/
end
end KDu

/-! KDu2: a try body in which methods, keyword methods and own __getitem__ raise, the locals kept (W tells the state). -/
namespace KDu
open PySem PySem.Spec PyProof.Rows L2 KB KO
def tMethS (C : Addr) (m : Str) (sp : Sp) (W : WX) (ta : TE) (t : TA) : TE := fun σ H Q => ta σ H fun x H1 => ∃ a dx fs, x = .ref a ∧ H1 a = some (.ins C dx fs) ∧ fs.lookup m = none ∧ t σ H1 fun vs H2 => sp (x :: vs) H2 Q (fun cls d H' => W cls d σ H')
def tMethKS (C : Addr) (m : Str) (n : Nat) (sp : Sp) (gV : List V → List V → List V) (W : WX) (ta : TE) (tk : TA) : TE := fun σ H Q => ta σ H fun x H1 => ∃ a dx fs, x = .ref a ∧ H1 a = some (.ins C dx fs) ∧ fs.lookup m = none ∧ tk σ H1 fun zs H2 => zs.length = n ∧ sp (gV [.ref a] zs) H2 Q (fun cls d H' => W cls d σ H')
def tGetS (C : Addr) (sp : Sp) (W : WX) (ta tb : TE) : TE := fun σ H Q => ta σ H fun x H1 => tb σ H1 fun y H2 => ∃ a dx fs, x = .ref a ∧ H2 a = some (.ins C dx fs) ∧ sp [.ref a, y] H2 Q (fun cls d H' => W cls d σ H')
/-- the body of a try: what it raises goes to W at the state in which it was raised -/
def tBodyS (tt : WX → TS) (W : WX) : TS := tt W
section
variable {X : Cx}
end
end KDu

/-! KIt: a text or a tuple == a text; a promise that is one of two. -/
namespace KIt
open PySem L2 KB KV
section
variable {X : Cx}
/-- x == z, x a text or a tuple, z a text -/
def rEqTS : R2 := fun x y H Q => ∃ z : Str, y = .str z ∧ ((∃ z' : Str, x = .str z' ∧ Q (.bl (decide (z' = z))) H) ∨ ∃ (a : Addr) (xs : List V), x = .ref a ∧ H a = some (.tup xs) ∧ Q (.bl false) H)
end
def spOr (a b : Sp) : Sp := fun vs H Q E => a vs H Q E ∨ b vs H Q E
end KIt

/-! KSrS: sorted of a tuple of texts; what a sorted list of texts is. -/
namespace KSrS
open PySem PySem.Spec PyProof.Rows L2 KB
section
variable {prog : Program} {w : World} {A : Around} {E : Value → Shared → Prop} {s : Shared}
theorem collect_tup {l : Addr} {vs : List Value} {o : Obj} {n : Nat} {Q : List Value → Shared → Prop} (ho : s.heap.get? l = some o) (hc : o.cls = .type "tuple") (hd : o.data = .seq vs.toArray n)
    (h : Q vs { s with heap := (s.heap.push (seqObj "list" #[] 0)).update s.heap.objs.size (Obj.mapSeq (· ++ vs.toArray)) }) (hsz : vs.length ≤ sizeLine := by size_fits) :
    wpAny (model prog w) A (collect (.ref l)) Q E s := by
  unfold collect
  refine wpAny_bind (wpAny_runValue (codeAny_builtin entry_proto_collect' ?_))
  show wpAny _ _ (do again (.builtin "list.__iadd__" ⟨[← newList [], .ref l], []⟩)) _ _ s
  refine wpAny_bind (wpAny_newList (wpAny_pure ⟨Code.quiet_builtin _ (by decide +kernel), codeAny_builtin entry_list_iadd' ?_⟩))
  show wpAny _ _ (Builtin.List.listExtendWith (.ref s.heap.objs.size) (.ref l) (.ref s.heap.objs.size)) _ _ { s with heap := s.heap.push (seqObj "list" #[] 0) }
  unfold Builtin.List.listExtendWith
  have ho' : (s.heap.push (seqObj "list" #[] 0)).get? l = some o := Heap.get?_push_of_some _ ho
  refine wpAny_bind (wpAny_typeOf (T := "tuple") ⟨o, ho', hc⟩ ?_)
  have ht : (Value.type "tuple" == Value.type "tuple") = true := by rfl
  rw [if_pos (by rw [ht]; simp)]
  refine wpAny_bind (listItems_at ho' hd ?_)
  refine wpAny_bind (listItems_at (xs := #[]) (n := 0) (Heap.get?_push_size _ rfl) rfl ?_)
  rw [if_neg (by simp)]
  refine wpAny_bind (listUpdate_at (xs := #[]) (n := 0) (Heap.get?_push_size _ rfl) rfl ?_ (Nat.zero_le _) (by show (#[] ++ vs.toArray).size ≤ sizeLine + 1; simp only [Array.size_append, List.size_toArray, List.length_nil]; omega))
  refine wpAny_pure ?_
  show wpAny (model prog w) A (do
      let o ← load s.heap.objs.size
      match o.data with
      | .seq xs _ => pure xs.toList
      | _ => unsupported "internal:collect") Q E { s with heap := (s.heap.push (seqObj "list" #[] 0)).update s.heap.objs.size (Obj.mapSeq (· ++ vs.toArray)) }
  refine wpAny_bind (wpAny_load (get?_update_seq (Heap.get?_push_size _ rfl) _) ?_)
  show wpAny _ _ (pure ((#[] : Array Value) ++ vs.toArray).toList) Q E _
  rw [show ((#[] : Array Value) ++ vs.toArray).toList = vs by simp]
  exact wpAny_pure h
theorem sortedT {κ : KeyKind} (hO : κ.OneLt) {l : Addr} {vs : List Value} {o : Obj} {n : Nat} {Q : Value → Shared → Prop} (ho : s.heap.get? l = some o) (hc : o.cls = .type "tuple") (hd : o.data = .seq vs.toArray n) (h0 : KeysOf κ (pairsOf vs)) (hkk : ∀ v₁ v₂ rest, vs = v₁ :: v₂ :: rest → keyKind' (v₁ :: v₂ :: rest).toArray = pure oneType') (hL : vs.length ≤ sizeLine)
    (h : ∀ st' : SortSt, (arrOf st').Perm (pairsOf vs) → SortedToK κ (arrOf st') (pairsOf vs).size → Q (.ref (s.heap.objs.size + 1)) { s with heap := sortedAll s.heap vs ((arrOf st').map (·.2)) }) :
    wpAny (model prog w) A (call (.builtin "sorted") [.ref l]) Q E s := by
  refine Calls.call_function_entry kind_sorted plain_sorted entry_sorted (args_sorted1 _) ?_
  unfold Builtin.«sorted»
  refine wpAny_bind (m := checkCount "sorted" 1 1 _) (wpAny_pure ?_)
  refine wpAny_bind (collect_tup ho hc hd ?_)
  refine wpAny_bind (wpAny_newList ?_)
  have hsz : ((s.heap.push (seqObj "list" #[] 0)).update s.heap.objs.size (Obj.mapSeq (· ++ vs.toArray))).objs.size = s.heap.objs.size + 1 := by
    rw [Heap.size_update, size_push']
  have hoL : (((s.heap.push (seqObj "list" #[] 0)).update s.heap.objs.size (Obj.mapSeq (· ++ vs.toArray))).push (seqObj "list" vs.toArray 0)).get? (s.heap.objs.size + 1) = some (seqObj "list" vs.toArray 0) := by
    rw [← hsz]; exact Heap.get?_push_size _ rfl
  show wpAny _ _ _ _ _ { s with heap := ((s.heap.push (seqObj "list" #[] 0)).update s.heap.objs.size (Obj.mapSeq (· ++ vs.toArray))).push (seqObj "list" vs.toArray 0) }
  rw [hsz]
  refine wpAny_bind (wpAny_holding (wpAny_call_entry slot_list_sort ⟨_, hoL, rfl⟩ entry_list_sort (list_sort_treeKAny hO hoL h0 hkk hL fun st' a1 a2 => ⟨_, rfl, ?_⟩) (args_list_sort _)))
  exact wpAny_pure ⟨_, rfl, h st' a1 a2⟩
theorem sorted_strsT {l : Addr} {vs : List Value} {o : Obj} {n : Nat} {ss : List Str} {Q : Value → Shared → Prop} (ho : s.heap.get? l = some o) (hc : o.cls = .type "tuple") (hd : o.data = .seq vs.toArray n) (hS : StrsAre vs ss) (hL : vs.length ≤ sizeLine)
    (h : ∀ (out : Array Value) (ss' : List Str), StrsAre out.toList ss' → ss'.Perm ss → sortedS ss' = true → Q (.ref (s.heap.objs.size + 1)) { s with heap := sortedAll s.heap vs out }) :
    wpAny (model prog w) A (call (.builtin "sorted") [.ref l]) Q E s := by
  refine sortedT strKind_oneLt ho hc hd hS.keysOf (fun v₁ v₂ rest e => keyKind_strs (by rw [← e]; exact hS)) hL fun st' hp hs => ?_
  obtain ⟨ss', h1, h2, h3⟩ := sorted_out_str hS hp hs
  exact h _ ss' h1 h2 h3
end
section
variable {X : Cx}
/-- sorted(x), x a list or a tuple of texts -/
def rSortedA (K : PySem.W.Frag) : List V → Hp → VK → Prop := fun vs H Q => ∃ (a : Addr) (xs : List Str), vs = [V.ref a] ∧ (SqL K H a (xs.map V.str) ∨ SqT K H a (xs.map V.str)) ∧ ∀ (ys : List Str) (p : Addr), ys.Perm xs → sortedS ys = true → H p = none → Q (.ref p) (upd H p (.lst (ys.map V.str)))
theorem cr_sortedA : CallR X (.builtin "sorted") (rSortedA X.K) := by
  intro pins s σ H vs us Q I r h
  obtain ⟨a, xs, rfl, hs, q⟩ := h
  rw [Vals.ref1 r]
  rcases hs with hs | hs
  · obtain ⟨its, rv, hl, hz⟩ := I.list hs
    have hlen0 := rv.length
    rw [List.length_map] at hlen0 hz
    refine PyProof.Rows.sorted_strsAny hl.isList rv.strs (by rw [← hlen0]; exact hz) fun out ys h1 h2 h3 => ?_
    obtain ⟨ep, he'⟩ := PyProof.Rows.sortedAll_at s.heap its out
    have hlen : (ys.map V.str).length ≤ sizeLine := by rw [List.length_map, h2.length_eq]; exact hz
    exact ⟨.ref _, upd H (s.heap.objs.size + 1) (.lst (ys.map V.str)), I.laid (t' := s.toks) (fun _ _ => PyProof.Rows.sortedAll_old) (Nat.le_succ _) ⟨hlen, out.toList, ep, vals_of_strs h1, he'⟩, rfl, q ys _ h2 h3 (I.hok.fresh (Nat.le_succ _))⟩
  · obtain ⟨its, rv, hl, hz⟩ := I.tuple hs
    have hlen0 := rv.length
    rw [List.length_map] at hlen0 hz
    obtain ⟨o, ho, hc, n, hd⟩ := hl
    refine sorted_strsT ho hc hd rv.strs (by rw [← hlen0]; exact hz) fun out ys h1 h2 h3 => ?_
    obtain ⟨ep, he'⟩ := PyProof.Rows.sortedAll_at s.heap its out
    have hlen : (ys.map V.str).length ≤ sizeLine := by rw [List.length_map, h2.length_eq]; exact hz
    exact ⟨.ref _, upd H (s.heap.objs.size + 1) (.lst (ys.map V.str)), I.laid (t' := s.toks) (fun _ _ => PyProof.Rows.sortedAll_old) (Nat.le_succ _) ⟨hlen, out.toList, ep, vals_of_strs h1, he'⟩, rfl, q ys _ h2 h3 (I.hok.fresh (Nat.le_succ _))⟩
end
/-! ### sorted lists of texts -/
theorem str_ext {a b : Str} (h : a.cps.toList = b.cps.toList) : a = b := by
  cases a; cases b; simp only [Str.mk.injEq]; exact Array.toList_inj.mp h
def leS (a b : Str) : Bool := decide (a.cps.toList ≤ b.cps.toList)
def sortS (xs : List Str) : List Str := xs.mergeSort leS
theorem leS_trans {a b c : Str} (h : leS a b = true) (g : leS b c = true) : leS a c = true := decide_eq_true (List.le_trans (of_decide_eq_true h) (of_decide_eq_true g))
theorem leS_total (a b : Str) : (leS a b || leS b a) = true := by
  rcases List.le_total a.cps.toList b.cps.toList with h | h
  · unfold leS; rw [decide_eq_true h]; rfl
  · unfold leS; rw [decide_eq_true h, Bool.or_true]
theorem rising_pw : ∀ (r : List Str) (x : Str), risingS x r = true → (x :: r).Pairwise (fun a b => leS a b = true)
  | [], x, _ => List.pairwise_singleton ..
  | y :: r, x, h => by
    unfold risingS at h
    rw [Bool.and_eq_true] at h
    have ih := rising_pw r y h.2
    have xy : leS x y = true := by
      have h1 := h.1
      rw [PyProof.Rows.ltCps_eq] at h1
      simp only [Bool.not_eq_true', decide_eq_false_iff_not] at h1
      exact decide_eq_true h1
    refine List.pairwise_cons.mpr ⟨fun z m => ?_, ih⟩
    rcases List.mem_cons.mp m with rfl | m
    · exact xy
    · exact leS_trans xy ((List.pairwise_cons.mp ih).1 z m)
theorem sorted_pw {l : List Str} (h : sortedS l = true) : l.Pairwise (fun a b => leS a b = true) := by
  cases l with
  | nil => exact .nil
  | cons x r => exact rising_pw r x h
theorem pw_perm {l m : List Str} (p : l.Perm m) (h1 : l.Pairwise (fun a b => leS a b = true)) (h2 : m.Pairwise (fun a b => leS a b = true)) : l = m :=
  p.eq_of_pairwise (fun a b _ _ x y => str_ext (List.le_antisymm (of_decide_eq_true x) (of_decide_eq_true y))) h1 h2
theorem sortS_pw (xs : List Str) : (sortS xs).Pairwise (fun a b => leS a b = true) := List.pairwise_mergeSort (le := leS) (fun a b c => leS_trans (a := a) (b := b) (c := c)) leS_total xs
theorem sortS_perm (xs : List Str) : (sortS xs).Perm xs := List.mergeSort_perm xs leS
theorem is_sortS {ys xs : List Str} (p : ys.Perm xs) (h : sortedS ys = true) : ys = sortS xs := pw_perm (p.trans (sortS_perm xs).symm) (sorted_pw h) (sortS_pw xs)
end KSrS

/-! KStp: == and != of an own object beside any value (another own class, data); str, repr, isinstance of an object of one of several classes. -/
namespace KStp
open PySem PySem.Spec PyProof.Rows L2 KB KO
section
open PySem.W
variable {prog : Program} {w : World} {A : Around} {E : Value → Shared → Prop} {s : Shared} {K : Frag} {x C g : Addr} {ox : Obj} {od : Option Obj} {b tb : Value}
end
section
variable {X : Cx}
/-- beside x, an instance of C: an instance of an own class that is none below C, or data -/
inductive Bes (K : PySem.W.Frag) (C : Addr) (H : Hp) : V → Prop
  | ins {b C' dy : Addr} {gs : List (Str × V)} (h : H b = some (.ins C' dy gs)) (nf : PySem.W.notFirst K C (.ref C') = true) : Bes K C H (.ref b)
  | dat {y : V} {T : String} (ty : TyB K H y T) (hT : T ≠ "bytes") (nf : PySem.W.notFirst K C (.type T) = true) : Bes K C H y
theorem Bes.looks {K : PySem.W.Frag} {C : Addr} {h : Hp} {y : V} {u : Value} {pins : List (Addr × Obj)} {σ : L2.St} {st : Shared} (e : Bes K C h y) (eK : X.K = K) (inv : Inv X pins σ h st) (ry : RelV y u) : ∃ tb, PySem.W.Looks (model X.prog X.w) st.heap (typeOf u) tb ∧ PySem.W.notFirst X.K C tb = true := by
  subst eK
  cases e with
  | @ins b C' dy gs hb nf =>
    obtain rfl : u = Value.ref b := ry
    obtain ⟨od', J'⟩ := inst_of inv hb
    exact ⟨.ref C', J'.type, nf⟩
  | @dat _ T ty hT nf =>
    refine ⟨.type T, ?_, nf⟩
    have ti := ty.is inv ry
    have flat : typeOf u = pure (.type T) → PySem.W.Looks (model X.prog X.w) st.heap (typeOf u) (.type T) := fun e A Q E s' k q => by rw [e]; exact wpAny_pure q
    have far : ∀ b, u = .ref b → PySem.W.Looks (model X.prog X.w) st.heap (typeOf u) (.type T) := by
      intro b e
      subst e
      obtain ⟨o, g1, g2⟩ := ti
      exact fun A Q E s' k q => wpAny_typeOf_ref (k _ _ g1) (by rw [g2]; exact q)
    cases ty with
    | non => cases (show u = Value.none from ry); exact flat ti
    | bl b => cases (show u = Value.bool b from ry); exact flat ti
    | int i => obtain ⟨t, rfl⟩ := (show ∃ t, u = Value.int i t from ry); exact flat ti
    | str x => obtain ⟨t, rfl⟩ := (show ∃ t, u = Value.str x t from ry); exact flat ti
    | byt b => exact absurd rfl hT
    | @lst b => exact far b ry
    | @tup b => exact far b ry
    | @dK b => exact far b ry
/-- a value's type, as both rules want it -/
def TyBX (K : PySem.W.Frag) (H : Hp) (y : V) (T : String) : Prop := TyB K H y T ∧ TyX K H y (.type T)
def rEqB (K : PySem.W.Frag) (C : Addr) (sp : Sp) : R2 := fun x y H Q => ∃ (a dx : Addr) (fs : List (Str × V)), x = .ref a ∧ H a = some (.ins C dx fs) ∧ Bes K C H y ∧ sp [x, y] H Q E0
def rNeB (K : PySem.W.Frag) (C : Addr) (sp : Sp) : R2 := fun x y H Q => ∃ (a dx : Addr) (fs : List (Str × V)), x = .ref a ∧ H a = some (.ins C dx fs) ∧ Bes K C H y ∧ sp [x, y] H (fun v H' => ∃ c, v = .bl c ∧ Q (.bl (!c)) H') E0
theorem op_eqB {C : Addr} {ps : List Str} {sp : Sp} {n : Nat} (c : OwnM X.prog X.w X.K X.mg X.base n C "__eq__" ps sp) (room : Room n X.A) : OpR X (compareOp .Eq) (rEqB X.K C sp) := by
  obtain ⟨g, fd, hs, hf, F, bind⟩ := c.ex
  intro pins st σ h x y v u Z inv rx ry pre
  obtain ⟨a, dx, fs, rfl, ha, bs, z⟩ := pre
  obtain rfl : v = Value.ref a := rx
  obtain ⟨od, J⟩ := inst_of inv ha
  obtain ⟨m, hF⟩ := inv.fr
  obtain ⟨tb, lk, nf⟩ := bs.looks rfl inv ry
  rw [show compareOp .Eq (.ref a) u = richCompare .Eq (.ref a) u from rfl]
  refine PySem.W.cmp_K (op := .Eq) (tb := tb) room.units0 hF inv.ok.mod.kin J lk nf hs hf ?_
  refine wpAny_mono (run0 (E' := X.xe) (xs := [.ref a, y]) F room inv.env0 bind inv (.cons rfl (.cons ry .nil)) z) (fun w s2 r => ?_) fun _ _ z => z
  obtain ⟨z', h2, inv2, rz, qz⟩ := r
  exact SlX.cmpback rz ⟨z', h2, inv2, rz, qz⟩
end
/-! ### C(k = v, ..), C's __init__ with a star parameter -/
section
variable {X : Cx} {CX : CXT} {k : Nat} {C : Addr} {ks : List Str} {sp : KSt.SpK} {E : XK} {x : Str} {p pos : Pos} {kws : List Keyword} {tk : TA}
end
end KStp

/-! KLm: data != a whole number; lambdas kept in lists. -/
namespace KLm
open PySem PySem.Spec PyProof.Rows L2 KB KTr
section
variable {K : Type} [DecidableEq K] {prog : Program} {w : World} {A : Around} {E : Value → Shared → Prop} {s : Shared}
theorem int_ne_declines_dict (b : Int) (u : Tok) (l : Addr) (c : Value) (es : Array DictEntry) (ep : Nat) (dd : Option Addr) (sl : Array (Option Value)) :
    Meets (Builtin.«int.__ne__» ⟨[.int b u, .ref l], []⟩) (fun _ R s => s.heap.get? l = some { cls := c, dict := dd, data := .dict es ep, slots := sl } ∧ R (.ok (.ret .notImplemented)) s) :=
  .of_wp fun prog w A R s h => by obtain ⟨hp, g, d, tk, os⟩ := s; obtain ⟨hl, h⟩ := h; wp_walk using wpAny_loadPart' hl, wpAny_load hl; exact ⟨_, rfl, h⟩
/-- a dict != a whole number -/
theorem ne_dict_int {knd : PySem.KeyKind prog w K} {a : Addr} {kvs : List (K × Value)} {b : Int} {u : Tok} {Q : Value → Shared → Prop} (da : s.heap.DictOf knd a kvs) (hu : A.units < cLine) (h : Q (.bool true) s) :
    wpAny (model prog w) A (compareOp .NotEq (.ref a) (.int b u)) Q E s := by
  obtain ⟨⟨c, dd, data, sl⟩, es, ep, ho, ex, hd, _⟩ := id da
  simp only at hd
  subst hd
  refine SeqAt.rc_ne_decline_or (k := false) (Q := Q) da.typeIs (typeIs_int s b u) (by decide) F.sub_int_dict F.slot_dict_ne F.slot_int_ne_refl ?_ ?_ (fun _ hq => wpAny_of_eq (rfl : isSame (.ref a) (.int b u) = pure false) hq) (.inr hu) h
  · intro Q' hq
    refine wpAny_call_entry F.slot_dict_ne da.typeIs F.entry_dict_ne ?_ (F.args_dict_ne_2 _ _)
    show wpAny _ _ (Builtin.Dict.dictSlotArgs "__ne__" ⟨[.ref a, .int b u], []⟩ >>= _) _ _ s
    refine wpAny_bind ?_
    unfold Builtin.Dict.dictSlotArgs
    refine wpAny_bind (wpAny_notOrdered_dict da.typeIs ?_)
    show wpAny _ _ (pure (Value.ref a, Value.int b u)) _ _ s
    refine wpAny_pure ?_
    refine wpAny_bind (wpAny_isInstance (typeIs_int s b u) F.sub_int_dict ?_)
    simp only [Bool.not_false, if_true]
    refine wpAny_bind (wpAny_rule ?_)
    exact wpAny_pure ⟨_, rfl, hq⟩
  · intro Q' hq
    exact call_meets F.slot_int_ne_refl (typeIs_int s b u) F.entry_int_ne (F.args_int_ne_2 _ _) (int_ne_declines_dict b u a c es ep dd sl) ⟨ho, hq⟩
end
section
variable {X : Cx} {pins : List (Addr × Obj)} {σ : L2.St} {H : Hp} {s : Shared}
/-- data != a whole number -/
def neI : Tr → Int → Bool
  | .sc (.bl b), i => !((if b then 1 else 0) == i)
  | .sc (.int j), i => !(j == i)
  | _, _ => true
def rNeTI : R2 := fun x y H Q => ∃ (t : Tr) (i : Int), TrAt H x t ∧ y = .int i ∧ Q (.bl (neI t i)) H
theorem op_neTI {k : Nat} (room : Room k X.A) : OpR X (compareOp .NotEq) rNeTI := by
  intro pins st σ h x y v u Z inv rx ry pre
  obtain ⟨t, i, at1, rfl, q⟩ := pre
  obtain ⟨tk, rfl⟩ := (show ∃ tk, u = Value.int i tk from ry)
  have un : X.A.units < cLine := by have := room.un; omega
  have fin : EP X pins σ Z (.bool (neI t i)) st := ⟨.bl _, h, inv, rfl, q⟩
  cases at1 with
  | sc z =>
    cases z with
    | non =>
      obtain rfl : v = .none := rx
      exact SeqAt.RcNeAt.none_int i tk _ _ _ _ fin
    | bl b =>
      obtain rfl : v = .bool b := rx
      exact SeqAt.RcNeAt.bool_int b i tk _ _ _ _ fin
    | int j =>
      obtain ⟨t2, rfl⟩ := (show ∃ t2, v = Value.int j t2 from rx)
      exact SeqAt.RcNeAt.int_int j t2 i tk _ _ _ _ fin
    | str z =>
      obtain ⟨t2, rfl⟩ := (show ∃ t2, v = Value.str z t2 from rx)
      exact SeqAt.RcNeAt.str_int z t2 i tk _ _ _ _ fin
  | tup e _ =>
    obtain rfl : v = Value.ref _ := rx
    obtain ⟨its, rv, tp, _⟩ := inv.tuple (SqT.of e)
    exact SeqAt.RcNeAt.tuple_int i tk tp un _ _ _ _ fin
  | lst e _ =>
    obtain rfl : v = Value.ref _ := rx
    obtain ⟨_, its, n, _, g⟩ := (show ObjOk X.prog X.w h st.heap _ (.lst _) from inv.hok _ _ e)
    exact SeqAt.RcNeAt.list_int (items := its.toArray) i tk ⟨_, g, rfl, n, rfl⟩ un _ _ _ _ fin
  | dct e =>
    obtain rfl : v = Value.ref _ := rx
    obtain ⟨_, _, vs, _, da⟩ := (show ObjOk X.prog X.w h st.heap _ (.dK _) from inv.hok _ _ e)
    exact ne_dict_int da un fin
end
/-! ### a lambda as a value -/
/-- its words, the cells that it captured, its code object -/
structure LF where
  params : Arguments
  body : Expr
  scope : Scope
  q : Str
  cl : List (Str × Addr)
  c : Addr
abbrev LF.obj (F : LF) (pm ctv : Value) : Obj := PySem.W.kla_obj "<lambda>" F.q F.params F.body F.scope F.cl pm F.c ctv
/-- the object at f is the lambda F -/
def LamO (f : Addr) (F : LF) : HO := .ext fun h => ∃ pm ctv : Value, h.get? f = some (F.obj pm ctv)
theorem lamO_at {P : Program} {w : World} {H : Hp} {h : Heap} {f : Addr} {F : LF} (hok : HOk P w H h) (e : H f = some (LamO f F)) : ∃ pm ctv : Value, h.get? f = some (F.obj pm ctv) := (hok f _ e).1
section
open LamX NdefX
variable {X : Cx} {pins : List (Addr × Obj)} {σ : L2.St} {H : Hp} {s : Shared}
theorem inv_lam {F : LF} {t' : Nat} {pm ctv : Value} (I : Inv X pins σ H s) : Inv X pins σ (upd H s.heap.objs.size (LamO s.heap.objs.size F)) { s with heap := s.heap.push (F.obj pm ctv), toks := t' } := by
  have e : (s.heap.push (F.obj pm ctv)).get? s.heap.objs.size = some (F.obj pm ctv) := Heap.get?_push_size _ rfl
  exact I.laid (a := s.heap.objs.size) (fun b u e => Heap.get?_push_of_some _ e) (Nat.le_refl _) ⟨⟨pm, ctv, e⟩, ⟨_, e⟩, fun h1 h2 ⟨p, t, z⟩ st => ⟨p, t, st _ z⟩⟩
def lf (X : Cx) (params : Arguments) (body : Expr) (scope : Scope) (c' : Addr) : LF := ⟨params, body, scope, X.env.qual ++ "<lambda>", cloFrom X.env.cells scope.names [], c'⟩
/-- the reading of «lambda: ..» -/
def tMk (T : List (Addr × Str)) (X : Cx) (params : Arguments) (body : Expr) (scope : Scope) : TE := fun _ H Q => Tabs T H ∧ ∀ (f c' : Addr) (H1 : Hp), ExtN H H1 → (∀ b, H1 b = none → H b = none) → Tabs T H1 → H f = none → H1 f = some (LamO f (lf X params body scope c')) → H1 c' = some (CodeO c' (X.env.qual ++ "<lambda>")) → Q (.ref f) H1
theorem pe_lam {T : List (Addr × Str)} {c P : Addr} {params : Arguments} {body : Expr} {scope : Scope} {pos : Pos} (TB : TabB X.base X.mg c P) (hcode : X.env.code = .ref c)
    (hm : (P, X.env.qual ++ "<lambda>") ∈ T) (hu : ∀ p ∈ T, p.1 = P → p.2 = X.env.qual ++ "<lambda>") (hdef : defaultsOf params X.env = ([], [])) (L : LamS X.env.scope scope) :
    PE X (.Lambda params body scope pos) (tMk T X params body scope) := by
  refine ⟨fun pins s σ H Q I h => ?_⟩
  obtain ⟨hT, h⟩ := h
  obtain ⟨ps, hP, ht, ha⟩ := hT _ hm
  have hfree := L.has I.ok
  have bP : s.heap.BuiltinsAt X.mg P := TB.bm.keeps I.bk
  have hP' : s.heap.get? P = some { cls := .none, data := .fields ps } := I.hok P _ hP
  refine PySem.W.kla_eval hdef ?_
  cases hc : codeAmong pos ps.toList with
  | some cv =>
    obtain ⟨c', e, hco⟩ := ha pos cv hc
    subst e
    refine PySem.W.kla_makeFunctionHit (mg := X.mg) (c := c) (P := P) (ps := ps) (closure_ok hfree) I.ok.glob (I.mod.glob.keeps I.bk) hcode (TB.code.keeps I.bk) hP' ht hc bP fun ctv h' tk hx hsz => ?_
    have I1 : Inv X pins σ H { s with heap := h' } := I.kept hx
    have n1 : H h'.objs.size = none := I.hok.fresh hsz
    have I2 := inv_lam (F := lf X params body scope c') (t' := tk) (pm := (X.mg "__name__").getD .none) (ctv := ctv) I1
    refine ⟨.ref h'.objs.size, _, I2, rfl, h _ c' _ (ExtN.of fun b o e => (upd_ne (ne_of_none e n1)).trans e) (fun b e => upd_none e) (hT.ext fun b o e => (upd_ne (ne_of_none e n1)).trans e) n1 upd_same ((upd_ne (ne_of_none hco n1)).trans hco)⟩
  | none =>
    refine PySem.W.kla_makeFunction (mg := X.mg) (c := c) (P := P) (ps := ps) (closure_ok hfree) I.ok.glob (I.mod.glob.keeps I.bk) hcode (TB.code.keeps I.bk) hP' ht hc TB.gP bP fun c' ctv h' tk hx hge hlt hrec htb => ?_
    obtain ⟨c2, oc, vs, t, e2, hoc, hd, hv⟩ := hrec
    cases e2
    have nC : H c' = none := I.hok.fresh hge
    have I1 := inv_table (t' := tk) (more := #[rawInt pos.line, rawInt pos.col, .ref c']) (h' := h') I hP (fun b o hb e => hx b o hb e) htb hge ⟨oc, vs, t, hoc, hd, hv⟩
    generalize hG : upd (upd H P (.tbl (ps ++ #[rawInt pos.line, rawInt pos.col, .ref c']))) c' (CodeO c' (X.env.qual ++ "<lambda>")) = G at I1
    have gP : G P = some (.tbl (ps ++ #[rawInt pos.line, rawInt pos.col, .ref c'])) := by rw [← hG, upd_ne (ne_of_none hP nC), upd_same]
    have gC : G c' = some (CodeO c' (X.env.qual ++ "<lambda>")) := by rw [← hG]; exact upd_same
    have hE : ExtN H G := fun b o e n => by
      rw [← hG, upd_ne (ne_of_none e nC), upd_ne (fun z => n ps (Option.some.inj (e.symm.trans (by rw [z]; exact hP))))]
      exact e
    have gN : ∀ b, G b = none → H b = none := fun b e => by
      rw [← hG] at e
      exact upd_none (upd_none e)
    have eL : (ps ++ #[rawInt pos.line, rawInt pos.col, .ref c']).toList = ps.toList ++ [rawInt pos.line, rawInt pos.col, .ref c'] := by simp
    have T1 : Tabs T G := fun p hp => by
      by_cases hb : p.1 = P
      · rw [hu p hp hb, hb]
        refine ⟨_, gP, by rw [eL]; exact PySem.TriplesOk_snoc _ _ _ _ ht, fun p' cv hcv => ?_⟩
        rw [eL] at hcv
        rcases among_app _ ht hcv with z | z
        · obtain ⟨c0, e1, e2⟩ := ha p' cv z
          exact ⟨c0, e1, hE _ _ e2 codeO_ne⟩
        · exact ⟨c', z, gC⟩
      · obtain ⟨ps', a1, a2, a3⟩ := hT p hp
        refine ⟨ps', by rw [← hG, upd_ne (ne_of_none a1 nC), upd_ne hb]; exact a1, a2, fun p' cv hcv => ?_⟩
        obtain ⟨c0, e1, e2⟩ := a3 p' cv hcv
        exact ⟨c0, e1, hE _ _ e2 codeO_ne⟩
    have n1 : G h'.objs.size = none := I1.hok.fresh (Nat.le_refl _)
    have I2 := inv_lam (F := lf X params body scope c') (t' := tk) (pm := (X.mg "__name__").getD .none) (ctv := ctv) I1
    exact ⟨.ref h'.objs.size, _, I2, rfl, h _ c' _ (hE.trans (ExtN.of fun b o e => (upd_ne (ne_of_none e n1)).trans e)) (fun b e => gN b (upd_none e)) (T1.ext fun b o e => (upd_ne (ne_of_none e n1)).trans e) (gN _ n1) upd_same ((upd_ne (ne_of_none gC n1)).trans gC)⟩
end
/-! ### a lambda asked by a def that got it, its object tracked -/
section
open LamX
variable {X : Cx} {pins : List (Addr × Obj)} {σ : L2.St} {H HZ : Hp} {s s1 : Shared}
/-- x(), in the def that got the lambda, entered at s -/
theorem pe_actT {CXg : CXT} {Eg : XK} {Ng : List Str} {qg : Str} {sg : Scope} {g f c' : Addr} {cdg : Value} {params : Arguments} {body : Expr} {scope : Scope} {k i : Nat} {a : Str} {pn : List (Addr × Obj)} {xe : Value → Shared → Prop} {W : WX} {E : XK} {tb : TE} {p1 p2 : Pos}
    (I : Inv X pins σ H s) (L : LamS X.env.scope scope) (hbind : ∀ pm ctv, bindArgs (PySem.W.kla_fn "<lambda>" (X.env.qual ++ "<lambda>") params body scope (cloFrom X.env.cells scope.names []) pm (.ref c') ctv) ⟨[], []⟩ = pure [])
    (tk : Takes ((cxOf CXg X.prog X.w X.K X.mg X.base Ng qg sg g cdg X.A X.stack s H Eg).tr pn xe) W) (hW : ∀ cls d σ' H', E cls d H' → W cls d σ' H') (hr : Room (k + 1) (X.A.deeper (envOfC qg sg s.heap.objs.size g cdg)))
    (hbody : ∀ (A : Around) (outer : List Env) (s : Shared) (H : Hp), Room k (A.deeper (lamEnv X scope s.heap.objs.size f c')) → PE (lamCx X A outer s H E scope f c') body tb)
    (hN : Ng[i]? = some a) (hv : Vis sg a) (hd : (a == ("__debug__" : Str)) = false) (hcd : (a == ("__classdict__" : Str)) = false) :
    PE ((cxOf CXg X.prog X.w X.K X.mg X.base Ng qg sg g cdg X.A X.stack s H Eg).tr pn xe) (.Call (.Name a p1) [] [] p2)
      (fun σZ HZ Q => σZ[i]? = some (some (.ref f)) ∧ HZ c' = some (CodeO c' (X.env.qual ++ "<lambda>")) ∧ HZ f = some (LamO f (lf X params body scope c')) ∧ tb σ HZ Q) := by
  refine ⟨fun pinsZ sZ σZ HZ Q IZ h => ?_⟩
  obtain ⟨hs, hc, hF, ht⟩ := h
  refine wpAny_Call_Name_kw (thn ((pe_var (pos := p1) (i := i) hN hv hd hcd).run pinsZ sZ σZ HZ (fun v H1 => v = .ref f ∧ H1 = HZ) IZ ⟨.ref f, hs, rfl, rfl⟩) fun u s1 ⟨v, H1, I1, r1, q1⟩ => ?_)
  obtain ⟨rfl, rfl⟩ := q1
  obtain rfl : u = Value.ref f := r1
  obtain ⟨pm, ctv, of1⟩ := lamO_at I1.hok hF
  have of1 : s1.heap.get? f = some (PySem.W.kla_obj "<lambda>" (X.env.qual ++ "<lambda>") params body scope (cloFrom X.env.cells scope.names []) pm c' ctv) := of1
  refine PySem.W.callWith_F0 ⟨_, _, _, _, of1⟩ ?_
  have un : Un (frs X.stack) [] H H1 s.heap s1.heap := I1.base
  obtain ⟨⟨oc, vs, t, hoc, hdc, hvc⟩, _, _⟩ := I1.hok c' _ hc
  have hx : Passes (L2.CX X.prog X.w) ((cxOf CXg X.prog X.w X.K X.mg X.base Ng qg sg g cdg X.A X.stack s H Eg).tr pn xe) E := passes_call tk hW
  have rc : codeAny (model X.prog X.w) (X.A.deeper (envOfC qg sg s.heap.objs.size g cdg)) (.call (.ref f) ⟨[], []⟩) (CR (L2.CX X.prog X.w) (envOfC qg sg s.heap.objs.size g cdg :: X.stack) X.prog X.w H1 s1 Q E) s1 := by
    refine PySem.W.kla_callFunE hr.depth of1 rfl L.co L.gen rfl ⟨c', oc, vs, t, rfl, hoc, hdc, hvc⟩ ?_
    show wpAny _ _ (bindArgs _ _) _ _ _
    rw [hbind]
    refine wpAny_pure (wpAny_newFunctionEnv (fun y hy => (L.own y hy).2) (fun y hy => absurd hy (by simp)) (fun h₁ hns hsb => ⟨I1.nolimit.fresh _ hsb, ?_⟩) L.kind)
    show codeAny _ _ (.expr body (lamEnv X scope s1.heap.objs.size f c')) _ _
    have kp : ∀ b o, s1.heap.get? b = some o → h₁.get? b = some o := fun b o e => hsb.extBut b o (Nat.ne_of_lt (Heap.lt_size e)) (Heap.get?_push_of_some _ e)
    have J := lam_start2 (A := X.A.deeper (envOfC qg sg s.heap.objs.size g cdg)) (outer := envOfC qg sg s.heap.objs.size g cdg :: X.stack) (E := E) (f := f) (c' := c') (tk := s1.toks + ([] : List (Str × Value)).length) I L I1.env0 hr.hd un hns kp
    refine PySem.W.kla_codeExpr (wpAny_mono ((hbody _ _ s1 H1 (hr.deeper _)).run [] _ _ H1 Q J ht) (fun v s' hq => ?_) fun e s' hq => hq)
    obtain ⟨w', H', J', rv, q⟩ := hq
    exact ⟨w', H', J'.os, J'.bare, J'.base, J'.hok, rv, q⟩
  refine wpAny_call (codeAny_mono rc fun r s' hq => ?_)
  match r, hq with
  | .error e, hq => exact hx pinsZ σZ H1 s1 e s' I1 hq
  | .ok (.ret u), hq => exact I1.after hq
/-- x(b) in a comprehension's block of X, b a lambda that X made: one of a family -/
theorem pe_lamB {ι : Type} {TT : (XK → Hp → VK → Prop) → Hp → VK → Prop} {x a b : Str} {g C : Addr} {k i : Nat} {pg : Arguments} {bg : List Stmt} {sg scope : Scope} {dV kV doc pm cdv ct oc : Value} {an od : Option Addr} {osl : Array (Option Value)} {Ng : List Str} {cl : List (Str × Addr)} {fp : List Addr}
    {params : ι → Arguments} {body : ι → Expr} {lsc : ι → Scope} {t : ι → XK → TE} {p p' pos : Pos} (I : Inv X pins σ H s) (hfp : ∀ b ∈ fp, FpOk X pins H b ∧ b < s.heap.objs.size)
    (hg : Gl (X.blk s H scope (compEnvC scope cl C X.env) fp) x) (hm : X.mg x = some (.ref g)) (hk : PySem.W.keepIn X.K (.ref g) = true)
    (lk : X.K.lookup g = some ⟨oc, od, .func (PySem.W.fnOf x x pg bg sg dV kV doc pm an cdv ct), osl⟩) (hcg : PySem.W.codeIn X.K cdv x = true) (hb : L2.Binds X.K (PySem.W.fnOf x x pg bg sg dV kV doc pm an cdv ct) [a] []) (Sg : FnScope Ng [a] sg) (hNg : Ng[0]? = some a) (hva : Vis sg a)
    (hG : GivesTo X Ng x sg g cdv bg a (X.env.qual ++ "<lambda>") TT) (hr : Room (k + 2) X.A) (L : ∀ j, LamS X.env.scope (lsc j))
    (hbind : ∀ j (q : Str) (cl : List (Str × Addr)) (pm cv ctv : Value), bindArgs (PySem.W.kla_fn "<lambda>" q (params j) (body j) (lsc j) cl pm cv ctv) ⟨[], []⟩ = pure [])
    (hbody : ∀ j (A : Around) (outer : List Env) (s : Shared) (H : Hp) (E : XK) (f c' : Addr), Room k (A.deeper (lamEnv X (lsc j) s.heap.objs.size f c')) → PE (lamCx X A outer s H E (lsc j) f c') (body j) (t j E))
    (hi : X.N[i]? = some b) (hvb : Vis (compEnvC scope cl C X.env).scope b)
    (hdb : (x == ("__debug__" : Str)) = false := by decide) (hd : (a == ("__debug__" : Str)) = false := by decide) (hcd : (a == ("__classdict__" : Str)) = false := by decide) (hd2 : (b == ("__debug__" : Str)) = false := by decide) (hcd2 : (b == ("__classdict__" : Str)) = false := by decide) :
    PE (X.blk s H scope (compEnvC scope cl C X.env) fp) (.Call (.Name x p) [.Name b p'] [] pos) (fun σB HB Q => ∃ (j : ι) (f c' : Addr), σB[i]? = some (some (.ref f)) ∧ HB f = some (LamO f (lf X (params j) (body j) (lsc j) c')) ∧ HB c' = some (CodeO c' (X.env.qual ++ "<lambda>")) ∧
      TT (fun E H' Q' => H' f = some (LamO f (lf X (params j) (body j) (lsc j) c')) ∧ t j E σ H' Q') HB Q) := by
  refine ⟨fun pinsB sB σB HB Q IB h => ?_⟩
  obtain ⟨j, f, c', hf, hF, hC, h⟩ := h
  refine wpAny_Call_Name_kw (ld_glob IB hg hm ?_ hdb)
  refine PySem.W.callWith_K (h₀ := X.base) IB.ok.mod.kin hk ?_ (by rfl) (by rfl)
  show wpAny _ _ (spliced ((false, eval (.Name b p') _) :: backTo pos (starEach [] _))) _ _ sB
  refine Calls.spliced_cons (thn ((pe_var (X := X.blk s H scope (compEnvC scope cl C X.env) fp) (pos := p') (i := i) hi hvb hd2 hcd2).run pinsB sB σB HB (fun v H1 => v = .ref f ∧ H1 = HB) IB ⟨.ref f, hf, rfl, rfl⟩) fun u s1 ⟨v, H1, I1, r1, q1⟩ => ?_)
  obtain ⟨rfl, rfl⟩ := q1
  obtain rfl : u = Value.ref f := r1
  refine Calls.spliced_nil ⟨I1.kIn, ?_⟩
  -- the def's own context, now
  have IX : Inv X pins σ H1 s1 := I.call' (ch := fp) I1.os I1.base I1.hok I1.bare fun b hb => ⟨(hfp b hb).1.2.2.2.1, (hfp b hb).1.2.1, (hfp b hb).1.2.2.2.2.1, (hfp b hb).1.2.2.2.2.2⟩
  have rc : codeAny (model X.prog X.w) X.A (.call (.ref g) ⟨[.ref f], []⟩) (CR C8.CX0 X.stack X.prog X.w H1 s1 Q C8.E0) s1 := by
    refine run_ofS (N := Ng) (ps := [a]) (us := [.ref f]) (vs := [.ref f]) lk hcg Sg hr IX.env0 (hb s1 [.ref f] IX.kIn rfl) (.cons rfl .nil) rfl fun hr' => ?_
    obtain ⟨t', ht', hq'⟩ := hG f c' s1 H1 Q (fun E H' Q' => H' f = some (LamO f (lf X (params j) (body j) (lsc j) c')) ∧ t j E σ H' Q')
      (fun W pn xe E p1 p2 tk hW => pe_actT (i := 0) IX (L j) (fun _ _ => hbind j _ _ _ _ _) tk hW hr' (fun A outer s H hr2 => hbody j A outer s H E f c' hr2) hNg hva hd hcd) hC h
    exact ⟨t', ht'.nox, hq'⟩
  refine wpAny_call (codeAny_mono rc fun r s2 hq => ?_)
  match r, hq with
  | .error e, hq => exact (show False from hq).elim
  | .ok (.ret u), hq => exact I1.after hq
/-- [elt for target in iter if ..], the tests told that the def's own slots are as they were -/
theorem pe_lcS {elt tg iter : Expr} {ifs : List Expr} {scope : Scope} {own : List (Str × Nat)} {pos : Pos} {wi : TI} {g : TG} {tt : L2.St → TT} {te : TE} (hc : X.calm = true) (hN : X.N.Nodup) (hi : PI X tg iter wi) (ok : BlkOk X.N X.env.scope scope own)
    (hg : ∀ (s : Shared) (H : Hp) (C : Addr) (cl : List (Str × Addr)) (fp : List Addr), PG (X.blk s H scope (compEnvC scope cl C X.env) fp) tg g)
    (ht : ∀ (pins : List (Addr × Obj)) (σ : L2.St) (s : Shared) (H : Hp) (C : Addr) (cl : List (Str × Addr)) (fp : List Addr), Inv X pins σ H s → (∀ b ∈ fp, FpOk X pins H b ∧ b < s.heap.objs.size) → PTs (X.blk s H scope (compEnvC scope cl C X.env) fp) ifs (tt σ))
    (he : ∀ (s : Shared) (H : Hp) (C : Addr) (cl : List (Str × Addr)) (fp : List Addr), PE (X.blk s H scope (compEnvC scope cl C X.env) fp) elt te) (hs : ∀ x, foldedSetIterable iter X.env x = pure x := by intro _; rfl) :
    PE X (.ListComp elt [⟨tg, iter, ifs, 0⟩] scope pos) (fun σ => tLc wi g (tt σ) te (own.map (·.2)) σ) := by
  refine ⟨fun pins s σ H Q I h => ?_⟩
  rw [eval_ListComp]
  have hfree : ∀ y ∈ scope.names, y.2 = .free → ∃ c, X.env.cells.lookup y.1 = some c := fun y hy e => (ok.free y hy e).elim (fun k => I.ok.has _ (.inl k)) fun k => I.ok.has _ (.inr k)
  refine wpAny_comprehension_free (use := none) rfl hs (closure_ok hfree) ok.kind (fun y hy e => by rw [ok.uniq y hy, e]) (thn (hi.run pins s σ H _ I h) fun xv s1 hx => thn hx fun itv s2 h2 => ?_)
  obtain ⟨it, fp, tn, J, G, rfl, I2, T, st2, f2, q⟩ := h2
  refine wpAny_newObj_type (newEnv_comp ?_) (by show 0 ≤ sizeLine; decide)
  have nD := I2.hok.fresh (Nat.le_refl _)
  obtain ⟨W, ⟨m0, w0⟩, turn⟩ := q _ nD
  generalize eD : s2.heap.objs.size = D at *
  generalize eG : upd G D (.lst []) = G3 at *
  generalize e3 : ({ s2 with heap := s2.heap.push { cls := .type "list", data := .seq ([] : List Value).toArray } } : Shared) = s3
  have kp3 : ∀ b o, s2.heap.get? b = some o → s3.heap.get? b = some o := fun b o e => by rw [← e3]; exact Heap.get?_push_of_some _ e
  have I3 : Inv X pins σ G3 s3 := by
    rw [← e3, ← eG]
    exact I2.laid (t' := s2.toks) (fun b o e => Heap.get?_push_of_some _ e) (Nat.le_of_eq eD) ⟨Nat.zero_le _, [], 0, .nil, by rw [← eD]; exact Heap.get?_push_size _ rfl⟩
  have f3 : ∀ b ∈ fp, FpOk X pins G3 b ∧ b < s3.heap.objs.size := fun b hb => by
    obtain ⟨o, e, _⟩ := T.obj _ _ st2 b hb
    have hlt : b < D := by rw [← eD]; exact Heap.lt_size e
    refine ⟨⟨by rw [← eG, upd_ne (Nat.ne_of_lt hlt)]; exact (f2 b hb).1, (f2 b hb).2⟩, Heap.lt_size (kp3 _ _ e)⟩
  have st3 : tn 0 s3.heap := T.keep _ _ _ st2 fun b _ => kp3 b
  have I4 := block_start I3 ok hN f3
  show codeAny _ _ (.compStart (.ListComp elt [⟨tg, iter, ifs, 0⟩] scope pos) 0 (.ref it) (.ref D) (compEnvC scope (cellsFrom (s3.heap.objs.size + 1) scope.names (cloFrom X.env.cells scope.names [])) s3.heap.objs.size X.env)) (compPost (model X.prog X.w) X.A X.xe none (EP X pins σ Q) (.ref D) s3.heap.objs.size) { s3 with heap := pushCells (s3.heap.push { cls := .type "dict", data := .dict #[] }) scope.names }
  generalize hcl : cellsFrom (s3.heap.objs.size + 1) scope.names (cloFrom X.env.cells scope.names []) = cl at *
  have pg := hg s3 G3 s3.heap.objs.size cl fp
  have pt := ht pins σ s3 G3 s3.heap.objs.size cl fp I3 f3
  have pe := he s3 G3 s3.heap.objs.size cl fp
  have cL : (compEnvC scope cl s3.heap.objs.size X.env).locals = s3.heap.objs.size := rfl
  generalize hce : compEnvC scope cl s3.heap.objs.size X.env = ce at *
  generalize hs4 : ({ s3 with heap := pushCells (s3.heap.push { cls := .type "dict", data := .dict #[] }) scope.names } : Shared) = s4 at *
  have st4 : tn 0 s4.heap := T.keep _ _ _ st3 fun b _ o e => by rw [← hs4]; exact pushCells_keeps _ _ _ _ (Heap.get?_push_of_some _ e)
  have stat : ∀ {σ' : L2.St} {H' : Hp} {s' : Shared}, Inv (X.blk s3 G3 scope ce fp) [] σ' H' s' → (∀ b ∈ fp, H' b = none) → ∀ b ∈ fp, FpOk (X.blk s3 G3 scope ce fp) [] H' b := fun I' hn b hb =>
    ⟨hn b hb, (I'.ok.exf b hb).1, I'.ok.exfs b hb, .inl hb, fun x c e => (I'.ok.exf b hb).2 x c e, fun p hp => absurd (show p ∈ ([] : List (Addr × Obj)) ++ [] from hp) (by simp)⟩
  have loop : codeAny (model X.prog X.w) X.A (.compLoop (.ListComp elt [⟨tg, iter, ifs, 0⟩] scope pos) 0 (.ref it) (.ref D) ce) (compPost (model X.prog X.w) X.A X.xe none (EP X pins σ Q) (.ref D) s3.heap.objs.size) s4 := by
    refine compLoop_any (fun n s' => ∃ i H', Inv (X.blk s3 G3 scope ce fp) [] (wipe σ (own.map (·.2))) H' s' ∧ tn i s'.heap ∧ (∀ b ∈ fp, H' b = none) ∧ W i n H') ?_ m0 ⟨0, G3, I4, st4, fun b hb => (f3 b hb).1.1, w0⟩
    rintro n s5 ⟨i, H5, I5, st5, n5, w5⟩
    rcases turn i n H5 w5 with ⟨stop, qq⟩ | ⟨go, Nx, hNx, step⟩
    · refine thnF (T.done (X.blk s3 G3 scope ce fp) rfl rfl rfl hc i [] s5 _ H5 (fun _ _ => False) I5 (stat I5 n5) st5 stop) fun r s6 ⟨hr, I6⟩ => ?_
      subst hr
      have I7 : Inv X pins σ H5 s6 := I3.call' (ch := fp) I6.os I6.base I6.hok I6.bare fun b hb => ⟨(f3 b hb).1.2.2.2.1, (f3 b hb).1.2.1, (f3 b hb).1.2.2.2.2.1, (f3 b hb).1.2.2.2.2.2⟩
      have nC : H5 s3.heap.objs.size = none := by
        have z : H5 ce.locals = none := I6.free
        rwa [cL] at z
      obtain ⟨m, hn, _⟩ := I6.loc
      have hn : s6.heap.Ns ce.locals m := hn
      rw [cL] at hn
      obtain ⟨g0, g1, g2, g3, g4, g5⟩ := I3.fpOk (Nat.le_refl _) nC
      exact ⟨m, hn, fun h'' sb => ⟨.ref D, H5, I7.turned (t' := s6.toks) (fun b o hb e => (sb.2 b hb).trans e) g0 g1 g3 g4 g5, rfl, qq⟩⟩
    · refine thnF (T.item (X.blk s3 G3 scope ce fp) rfl rfl rfl hc i [] s5 _ H5 (fun _ _ => False) I5 (stat I5 n5) st5 go) fun r s6 ⟨u, hr, h6⟩ => ?_
      subst hr
      refine thnF h6 fun _ s7 ⟨x, H7, I7, r7, y7, st7, n7⟩ => ?_
      refine thnF (pg.run _ s7 _ H7 x u _ (I7.pinned (stat I7 n7) (T.obj _ _ st7)) r7 (step x H7 y7)) fun _ s8 ⟨σ8, H8, I8, hw8, q8⟩ => ?_
      refine thnF (pt.run _ s8 σ8 H8 _ I8 q8) fun b s9 ⟨H9, I9, q9⟩ => ?_
      have fin : ∀ {s' : Shared} {H' : Hp}, Inv (X.blk s3 G3 scope ce fp) ([] ++ pinsAt fp s7.heap) σ8 H' s' → Nx H' → ∃ m, m < n ∧ ∃ i H', Inv (X.blk s3 G3 scope ce fp) [] (wipe σ (own.map (·.2))) H' s' ∧ tn i s'.heap ∧ (∀ b ∈ fp, H' b = none) ∧ W i m H' := fun {s' H'} I' nx => by
        obtain ⟨m', hm, w'⟩ := hNx H' nx
        have pin' : ∀ b ∈ fp, ∀ o, s7.heap.get? b = some o → s'.heap.get? b = some o ∧ H' b = none := fun b hb o e =>
          let z := I'.pin (b, o) (List.mem_append_right _ (List.mem_append_right _ (mem_pinsAt hb e)))
          ⟨z.1, z.2.1⟩
        refine ⟨m', hm, i + 1, H', (I'.unpinned (pins := [])).weak (by rw [← hw8, wipe_length]) (fun j v e => (wipe_some (hw8 ▸ e)).1), T.keep _ _ _ st7 fun b hb o e => (pin' b hb o e).1, fun b hb => ?_, w'⟩
        obtain ⟨o, e, _⟩ := T.obj _ _ st7 b hb
        exact (pin' b hb o e).2
      cases b with
      | false => exact fin I9 q9
      | true => exact thnF (pe.run _ s9 σ8 H9 _ I9 q9) fun z s10 ⟨yv, H10, I10, r10, acc, hD10, hz10, nx⟩ => app_ok (X := X.blk s3 G3 scope ce fp) I10 hD10 hz10 r10 fun s11 I11 => fin I11 nx
  exact codeAny_compStart_list loop (T.self X.A 0 _ _ _ st4 loop)
end
/-! ### repr of a list of data, a dict among them -/
inductive RAll (h : Heap) : List Value → List PyData → Prop
  | nil : RAll h [] []
  | cons {v : Value} {d : PyData} {vs : List Value} {ds : List PyData} (r : ∃ as, Reads h v d as ∧ (d.hasDict = true → sysModules ∉ as)) (rs : RAll h vs ds) : RAll h (v :: vs) (d :: ds)
theorem RAll.all {h : Heap} : ∀ {vs : List Value} {ds : List PyData}, RAll h vs ds → ∃ as, ReadsAll h vs ds as
  | _, _, .nil => ⟨_, .nil⟩
  | _, _, .cons ⟨_, r, _⟩ rs => let ⟨_, q⟩ := rs.all; ⟨_, .cons r q⟩
theorem RAll.kids {P : Program} {w : World} {h : Heap} : ∀ {vs : List Value} {ds : List PyData}, RAll h vs ds → PyData.showableAll ds = true → (∀ t ∈ PyData.shownAll ds, t.length ≤ sizeLine) →
    ∃ bs, ReadAtMost h (PyData.depthAll ds) bs ∧ ReprAllK P w bs h (PyData.depthAll ds) vs (PyData.shownAll ds)
  | _, _, .nil, _, _ => ⟨[], (fun _ h => nomatch h), by simp only [PyData.shownAll]; exact .nil⟩
  | _, _, .cons (d := d) (ds := ds) ⟨_, r, ns⟩ rs, ok, sz => by
    simp only [PyData.showableAll, Bool.and_eq_true] at ok
    obtain ⟨b1, m1, k1⟩ := ReprK.of_reads (prog := P) (w := w) r ok.1 ns (sz _ (by simp only [PyData.shownAll]; exact List.mem_cons_self ..))
    obtain ⟨b2, m2, k2⟩ := rs.kids (P := P) (w := w) ok.2 fun t ht => sz t (by simp only [PyData.shownAll]; exact List.mem_cons_of_mem _ ht)
    have l1 : d.depth ≤ PyData.depthAll (d :: ds) := by simp only [PyData.depthAll]; omega
    have l2 : PyData.depthAll ds ≤ PyData.depthAll (d :: ds) := by simp only [PyData.depthAll]; omega
    refine ⟨b1 ++ b2, (m1.mono l1).append (m2.mono l2), ?_⟩
    simp only [PyData.shownAll]
    exact .cons ((k1.more fun b hb => List.mem_append_left _ hb).level_le l1) (k2.more_le (fun b hb => List.mem_append_right _ hb) l2)
section
variable {P : Program} {w : World} {A : Around} {E : Value → Shared → Prop} {s : Shared} {Z : Value → Shared → Prop}
end
mutual
def trD : Tr → PyData
  | .sc s => s.d
  | .tup l => .tuple (trDs l)
  | .lst l => .list (trDs l)
  | .dct l => (KY.Dt.dct l).d
def trDs : List Tr → List PyData
  | [] => []
  | t :: l => trD t :: trDs l
end
/-- a dict stands alone -/
def dTop (t : Tr) : Prop := (trD t).hasDict = true → ∃ l, t = .dct l
section
variable {X : Cx} {pins : List (Addr × Obj)} {σ : L2.St} {H : Hp} {s : Shared}
mutual
theorem tr_read (I : Inv X pins σ H s) : ∀ (t : Tr) (v : V) (u : Value), TrAt H v t → RelV v u → ∃ as, Reads s.heap u (trD t) as
  | .sc z, _, u, h, r => by cases h; exact ⟨_, KY.sc_reads z r⟩
  | .tup l, _, u, h, r => by
    cases h with
    | tup e hs =>
      obtain rfl : u = Value.ref _ := r
      obtain ⟨its, rv, ⟨ob, ho, hc, n, hd⟩, _⟩ := I.tuple (SqT.of e)
      obtain ⟨as, q⟩ := tr_reads I l _ _ hs rv
      exact ⟨_, .tuple ho hc hd q⟩
  | .lst l, _, u, h, r => by
    cases h with
    | lst e hs =>
      obtain rfl : u = Value.ref _ := r
      obtain ⟨its, rv, ⟨ob, n, ho, hc, _, hd⟩, _⟩ := I.list (SqL.of e)
      obtain ⟨as, q⟩ := tr_reads I l _ _ hs rv
      exact ⟨_, .list ho hc hd q⟩
  | .dct l, _, u, h, r => by
    cases h with
    | dct e =>
      obtain ⟨as, q, _⟩ := KY.od_reads (t := .dct l) I ⟨_, rfl, e⟩ r
      exact ⟨as, q⟩
theorem tr_reads (I : Inv X pins σ H s) : ∀ (l : List Tr) (vs : List V) (us : List Value), TrsAt H vs l → Vals vs us → ∃ as, ReadsAll s.heap us (trDs l) as
  | [], _, _, h, r => by cases h; cases r; exact ⟨_, .nil⟩
  | t :: l, _, _, h, r => by
    cases h with
    | cons h hs =>
      cases r with
      | cons r rs =>
        obtain ⟨as, q⟩ := tr_read I t _ _ h r
        obtain ⟨bs, qs⟩ := tr_reads I l _ _ hs rs
        exact ⟨_, .cons q qs⟩
end
/-- what can be shown -/
structure FitL (l : List Tr) : Prop where
  ok : PyData.showableAll (trDs l) = true
  top : ∀ t ∈ l, dTop t
  deep : (PyData.list (trDs l)).depth ≤ 60
  sz : (PyData.list (trDs l)).shown.length ≤ sizeLine
def rReprL : List V → Hp → VK → Prop := fun xs H Q => ∃ (p : Addr) (vs : List V) (l : List Tr), xs = [.ref p] ∧ H p = some (.lst vs) ∧ TrsAt H vs l ∧ l ≠ [] ∧ FitL l ∧ Q (.str (PyData.list (trDs l)).shown) H
end
/-! ### repr of a list of trees, dicts anywhere in it -/
section
variable {X : Cx} {pins : List (Addr × Obj)} {σ : L2.St} {H : Hp} {s : Shared}
mutual
theorem tr_reprK (I : Inv X pins σ H s) : ∀ (t : Tr) (v : V) (u : Value), TrAt H v t → RelV v u → (trD t).showable = true → (trD t).shown.length ≤ sizeLine → ∃ bs, ReadAtMost s.heap (trD t).depth bs ∧ ReprK X.prog X.w bs s.heap (trD t).depth u (trD t).shown
  | .sc z, _, u, h, r, ok, sz => by
    cases h
    exact ReprK.of_reads (KY.sc_reads z r) ok (fun _ => List.not_mem_nil) sz
  | .dct l, _, u, h, r, ok, sz => by
    cases h with
    | dct e =>
      obtain ⟨as, q, ns⟩ := KY.od_reads (t := .dct l) I ⟨_, rfl, e⟩ r
      exact ReprK.of_reads q ok ns sz
  | .tup l, v, u, h, r, ok, sz => by
    obtain ⟨as0, whole⟩ := tr_read I (.tup l) v u h r
    cases h with
    | tup e hs =>
      rename_i a xs
      obtain rfl : u = Value.ref a := r
      obtain ⟨its, rv, ⟨ob, ho, hc, n, hd⟩, _⟩ := I.tuple (SqT.of e)
      have sz' : (tupleText (PyData.shownAll (trDs l))).length ≤ sizeLine := by simpa only [trD, PyData.shown] using sz
      have ok' : PyData.showableAll (trDs l) = true := by simpa only [trD, PyData.showable] using ok
      obtain ⟨bs, lim, kids⟩ := tr_reprKs I l _ _ hs rv ok' fun t ht => Nat.le_trans (tupleText_mem_le ht) sz'
      have whole' : Reads s.heap (.ref a) (.tuple (trDs l)) as0 := by simpa only [trD] using whole
      have off := not_mem_of_deeper whole' (by simp only [PyData.depth]; omega) lim
      refine ⟨a :: bs, ?_, ?_⟩
      · simp only [trD]
        exact ReadAtMost.cons whole' (by simp only [PyData.depth]; omega) lim
      · simp only [trD, PyData.depth, PyData.shown]
        exact ReprK.tuple ho hc hd off kids
  | .lst l, v, u, h, r, ok, sz => by
    obtain ⟨as0, whole⟩ := tr_read I (.lst l) v u h r
    cases h with
    | lst e hs =>
      rename_i a xs
      obtain rfl : u = Value.ref a := r
      obtain ⟨its, rv, ⟨ob, n, ho, hc, _, hd⟩, _⟩ := I.list (SqL.of e)
      have sz' : (listText (PyData.shownAll (trDs l))).length ≤ sizeLine := by simpa only [trD, PyData.shown] using sz
      have ok' : PyData.showableAll (trDs l) = true := by simpa only [trD, PyData.showable] using ok
      obtain ⟨bs, lim, kids⟩ := tr_reprKs I l _ _ hs rv ok' fun t ht => Nat.le_trans (listText_mem_le ht) sz'
      have whole' : Reads s.heap (.ref a) (.list (trDs l)) as0 := by simpa only [trD] using whole
      have off := not_mem_of_deeper whole' (by simp only [PyData.depth]; omega) lim
      cases its with
      | nil =>
        cases rv
        cases hs
        refine ⟨[], (fun _ h => nomatch h), ?_⟩
        simp only [trD, trDs, PyData.depth, PyData.shown, PyData.shownAll, PyData.depthAll]
        exact ReprK.listEmpty ho hc hd
      | cons x its =>
        refine ⟨a :: bs, ?_, ?_⟩
        · simp only [trD]
          exact ReadAtMost.cons whole' (by simp only [PyData.depth]; omega) lim
        · simp only [trD, PyData.depth, PyData.shown]
          exact ReprK.list ho hc hd off (by simpa using kids.length_eq) (fun i y e => kids.item i y (by simpa using e))
theorem tr_reprKs (I : Inv X pins σ H s) : ∀ (l : List Tr) (vs : List V) (us : List Value), TrsAt H vs l → Vals vs us → PyData.showableAll (trDs l) = true → (∀ t ∈ PyData.shownAll (trDs l), t.length ≤ sizeLine) →
    ∃ bs, ReadAtMost s.heap (PyData.depthAll (trDs l)) bs ∧ ReprAllK X.prog X.w bs s.heap (PyData.depthAll (trDs l)) us (PyData.shownAll (trDs l))
  | [], _, _, h, r, _, _ => by
    cases h
    cases r
    refine ⟨[], (fun _ h => nomatch h), ?_⟩
    simp only [trDs, PyData.shownAll]
    exact .nil
  | t :: l, _, _, h, r, ok, sz => by
    cases h with
    | cons h hs =>
      cases r with
      | cons r rs =>
        simp only [trDs, PyData.showableAll, Bool.and_eq_true] at ok
        simp only [trDs, PyData.shownAll] at sz
        obtain ⟨b1, m1, k1⟩ := tr_reprK I t _ _ h r ok.1 (sz _ List.mem_cons_self)
        obtain ⟨b2, m2, k2⟩ := tr_reprKs I l _ _ hs rs ok.2 fun t ht => sz t (List.mem_cons_of_mem _ ht)
        have l1 : (trD t).depth ≤ PyData.depthAll (trD t :: trDs l) := by simp only [PyData.depthAll]; omega
        have l2 : PyData.depthAll (trDs l) ≤ PyData.depthAll (trD t :: trDs l) := by simp only [PyData.depthAll]; omega
        refine ⟨b1 ++ b2, ?_, ?_⟩
        · simp only [trDs]
          exact (m1.mono l1).append (m2.mono l2)
        · simp only [trDs, PyData.shownAll]
          exact .cons ((k1.more fun b hb => List.mem_append_left _ hb).level_le l1) (k2.more_le (fun b hb => List.mem_append_right _ hb) l2)
end
/-- what can be shown, dicts anywhere -/
structure FitA (l : List Tr) : Prop where
  ok : PyData.showableAll (trDs l) = true
  deep : (PyData.list (trDs l)).depth ≤ 60
  sz : (PyData.list (trDs l)).shown.length ≤ sizeLine
def rReprA : List V → Hp → VK → Prop := fun xs H Q => ∃ (p : Addr) (vs : List V) (l : List Tr), xs = [.ref p] ∧ H p = some (.lst vs) ∧ TrsAt H vs l ∧ l ≠ [] ∧ FitA l ∧ Q (.str (PyData.list (trDs l)).shown) H
theorem call_reprA {k : Nat} (fr : KG.Free X.A) (room : Room k X.A) : CallR X (.builtin "repr") rReprA := by
  intro pins st σ h xs us Z inv rel pre
  obtain ⟨p, vs, l, rfl, hp, al, ne, fit, z⟩ := pre
  obtain ⟨u, rfl, rv⟩ := KG.vals_one rel
  obtain rfl : u = Value.ref p := rv
  obtain ⟨its, rl, ⟨ob, n, ho, hc, _, hd⟩, _⟩ := inv.list (SqL.of hp)
  have sz' : (listText (PyData.shownAll (trDs l))).length ≤ sizeLine := by simpa only [PyData.shown] using fit.sz
  obtain ⟨as, all⟩ := tr_reads inv l _ _ al rl
  have whole : Reads st.heap (.ref p) (.list (trDs l)) _ := .list ho hc hd all
  obtain ⟨bs, lim, kids⟩ := tr_reprKs inv l _ _ al rl fit.ok fun t ht => Nat.le_trans (listText_mem_le ht) sz'
  have off : p ∉ bs := not_mem_of_deeper whole (by simp only [PyData.depth]; omega) lim
  have dp := fit.deep
  simp only [PyData.depth] at dp
  have hu : X.A.units + PyData.depthAll (trDs l) + 4 < cLine := by have := room.un; omega
  simp only [PyData.shown] at z
  refine KG.repr_slot (by omega) ⟨_, ho, hc⟩ F.slot_list_repr.toG ?_
  cases its with
  | nil =>
    cases rl
    cases al
    exact absurd rfl ne
  | cons x its =>
    refine wpAny_callSpecialIfBound?_slot (name := Str.ofString "__repr__") ⟨_, ho, hc⟩ F.slot_list_repr (call_list_reprK ho hc hd off (by simpa using kids.length_eq) (fun i y e => kids.item i y (by simpa using e)) fr (fun b _ => Clear.nil b) (show X.A.units + 1 + _ < cLine by omega) (fun _ _ e => e) (fun h' u tk kp => ?_) sz')
    exact ⟨_, _, rfl, .str _, h, inv.kept kp, ⟨u, rfl⟩, z⟩
end
end KLm

/-! ### own steps of the reading -/
local macro_rules | `(tactic| walk_at "hp") => `(tactic| first | with_reducible assumption | with_reducible exact L2.upd_same | (refine KB.upd_new ?h1 ?h2; (case h1 => (with_reducible assumption)); (case h2 => walk_at "hp")) | (rw [L2.upd_ne (by first | assumption | exact Ne.symm (by assumption))]; walk_at "hp"))
local macro_rules | `(tactic| walk_at "sq") => `(tactic| first | with_reducible assumption | (refine L2.SqL.of ?h1; (case h1 => walk_at "hp")) | (refine L2.SqT.of ?h1; (case h1 => walk_at "hp")))
local macro_rules | `(tactic| walk_at "sq2") => `(tactic| first | (refine Or.inl ?_; walk_at "sq") | (refine Or.inr ?_; walk_at "sq") | (with_reducible exact Or.inr (by (first | with_reducible assumption | apply_assumption))))
local macro_rules | `(tactic| walk_at "sz") => `(tactic| exact KB.sz_lit (by simp))
local macro_rules | `(tactic| walk_at "cond") => `(tactic| first | (show _ ∨ _; first | exact Or.inl ⟨by omega, by omega⟩ | exact Or.inr ⟨by omega, by omega⟩) | (show _ ∧ _ ∧ _; exact ⟨by omega, by omega, by omega⟩) | (show _ ∧ _; exact ⟨by omega, by omega⟩) | (show _ < _; omega) | (show _ ≤ _; omega) | exact L2.wide_div (b := 34) (by omega) (by omega) (by decide) (by decide))
local macro_rules | `(tactic| walk_at "rdx") => `(tactic| with_reducible refine L2.iteT ?_)
local macro_rules | `(tactic| walk_at "rdx") => `(tactic| with_reducible refine KB.iteNf ?_)
local macro_rules | `(tactic| walk_at "rdx") => `(tactic| with_reducible refine KB.iteNt ?_)
local macro_rules | `(tactic| walk_at "rdx") => `(tactic| with_reducible refine L2.iteF ?_)
local macro_rules | `(tactic| walk_at "rdx") => `(tactic| ((with_reducible refine KB.r_slL (xs := ?v1) ?h1 ?q); (case h1 => walk_at "sq")))
local macro_rules | `(tactic| walk_at "rdx") => `(tactic| with_reducible refine KB.r_part ?_)
local macro_rules | `(tactic| walk_at "rdx") => `(tactic| with_reducible refine KB.r_nopart ?_)
local macro_rules | `(tactic| walk_at "rdx") => `(tactic| with_reducible refine KB.r_sl ?_)
local macro_rules | `(tactic| walk_at "rdx") => `(tactic| with_reducible refine KB.r_mnil ?_)
local macro_rules | `(tactic| walk_at "rdx") => `(tactic| with_reducible refine KB.r_mstr ?_)
local macro_rules | `(tactic| walk_at "rdx") => `(tactic| with_reducible refine KB.r_match ?_)
local macro_rules | `(tactic| walk_at "rdx") => `(tactic| with_reducible refine KB.r_par ?_)
local macro_rules | `(tactic| walk_at "rdx") => `(tactic| with_reducible refine KB.r_drop ?_)
local macro_rules | `(tactic| walk_at "rdx") => `(tactic| with_reducible refine KB.r_ret ?_)
local macro_rules | `(tactic| walk_at "rdx") => `(tactic| with_reducible refine KB.r_ifS ?_)
local macro_rules | `(tactic| walk_at "rdx") => `(tactic| with_reducible refine KB.r_asgG ?_)
local macro_rules | `(tactic| walk_at "rdx") => `(tactic| with_reducible refine KB.r_asgS ?_)
local macro_rules | `(tactic| walk_at "rdx") => `(tactic| with_reducible refine KB.r_asg ?_)
local macro_rules | `(tactic| walk_at "rdx") => `(tactic| ((with_reducible refine KB.r_inS (zs := ?v1) ?h1 ?q); (case h1 => walk_at "sq2")))
local macro_rules | `(tactic| walk_at "rdx") => `(tactic| ((with_reducible refine KB.r_notInS (zs := ?v1) ?h1 ?q); (case h1 => walk_at "sq2")))
local macro_rules | `(tactic| walk_at "rdx") => `(tactic| ((with_reducible refine KB.r_cval (v := ?v1) (mc := ?v2) (uu := ?v3) ?h1 ?h2 ?q); (case h1 => assumption); (case h2 => assumption)))
local macro_rules | `(tactic| walk_at "rdx") => `(tactic| with_reducible refine KB.r_istr ?_)
local macro_rules | `(tactic| walk_at "rdx") => `(tactic| with_reducible refine KB.r_ilist ?_)
local macro_rules | `(tactic| walk_at "rdx") => `(tactic| with_reducible refine KB.r_itup ?_)
local macro_rules | `(tactic| walk_at "rdx") => `(tactic| with_reducible refine KB.r_irng1 ?_)
local macro_rules | `(tactic| walk_at "rdx") => `(tactic| with_reducible refine KB.r_lc ?_)
local macro_rules | `(tactic| walk_at "rdx") => `(tactic| with_reducible refine KB.r_exStr ?_)
local macro_rules | `(tactic| walk_at "rdx") => `(tactic| with_reducible refine KB.r_isStr ?_)
local macro_rules | `(tactic| walk_at "rdx") => `(tactic| with_reducible refine KB.r_m0 ?_)
local macro_rules | `(tactic| walk_at "rdx") => `(tactic| with_reducible refine KB.r_m1 ?_)
local macro_rules | `(tactic| walk_at "rdx") => `(tactic| with_reducible refine KB.r_make ?_)
local macro_rules | `(tactic| walk_at "rdx") => `(tactic| with_reducible refine KB.r_pairs0 ?_)
local macro_rules | `(tactic| walk_at "rdx") => `(tactic| with_reducible refine KB.r_pairs ?_)
local macro_rules | `(tactic| walk_at "rdx") => `(tactic| with_reducible refine KB.r_disp ?_)
local macro_rules | `(tactic| walk_at "rdx") => `(tactic| with_reducible refine KB.r_dput ?_)
local macro_rules | `(tactic| walk_at "rdx") => `(tactic| with_reducible refine KB.r_dget ?_)
local macro_rules | `(tactic| walk_at "rdx") => `(tactic| with_reducible refine KB.r_dget1 ?_)
local macro_rules | `(tactic| walk_at "rdx") => `(tactic| with_reducible refine KB.r_callN ?_)
local macro_rules | `(tactic| walk_at "rdx") => `(tactic| with_reducible refine KB.r_callD ?_)
local macro_rules | `(tactic| walk_at "rdx") => `(tactic| ((with_reducible refine KB.r_fldK (C := ?v1) (dx := ?v2) (fs := ?v3) (v := ?v4) ?h1 ?h2 ?h3 ?h4 ?q); (case h1 => walk_at "hp"); (case h2 => assumption); (case h3 => assumption); (case h4 => exact rfl)))
local macro_rules | `(tactic| walk_at "rdx") => `(tactic| ((with_reducible refine KB.r_tyL (xs := ?v1) ?h1 ?q); (case h1 => walk_at "sq")))
local macro_rules | `(tactic| walk_at "rdx") => `(tactic| with_reducible refine KB.r_bm ?_)
local macro_rules | `(tactic| walk_at "rdx") => `(tactic| with_reducible refine KB.r_irng2 ?_)
local macro_rules | `(tactic| walk_at "rdx") => `(tactic| with_reducible refine KB.r_gnil ?_)
local macro_rules | `(tactic| walk_at "rdx") => `(tactic| with_reducible refine KB.r_gcons ?_)
local macro_rules | `(tactic| walk_at "rdx") => `(tactic| ((with_reducible refine KB.r_gtup (xs := ?v1) ?h1 ?h2 ?q); (case h1 => walk_at "sq"); (case h2 => exact rfl)))
local macro_rules | `(tactic| walk_at "rdx") => `(tactic| with_reducible refine KB.r_isNone ?_)
local macro_rules | `(tactic| walk_at "rdx") => `(tactic| with_reducible refine KO.r_fmt ?_)
local macro_rules | `(tactic| walk_at "rdx") => `(tactic| with_reducible refine KO.r_joined0 ?_)
local macro_rules | `(tactic| walk_at "rdx") => `(tactic| with_reducible refine KO.r_joined ?_)
local macro_rules | `(tactic| walk_at "rdx") => `(tactic| with_reducible refine KO.r_makeK ?_)
local macro_rules | `(tactic| walk_at "rdx") => `(tactic| with_reducible refine KO.r_methK0 ?_)
local macro_rules | `(tactic| walk_at "rdx") => `(tactic| with_reducible refine KB.r_for ?_)
local macro_rules | `(tactic| walk_at "rdx") => `(tactic| with_reducible refine KB.r_gname ?_)
local macro_rules | `(tactic| walk_at "rdx") => `(tactic| with_reducible refine KB.r_sfld ?_)
local macro_rules | `(tactic| walk_at "rdx") => `(tactic| with_reducible refine KB.r_fld ?_)
local macro_rules | `(tactic| walk_at "rdx") => `(tactic| with_reducible refine KB.r_meth ?_)
local macro_rules | `(tactic| walk_at "rdx") => `(tactic| ((with_reducible refine KB.r_setL (xs := ?v1) (j := ?v2) ?h1 ?h2 ?q); (case h1 => walk_at "hp"); (case h2 => exact rfl)))
local macro_rules | `(tactic| walk_at "rdx") => `(tactic| ((with_reducible refine KB.r_ixT (xs := ?v1) (v := ?v2) ?h1 ?h2 ?q); (case h1 => walk_at "sq"); (case h2 => exact rfl)))
local macro_rules | `(tactic| walk_at "rdx") => `(tactic| ((with_reducible refine KB.r_ixL (xs := ?v1) (v := ?v2) ?h1 ?h2 ?q); (case h1 => walk_at "sq"); (case h2 => exact rfl)))
local macro_rules | `(tactic| walk_at "rdx") => `(tactic| with_reducible refine KB.r_cb ?_)
local macro_rules | `(tactic| walk_at "rdx") => `(tactic| with_reducible refine KB.r_call ?_)
local macro_rules | `(tactic| walk_at "rdx") => `(tactic| with_reducible refine KB.r_lst ?_)
local macro_rules | `(tactic| walk_at "rdx") => `(tactic| with_reducible refine KB.r_tup ?_)
local macro_rules | `(tactic| walk_at "rdx") => `(tactic| with_reducible refine KB.r_cons ?_)
local macro_rules | `(tactic| walk_at "rdx") => `(tactic| with_reducible refine KB.r_nil ?_)
local macro_rules | `(tactic| walk_at "rdx") => `(tactic| with_reducible refine KB.r_if ?_)
local macro_rules | `(tactic| walk_at "rdx") => `(tactic| with_reducible refine KB.r_notV ?_)
local macro_rules | `(tactic| walk_at "rdx") => `(tactic| with_reducible refine KB.r_orV ?_)
local macro_rules | `(tactic| walk_at "rdx") => `(tactic| with_reducible refine KB.r_andV ?_)
local macro_rules | `(tactic| walk_at "rdx") => `(tactic| with_reducible refine KB.r_not ?_)
local macro_rules | `(tactic| walk_at "rdx") => `(tactic| with_reducible refine KB.r_or ?_)
local macro_rules | `(tactic| walk_at "rdx") => `(tactic| with_reducible refine KB.r_and ?_)
local macro_rules | `(tactic| walk_at "rdx") => `(tactic| with_reducible refine KB.r_int ?_)
local macro_rules | `(tactic| walk_at "rdx") => `(tactic| with_reducible refine KB.r_bl ?_)
local macro_rules | `(tactic| walk_at "rdx") => `(tactic| with_reducible refine KB.r_B ?_)
local macro_rules | `(tactic| walk_at "rdx") => `(tactic| with_reducible refine KB.r_test ?_)
local macro_rules | `(tactic| walk_at "rdx") => `(tactic| with_reducible refine KB.r_U ?_)
local macro_rules | `(tactic| walk_at "rdx") => `(tactic| ((with_reducible refine KB.r_ne ?h1 ?q); (case h1 => exact rfl)))
local macro_rules | `(tactic| walk_at "rdx") => `(tactic| ((with_reducible refine KB.r_eq ?h1 ?q); (case h1 => exact rfl)))
local macro_rules | `(tactic| walk_at "rdx") => `(tactic| ((with_reducible refine KB.r_lenS (xs := ?v1) ?h1 ?q); (case h1 => walk_at "sq")))
local macro_rules | `(tactic| walk_at "rdx") => `(tactic| with_reducible refine KB.r_ex2 ?_)
local macro_rules | `(tactic| walk_at "rdx") => `(tactic| with_reducible refine KB.r_ex1 ?_)
local macro_rules | `(tactic| walk_at "rdx") => `(tactic| with_reducible refine KB.r_bl1 ?_)
local macro_rules | `(tactic| walk_at "rdx") => `(tactic| with_reducible refine KB.r_int1 ?_)
local macro_rules | `(tactic| walk_at "rdx") => `(tactic| ((with_reducible refine KB.r_I ?h1 ?q); (case h1 => walk_at "cond")))
local macro_rules | `(tactic| walk_at "rdx") => `(tactic| with_reducible refine KB.r_I0 ?_)
local macro_rules | `(tactic| walk_at "rdx") => `(tactic| with_reducible refine KB.r_un ?_)
local macro_rules | `(tactic| walk_at "rdx") => `(tactic| with_reducible refine KB.r_op ?_)
local macro_rules | `(tactic| walk_at "rdx") => `(tactic| ((with_reducible refine KB.r_var (v := ?v1) ?h1 ?q); (case h1 => exact rfl)))
local macro_rules | `(tactic| walk_at "rdx") => `(tactic| with_reducible refine KB.r_c ?_)
local macro_rules | `(tactic| walk_at "rdx") => `(tactic| with_reducible refine KB.r_next ?_)
local macro_rules | `(tactic| walk_at "rdx") => `(tactic| with_reducible refine KB.r_seq ?_)
local macro_rules | `(tactic| walk_at "rd1") => `(tactic| first | walk_at "rdx" | dsimp only)
local macro_rules | `(tactic| walk_at "rd") => `(tactic| repeat walk_at "rd1")
local macro_rules | `(tactic| walk_at "sp1") => `(tactic| first | with_reducible refine KB.r_iteS2 (fun _ => ?_) (fun _ => ?_) | with_reducible refine KB.r_iteI2 (fun _ => ?_) (fun _ => ?_) | with_reducible refine KB.r_ite2 (fun _ => ?_) (fun _ => ?_) | with_reducible refine KB.r_iteN2 (fun _ => ?_) (fun _ => ?_) | with_reducible refine KB.r_iteB (fun _ => ?_) (fun _ => ?_) | with_reducible refine KB.r_iteBN (fun _ => ?_) (fun _ => ?_))
local macro_rules | `(tactic| walk_at "sp") => `(tactic| repeat' (first | walk_at "rd1" | walk_at "sp1"))
local macro_rules | `(tactic| walk_at "ifs") => `(tactic| repeat (first | rw [if_pos (by assumption)] | rw [if_neg (by assumption)]))

namespace K35
open PySem L2 KB


theorem sc_is_integer : FnScope ["value"] ["value"] (defScope s_is_integer) := ⟨rfl, rfl, rfl, by decide +kernel, rfl, by decide +kernel, by decide +kernel⟩

theorem sc_need_width : FnScope ["width"] ["width"] (defScope s_need_width) := ⟨rfl, rfl, rfl, by decide +kernel, rfl, by decide +kernel, by decide +kernel⟩

theorem sc_ones : FnScope ["width"] ["width"] (defScope s_ones) := ⟨rfl, rfl, rfl, by decide +kernel, rfl, by decide +kernel, by decide +kernel⟩

theorem sc_is_word : FnScope ["width", "value"] ["width", "value"] (defScope s_is_word) := ⟨rfl, rfl, rfl, by decide +kernel, rfl, by decide +kernel, by decide +kernel⟩

theorem sc_need_word : FnScope ["width", "value"] ["width", "value"] (defScope s_need_word) := ⟨rfl, rfl, rfl, by decide +kernel, rfl, by decide +kernel, by decide +kernel⟩

theorem sc_shifted : FnScope ["value", "width", "shift"] ["value", "width", "shift"] (defScope s_shifted) := ⟨rfl, rfl, rfl, by decide +kernel, rfl, by decide +kernel, by decide +kernel⟩

theorem sc_Blend___init__ : FnScope ["self", "width", "shift", "keep", "flip", "kept"] ["self", "width", "shift", "keep", "flip"] (defScope s_Blend___init__) := ⟨rfl, rfl, rfl, by decide +kernel, rfl, by decide +kernel, by decide +kernel⟩

theorem sc_Blend_constant : FnScope ["cls", "width", "value"] ["cls", "width", "value"] (defScope s_Blend_constant) := ⟨rfl, rfl, rfl, by decide +kernel, rfl, by decide +kernel, by decide +kernel⟩

theorem sc_Blend_is_constant : FnScope ["self"] ["self"] (defScope s_Blend_is_constant) := ⟨rfl, rfl, rfl, by decide +kernel, rfl, by decide +kernel, by decide +kernel⟩

theorem sc_Blend___eq__ : FnScope ["self", "other"] ["self", "other"] (defScope s_Blend___eq__) := ⟨rfl, rfl, rfl, by decide +kernel, rfl, by decide +kernel, by decide +kernel⟩

theorem sc_is_made_of : FnScope ["value", "first", "others", "sign"] ["value", "first", "others"] (defScope s_is_made_of) := ⟨rfl, rfl, rfl, by decide +kernel, rfl, by decide +kernel, by decide +kernel⟩

theorem sc_is_name : FnScope ["value"] ["value"] (defScope s_is_name) := ⟨rfl, rfl, rfl, by decide +kernel, rfl, by decide +kernel, by decide +kernel⟩

theorem sc_is_variable : FnScope ["value"] ["value"] (defScope s_is_variable) := ⟨rfl, rfl, rfl, by decide +kernel, rfl, by decide +kernel, by decide +kernel⟩

theorem sc_is_number : FnScope ["value", "least", "most"] ["value", "least", "most"] (defScope s_is_number) := ⟨rfl, rfl, rfl, by decide +kernel, rfl, by decide +kernel, by decide +kernel⟩

theorem sc_need : FnScope ["test", "reason"] ["test", "reason"] (defScope s_need) := ⟨rfl, rfl, rfl, by decide +kernel, rfl, by decide +kernel, by decide +kernel⟩

theorem sc_is_lane : FnScope ["value"] ["value"] (defScope s_is_lane) := ⟨rfl, rfl, rfl, by decide +kernel, rfl, by decide +kernel, by decide +kernel⟩

theorem sc_need_access : FnScope ["port", "lane"] ["port", "lane"] (defScope s_need_access) := ⟨rfl, rfl, rfl, by decide +kernel, rfl, by decide +kernel, by decide +kernel⟩

theorem sc_meant : FnScope ["names", "index", "name"] ["names"] (defScope s_meant) := ⟨rfl, rfl, rfl, by decide +kernel, rfl, by decide +kernel, by decide +kernel⟩

theorem sc_with_means : FnScope ["words", "means"] ["words", "means"] (defScope s_with_means) := ⟨rfl, rfl, rfl, by decide +kernel, rfl, by decide +kernel, by decide +kernel⟩

theorem sc_Read___init__ : FnScope ["self", "variable", "port", "lane", "means"] ["self", "variable", "port", "lane", "means"] (defScope s_Read___init__) := ⟨rfl, rfl, rfl, by decide +kernel, rfl, by decide +kernel, by decide +kernel⟩

theorem sc_Read_of : FnScope ["cls", "variable", "port", "lane", "means"] ["cls", "variable", "port", "lane", "means"] (defScope s_Read_of) := ⟨rfl, rfl, rfl, by decide +kernel, rfl, by decide +kernel, by decide +kernel⟩

theorem sc_Read_line_words : FnScope ["self"] ["self"] (defScope s_Read_line_words) := ⟨rfl, rfl, rfl, by decide +kernel, rfl, by decide +kernel, by decide +kernel⟩

theorem sc_Read___eq__ : FnScope ["self", "other"] ["self", "other"] (defScope s_Read___eq__) := ⟨rfl, rfl, rfl, by decide +kernel, rfl, by decide +kernel, by decide +kernel⟩

theorem sc_Read___str__ : FnScope ["self"] ["self"] (defScope s_Read___str__) := ⟨rfl, rfl, rfl, by decide +kernel, rfl, by decide +kernel, by decide +kernel⟩

theorem sc_Read___repr__ : FnScope ["self"] ["self"] (defScope s_Read___repr__) := ⟨rfl, rfl, rfl, by decide +kernel, rfl, by decide +kernel, by decide +kernel⟩

theorem sc_Write___init__ : FnScope ["self", "port", "lane", "blend", "variable", "means", "names"] ["self", "port", "lane", "blend", "variable", "means"] (defScope s_Write___init__) := ⟨rfl, rfl, rfl, by decide +kernel, rfl, by decide +kernel, by decide +kernel⟩

theorem sc_Write_of : FnScope ["cls", "port", "lane", "blend", "means", "variable"] ["cls", "port", "lane", "blend", "means", "variable"] (defScope s_Write_of) := ⟨rfl, rfl, rfl, by decide +kernel, rfl, by decide +kernel, by decide +kernel⟩

theorem sc_Write_line_words : FnScope ["self", "words"] ["self"] (defScope s_Write_line_words) := ⟨rfl, rfl, rfl, by decide +kernel, rfl, by decide +kernel, by decide +kernel⟩

theorem sc_Write___eq__ : FnScope ["self", "other"] ["self", "other"] (defScope s_Write___eq__) := ⟨rfl, rfl, rfl, by decide +kernel, rfl, by decide +kernel, by decide +kernel⟩

theorem sc_Write___str__ : FnScope ["self"] ["self"] (defScope s_Write___str__) := ⟨rfl, rfl, rfl, by decide +kernel, rfl, by decide +kernel, by decide +kernel⟩

theorem sc_Write___repr__ : FnScope ["self"] ["self"] (defScope s_Write___repr__) := ⟨rfl, rfl, rfl, by decide +kernel, rfl, by decide +kernel, by decide +kernel⟩

theorem sc_Serve___init__ : FnScope ["self", "variable", "mask"] ["self", "variable", "mask"] (defScope s_Serve___init__) := ⟨rfl, rfl, rfl, by decide +kernel, rfl, by decide +kernel, by decide +kernel⟩

theorem sc_Serve_line_words : FnScope ["self"] ["self"] (defScope s_Serve_line_words) := ⟨rfl, rfl, rfl, by decide +kernel, rfl, by decide +kernel, by decide +kernel⟩

theorem sc_Serve___eq__ : FnScope ["self", "other"] ["self", "other"] (defScope s_Serve___eq__) := ⟨rfl, rfl, rfl, by decide +kernel, rfl, by decide +kernel, by decide +kernel⟩

theorem sc_Serve___str__ : FnScope ["self"] ["self"] (defScope s_Serve___str__) := ⟨rfl, rfl, rfl, by decide +kernel, rfl, by decide +kernel, by decide +kernel⟩

theorem sc_Serve___repr__ : FnScope ["self"] ["self"] (defScope s_Serve___repr__) := ⟨rfl, rfl, rfl, by decide +kernel, rfl, by decide +kernel, by decide +kernel⟩

theorem sc_Pair___init__ : FnScope ["self", "first", "second", "field"] ["self", "first", "second", "field"] (defScope s_Pair___init__) := ⟨rfl, rfl, rfl, by decide +kernel, rfl, by decide +kernel, by decide +kernel⟩

theorem sc_Pair_line_words : FnScope ["self"] ["self"] (defScope s_Pair_line_words) := ⟨rfl, rfl, rfl, by decide +kernel, rfl, by decide +kernel, by decide +kernel⟩

theorem sc_Pair___eq__ : FnScope ["self", "other"] ["self", "other"] (defScope s_Pair___eq__) := ⟨rfl, rfl, rfl, by decide +kernel, rfl, by decide +kernel, by decide +kernel⟩

theorem sc_Pair___str__ : FnScope ["self"] ["self"] (defScope s_Pair___str__) := ⟨rfl, rfl, rfl, by decide +kernel, rfl, by decide +kernel, by decide +kernel⟩

theorem sc_Pair___repr__ : FnScope ["self"] ["self"] (defScope s_Pair___repr__) := ⟨rfl, rfl, rfl, by decide +kernel, rfl, by decide +kernel, by decide +kernel⟩

theorem sc__law_pen : FnScope ["_law_script"] ["_law_script"] (defScope s__law_pen) := ⟨rfl, rfl, rfl, by decide +kernel, rfl, by decide +kernel, by decide +kernel⟩

theorem sc__law_draw : FnScope ["_law_pen_here", "_law_many", "_law_digit", "_law_at", "_law_cell", "_law_great", "_law_mixed"] ["_law_pen_here", "_law_many"] (defScope s__law_draw) := ⟨rfl, rfl, rfl, by decide +kernel, rfl, by decide +kernel, by decide +kernel⟩

theorem sc__law_word : FnScope ["_law_pen_here", "_law_bits", "_law_pick", "_law_low"] ["_law_pen_here", "_law_bits"] (defScope s__law_word) := ⟨rfl, rfl, rfl, by decide +kernel, rfl, by decide +kernel, by decide +kernel⟩

theorem sc__law_names : FnScope ["_law_pen_here", "_law_many", "_law_signs", "_law_base", "_law_k", "_law_spot", "_law_lead", "_law_leap", "_law_tail", "_law_found", "_law_sign"] ["_law_pen_here", "_law_many"] (defScope s__law_names) := ⟨rfl, rfl, rfl, by decide +kernel, rfl, by decide +kernel, by decide +kernel⟩

theorem sc__law_variables : FnScope ["_law_pen_here", "_law_signs", "_law_lead"] ["_law_pen_here"] (defScope s__law_variables) := ⟨rfl, rfl, rfl, by decide +kernel, rfl, by decide +kernel, by decide +kernel⟩

theorem sc__law_normal : FnScope ["_law_width", "_law_shift", "_law_keep", "_law_kept", "_law_j"] ["_law_width", "_law_shift", "_law_keep"] (defScope s__law_normal) := ⟨rfl, rfl, rfl, by decide +kernel, rfl, by decide +kernel, by decide +kernel⟩

theorem sc__law_made_step : FnScope ["_law_width", "_law_step"] ["_law_width", "_law_step"] (defScope s__law_made_step) := ⟨rfl, rfl, rfl, by decide +kernel, rfl, by decide +kernel, by decide +kernel⟩

theorem sc__law_row : FnScope ["_law_pen_here", "_law_kind", "_law_width", "_law_names_here", "_law_letters", "_law_part", "_law_aims", "_law_turned", "_law_kept"] ["_law_pen_here", "_law_kind", "_law_width"] (defScope s__law_row) := ⟨rfl, rfl, rfl, by decide +kernel, rfl, by decide +kernel, by decide +kernel⟩

theorem sc__law_wrong : FnScope ["_law_pen_here", "_law_kind", "_law_some", "_law_more", "_law_one"] ["_law_pen_here", "_law_kind"] (defScope s__law_wrong) := ⟨rfl, rfl, rfl, by decide +kernel, rfl, by decide +kernel, by decide +kernel⟩

theorem sc__law_wrong_means : FnScope ["_law_pen_here", "_law_aims", "_law_at"] ["_law_pen_here", "_law_aims"] (defScope s__law_wrong_means) := ⟨rfl, rfl, rfl, by decide +kernel, rfl, by decide +kernel, by decide +kernel⟩

theorem sc__law_arguments : FnScope ["_law_step", "_law_width", "_law_told"] ["_law_step", "_law_width"] (defScope s__law_arguments) := ⟨rfl, rfl, rfl, by decide +kernel, rfl, by decide +kernel, by decide +kernel⟩

theorem sc__law_spoil : FnScope ["_law_pen_here", "_law_step", "_law_told", "_law_at", "_law_one", "_law_others"] ["_law_pen_here", "_law_step", "_law_told", "_law_at"] (defScope s__law_spoil) := ⟨rfl, rfl, rfl, by decide +kernel, rfl, by decide +kernel, by decide +kernel⟩

theorem sc__law_made : FnScope ["_law_kind", "_law_told"] ["_law_kind", "_law_told"] (defScope s__law_made) := ⟨rfl, rfl, rfl, by decide +kernel, rfl, by decide +kernel, by decide +kernel⟩

theorem sc__law_heard : FnScope ["_law_ask", "_law_caught", "e", "_law_some"] ["_law_ask"] (defScope s__law_heard) := ⟨rfl, rfl, rfl, by decide +kernel, rfl, by decide +kernel, by decide +kernel⟩

theorem sc__law_refused : FnScope ["_law_pen_here", "_law_kind", "_law_step", "_law_width", "_law_right", "_law_told", "_law_spots", "_law_at", "_law_values", "_law_one", "_law_kept"] ["_law_pen_here", "_law_kind", "_law_step", "_law_width"] (defScope s__law_refused) := ⟨rfl, rfl, rfl, by decide +kernel, rfl, by decide +kernel, by decide +kernel⟩

theorem sc__law_plain_refused : FnScope ["_law_pen_here", "_law_one", "_law_two", "_law_letter", "_law_odd", "_law_asks", "_law_ask", "_law_due"] ["_law_pen_here"] (defScope s__law_plain_refused) := ⟨rfl, rfl, rfl, by decide +kernel, rfl, by decide +kernel, by decide +kernel⟩

theorem sc_law : FnScope ["_law_script", "_law_pen_here", "_law_turn", "_law_kind", "_law_width", "_law_step"] ["_law_script"] (defScope s_law) := ⟨rfl, rfl, rfl, by decide +kernel, rfl, by decide +kernel, by decide +kernel⟩

structure Txt (mg : Str → Option Value) : Prop where
  z_int : mg "int" = none
  z_bool : mg "bool" = none
  z_str : mg "str" = none
  z_all : mg "all" = none
  z_abs : mg "abs" = none
  z_len : mg "len" = none
  z_list : mg "list" = none
  z_tuple : mg "tuple" = none
  z_range : mg "range" = none
  z_isinstance : mg "isinstance" = none
  z_min : mg "min" = none
  z_max : mg "max" = none
  z_sum : mg "sum" = none
  z_sorted : mg "sorted" = none
  z_enumerate : mg "enumerate" = none
  z_repr : mg "repr" = none
  z_ValueError : mg "ValueError" = none
open KV

theorem Keep.tr {p : Addr} {H1 H2 H3 : Hp} (a : Keep p H1 H2) (b : Keep p H2 H3) : Keep p H1 H3 := fun x o e n => b x o (a x o e n) n
theorem Keep.same {p : Addr} {H1 H2 : Hp} (a : Same H1 H2) : Keep p H1 H2 := fun x o e n => a x o e

section
variable {P : Program} {w : World} {K : PySem.W.Frag} {mg : Str → Option Value} {base : Heap}
theorem ok_pen {f : Addr} {fd : FuncData} {k : Nat} (F : Fun K "_law_pen" "_law_pen" s__law_pen f fd) (T : Txt mg) : FnOk P w K mg base CX0 (k + 1) f fd ["_law_script"] (spPen K) := by
  refine F.ok sc__law_pen (fun vs H Q E h => ?_) (fun cdv A outer s H vs Q E hr h => ?_)
  · obtain ⟨a, ns, rfl, _⟩ := h
    rfl
  · obtain ⟨a, ns, rfl, hS, hl, q⟩ := h
    refine ⟨_, (pss_one (ps_ret (pe_lst (pa_cons (pe_callTy call_list_of (by rfl) T.z_list (by decide +kernel) (pa_cons (pe_slice sl_list (pv 0) po_none (po_some pe_int)) pa_nil)) (pa_cons pe_int (pa_cons pe_int pa_nil)))))), at_start (σ := [some (.ref a)]) rfl ?_⟩
    dsimp only [cx_K]
    walk_at "rd"
    intro c nc
    have ec : cutV (ns.map V.int) none (some 63) = (ns.take 63).map V.int := by
      rw [show (63 : Int) = ((63 : Nat) : Int) from rfl, cutV_take, List.map_take]
    rw [ec]
    walk_at "rd"
    intro l nl
    walk_at "rd"
    refine ⟨by walk_at "sz", fun p np => ?_⟩
    have npl : p ≠ l := fun z => by rw [z, upd_same] at np; cases np
    have s0 := ((same_new (o := .lst ((ns.take 63).map V.int)) nc).trans (same_new (o := .lst ((ns.take 63).map V.int)) nl)).trans (same_new (o := .lst [.ref l, .int 0, .int 0]) np)
    refine q _ p l s0 (((same_new nc).trans (same_new nl)).free np) ((same_new nc).free nl) ⟨ns.take 63, 0, 0, upd_same, upd_new np upd_same, npl, ?_, by omega⟩
    rw [List.length_take]
    omega
theorem ok_draw {f : Addr} {fd : FuncData} {k : Nat} (F : Fun K "_law_draw" "_law_draw" s__law_draw f fd) (T : Txt mg) : FnOk P w K mg base CX0 (k + 1) f fd ["_law_pen_here", "_law_many"] spDraw := by
  refine F.ok sc__law_draw (fun vs H Q E h => ?_) (fun cdv A outer s H vs Q E hr h => ?_)
  · obtain ⟨p, c, many, k, rfl, _⟩ := h
    rfl
  · obtain ⟨p, c, many, k, rfl, hm0, hm1, ⟨ns, at_, left, hp, hc, npc, hn, hat⟩, q⟩ := h
    refine ⟨_, (pss_cons (ps_if (pt_cmpR op_gt (pe_ix ix_list (pv 0) pe_int (fun _ _ => rfl)) pe_int (nomark _)) (pss_cons (ps_set (i := 2) sc__law_draw.nd rfl (by first | exact Or.inl rfl | exact Or.inr rfl) (pe_op op_mod (pe_callTy call_int1 (by rfl) T.z_int (by decide +kernel) (pa_cons (pe_ix ix_list (pv 0) pe_int (fun _ _ => rfl)) pa_nil)) (pv 1)))
 (pss_cons (ps_asg (pe_op op_fdivW (pe_ix ix_list (pv 0) pe_int (fun _ _ => rfl)) (pv 1)) (pg_sub (pv 0) pe_int set_list))
 (pss_one (ps_ret (pv 2)))))
 pss_nil)
 (pss_cons (ps_set (i := 3) sc__law_draw.nd rfl (by first | exact Or.inl rfl | exact Or.inr rfl) (pe_ix ix_list (pv 0) pe_int (fun _ _ => rfl)))
 (pss_cons (ps_asg (pe_op op_add (pv 3) pe_int) (pg_sub (pv 0) pe_int set_list))
 (pss_cons (ps_set (i := 4) sc__law_draw.nd rfl (by first | exact Or.inl rfl | exact Or.inr rfl) (pe_op op_add (pe_op op_mul pe_int (pv 3)) pe_int))
 (Evl.pss_cut (ps_if (pt_cmpR (op_neD hr.units) (pe_ix ix_list (pv 0) pe_int (fun _ _ => rfl)) (pe_lst pa_nil) (nomark _)) (pss_one (ps_set (i := 4) sc__law_draw.nd rfl (by first | exact Or.inl rfl | exact Or.inr rfl) (pe_ix ix_list (pe_ix ix_list (pv 0) pe_int (fun _ _ => rfl)) (pe_op op_mod (pe_callTy call_int1 (by rfl) T.z_int (by decide +kernel) (pa_cons (pv 3) pa_nil)) (pe_callB call_len_seq (by rfl) T.z_len (by decide +kernel) (pa_cons (pe_ix ix_list (pv 0) pe_int (fun _ _ => rfl)) pa_nil))) (fun _ _ => rfl))))
 pss_nil)
 (pss_cons (ps_if (PW.pt (pw_and (pt_cmpR op_lt (pv 3) (pe_callB call_len_seq (by rfl) T.z_len (by decide +kernel) (pa_cons (pe_ix ix_list (pv 0) pe_int (fun _ _ => rfl)) pa_nil)) (nomark _)) (pw_and1 (pt_cmpR op_ge (pe_callB call_abs (by rfl) T.z_abs (by decide +kernel) (pa_cons (pv 4) pa_nil)) (pe_op op_pow pe_int pe_int) (nomark _))))) (pss_cons (ps_set (i := 5) sc__law_draw.nd rfl (by first | exact Or.inl rfl | exact Or.inr rfl) (pe_op op_add (pe_op op_mul pe_int (pe_callB call_abs (by rfl) T.z_abs (by decide +kernel) (pa_cons (pv 4) pa_nil))) (pe_callTy call_int1 (by rfl) T.z_int (by decide +kernel) (pa_cons (pe_cmpR op_lt (pv 4) pe_int (nomark _)) pa_nil))))
 (pss_cons (ps_asg (pe_op op_fdivW (pv 5) (pv 1)) (pg_sub (pv 0) pe_int set_list))
 (pss_one (ps_ret (pe_op op_mod (pe_callTy call_int1 (by rfl) T.z_int (by decide +kernel) (pa_cons (pv 5) pa_nil)) (pv 1))))))
 pss_nil)
 (pss_cons (ps_set (i := 6) sc__law_draw.nd rfl (by first | exact Or.inl rfl | exact Or.inr rfl) (pe_op op_mod (pe_op op_pow (pe_callTy call_int1 (by rfl) T.z_int (by decide +kernel) (pa_cons (pe_op op_add (pe_op op_add (pe_op op_mod (pe_callTy call_int1 (by rfl) T.z_int (by decide +kernel) (pa_cons (pv 4) pa_nil)) pe_int) (pe_op op_mul pe_int (pv 3))) pe_int) pa_nil)) pe_int) pe_int))
 (pss_cons (ps_set (i := 6) sc__law_draw.nd rfl (by first | exact Or.inl rfl | exact Or.inr rfl) (pe_op op_mod (pe_op op_pow (pe_callTy call_int1 (by rfl) T.z_int (by decide +kernel) (pa_cons (pe_op op_add (pe_op op_add (pe_op op_mul (pv 6) (pe_op op_add (pe_op op_mul pe_int (pv 3)) pe_int)) (pe_op op_mul (pe_op op_mul pe_int (pv 3)) (pv 3))) pe_int) pa_nil)) pe_int) pe_int))
 (pss_one (ps_ret (pe_op op_mod (pe_callTy call_int1 (by rfl) T.z_int (by decide +kernel) (pa_cons (pe_op op_fdiv (pv 6) pe_int) pa_nil)) (pv 1)))))))))))), at_start (σ := [some (.ref p), some (.int many), none, none, none, none, none]) rfl ?_⟩
    dsimp only [cx_K]
    walk_at "rd"
    have upp : ∀ o, upd H p o c = some (.lst (ns.map V.int)) := fun o => by rw [upd_ne npc.symm]; exact hc
    refine r_ite2 (fun h1 => ?_) (fun h1 => ?_)
    · walk_at "rd"
      exact q (left % many) _ (Int.emod_nonneg _ (by omega)) (Int.emod_lt_of_pos _ hm0) ⟨ns, at_, left / many, upd_same, upp _, npc, hn, by omega⟩ fun b o e hb => by rw [upd_ne hb]; exact e
    · walk_at "rd"
      refine ⟨fun σ' H' => ∃ cell : Int, σ' = [some (.ref p), some (.int many), none, some (.int at_), some (.int cell), none, none] ∧ H' p = some (.lst [.ref c, .int (at_ + 1), .int left]) ∧ H' c = some (.lst (ns.map V.int)) ∧ Keep p H H', ?_, ?_⟩
      · walk_at "rd"
        refine ⟨by decide, fun e he => ?_⟩
        have npe : p ≠ e := fun z => by rw [z, upd_same] at he; cases he
        refine r_neInts (ns := ns) (ms := []) (by walk_at "sq") (SqL.of upd_same) ?_
        walk_at "rd"
        have k1 : Keep p H (upd (upd H p (.lst [.ref c, .int (at_ + 1), .int left])) e (.lst [])) := fun b o x hb => upd_new he (by rw [upd_ne hb]; exact x)
        refine r_iteN2 (fun h2 => ?_) (fun h2 => ?_)
        · walk_at "rd"
          have hl : 0 < ns.length := List.length_pos_iff.mpr h2
          rw [List.length_map]
          have hj : (at_ : Int) % (ns.length : Int) = ((at_ % ns.length : Nat) : Int) := by omega
          have hj2 : at_ % ns.length < ns.length := Nat.mod_lt _ hl
          refine r_I (by show (0 : Int) < _; omega) ?_
          refine r_ixL (xs := ns.map V.int) (v := .int (ns[at_ % ns.length])) (by walk_at "sq") (by rw [hj]; exact atI_nat (by simp [hj2])) ?_
          exact ⟨_, rfl, upd_new he upd_same, upd_new he (upp _), k1⟩
        · exact ⟨_, rfl, upd_new he upd_same, upd_new he (upp _), k1⟩
      · rintro σ' H' ⟨cell, rfl, hp1, hc1, k1⟩
        have h6 : ∀ (r : Int) (l2 : Int), 0 ≤ r → r < many → Q (.int r) (upd H' p (.lst [.ref c, .int ((at_ + 1 : Nat) : Int), .int l2])) := fun r l2 h7 h8 =>
          q r _ h7 h8 ⟨ns, at_ + 1, l2, upd_same, by rw [upd_ne npc.symm]; exact hc1, npc, hn, by omega⟩ fun b o x hb => by rw [upd_ne hb]; exact k1 b o x hb
        have h9 : ∀ r : Int, 0 ≤ r → r < many → Q (.int r) H' := fun r h7 h8 => q r _ h7 h8 ⟨ns, at_ + 1, left, hp1, hc1, npc, hn, by omega⟩ k1
        walk_at "rd"
        refine r_ite2 (fun h2 => ?_) (fun h2 => ?_)
        · walk_at "rd"
          refine r_ite2 (fun h3 => ?_) (fun h3 => ?_)
          · walk_at "rd"
            exact h6 _ _ (Int.emod_nonneg _ (by omega)) (Int.emod_lt_of_pos _ hm0)
          · walk_at "rd"
            have m1 : 0 ≤ (cell % 2147483477 + 30911 * (at_ : Int) + 67) ^ Int.toNat 5 % 2147483423 := Int.emod_nonneg _ (by decide)
            have m2 : (cell % 2147483477 + 30911 * (at_ : Int) + 67) ^ Int.toNat 5 % 2147483423 < 2147483423 := Int.emod_lt_of_pos _ (by decide)
            generalize (cell % 2147483477 + 30911 * (at_ : Int) + 67) ^ Int.toNat 5 % 2147483423 = m at m1 m2 ⊢
            have b1 := mul_bd (A := 2147483423) (B := 300000) m1 (by omega) (show 0 ≤ 2 * (at_ : Int) + 41 by omega) (by omega)
            have b2 := mul_bd (A := 100000 * 25013) (B := 100000) (show 0 ≤ 25013 * (at_ : Int) by omega) (by omega) (show 0 ≤ (at_ : Int) by omega) (by omega)
            refine r_I (show CPow _ _ from ⟨by decide, by decide, by omega⟩) ?_
            walk_at "rd"
            exact h9 _ (Int.emod_nonneg _ (by omega)) (Int.emod_lt_of_pos _ hm0)

        · walk_at "rd"
          have m1 : 0 ≤ (cell % 2147483477 + 30911 * (at_ : Int) + 67) ^ Int.toNat 5 % 2147483423 := Int.emod_nonneg _ (by decide)
          have m2 : (cell % 2147483477 + 30911 * (at_ : Int) + 67) ^ Int.toNat 5 % 2147483423 < 2147483423 := Int.emod_lt_of_pos _ (by decide)
          generalize (cell % 2147483477 + 30911 * (at_ : Int) + 67) ^ Int.toNat 5 % 2147483423 = m at m1 m2 ⊢
          have b1 := mul_bd (A := 2147483423) (B := 300000) m1 (by omega) (show 0 ≤ 2 * (at_ : Int) + 41 by omega) (by omega)
          have b2 := mul_bd (A := 100000 * 25013) (B := 100000) (show 0 ≤ 25013 * (at_ : Int) by omega) (by omega) (show 0 ≤ (at_ : Int) by omega) (by omega)
          refine r_I (show CPow _ _ from ⟨by decide, by decide, by omega⟩) ?_
          walk_at "rd"
          exact h9 _ (Int.emod_nonneg _ (by omega)) (Int.emod_lt_of_pos _ hm0)

end

end K35


namespace K35
open PySem L2 KB KO KY KV
/-! ### words and blends -/
def W3 (w : Nat) : Prop := w = 8 ∨ w = 16 ∨ w = 32
theorem W3.le {w : Nat} (h : W3 w) : 8 ≤ w ∧ w ≤ 32 := by
  rcases h with rfl | rfl | rfl <;> decide
theorem W3.pow {w : Nat} (h : W3 w) : 2 ^ w ≤ 4294967296 := by
  rcases h with rfl | rfl | rfl <;> decide
def isIntD : Dt → Bool
  | .sc (.int _) => true
  | _ => false
def isBoolD : Dt → Bool
  | .sc (.bl _) => true
  | _ => false
def isW : Dt → Bool
  | .sc (.int i) => decide (i = 8 ∨ i = 16 ∨ i = 32)
  | _ => false
def isWord (w : Nat) : Dt → Bool
  | .sc (.int i) => decide (0 ≤ i ∧ i < (2 ^ w : Nat))
  | _ => false
def isShift (w : Nat) : Dt → Bool
  | .sc (.int i) => decide (0 - (w : Int) ≤ i ∧ i ≤ w)
  | _ => false
theorem isIntD_of {t : Dt} (h : isIntD t = true) : ∃ i, t = .sc (.int i) := by
  cases t with
  | sc s => cases s with
    | int i => exact ⟨i, rfl⟩
    | non => cases h
    | bl => cases h
    | str => cases h
  | tup => cases h
  | lst => cases h
  | dct => cases h
theorem isW_of {t : Dt} (h : isW t = true) : ∃ w : Nat, W3 w ∧ t = .sc (.int w) := by
  cases t with
  | sc s => cases s with
    | int i =>
      have h' : i = 8 ∨ i = 16 ∨ i = 32 := of_decide_eq_true h
      rcases h' with rfl | rfl | rfl
      · exact ⟨8, .inl rfl, rfl⟩
      · exact ⟨16, .inr (.inl rfl), rfl⟩
      · exact ⟨32, .inr (.inr rfl), rfl⟩
    | non => cases h
    | bl => cases h
    | str => cases h
  | tup => cases h
  | lst => cases h
  | dct => cases h
theorem isWord_of {w : Nat} {t : Dt} (h : isWord w t = true) : ∃ n : Nat, n < 2 ^ w ∧ t = .sc (.int n) := by
  cases t with
  | sc s => cases s with
    | int i =>
      have h' : 0 ≤ i ∧ i < (2 ^ w : Nat) := of_decide_eq_true h
      exact ⟨i.toNat, by omega, by rw [show ((i.toNat : Nat) : Int) = i by omega]⟩
    | non => cases h
    | bl => cases h
    | str => cases h
  | tup => cases h
  | lst => cases h
  | dct => cases h
theorem isWord_nat {w n : Nat} (h : n < 2 ^ w) : isWord w (.sc (.int n)) = true := decide_eq_true ⟨by omega, by omega⟩
theorem isW_nat {w : Nat} (h : W3 w) : isW (.sc (.int w)) = true := by
  rcases h with rfl | rfl | rfl <;> rfl
theorem noInt_noW {t : Dt} (h : isIntD t = false) : isW t = false ∧ (∀ w, isWord w t = false) ∧ ∀ w, isShift w t = false := by
  cases t with
  | sc s => cases s with
    | int i => cases h
    | non => exact ⟨rfl, fun _ => rfl, fun _ => rfl⟩
    | bl => exact ⟨rfl, fun _ => rfl, fun _ => rfl⟩
    | str => exact ⟨rfl, fun _ => rfl, fun _ => rfl⟩
  | tup => exact ⟨rfl, fun _ => rfl, fun _ => rfl⟩
  | lst => exact ⟨rfl, fun _ => rfl, fun _ => rfl⟩
  | dct => exact ⟨rfl, fun _ => rfl, fun _ => rfl⟩
theorem r_isIntD {K : PySem.W.Frag} {H : Hp} {Q : VK} {v : V} {t : Dt} (h : OdAt H v t) (q : Q (.bl (isIntD t || isBoolD t)) H) : rIsi K [v, .ty "int"] H Q := by
  refine ⟨v, .ty "int", _, .type "int", isIntD t || isBoolD t, rfl, .ty _, h.tyX, ?_, q⟩
  have h1 : kitB "NoneType" "int" = some false ∧ kitB "bool" "int" = some true ∧ kitB "int" "int" = some true ∧ kitB "str" "int" = some false ∧ kitB "tuple" "int" = some false ∧ kitB "list" "int" = some false ∧ kitB "dict" "int" = some false := by decide +kernel
  cases t with
  | sc s =>
    cases s with
    | non => exact kit_ty h1.1
    | bl b => exact kit_ty h1.2.1
    | int i => exact kit_ty h1.2.2.1
    | str x => exact kit_ty h1.2.2.2.1
  | tup l => exact kit_ty h1.2.2.2.2.1
  | lst l => exact kit_ty h1.2.2.2.2.2.1
  | dct l => exact kit_ty h1.2.2.2.2.2.2
theorem r_isBoolD {K : PySem.W.Frag} {H : Hp} {Q : VK} {v : V} {t : Dt} (h : OdAt H v t) (q : Q (.bl (isBoolD t)) H) : rIsi K [v, .ty "bool"] H Q := by
  refine ⟨v, .ty "bool", _, .type "bool", isBoolD t, rfl, .ty _, h.tyX, ?_, q⟩
  have h1 : kitB "NoneType" "bool" = some false ∧ kitB "bool" "bool" = some true ∧ kitB "int" "bool" = some false ∧ kitB "str" "bool" = some false ∧ kitB "tuple" "bool" = some false ∧ kitB "list" "bool" = some false ∧ kitB "dict" "bool" = some false := by decide +kernel
  cases t with
  | sc s =>
    cases s with
    | non => exact kit_ty h1.1
    | bl b => exact kit_ty h1.2.1
    | int i => exact kit_ty h1.2.2.1
    | str x => exact kit_ty h1.2.2.2.1
  | tup l => exact kit_ty h1.2.2.2.2.1
  | lst l => exact kit_ty h1.2.2.2.2.2.1
  | dct l => exact kit_ty h1.2.2.2.2.2.2
/-- what the text's classes are -/
structure TxtB (K : PySem.W.Frag) (mg : Str → Option Value) (C aW : Addr) : Prop extends Txt mg where
  cl : Cls K C
  n_width : NoAttr K C "width"
  n_shift : NoAttr K C "shift"
  n_keep : NoAttr K C "keep"
  n_flip : NoAttr K C "flip"
  mg_Blend : mg "Blend" = some (.ref C)
  mg_WIDTHS : mg "WIDTHS" = some (.ref aW)
  widths : ∀ H, SqT K H aW (([8, 16, 32] : List Int).map V.int)
def flB (w s k f : Int) : List (Str × V) := [("width", .int w), ("shift", .int s), ("keep", .int k), ("flip", .int f)]
/-- the blend of the width w: its numbers -/
structure Nm (w : Nat) (s : Int) (k f : Nat) : Prop where
  w3 : W3 w
  lo : 0 - (w : Int) ≤ s
  hi : s ≤ w
  kl : k < 2 ^ w
  fl : f < 2 ^ w
def BlendAt (C : Addr) (H : Hp) (p : Addr) (w : Nat) (s : Int) (k f : Nat) : Prop := Nm w s k f ∧ ∃ dx, H p = some (.ins C dx (flB w s k f))
theorem BlendAt.up {C : Addr} {H H' : Hp} {p : Addr} {w : Nat} {s : Int} {k f : Nat} (h : BlendAt C H p w s k f) (e : Same H H') : BlendAt C H' p w s k f := by
  obtain ⟨n, dx, g⟩ := h
  exact ⟨n, dx, e _ _ g⟩
def spInt : Sp := fun vs H Q _ => ∃ (v : V) (t : Dt), vs = [v] ∧ OdAt H v t ∧ Q (.bl (isIntD t)) H
def spNW (CE : Addr) : Sp := fun vs H Q E => ∃ (v : V) (t : Dt), vs = [v] ∧ OdAt H v t ∧ (isW t = true → Q .non H) ∧ (isW t = false → ∀ d H', Same H H' → H' d = some (.xd [("value", v)]) → E (.ref CE) (some d) H')
def spOnes : Sp := fun vs H Q _ => ∃ w : Nat, vs = [.int w] ∧ w ≤ 32 ∧ Q (.int (KBL.onesN w : Nat)) H
def spIsWord : Sp := fun vs H Q _ => ∃ (w : Nat) (v : V) (t : Dt), vs = [.int w, v] ∧ W3 w ∧ OdAt H v t ∧ Q (.bl (isWord w t)) H
def spNeed (CE : Addr) : Sp := fun vs H Q E => ∃ (w : Nat) (v : V) (t : Dt), vs = [.int w, v] ∧ W3 w ∧ OdAt H v t ∧ (isWord w t = true → Q .non H) ∧ (isWord w t = false → ∀ d H', Same H H' → H' d = some (.xd [("value", v)]) → E (.ref CE) (some d) H')
def spSh : Sp := fun vs H Q _ => ∃ (w v : Nat) (s : Int), vs = [.int v, .int w, .int s] ∧ W3 w ∧ v < 2 ^ w ∧ 0 - (w : Int) ≤ s ∧ s ≤ w ∧ Q (.int (KBL.shN w v s : Nat)) H
/-- the mask that is meant -/
def maskOf (w : Nat) : Dt → Nat
  | .sc (.int i) => i.toNat
  | _ => KBL.onesN w
def isNoneD : Dt → Bool
  | .sc .non => true
  | _ => false
/-- Blend(v1, v2, v3, v4); cW, cS, cR: InvalidWidth, InvalidShift, InvalidWord -/
def spBlend (C cW cS cR : Addr) : Sp := fun vs H Q E => ∃ (p dx : Addr) (v1 v2 v3 v4 : V) (t1 t2 t3 t4 : Dt), vs = [.ref p, v1, v2, v3, v4] ∧ H p = some (.ins C dx []) ∧ OdAt H v1 t1 ∧ OdAt H v2 t2 ∧ OdAt H v3 t3 ∧ OdAt H v4 t4 ∧
  (isW t1 = false → ∀ d H', Same H H' → H' d = some (.xd [("value", v1)]) → E (.ref cW) (some d) H') ∧
  (∀ w : Nat, t1 = .sc (.int w) → W3 w → isShift w t2 = false → ∀ d H', Same H H' → H' d = some (.xd [("value", v2)]) → E (.ref cS) (some d) H') ∧
  (∀ w : Nat, t1 = .sc (.int w) → W3 w → isShift w t2 = true → isNoneD t3 = false → isWord w t3 = false → ∀ d H', Same H H' → H' d = some (.xd [("value", v3)]) → E (.ref cR) (some d) H') ∧
  (∀ w : Nat, t1 = .sc (.int w) → W3 w → isShift w t2 = true → (isNoneD t3 = true ∨ isWord w t3 = true) → isWord w t4 = false → ∀ d H', Same H H' → H' d = some (.xd [("value", v4)]) → E (.ref cR) (some d) H') ∧
  (∀ (w : Nat) (s : Int) (f : Nat), t1 = .sc (.int w) → t2 = .sc (.int s) → t4 = .sc (.int f) → (isNoneD t3 = true ∨ isWord w t3 = true) → Nm w s (KBL.keepN w s (maskOf w t3)) f → ∀ H', BlendAt C H' p w (KBL.shiftN w s (maskOf w t3)) (KBL.keepN w s (maskOf w t3)) f → Keep p H H' → Q .non H')
def spBEq (K : PySem.W.Frag) (C : Addr) : Sp := fun vs H Q _ => (∃ (p p' : Addr) (w w' : Nat) (s s' : Int) (k k' f f' : Nat), vs = [.ref p, .ref p'] ∧ BlendAt C H p w s k f ∧ BlendAt C H p' w' s' k' f' ∧ Q (.bl (decide (w = w' ∧ s = s' ∧ k = k' ∧ f = f'))) H) ∨
  ∃ (p : Addr) (y : V) (w : Nat) (s : Int) (k f : Nat) (T : String), vs = [.ref p, y] ∧ BlendAt C H p w s k f ∧ TyX K H y (.type T) ∧ PySem.W.kitOne K (.type T) (.ref C) = some false ∧ Q (.bl false) H
def spBRepr (C : Addr) : Sp := fun vs H Q _ => ∃ (p : Addr) (w : Nat) (s : Int) (k f : Nat), vs = [.ref p] ∧ BlendAt C H p w s k f ∧ Q (.str (KBL.bText w s k f)) H
def spBCall (C cR : Addr) : Sp := fun vs H Q E => ∃ (p : Addr) (w : Nat) (s : Int) (k f : Nat) (v : V) (t : Dt), vs = [.ref p, v] ∧ BlendAt C H p w s k f ∧ OdAt H v t ∧
  (∀ n : Nat, n < 2 ^ w → t = .sc (.int n) → Q (.int ((f ^^^ (k &&& KBL.shN w n s) : Nat) : Int)) H) ∧ (isWord w t = false → ∀ d H', Same H H' → H' d = some (.xd [("value", v)]) → E (.ref cR) (some d) H')
theorem non_of {H : Hp} {v : V} {t : Dt} (h : OdAt H v t) : (isNoneD t = true → v = .non) ∧ (isNoneD t = false → v ≠ .non) := by
  cases t with
  | sc s =>
    obtain rfl : v = s.v := h
    cases s with
    | non => exact ⟨fun _ => rfl, fun z => by cases z⟩
    | bl => exact ⟨(fun z => by cases z), fun _ z => by cases z⟩
    | int => exact ⟨(fun z => by cases z), fun _ z => by cases z⟩
    | str => exact ⟨(fun z => by cases z), fun _ z => by cases z⟩
  | tup l => obtain ⟨a, rfl, _⟩ := h; exact ⟨(fun z => by cases z), fun _ z => by cases z⟩
  | lst l => obtain ⟨a, rfl, _⟩ := h; exact ⟨(fun z => by cases z), fun _ z => by cases z⟩
  | dct l => obtain ⟨a, rfl, _⟩ := h; exact ⟨(fun z => by cases z), fun _ z => by cases z⟩
theorem keep_ones (w : Nat) (s : Int) : KBL.shN w (KBL.onesN w) s = KBL.keepN w s (KBL.onesN w) := by
  unfold KBL.keepN
  conv => rhs; rw [show KBL.onesN w = 2 ^ w - 1 from rfl]
  rw [Nat.and_two_pow_sub_one_eq_mod]
  exact (Nat.mod_eq_of_lt (KBL.sh_lt (KBL.ones_lt w))).symm
/-! ### {8: a, 16: b, 32: c}[w] -/
def pickW (w : Nat) (a b c : Int) : Int := if w = 8 then a else if w = 16 then b else c
section
variable {P : Program} {w : World} {K : PySem.W.Frag} {mg : Str → Option Value} {base : Heap}
theorem ok_int {f : Addr} {fd : FuncData} {k : Nat} (F : Fun K "is_integer" "is_integer" s_is_integer f fd) (T : Txt mg) : FnOk P w K mg base CX0 (k + 1) f fd ["value"] spInt := by
  refine F.ok sc_is_integer (fun vs H Q E h => ?_) (fun cdv A outer s H vs Q E hr h => ?_)
  · obtain ⟨v, t, rfl, _⟩ := h
    rfl
  · obtain ⟨v, t, rfl, od, q⟩ := h
    refine ⟨_, (pss_one (ps_ret (pe_and (pe_callB call_isi (by rfl) T.z_isinstance (by decide +kernel) (pa_cons (pv 0) (pa_cons (pe_bltn (v := .ty "int") (by rfl) T.z_int (by decide +kernel) rfl) pa_nil))) (pe_one (pe_not (pe_callB call_isi (by rfl) T.z_isinstance (by decide +kernel) (pa_cons (pv 0) (pa_cons (pe_bltn (v := .ty "bool") (by rfl) T.z_bool (by decide +kernel) rfl) pa_nil)))))))), at_start (σ := [some v]) rfl ?_⟩
    try dsimp only [cx_K]
    walk_at "rd"
    refine r_isIntD od ?_
    walk_at "rd"
    refine r_iteB (fun h => ?_) (fun h => ?_)
    · walk_at "rd"
      refine r_isBoolD od ?_
      walk_at "rd"
      have e : (!isBoolD t) = isIntD t := by
        cases t with
        | sc s => cases s <;> first | rfl | cases h
        | tup => cases h
        | lst => cases h
        | dct => cases h
      rw [e]
      exact q
    · have e : isIntD t = false := by
        cases hh : isIntD t with
        | false => rfl
        | true => rw [hh] at h; cases h
      rw [e] at q
      walk_at "rd"
      exact q
theorem ok_nw {f C aW CE : Addr} {fd : FuncData} (F : Fun K "need_width" "need_width" s_need_width f fd) (T : TxtB K mg C aW) (e_InvalidWidth : KX.ErrMk P w K mg base CE "InvalidWidth" "value") (c_is_integer : KB.Callee P w K mg base CX0 1 "is_integer" ["value"] spInt) : FnOk P w K mg base (L2.CX P w) 3 f fd ["width"] (spNW CE) := by
  refine F.okX sc_need_width (fun vs H Q E h => ?_) (fun cdv A outer s H vs Q E hr h => ?_)
  · obtain ⟨v, t, rfl, _⟩ := h
    rfl
  · obtain ⟨v, t, rfl, od, q, x⟩ := h
    refine ⟨_, (pss_one (ps_if (PW.pt (pw_or (pt_not (pt_val (pe_callC c_is_integer (hr.mono (by decide)) (by rfl) pass0 (pa_cons (pv 0) pa_nil)))) (pw_or1 (pt_cmpR op_notIn_seq (pv 0) (pe_glob (v := .ref _) (by rfl) T.mg_WIDTHS rfl) (by rfl))))) (pss_one (ps_raise rfl KL.def_takes (KX.pmkC e_InvalidWidth (hr.mono (by decide)) (by rfl) (pa_cons (pv 0) pa_nil))))
 pss_nil)), at_start (σ := [some v]) rfl ?_⟩
    try dsimp only [KC.cx_KX]
    walk_at "rd"
    refine ⟨v, t, rfl, od, ?_⟩
    walk_at "rd"
    refine r_iteBN (fun z => ?_) (fun z => ?_)
    · walk_at "rd"
      refine KX.r_raiseO ?_ KX.mono_var
      walk_at "rd"
      exact fun d H' sm hd => x (noInt_noW z).1 d H' sm hd
    · obtain ⟨i, rfl⟩ := isIntD_of z
      obtain rfl : v = .int i := od
      walk_at "rd"
      refine r_notInI (zs := [8, 16, 32]) (.inr (T.widths _)) ?_
      walk_at "rd"
      refine r_iteN2 (fun h => ?_) (fun h => ?_)
      · walk_at "rd"
        refine KX.r_raiseO ?_ KX.mono_var
        walk_at "rd"
        exact fun d H' sm hd => x (decide_eq_false (fun y => h (by simpa using y))) d H' sm hd
      · walk_at "rd"
        exact q (decide_eq_true (by simpa using h))
theorem ok_ones {f : Addr} {fd : FuncData} {k : Nat} (F : Fun K "ones" "ones" s_ones f fd) : FnOk P w K mg base CX0 (k + 1) f fd ["width"] spOnes := by
  refine F.ok sc_ones (fun vs H Q E h => ?_) (fun cdv A outer s H vs Q E hr h => ?_)
  · obtain ⟨v, rfl, _⟩ := h
    rfl
  · obtain ⟨w, rfl, hw, q⟩ := h
    refine ⟨_, (pss_one (ps_ret (pe_op op_sub (pe_op op_shl pe_int (pv 0)) pe_int))), at_start (σ := [some (.int w)]) rfl ?_⟩
    try dsimp only [cx_K]
    walk_at "rd"
    have e : ((1 : Int) * 2 ^ ((w : Int)).toNat - 1) = ((KBL.onesN w : Nat) : Int) := by
      have := Nat.two_pow_pos w
      unfold KBL.onesN
      rw [Int.toNat_natCast, Int.one_mul, Int.natCast_sub (by omega), Int.natCast_pow]
      rfl
    rw [e]
    exact q
theorem ok_sh {f : Addr} {fd : FuncData} (F : Fun K "shifted" "shifted" s_shifted f fd) (c_ones : KB.Callee P w K mg base CX0 1 "ones" ["width"] spOnes) : FnOk P w K mg base CX0 2 f fd ["value", "width", "shift"] spSh := by
  refine F.ok sc_shifted (fun vs H Q E h => ?_) (fun cdv A outer s H vs Q E hr h => ?_)
  · obtain ⟨w, v, s, rfl, _⟩ := h
    rfl
  · obtain ⟨w, v, s, rfl, w3, hv, lo, hi, q⟩ := h
    have wl := w3.le
    have wp := w3.pow
    unfold KBL.shN at q
    refine ⟨_, (pss_cons (ps_if (pt_cmpR op_lt (pv 2) pe_int (nomark _)) (pss_one (ps_ret (pe_op op_shr (pv 0) (pe_op op_sub pe_int (pv 2)))))
 pss_nil)
 (pss_one (ps_ret (pe_op op_and (pe_op op_shl (pv 0) (pv 2)) (pe_callC c_ones (hr.mono (by decide)) (by rfl) pass0 (pa_cons (pv 1) pa_nil)))))), at_start (σ := [some (.int v), some (.int w), some (.int s)]) rfl ?_⟩
    try dsimp only [cx_K]
    walk_at "rd"
    refine r_ite2 (fun h => ?_) (fun h => ?_)
    · rw [if_pos h] at q
      walk_at "rd"
      rw [KBL.ofShr]
      exact q
    · rw [if_neg h] at q
      walk_at "rd"
      refine ⟨w, rfl, wl.2, ?_⟩
      walk_at "rd"
      rw [KBL.shl_and]
      exact q
theorem ok_isword {f C aW CE : Addr} {fd : FuncData} (F : Fun K "is_word" "is_word" s_is_word f fd) (c_need_width : KB.Callee P w K mg base (L2.CX P w) 3 "need_width" ["width"] (spNW CE)) (c_is_integer : KB.Callee P w K mg base CX0 1 "is_integer" ["value"] spInt) (c_ones : KB.Callee P w K mg base CX0 1 "ones" ["width"] spOnes) : FnOk P w K mg base CX0 4 f fd ["width", "value"] spIsWord := by
  refine F.ok sc_is_word (fun vs H Q E h => ?_) (fun cdv A outer s H vs Q E hr h => ?_)
  · obtain ⟨w, v, t, rfl, _⟩ := h
    rfl
  · obtain ⟨w, v, t, rfl, w3, od, q⟩ := h
    have wl := w3.le
    refine ⟨_, (pss_cons (ps_expr (pe_callC c_need_width (hr.mono (by decide)) (by rfl) passL (pa_cons (pv 0) pa_nil)))
 (pss_one (ps_ret (pe_and (pe_callC c_is_integer (hr.mono (by decide)) (by rfl) pass0 (pa_cons (pv 1) pa_nil)) (pe_one (pe_chain op_le op_le pe_int (pv 1) (pe_callC c_ones (hr.mono (by decide)) (by rfl) pass0 (pa_cons (pv 0) pa_nil)))))))), at_start (σ := [some (.int w), some v]) rfl ?_⟩
    try dsimp only [cx_K]
    walk_at "rd"
    refine ⟨_, .sc (.int w), rfl, rfl, fun _ => ?_, fun z => by rw [isW_nat w3] at z; cases z⟩
    walk_at "rd"
    refine ⟨v, t, rfl, od, ?_⟩
    walk_at "rd"
    refine r_iteB (fun z => ?_) (fun z => ?_)
    · obtain ⟨i, rfl⟩ := isIntD_of z
      obtain rfl : v = .int i := od
      walk_at "rd"
      have e : isWord w (.sc (.int i)) = decide (0 ≤ i ∧ i ≤ (KBL.onesN w : Nat)) := by
        have := Nat.two_pow_pos w
        show decide (0 ≤ i ∧ i < (2 ^ w : Nat)) = _
        unfold KBL.onesN
        by_cases h : 0 ≤ i ∧ i < (2 ^ w : Nat)
        · rw [decide_eq_true h, decide_eq_true (by omega)]
        · rw [decide_eq_false h, decide_eq_false (by omega)]
      rw [e] at q
      refine KC.r_chain ?_
      walk_at "rd"
      refine r_ite2 (fun h => ?_) (fun h => ?_)
      · walk_at "rd"
        refine ⟨w, rfl, wl.2, ?_⟩
        walk_at "rd"
        have e2 : decide (i ≤ ((KBL.onesN w : Nat) : Int)) = decide (0 ≤ i ∧ i ≤ (KBL.onesN w : Nat)) := by
          by_cases h2 : i ≤ ((KBL.onesN w : Nat) : Int)
          · rw [decide_eq_true h2, decide_eq_true ⟨h, h2⟩]
          · rw [decide_eq_false h2, decide_eq_false (fun y => h2 y.2)]
        rw [e2]
        exact q
      · walk_at "rd"
        rw [decide_eq_false (fun y => h y.1)] at q
        exact q
    · walk_at "rd"
      rw [(noInt_noW z).2.1 w] at q
      exact q
theorem ok_need {f CE : Addr} {fd : FuncData} (F : Fun K "need_word" "need_word" s_need_word f fd) (e_InvalidWord : KX.ErrMk P w K mg base CE "InvalidWord" "value") (c_is_word : KB.Callee P w K mg base CX0 4 "is_word" ["width", "value"] spIsWord) : FnOk P w K mg base (L2.CX P w) 5 f fd ["width", "value"] (spNeed CE) := by
  refine F.okX sc_need_word (fun vs H Q E h => ?_) (fun cdv A outer s H vs Q E hr h => ?_)
  · obtain ⟨w, v, t, rfl, _⟩ := h
    rfl
  · obtain ⟨w, v, t, rfl, w3, od, q, x⟩ := h
    refine ⟨_, (pss_one (ps_if (pt_not (pt_val (pe_callC c_is_word (hr.mono (by decide)) (by rfl) pass0 (pa_cons (pv 0) (pa_cons (pv 1) pa_nil))))) (pss_one (ps_raise rfl KL.def_takes (KX.pmkC e_InvalidWord (hr.mono (by decide)) (by rfl) (pa_cons (pv 1) pa_nil))))
 pss_nil)), at_start (σ := [some (.int w), some v]) rfl ?_⟩
    try dsimp only [KC.cx_KX]
    walk_at "rd"
    refine ⟨w, v, t, rfl, w3, od, ?_⟩
    walk_at "rd"
    refine r_iteBN (fun z => ?_) (fun z => ?_)
    · walk_at "rd"
      refine KX.r_raiseO ?_ KX.mono_var
      walk_at "rd"
      exact fun d H' sm hd => x z d H' sm hd
    · walk_at "rd"
      exact q z
theorem ok_blend {f C aW cW cS cR : Addr} {fd : FuncData} (F : FunD K "__init__" "Blend.__init__" (defArgs s_Blend___init__) (defBody s_Blend___init__) (defScope s_Blend___init__) [.int 0, .non, .int 0] [] f fd) (T : TxtB K mg C aW) (e_InvalidShift : KX.ErrMk P w K mg base cS "InvalidShift" "value")
    (c_need_width : KB.Callee P w K mg base (L2.CX P w) 3 "need_width" ["width"] (spNW cW)) (c_is_integer : KB.Callee P w K mg base CX0 1 "is_integer" ["value"] spInt) (c_need_word : KB.Callee P w K mg base (L2.CX P w) 5 "need_word" ["width", "value"] (spNeed cR))
    (c_ones : KB.Callee P w K mg base CX0 1 "ones" ["width"] spOnes) (c_shifted : KB.Callee P w K mg base CX0 2 "shifted" ["value", "width", "shift"] spSh) : FnOk P w K mg base (L2.CX P w) 6 f fd ["self", "width", "shift", "keep", "flip"] (spBlend C cW cS cR) := by
  refine F.ok sc_Blend___init__ (fun vs H Q E h => ?_) (fun cdv A outer s H vs Q E hr h => ?_)
  · obtain ⟨p, dx, v1, v2, v3, v4, t1, t2, t3, t4, rfl, _⟩ := h
    rfl
  · obtain ⟨p, dx, v1, v2, v3, v4, t1, t2, t3, t4, rfl, hp, o1, o2, o3, o4, x1, x2, x3, x4, q⟩ := h
    refine ⟨_, (pss_cons (ps_expr (pe_callC c_need_width (hr.mono (by decide)) (by rfl) (passes_call KL.def_takes fun _ _ _ _ h => h) (pa_cons (pv 1) pa_nil)))
 (pss_cons (ps_if (PW.pt (pw_or (pt_not (pt_val (pe_callC c_is_integer (hr.mono (by decide)) (by rfl) pass0 (pa_cons (pv 2) pa_nil)))) (pw_or1 (pt_not (pt_chain op_le op_le (pe_op op_sub pe_int (pv 1)) (pv 2) (pv 1)))))) (pss_one (ps_raise rfl KL.def_takes (KX.pmkC e_InvalidShift (hr.mono (by decide)) (by rfl) (pa_cons (pv 2) pa_nil))))
 pss_nil)
 (Evl.pss_cut (ps_if (pt_cmpR op_notN (pv 3) pe_non (nomark _)) (pss_one (ps_expr (pe_callC c_need_word (hr.mono (by decide)) (by rfl) (passes_call KL.def_takes fun _ _ _ _ h => h) (pa_cons (pv 1) (pa_cons (pv 3) pa_nil)))))
 pss_nil)
 (pss_cons (ps_expr (pe_callC c_need_word (hr.mono (by decide)) (by rfl) (passes_call KL.def_takes fun _ _ _ _ h => h) (pa_cons (pv 1) (pa_cons (pv 4) pa_nil))))
 (pss_cons (ps_set (i := 5) sc_Blend___init__.nd rfl (by first | exact Or.inl rfl | exact Or.inr rfl) (pe_callC c_shifted (hr.mono (by decide)) (by rfl) pass0 (pa_cons (pe_callC c_ones (hr.mono (by decide)) (by rfl) pass0 (pa_cons (pv 1) pa_nil)) (pa_cons (pv 1) (pa_cons (pv 2) pa_nil)))))
 (Evl.pss_cut (ps_if (pt_cmpR op_notN (pv 3) pe_non (nomark _)) (pss_one (ps_set (i := 5) sc_Blend___init__.nd rfl (by first | exact Or.inl rfl | exact Or.inr rfl) (pe_op op_and (pv 5) (pv 3))))
 pss_nil)
 (pss_cons (ps_fld (pv 0) (pv 1) rfl)
 (pss_cons (ps_fld (pv 0) (pe_ifExp (pt_cmpR op_eq (pv 5) pe_int (nomark _)) pe_int (pv 2)) rfl)
 (pss_cons (ps_fld (pv 0) (pv 5) rfl)
 (pss_one (ps_fld (pv 0) (pv 4) rfl))))))))))), at_start (σ := [some (.ref p), some v1, some v2, some v3, some v4, none]) rfl ?_⟩
    try dsimp only [KC.cx_KX]
    walk_at "rd"
    refine ⟨v1, t1, rfl, o1, fun hw => ?_, fun hw d H' sm hd => x1 hw d H' sm hd⟩
    obtain ⟨w, w3, rfl⟩ := isW_of hw
    obtain rfl : v1 = .int w := o1
    replace x2 := x2 w rfl w3
    replace x3 := x3 w rfl w3
    replace x4 := x4 w rfl w3
    walk_at "rd"
    refine ⟨v2, t2, rfl, o2, ?_⟩
    walk_at "rd"
    refine r_iteBN (fun z => ?_) (fun z => ?_)
    · walk_at "rd"
      refine KX.r_raiseO ?_ KX.mono_var
      walk_at "rd"
      exact fun d H' sm hd => x2 ((noInt_noW z).2.2 w) d H' sm hd
    obtain ⟨sh, rfl⟩ := isIntD_of z
    obtain rfl : v2 = .int sh := o2
    walk_at "rd"
    refine KC.r_chain ?_
    walk_at "rd"
    have bad : ¬ (0 - (w : Int) ≤ sh ∧ sh ≤ w) → ∀ (d : Addr) (H' : Hp), Same H H' → H' d = some (.xd [("value", .int sh)]) → E (.ref cS) (some d) H' := fun y => x2 (decide_eq_false y)
    refine r_ite2 (fun lo => ?_) (fun lo => ?_)
    rotate_left
    · walk_at "rd"
      refine KX.r_raiseO ?_ KX.mono_var
      walk_at "rd"
      exact bad fun y => lo y.1
    walk_at "rd"
    refine r_iteN2 (fun hi => ?_) (fun hi => ?_)
    · walk_at "rd"
      refine KX.r_raiseO ?_ KX.mono_var
      walk_at "rd"
      exact bad fun y => hi y.2
    have yes : isShift w (.sc (.int sh)) = true := decide_eq_true ⟨lo, hi⟩
    replace x3 := x3 yes
    replace x4 := x4 yes
    clear x1 x2 bad
    obtain ⟨nn1, nn2⟩ := non_of o3
    walk_at "rd"
    refine ⟨fun σ' H' => σ' = [some (.ref p), some (.int w), some (.int sh), some v3, some v4, none] ∧ H' = H ∧ (isNoneD t3 = true ∨ isWord w t3 = true), ?_, ?_⟩
    · walk_at "rd"
      refine r_iteN2 (fun hn => ?_) (fun hn => ?_)
      · have hn' : isNoneD t3 = false := by
          cases e : isNoneD t3 with
          | false => rfl
          | true => exact absurd (nn1 e) hn
        walk_at "rd"
        refine ⟨w, v3, t3, rfl, w3, o3, fun y => ?_, fun y d H' sm hd => x3 hn' y d H' sm hd⟩
        exact ⟨rfl, rfl, .inr y⟩
      · have hn' : isNoneD t3 = true := by
          cases e : isNoneD t3 with
          | true => rfl
          | false => exact absurd hn (nn2 e)
        walk_at "rd"
        exact ⟨rfl, rfl, .inl hn'⟩
    rintro σ' H' ⟨rfl, rfl, hm⟩
    replace x4 := x4 hm
    clear x3
    walk_at "rd"
    refine ⟨w, v4, t4, rfl, w3, o4, fun y => ?_, fun y d H'' sm hd => x4 y d H'' sm hd⟩
    obtain ⟨f4, fl, rfl⟩ := isWord_of y
    obtain rfl : v4 = .int f4 := o4
    clear x4
    walk_at "rd"
    refine ⟨w, rfl, w3.le.2, ?_⟩
    walk_at "rd"
    refine ⟨w, KBL.onesN w, sh, rfl, w3, KBL.ones_lt w, lo, hi, ?_⟩
    walk_at "rd"
    refine ⟨fun σ' H'' => σ' = [some (.ref p), some (.int w), some (.int sh), some v3, some (.int f4), some (.int ((KBL.keepN w sh (maskOf w t3) : Nat) : Int))] ∧ H'' = H', ?_, ?_⟩
    · walk_at "rd"
      refine r_iteN2 (fun hn => ?_) (fun hn => ?_)
      · obtain ⟨n3, l3, rfl⟩ : ∃ n : Nat, n < 2 ^ w ∧ t3 = .sc (.int n) := by
          rcases hm with y | y
          · exact absurd (nn1 y) hn
          · exact isWord_of y
        obtain rfl : v3 = .int n3 := o3
        walk_at "rd"
        rw [KBL.bAnd]
        exact ⟨rfl, rfl⟩
      · have e3 : maskOf w t3 = KBL.onesN w := by
          rcases hm with y | y
          · cases t3 with
            | sc s => cases s <;> first | rfl | cases y
            | tup => rfl
            | lst => rfl
            | dct => rfl
          · obtain ⟨n, _, rfl⟩ := isWord_of y
            obtain rfl : v3 = .int n := o3
            cases hn
        walk_at "rd"
        rw [keep_ones, ← e3]
        exact ⟨rfl, rfl⟩
    rintro σ' H'' ⟨rfl, rfl⟩
    have nm : Nm w sh (KBL.keepN w sh (maskOf w t3)) f4 := ⟨w3, lo, hi, KBL.keep_lt _ _ _, fl⟩
    replace q := q w sh f4 rfl rfl rfl hm nm
    walk_at "rd"
    refine ⟨p, C, dx, _, rfl, hp, T.cl, T.n_width, (by decide), ?_⟩
    walk_at "rd"
    have fin : ∀ s' : Int, s' = KBL.shiftN w sh (maskOf w t3) → Q .non (upd (upd (upd (upd H'' p (.ins C dx (putF "width" (.int w) []))) p (.ins C dx (putF "shift" (.int s') (putF "width" (.int w) [])))) p (.ins C dx (putF "keep" (.int ((KBL.keepN w sh (maskOf w t3) : Nat) : Int)) (putF "shift" (.int s') (putF "width" (.int w) []))))) p (.ins C dx (putF "flip" (.int f4) (putF "keep" (.int ((KBL.keepN w sh (maskOf w t3) : Nat) : Int)) (putF "shift" (.int s') (putF "width" (.int w) [])))))) := by
      intro s' e
      subst e
      have nm2 : Nm w (KBL.shiftN w sh (maskOf w t3)) (KBL.keepN w sh (maskOf w t3)) f4 := by
        refine ⟨w3, ?_, ?_, nm.kl, fl⟩
        · unfold KBL.shiftN; split <;> omega
        · unfold KBL.shiftN; split <;> omega
      refine q _ ⟨nm2, dx, upd_same⟩ fun b o e hb => ?_
      rw [upd_ne hb, upd_ne hb, upd_ne hb, upd_ne hb]
      exact e
    refine r_ite2 (fun h => ?_) (fun h => ?_)
    · have h' : KBL.keepN w sh (maskOf w t3) = 0 := by have := V.int.inj h; omega
      walk_at "rd"
      refine ⟨p, C, dx, _, rfl, upd_same, T.cl, T.n_shift, putF_lt0 (by decide), ?_⟩
      walk_at "rd"
      refine ⟨p, C, dx, _, rfl, upd_same, T.cl, T.n_keep, putF_lt0 (putF_lt (by decide)), ?_⟩
      walk_at "rd"
      refine ⟨p, C, dx, _, rfl, upd_same, T.cl, T.n_flip, putF_lt0 (putF_lt (putF_lt (by decide))), ?_⟩
      exact fin 0 (by unfold KBL.shiftN; rw [if_pos h'])
    · have h' : ¬ KBL.keepN w sh (maskOf w t3) = 0 := fun z => h (by rw [z]; rfl)
      walk_at "rd"
      refine ⟨p, C, dx, _, rfl, upd_same, T.cl, T.n_shift, putF_lt0 (by decide), ?_⟩
      walk_at "rd"
      refine ⟨p, C, dx, _, rfl, upd_same, T.cl, T.n_keep, putF_lt0 (putF_lt (by decide)), ?_⟩
      walk_at "rd"
      refine ⟨p, C, dx, _, rfl, upd_same, T.cl, T.n_flip, putF_lt0 (putF_lt (putF_lt (by decide))), ?_⟩
      exact fin sh (by unfold KBL.shiftN; rw [if_neg h'])

theorem ok_beq {f C aW : Addr} {fd : FuncData} {k : Nat} (F : Fun K "__eq__" "Blend.__eq__" s_Blend___eq__ f fd) (T : TxtB K mg C aW) (ty : ∀ {H : Hp} {a dx : Addr} {fs : List (Str × V)}, H a = some (.ins C dx fs) → TyX K H (.ref a) (.ref C)) (isi : PySem.W.kitOne K (.ref C) (.ref C) = some true) : FnOk P w K mg base CX0 (k + 1) f fd ["self", "other"] (spBEq K C) := by
  refine F.ok sc_Blend___eq__ (fun vs H Q E h => ?_) (fun cdv A outer s H vs Q E hr h => ?_)
  · rcases h with ⟨p, p', w, w', s, s', k, k', f, f', rfl, _⟩ | ⟨p, y, w, s, k, f, T, rfl, _⟩ <;> rfl
  · rcases h with ⟨p, p', w, w', s, s', k, k', f, f', rfl, ⟨n1, dx, h1⟩, ⟨n2, dx', h2⟩, q⟩ | ⟨p, y, w, s, k, f, tn, rfl, ⟨n1, dx, h1⟩, tyx, kit, q⟩
    · refine ⟨_, (pss_one (ps_ret (pe_and (pe_callB call_isi (by rfl) T.z_isinstance (by decide +kernel) (pa_cons (pv 1) (pa_cons (pe_glob (v := .ref _) (by rfl) T.mg_Blend rfl) pa_nil))) (pe_and (pe_cmpR op_eq (pe_fld (pv 0) rfl) (pe_fld (pv 1) rfl) (nomark _)) (pe_and (pe_cmpR op_eq (pe_fld (pv 0) rfl) (pe_fld (pv 1) rfl) (nomark _)) (pe_and (pe_cmpR op_eq (pe_fld (pv 0) rfl) (pe_fld (pv 1) rfl) (nomark _)) (pe_one (pe_cmpR op_eq (pe_fld (pv 0) rfl) (pe_fld (pv 1) rfl) (nomark _))))))))), at_start (σ := [some (.ref p), some (.ref p')]) rfl ?_⟩
      dsimp only [cx_K]
      have cl := T.cl; have nw := T.n_width; have ns := T.n_shift; have nk := T.n_keep; have nf := T.n_flip
      walk_at "rd"
      refine ⟨_, _, _, _, true, rfl, .own C, ty h2, isi, ?_⟩
      walk_at "rd"
      refine r_iteI2 (fun a => ?_) (fun a => ?_)
      rotate_left
      · walk_at "rd"
        rw [decide_eq_false (fun z => a (by rw [z.1]))] at q
        exact q
      walk_at "rd"
      refine r_iteI2 (fun b => ?_) (fun b => ?_)
      rotate_left
      · walk_at "rd"
        rw [decide_eq_false (fun z => b z.2.1)] at q
        exact q
      walk_at "rd"
      refine r_iteI2 (fun c => ?_) (fun c => ?_)
      rotate_left
      · walk_at "rd"
        rw [decide_eq_false (fun z => c (by rw [z.2.2.1]))] at q
        exact q
      walk_at "rd"
      have e : decide (V.int (f : Int) = V.int (f' : Int)) = decide (w = w' ∧ s = s' ∧ k = k' ∧ f = f') := by
        by_cases z : f = f'
        · rw [decide_eq_true (by rw [z]), decide_eq_true ⟨by omega, b, by omega, z⟩]
        · rw [decide_eq_false (fun y => z (by have := V.int.inj y; omega)), decide_eq_false (fun y => z y.2.2.2)]
      rw [e]
      exact q
    · refine ⟨_, (pss_one (ps_ret (pe_and (pe_callB call_isi (by rfl) T.z_isinstance (by decide +kernel) (pa_cons (pv 1) (pa_cons (pe_glob (v := .ref _) (by rfl) T.mg_Blend rfl) pa_nil))) (pe_and (pe_cmpR op_eq (pe_fld (pv 0) rfl) (pe_fld (pv 1) rfl) (nomark _)) (pe_and (pe_cmpR op_eq (pe_fld (pv 0) rfl) (pe_fld (pv 1) rfl) (nomark _)) (pe_and (pe_cmpR op_eq (pe_fld (pv 0) rfl) (pe_fld (pv 1) rfl) (nomark _)) (pe_one (pe_cmpR op_eq (pe_fld (pv 0) rfl) (pe_fld (pv 1) rfl) (nomark _))))))))), at_start (σ := [some (.ref p), some y]) rfl ?_⟩
      dsimp only [cx_K]
      walk_at "rd"
      refine ⟨_, _, _, _, false, rfl, .own C, tyx, kit, ?_⟩
      walk_at "rd"
      exact q

end
end K35


namespace K35
open PySem L2 KB KO KY KV KTr
/-! ### names and numbers of any value -/
def CAPS : Str := "ABCDEFGHIJKLMNOPQRSTUVWXYZ"
def INNS : Str := "ABCDEFGHIJKLMNOPQRSTUVWXYZ0123456789_"
structure TxtN (mg : Str → Option Value) : Prop extends Txt mg where
  g_CAPITALS : ∃ tk, mg "CAPITALS" = some (.str CAPS tk)
  g_INNER : ∃ tk, mg "INNER" = some (.str INNS tk)
  g_LONGEST : ∃ tk, mg "LONGEST" = some (.int 8 tk)
def madeB (f o z : Str) : Bool := decide (1 ≤ z.cps.toList.length ∧ z.cps.toList.length ≤ 8) && decide ((z.cps.toList.headD 0) ∈ f.cps.toList) && z.cps.toList.tail.all fun c => decide (c ∈ o.cps.toList)
def isMade (f o : Str) : Tr → Bool
  | .sc (.str z) => madeB f o z
  | _ => false
abbrev isNm (t : Tr) : Bool := isMade CAPS INNS t
def isNum (lo hi : Int) : Tr → Bool
  | .sc (.int i) => decide (lo ≤ i ∧ i ≤ hi)
  | _ => false
theorem isNum_of {lo hi : Int} {t : Tr} (h : isNum lo hi t = true) : ∃ i, t = .sc (.int i) ∧ lo ≤ i ∧ i ≤ hi := by
  cases t with
  | sc s =>
    cases s with
    | int i => exact ⟨i, rfl, of_decide_eq_true h⟩
    | non => cases h
    | bl => cases h
    | str => cases h
  | tup => cases h
  | lst => cases h
  | dct => cases h
theorem isMade_of {f o : Str} {t : Tr} (h : isMade f o t = true) : ∃ z, t = .sc (.str z) ∧ madeB f o z = true := by
  cases t with
  | sc s =>
    cases s with
    | str z => exact ⟨z, rfl, h⟩
    | non => cases h
    | bl => cases h
    | int => cases h
  | tup => cases h
  | lst => cases h
  | dct => cases h
theorem str_or (t : Tr) : (∃ z, t = .sc (.str z)) ∨ (isaB t.ty "str" = false ∧ ∀ f o, isMade f o t = false) := by
  cases t with
  | sc s =>
    cases s with
    | str z => exact .inl ⟨z, rfl⟩
    | non => exact .inr ⟨rfl, fun _ _ => rfl⟩
    | bl => exact .inr ⟨rfl, fun _ _ => rfl⟩
    | int => exact .inr ⟨rfl, fun _ _ => rfl⟩
  | tup => exact .inr ⟨rfl, fun _ _ => rfl⟩
  | lst => exact .inr ⟨rfl, fun _ _ => rfl⟩
  | dct => exact .inr ⟨rfl, fun _ _ => rfl⟩
theorem int_or (t : Tr) : (∃ i, t = .sc (.int i)) ∨ ((isaB t.ty "int" && !isaB t.ty "bool") = false ∧ ∀ lo hi, isNum lo hi t = false) := by
  cases t with
  | sc s =>
    cases s with
    | int i => exact .inl ⟨i, rfl⟩
    | non => exact .inr ⟨rfl, fun _ _ => rfl⟩
    | bl => exact .inr ⟨rfl, fun _ _ => rfl⟩
    | str => exact .inr ⟨rfl, fun _ _ => rfl⟩
  | tup => exact .inr ⟨rfl, fun _ _ => rfl⟩
  | lst => exact .inr ⟨rfl, fun _ _ => rfl⟩
  | dct => exact .inr ⟨rfl, fun _ _ => rfl⟩
def spMade : Sp := fun vs H Q _ => ∃ (v : V) (t : Tr) (f o : Str), vs = [v, .str f, .str o] ∧ TrAt H v t ∧ Sm t ∧ ∀ H', Same H H' → Q (.bl (isMade f o t)) H'
def spIsName : Sp := fun vs H Q _ => ∃ (v : V) (t : Tr), vs = [v] ∧ TrAt H v t ∧ Sm t ∧ ∀ H', Same H H' → Q (.bl (isNm t)) H'
def spIsNum : Sp := fun vs H Q _ => ∃ (v : V) (t : Tr) (lo hi : Int), vs = [v, .int lo, .int hi] ∧ TrAt H v t ∧ Q (.bl (isNum lo hi t)) H

/-! ### steps: what is needed of their arguments -/
def SMS : Str := "abcdefghijklmnopqrstuvwxyz"
def LNS : List Str := ["w", "b0", "b1", "b2", "b3", "h0", "h1"]
structure TxtS (K : PySem.W.Frag) (mg : Str → Option Value) (aL : Addr) : Prop extends TxtN mg where
  g_SMALL : ∃ tk, mg "SMALL" = some (.str SMS tk)
  g_MOST_MASK : ∃ tk, mg "MOST_MASK" = some (.int 4294967295 tk)
  mg_LANES : mg "LANES" = some (.ref aL)
  lanes : ∀ H, SqT K H aL (LNS.map V.str)
def varB (z : Str) : Bool := decide (z.cps.toList.length = 1) && decide (z.cps.toList.headD 0 ∈ SMS.cps.toList)
def isVar : Tr → Bool
  | .sc (.str z) => varB z
  | _ => false
def isLane : Tr → Bool
  | .sc (.str z) => decide (z ∈ LNS)
  | _ => false
theorem str_or2 (t : Tr) : (∃ z, t = .sc (.str z)) ∨ (isaB t.ty "str" = false ∧ isVar t = false ∧ isLane t = false) := by
  cases t with
  | sc s =>
    cases s with
    | str z => exact .inl ⟨z, rfl⟩
    | non => exact .inr ⟨rfl, rfl, rfl⟩
    | bl => exact .inr ⟨rfl, rfl, rfl⟩
    | int => exact .inr ⟨rfl, rfl, rfl⟩
  | tup => exact .inr ⟨rfl, rfl, rfl⟩
  | lst => exact .inr ⟨rfl, rfl, rfl⟩
  | dct => exact .inr ⟨rfl, rfl, rfl⟩
def spIsVar : Sp := fun vs H Q _ => ∃ (v : V) (t : Tr), vs = [v] ∧ TrAt H v t ∧ Sm t ∧ Q (.bl (isVar t)) H
def spIsLane : Sp := fun vs H Q _ => ∃ (v : V) (t : Tr), vs = [v] ∧ TrAt H v t ∧ Q (.bl (isLane t)) H
/-- what comes of a making: the first reason, or it is made -/
inductive RS where
  | err (rs : Str) | ok
  deriving DecidableEq
def RS.then (a b : RS) : RS := match a with
  | .err r => .err r
  | .ok => b
def nd (b : Bool) (r : Str) : RS := if b = true then .ok else .err r
theorem then_ok {a b : RS} : a.then b = .ok ↔ a = .ok ∧ b = .ok := by
  cases a with
  | err r => exact ⟨fun z => (by cases z), fun z => (by cases z.1)⟩
  | ok => exact ⟨fun z => ⟨rfl, z⟩, fun z => z.2⟩
theorem nd_ok {b : Bool} {r : Str} : nd b r = .ok ↔ b = true := by
  cases b with
  | true => exact ⟨fun _ => rfl, fun _ => rfl⟩
  | false => exact ⟨fun z => (by cases z), fun z => (by cases z)⟩
def ErrS (eS : Addr) (rs : Str) (H : Hp) (E : XK) : Prop := ∀ d H', Same H H' → H' d = some (.xd [("reason", .str rs)]) → E (.ref eS) (some d) H'
theorem ErrS.up {eS : Addr} {rs : Str} {H H' : Hp} {E : XK} (h : ErrS eS rs H E) (s : Same H H') : ErrS eS rs H' E := fun d H2 s2 hd => h d H2 (s.trans s2) hd
def spNeedT (eS : Addr) : Sp := fun vs H Q E => ∃ (b : Bool) (rs : Str), vs = [.bl b, .str rs] ∧ (b = true → Q .non H) ∧ (b = false → ErrS eS rs H E)
def accres (tp tl : Tr) : RS := (nd (isNm tp) "port").then (nd (isLane tl) "lane")
def spAcc (eS : Addr) : Sp := fun vs H Q E => ∃ (v1 v2 : V) (t1 t2 : Tr), vs = [v1, v2] ∧ TrAt H v1 t1 ∧ TrAt H v2 t2 ∧ Sm t1 ∧ Sm t2 ∧ (∀ rs, accres t1 t2 = .err rs → ErrS eS rs H E) ∧ (accres t1 t2 = .ok → ∀ H', Same H H' → Q .non H')
/-- the names that are meant: right ones, each once -/
def meansB : List Str → List Tr → Option (List Str)
  | seen, [] => some seen
  | seen, .sc (.str z) :: r => if madeB CAPS INNS z = true ∧ z ∉ seen then meansB (seen ++ [z]) r else none
  | _, _ :: _ => none
def meansOk (ts : List Tr) : Bool := (meansB [] ts).isSome
def spMeant (K : PySem.W.Frag) (eS : Addr) : Sp := fun vs H Q E => ∃ (t : Addr) (items : List V) (ts : List Tr), vs = [.ref t] ∧ SqT K H t items ∧ TrsAt H items ts ∧ (∀ t ∈ ts, Sm t) ∧ items.length ≤ 60 ∧
  (meansOk ts = false → ErrS eS "means" H E) ∧ (∀ zs, meansB [] ts = some zs → ∀ q H', Same H H' → H' q = some (.tup ((KSrS.sortS zs).map V.str)) → Q (.ref q) H')
def meansL (ms : List Str) : List Str := if ms = [] then [] else "means" :: ms
def spWithM (K : PySem.W.Frag) : Sp := fun vs H Q _ => ∃ (l t : Addr) (ws ms : List Str), vs = [.ref l, .ref t] ∧ H l = some (.lst (ws.map V.str)) ∧ SqT K H t (ms.map V.str) ∧ (∀ m ∈ ms, PyData.strOk m = true) ∧ ws.length ≤ 100 ∧ ms.length ≤ 100 ∧ ∀ q H', Same H H' → H' q = some (.lst ((ws ++ meansL ms).map V.str)) → Q (.ref q) H'


section
variable {P : Program} {w : World} {K : PySem.W.Frag} {mg : Str → Option Value} {base : Heap}
theorem cut1 {z : Str} (h : 1 ≤ z.length) : (cutS z (some 1) none).cps.toList = z.cps.toList.tail := by
  have e1 : HT.sIx z.length 0 (some 1) = 1 := by
    show (if (1 : Int) < 0 then ((1 : Int) + (z.length : Int)).toNat else min (1 : Int).toNat z.length) = 1
    rw [if_neg (by omega)]
    have : ((1 : Int)).toNat = 1 := rfl
    omega
  have e2 : HT.sIx z.length z.length none = z.length := rfl
  unfold cutS
  rw [e1, e2]
  show (List.take (z.length - 1) (List.drop 1 z.cps.toList)).toArray.toList = _
  rw [List.toList_toArray, List.drop_one, List.take_of_length_le]
  rw [List.length_tail, Array.length_toList]
  exact Nat.le_refl _
theorem ix0 {z : Str} (h : 1 ≤ z.length) : atI z.cps.toList 0 = some (z.cps.toList.headD 0) := by
  have : 1 ≤ z.cps.toList.length := by rw [Array.length_toList]; exact h
  match e : z.cps.toList, this with
  | a :: l, _ => simp [atI, ixN]
theorem str_get {z : Str} {i c : Nat} (h : z.cps[i]? = some c) : c = z.cps.toList.getD i 0 := by
  rw [← Array.getElem?_toList] at h
  rw [List.getD_eq_getElem?_getD, h]
  rfl
theorem size_get {z : Str} : z.cps.size = z.cps.toList.length := (Array.length_toList).symm
theorem ok_made {f : Addr} {fd : FuncData} {k : Nat} (F : Fun K "is_made_of" "is_made_of" s_is_made_of f fd) (T : TxtN mg) : FnOk P w K mg base CX0 (k + 1) f fd ["value", "first", "others"] spMade := by
  refine F.ok sc_is_made_of (fun vs H Q E h => ?_) (fun cdv A outer s H vs Q E hr h => ?_)
  · obtain ⟨v, t, f, o, rfl, _⟩ := h
    rfl
  · obtain ⟨v, t, f, o, rfl, ht, sm, q⟩ := h
    obtain ⟨tk, gLO⟩ := T.g_LONGEST
    refine ⟨_, (pss_cons (ps_if (PW.pt (pw_or (pt_not (pt_val (pe_callB call_isi (by rfl) T.z_isinstance (by decide +kernel) (pa_cons (pv 0) (pa_cons (pe_bltn (v := .ty "str") (by rfl) T.z_str (by decide +kernel) rfl) pa_nil))))) (pw_or1 (pt_not (pt_chain op_le op_le pe_int (pe_callB call_len_str (by rfl) T.z_len (by decide +kernel) (pa_cons (pv 0) pa_nil)) (pe_glob (v := .int _) (by rfl) gLO ⟨_, rfl⟩)))))) (pss_one (ps_ret pe_bl))
 pss_nil)
 (pss_one (ps_ret (pe_and (pe_cmpR op_in_sign (pe_ix ix_str (pv 0) pe_int (fun _ _ => rfl)) (pv 1) (by rfl)) (pe_one (pe_callB (cr_all rfl) (by rfl) T.z_all (by decide +kernel) (pa_cons (pe_lc (own := [("sign", 3)]) (g := gName 3) (tt := tYes) (by rfl) sc_is_made_of.nd (pi_str (pe_slice sl_str (pv 0) (po_some pe_int) po_none)) (blkOk_by (own := [("sign", 3)]) (N := ["value", "first", "others", "sign"]) (sc := defScope s_is_made_of) (by decide +kernel)) (fun _ _ _ _ _ => (pg_name (i := 3) sc_is_made_of.nd rfl (by first | exact Or.inl rfl | exact Or.inr rfl))) (fun _ _ _ _ _ => pts_nil) (fun _ _ _ _ _ => (pe_cmpR op_in_sign (pv 3) (pv 2) (by rfl)))) pa_nil))))))), at_start (σ := [some v, some (.str f), some (.str o), none]) rfl ?_⟩
    try dsimp only [cx_K]
    walk_at "rd"
    refine r_isT ht (by decide) ?_
    rcases str_or t with ⟨z, rfl⟩ | ⟨no, nm⟩
    · obtain rfl : v = .str z := sc_at ht
      rw [show isaB (Tr.sc (Sc.str z)).ty "str" = true from rfl]
      walk_at "rd"
      have lz : z.length ≤ 1000 := by
        cases sm with
        | sc s h => exact h z rfl
      have l0 : z.length ≤ sizeLine := Nat.le_trans lz (by decide)
      have ez : z.cps.toList.length = z.length := Array.length_toList
      refine KC.r_chain ?_
      walk_at "rd"
      refine ⟨z, rfl, l0, ?_⟩
      walk_at "rd"
      have bad : ∀ {p : Prop} [Decidable p], ¬ p → (1 ≤ z.length ∧ z.length ≤ 8 → p) → isMade f o (.sc (.str z)) = false := fun np h => by
        show (decide _ && _ && _) = false
        rw [decide_eq_false (fun y => np (h (by rw [← ez]; exact y)))]
        rfl
      refine r_ite2 (fun y1 => ?_) (fun y1 => ?_)
      rotate_left
      · walk_at "rd"
        rw [bad (p := (1 : Int) ≤ (z.length : Int)) y1 (fun y => by omega)] at q
        exact q _ (Same.refl _)
      walk_at "rd"
      refine r_iteN2 (fun y2 => ?_) (fun y2 => ?_)
      · walk_at "rd"
        rw [bad (p := (z.length : Int) ≤ 8) y2 (fun y => by omega)] at q
        exact q _ (Same.refl _)
      walk_at "rd"
      refine r_ixS l0 (ix0 (by omega)) ?_
      walk_at "rd"
      refine ⟨_, f, rfl, rfl, ?_⟩
      have head : isMade f o (.sc (.str z)) = (decide ((z.cps.toList.headD 0) ∈ f.cps.toList) && z.cps.toList.tail.all fun c => decide (c ∈ o.cps.toList)) := by
        show (decide _ && _ && _) = _
        rw [decide_eq_true (by rw [ez]; omega), Bool.true_and]
      rw [head] at q
      walk_at "rd"
      refine r_iteB (fun y3 => ?_) (fun y3 => ?_)
      rotate_left
      · walk_at "rd"
        rw [y3] at q
        exact q _ (Same.refl _)
      rw [y3, Bool.true_and] at q
      walk_at "rd"
      refine KS.r_sls l0 ?_
      walk_at "rd"
      refine lc_all (walk_str (z := cutS z (some 1) none)) (j := 3) (fun i => .str ⟨#[(cutS z (some 1) none).cps.toList.getD i 0]⟩) (fun _ => true) (fun i => .bl (decide ((cutS z (some 1) none).cps.toList.getD i 0 ∈ o.cps.toList))) (by rw [size_get, cut1 (by omega), List.length_tail]; omega) (fun i H x H' hi y => ⟨y.1, by obtain ⟨_, c, hc, rfl⟩ := y; rw [str_get hc]⟩) (fun _ _ => trivial) (fun x => rfl) (fun i H' hi s QT q => q _ (Same.refl _)) (fun i H' hi _ s Q q => ?_) (fun D H' nD sD eD => ?_)
      · walk_at "rd"
        exact ⟨_, o, rfl, rfl, q _ (Same.refl _)⟩
      · rw [size_get, given_bl (cutS z (some 1) none).cps.toList 0 (fun c => decide (c ∈ o.cps.toList)), cut1 (by omega)] at eD
        refine ⟨D, _, rfl, SqL.of eD, ?_⟩
        rw [List.all_map]
        exact q _ sD
    · rw [no]
      walk_at "rd"
      rw [nm] at q
      exact q _ (Same.refl _)
theorem ok_name {f : Addr} {fd : FuncData} (F : Fun K "is_name" "is_name" s_is_name f fd) (T : TxtN mg) (c_is_made_of : KB.Callee P w K mg base CX0 1 "is_made_of" ["value", "first", "others"] spMade) : FnOk P w K mg base CX0 2 f fd ["value"] spIsName := by
  refine F.ok sc_is_name (fun vs H Q E h => ?_) (fun cdv A outer s H vs Q E hr h => ?_)
  · obtain ⟨v, t, rfl, _⟩ := h
    rfl
  · obtain ⟨v, t, rfl, ht, sm, q⟩ := h
    obtain ⟨t1, gCA⟩ := T.g_CAPITALS
    obtain ⟨t2, gIN⟩ := T.g_INNER
    refine ⟨_, (pss_one (ps_ret (pe_callC c_is_made_of (hr.mono (by decide)) (by rfl) pass0 (pa_cons (pv 0) (pa_cons (pe_glob (v := .str _) (by rfl) gCA ⟨_, rfl⟩) (pa_cons (pe_glob (v := .str _) (by rfl) gIN ⟨_, rfl⟩) pa_nil)))))), at_start (σ := [some v]) rfl ?_⟩
    try dsimp only [cx_K]
    walk_at "rd"
    exact ⟨v, t, CAPS, INNS, rfl, ht, sm, q⟩
theorem ok_number {f : Addr} {fd : FuncData} {k : Nat} (F : Fun K "is_number" "is_number" s_is_number f fd) (T : TxtN mg) : FnOk P w K mg base CX0 (k + 1) f fd ["value", "least", "most"] spIsNum := by
  refine F.ok sc_is_number (fun vs H Q E h => ?_) (fun cdv A outer s H vs Q E hr h => ?_)
  · obtain ⟨v, t, lo, hi, rfl, _⟩ := h
    rfl
  · obtain ⟨v, t, lo, hi, rfl, ht, q⟩ := h
    refine ⟨_, (pss_one (ps_ret (pe_and (pe_callB call_isi (by rfl) T.z_isinstance (by decide +kernel) (pa_cons (pv 0) (pa_cons (pe_bltn (v := .ty "int") (by rfl) T.z_int (by decide +kernel) rfl) pa_nil))) (pe_and (pe_not (pe_callB call_isi (by rfl) T.z_isinstance (by decide +kernel) (pa_cons (pv 0) (pa_cons (pe_bltn (v := .ty "bool") (by rfl) T.z_bool (by decide +kernel) rfl) pa_nil)))) (pe_one (pe_chain op_le op_le (pv 1) (pv 0) (pv 2))))))), at_start (σ := [some v, some (.int lo), some (.int hi)]) rfl ?_⟩
    try dsimp only [cx_K]
    walk_at "rd"
    refine r_isT ht (by decide) ?_
    rcases int_or t with ⟨i, rfl⟩ | ⟨no, nm⟩
    · obtain rfl := sc_at ht
      rw [show isaB (Tr.sc (Sc.int i)).ty "int" = true from rfl]
      walk_at "rd"
      refine r_isT ht (by decide) ?_
      rw [show isaB (Tr.sc (Sc.int i)).ty "bool" = false from rfl]
      walk_at "rd"
      refine KC.r_chain ?_
      dsimp only [Sc.v]
      walk_at "rd"
      refine r_ite2 (fun y1 => ?_) (fun y1 => ?_)
      · walk_at "rd"
        have e : isNum lo hi (.sc (.int i)) = decide (i ≤ hi) := by
          show decide (lo ≤ i ∧ i ≤ hi) = _
          by_cases h : i ≤ hi
          · rw [decide_eq_true h, decide_eq_true ⟨y1, h⟩]
          · rw [decide_eq_false h, decide_eq_false (fun y => h y.2)]
        rw [e] at q
        exact q
      · walk_at "rd"
        rw [show isNum lo hi (.sc (.int i)) = false from decide_eq_false (fun y => y1 y.1)] at q
        exact q
    · rw [nm] at q
      cases e : isaB t.ty "int" with
      | false =>
        walk_at "rd"
        exact q
      | true =>
        rw [e, Bool.true_and] at no
        walk_at "rd"
        refine r_isT ht (by decide) ?_
        rw [show isaB t.ty "bool" = true from by revert no; cases isaB t.ty "bool" <;> simp]
        walk_at "rd"
        exact q

theorem ok_isvar {f aL : Addr} {fd : FuncData} {k : Nat} (F : Fun K "is_variable" "is_variable" s_is_variable f fd) (T : TxtS K mg aL) : FnOk P w K mg base CX0 (k + 1) f fd ["value"] spIsVar := by
  refine F.ok sc_is_variable (fun vs H Q E h => ?_) (fun cdv A outer s H vs Q E hr h => ?_)
  · obtain ⟨v, t, rfl, _⟩ := h
    rfl
  · obtain ⟨v, t, rfl, ht, sm, q⟩ := h
    obtain ⟨tk, gSM⟩ := T.g_SMALL
    refine ⟨_, (pss_one (ps_ret (pe_and (pe_callB call_isi (by rfl) T.z_isinstance (by decide +kernel) (pa_cons (pv 0) (pa_cons (pe_bltn (v := .ty "str") (by rfl) T.z_str (by decide +kernel) rfl) pa_nil))) (pe_and (pe_cmpR op_eq (pe_callB call_len_str (by rfl) T.z_len (by decide +kernel) (pa_cons (pv 0) pa_nil)) pe_int (nomark _)) (pe_one (pe_cmpR op_in_sign (pv 0) (pe_glob (v := .str _) (by rfl) gSM ⟨_, rfl⟩) (by rfl))))))), at_start (σ := [some v]) rfl ?_⟩
    try dsimp only [cx_K]
    walk_at "rd"
    refine r_isT ht (by decide) ?_
    rcases str_or2 t with ⟨z, rfl⟩ | ⟨no, nm, _⟩
    · obtain rfl : v = .str z := sc_at ht
      rw [show isaB (Tr.sc (Sc.str z)).ty "str" = true from rfl]
      have lz : z.length ≤ 1000 := by
        cases sm with
        | sc s h => exact h z rfl
      have l0 : z.length ≤ sizeLine := Nat.le_trans lz (by decide)
      have ez : z.cps.toList.length = z.length := Array.length_toList
      walk_at "rd"
      refine ⟨z, rfl, l0, ?_⟩
      walk_at "rd"
      refine r_ite2 (fun y1 => ?_) (fun y1 => ?_)
      · have y2 : z.cps.toList.length = 1 := by rw [ez]; have := V.int.inj y1; omega
        walk_at "rd"
        obtain ⟨c, ec⟩ : ∃ c, z.cps.toList = [c] := List.length_eq_one_iff.mp y2
        obtain rfl : z = ⟨#[c]⟩ := KSrS.str_ext ec
        refine ⟨c, SMS, rfl, rfl, ?_⟩
        exact q
      · have e : isVar (.sc (.str z)) = false := by
          show (decide _ && _) = false
          rw [decide_eq_false (fun y => y1 (by rw [← ez, y]; rfl))]
          rfl
        rw [e] at q
        walk_at "rd"
        exact q
    · rw [no]
      walk_at "rd"
      rw [nm] at q
      exact q
theorem ok_islane {f aL : Addr} {fd : FuncData} {k : Nat} (F : Fun K "is_lane" "is_lane" s_is_lane f fd) (T : TxtS K mg aL) : FnOk P w K mg base CX0 (k + 1) f fd ["value"] spIsLane := by
  refine F.ok sc_is_lane (fun vs H Q E h => ?_) (fun cdv A outer s H vs Q E hr h => ?_)
  · obtain ⟨v, t, rfl, _⟩ := h
    rfl
  · obtain ⟨v, t, rfl, ht, q⟩ := h
    have gL := T.lanes
    refine ⟨_, (pss_one (ps_ret (pe_and (pe_callB call_isi (by rfl) T.z_isinstance (by decide +kernel) (pa_cons (pv 0) (pa_cons (pe_bltn (v := .ty "str") (by rfl) T.z_str (by decide +kernel) rfl) pa_nil))) (pe_one (pe_cmpR op_in_seq (pv 0) (pe_glob (v := .ref _) (by rfl) T.mg_LANES rfl) (by rfl)))))), at_start (σ := [some v]) rfl ?_⟩
    try dsimp only [cx_K]
    walk_at "rd"
    refine r_isT ht (by decide) ?_
    rcases str_or2 t with ⟨z, rfl⟩ | ⟨no, _, nm⟩
    · obtain rfl : v = .str z := sc_at ht
      rw [show isaB (Tr.sc (Sc.str z)).ty "str" = true from rfl]
      walk_at "rd"
      refine KB.r_inS (zs := LNS) (.inr (gL _)) ?_
      exact q
    · rw [no]
      walk_at "rd"
      rw [nm] at q
      exact q
theorem ok_needT {f eS : Addr} {fd : FuncData} (F : Fun K "need" "need" s_need f fd) (e_InvalidStep : KX.ErrMk P w K mg base eS "InvalidStep" "reason") : FnOk P w K mg base (L2.CX P w) 3 f fd ["test", "reason"] (spNeedT eS) := by
  refine F.okX sc_need (fun vs H Q E h => ?_) (fun cdv A outer s H vs Q E hr h => ?_)
  · obtain ⟨b, rs, rfl, _⟩ := h
    rfl
  · obtain ⟨b, rs, rfl, q1, q2⟩ := h
    refine ⟨_, (pss_one (ps_if (pt_not (pt_val (pv 0))) (pss_one (ps_raise rfl KL.def_takes (KX.pmkC e_InvalidStep (hr.mono (by decide)) (by rfl) (pa_cons (pv 1) pa_nil))))
 pss_nil)), at_start (σ := [some (.bl b), some (.str rs)]) rfl ?_⟩
    try dsimp only [KC.cx_KX]
    walk_at "rd"
    refine r_iteBN (fun z => ?_) (fun z => ?_)
    · walk_at "rd"
      refine KX.r_raiseO ?_ KX.mono_var
      walk_at "rd"
      exact q2 z
    · walk_at "rd"
      exact q1 z
theorem ok_acc {f eS : Addr} {fd : FuncData} (F : Fun K "need_access" "need_access" s_need_access f fd) (c_need : KB.Callee P w K mg base (L2.CX P w) 3 "need" ["test", "reason"] (spNeedT eS)) (c_is_name : KB.Callee P w K mg base CX0 2 "is_name" ["value"] spIsName) (c_is_lane : KB.Callee P w K mg base CX0 1 "is_lane" ["value"] spIsLane) : FnOk P w K mg base (L2.CX P w) 4 f fd ["port", "lane"] (spAcc eS) := by
  refine F.okX sc_need_access (fun vs H Q E h => ?_) (fun cdv A outer s H vs Q E hr h => ?_)
  · obtain ⟨v1, v2, t1, t2, rfl, _⟩ := h
    rfl
  · obtain ⟨v1, v2, t1, t2, rfl, h1, h2, sm1, sm2, x, q⟩ := h
    refine ⟨_, (pss_cons (ps_expr (pe_callC c_need (hr.mono (by decide)) (by rfl) (passes_call KL.def_takes fun _ _ _ _ h => h) (pa_cons (pe_callC c_is_name (hr.mono (by decide)) (by rfl) pass0 (pa_cons (pv 0) pa_nil)) (pa_cons pe_str pa_nil))))
 (pss_one (ps_expr (pe_callC c_need (hr.mono (by decide)) (by rfl) (passes_call KL.def_takes fun _ _ _ _ h => h) (pa_cons (pe_callC c_is_lane (hr.mono (by decide)) (by rfl) pass0 (pa_cons (pv 1) pa_nil)) (pa_cons pe_str pa_nil)))))), at_start (σ := [some v1, some v2]) rfl ?_⟩
    try dsimp only [KC.cx_KX]
    walk_at "rd"
    refine ⟨v1, t1, rfl, h1, sm1, fun H1 s1 => ?_⟩
    walk_at "rd"
    refine ⟨_, _, rfl, fun z => ?_, fun z => (x "port" (by unfold accres; rw [z]; rfl)).up s1⟩
    have e : accres t1 t2 = nd (isLane t2) "lane" := by unfold accres; rw [z]; rfl
    rw [e] at x q
    walk_at "rd"
    refine ⟨v2, t2, rfl, TrAt.up s1 _ _ h2, ?_⟩
    walk_at "rd"
    refine ⟨_, _, rfl, fun z2 => ?_, fun z2 => (x "lane" (by rw [z2]; rfl)).up s1⟩
    walk_at "rd"
    exact q (by rw [z2]; rfl) H1 s1

end
end K35


namespace K35
open PySem L2 KB KO KY KV KTr

section
variable {P : Program} {w : World} {K : PySem.W.Frag} {mg : Str → Option Value} {base : Heap}
theorem meansB_take {ts : List Tr} {i : Nat} {t : Tr} {zs : List Str} (e : meansB [] ts = meansB zs (ts.drop i)) (g : ts[i]? = some t) : meansB [] ts = meansB zs (t :: ts.drop (i + 1)) := by
  rw [e]
  congr 1
  obtain ⟨hi, rfl⟩ := List.getElem?_eq_some_iff.mp g
  exact List.drop_eq_getElem_cons hi
theorem ok_meant {f eS : Addr} {fd : FuncData} (F : Fun K "meant" "meant" s_meant f fd) (T : Txt mg) (c_need : KB.Callee P w K mg base (L2.CX P w) 3 "need" ["test", "reason"] (spNeedT eS)) (c_is_name : KB.Callee P w K mg base CX0 2 "is_name" ["value"] spIsName) : FnOk P w K mg base (L2.CX P w) 4 f fd ["names"] (spMeant K eS) := by
  refine F.okX sc_meant (fun vs H Q E h => ?_) (fun cdv A outer s H vs Q E hr h => ?_)
  · obtain ⟨t, items, ts, rfl, _⟩ := h
    rfl
  · obtain ⟨t, items, ts, rfl, ht, hi, sm, li, x, q⟩ := h
    refine ⟨_, (pss_cons (ps_for (passes_of rfl) rfl (KT.pi_enumT (by rfl) T.z_enumerate (pa_cons (pv 0) pa_nil)) (pg_tup rfl (pgs_cons (pg_name (i := 1) sc_meant.nd rfl (by first | exact Or.inl rfl | exact Or.inr rfl)) (pgs_cons (pg_name (i := 2) sc_meant.nd rfl (by first | exact Or.inl rfl | exact Or.inr rfl)) pgs_nil)))
 (pss_one (ps_expr (pe_callC c_need (hr.mono (by decide)) (by rfl) (passes_call KL.def_takes fun _ _ _ _ h => h) (pa_cons (pe_and (pe_callC c_is_name (hr.mono (by decide)) (by rfl) pass0 (pa_cons (pv 2) pa_nil)) (pe_one (pe_cmpR op_notIn_seq (pv 2) (pe_slice sl_tup (pv 0) po_none (po_some (pv 1))) (by rfl)))) (pa_cons pe_str pa_nil))))))
 (pss_one (ps_ret (pe_callTy call_tuple_of (by rfl) T.z_tuple (by decide +kernel) (pa_cons (pe_callB KSrS.cr_sortedA (by rfl) T.z_sorted (by decide +kernel) (pa_cons (pv 0) pa_nil)) pa_nil))))), at_start (σ := [some (.ref t), none, none]) rfl ?_⟩
    try dsimp only [KC.cx_KX]
    walk_at "rd"
    refine KU.r_enumT ?_
    walk_at "rd"
    refine ⟨t, items, rfl, ht, forW KT.walk_enumT (fun i σ H' => ∃ y1 y2 zs, σ = [some (.ref t), y1, y2] ∧ Same H H' ∧ items.take i = zs.map V.str ∧ zs.length ≤ i ∧ meansB [] ts = meansB zs (ts.drop i)) ⟨none, none, [], rfl, Same.refl _, rfl, Nat.le_refl _, rfl⟩ (fun i σ H' _ ⟨_, _, _, _, s, _⟩ => same_seqT s ht) ?_ ?_⟩
    · rintro i x' σ' H' H2 hlt ⟨y1, y2, zs, rfl, s1, e1, l1, e2⟩ ⟨T', v, rfl, nT, rfl, ev⟩
      have s2 := s1.trans (same_new (o := .tup [.int (i : Nat), v]) nT)
      obtain ⟨tv, etv, hv⟩ := hi.get ev
      have mtv : tv ∈ ts := List.mem_of_getElem? etv
      walk_at "rd"
      refine ⟨v, tv, rfl, TrAt.up s2 _ _ hv, sm _ mtv, fun H3 s3 => ?_⟩
      have s4 := s2.trans s3
      have e3 := meansB_take e2 etv
      walk_at "rd"
      refine r_iteB (fun z => ?_) (fun z => ?_)
      · obtain ⟨nm, rfl, hnm⟩ := isMade_of z
        obtain rfl := sc_at hv
        walk_at "rd"
        refine ⟨t, items, rfl, (same_seqT s4 ht), fun z => ?_, fun c nc => ?_⟩
        · have z2 := z.2
          rw [HT.sIx_nat] at z2
          omega
        have s5 := s4.trans (same_new (o := .tup (zs.map V.str)) nc)
        rw [KB.cutV_take, e1]
        refine KB.r_notInS (zs := zs) (.inr (SqT.of upd_same)) ?_
        walk_at "rd"
        refine ⟨_, _, rfl, fun z2 => ?_, fun z2 => (x (by unfold meansOk; rw [e3]; unfold meansB; rw [if_neg (fun y => by simp at z2; exact y.2 z2)]; rfl)).up s5⟩
        have z3 : nm ∉ zs := by simpa using z2
        walk_at "rd"
        refine ⟨_, _, zs ++ [nm], rfl, s5, ?_, ?_, ?_⟩
        · rw [List.take_succ, e1, ev, List.map_append]; rfl
        · rw [List.length_append]; exact Nat.succ_le_succ l1
        · rw [e3]
          show (if _ then _ else _) = _
          rw [if_pos ⟨hnm, z3⟩]
      · walk_at "rd"
        refine ⟨_, _, rfl, (fun z2 => by cases z2), fun _ => (x ?_).up s4⟩
        unfold meansOk
        rw [e3]
        cases tv with
        | sc s =>
          cases s with
          | str nm =>
            unfold meansB
            rw [if_neg (fun y => by have : madeB CAPS INNS nm = false := z; rw [this] at y; cases y.1)]
            rfl
          | _ => rfl
        | _ => rfl
    · rintro σ' H' ⟨y1, y2, zs, rfl, s1, e1, l1, e2⟩
      rw [List.take_length] at e1
      rw [hi.len, List.drop_length] at e2
      walk_at "rd"
      refine ⟨t, zs, rfl, .inr (by rw [← e1]; exact same_seqT s1 ht), fun ys p pm so np => ?_⟩
      obtain rfl := KSrS.is_sortS pm so
      walk_at "rd"
      refine ⟨p, _, rfl, .inl ⟨SqL.of upd_same, fun l nl => ?_⟩⟩
      exact q zs e2 l _ ((s1.trans (same_new np)).trans (same_new nl)) upd_same
theorem shaped_strsT {zs : List Str} (h : ∀ z ∈ zs, PyData.strOk z = true) : SeqAt.shaped (.tuple (zs.map PyData.str)) = true := by
  show (PyData.canLayAll0 (zs.map PyData.str) && decide (PyData.depthAll (zs.map PyData.str) + 1 ≤ 64)) = true
  rw [KS.lay_strs zs h, KS.depth_strs]; rfl
theorem r_eqStrsT {H : Hp} {Q : VK} {a b : Addr} {ns ms : List Str} (h : SqT K H a (ns.map V.str)) (h' : SqT K H b (ms.map V.str)) (o1 : ∀ z ∈ ns, PyData.strOk z = true) (o2 : ∀ z ∈ ms, PyData.strOk z = true) (q : Q (.bl (decide (ns = ms))) H) : rEqD K (.ref a) (.ref b) H Q :=
  ⟨_, _, .tup h (KS.dp_strs ns), .tup h' (KS.dp_strs ms), shaped_strsT o1, shaped_strsT o2, (show Q (.bl (PyData.eqvAll (ns.map PyData.str) (ms.map PyData.str))) H by rw [KS.eqv_strs]; exact q)⟩
theorem ok_withm {f : Addr} {fd : FuncData} {k : Nat} (F : Fun K "with_means" "with_means" s_with_means f fd) : FnOk P w K mg base CX0 (k + 1) f fd ["words", "means"] (spWithM K) := by
  refine F.ok sc_with_means (fun vs H Q E h => ?_) (fun cdv A outer s H vs Q E hr h => ?_)
  · obtain ⟨l, t, ws, ms, rfl, _⟩ := h
    rfl
  · obtain ⟨l, t, ws, ms, rfl, hl, ht, om, lw, lm, q⟩ := h
    refine ⟨_, (pss_cons (ps_if (pt_cmpR (op_eqD hr.units) (pv 1) (pe_tup pa_nil) (nomark _)) (pss_one (ps_ret (pv 0)))
 pss_nil)
 (pss_one (ps_ret (pe_lst (StX.pa_star (pv 0) (pa_cons pe_str (StX.pa_star (pv 1) pa_nil))))))), at_start (σ := [some (.ref l), some (.ref t)]) rfl ?_⟩
    try dsimp only [cx_K]
    walk_at "rd"
    refine ⟨by walk_at "sz", fun c nc => ?_⟩
    have s1 := same_new (o := .tup []) nc
    refine r_eqStrsT (ns := ms) (ms := []) (same_seqT s1 ht) (SqT.of upd_same) om (fun _ m => by cases m) ?_
    walk_at "rd"
    refine r_ite2 (fun z => ?_) (fun z => ?_)
    · walk_at "rd"
      subst z
      exact q l _ s1 (by rw [show ws ++ meansL [] = ws from List.append_nil _]; exact s1 _ _ hl)
    · walk_at "rd"
      refine ⟨_, rfl, l, _, rfl, .inr (SqL.of (s1 _ _ hl)), ?_⟩
      walk_at "rd"
      refine ⟨_, rfl, t, _, rfl, .inl (same_seqT s1 ht), ?_⟩
      walk_at "rd"
      have e : ws.map V.str ++ [V.str (Str.ofString "means")] ++ (ms.map V.str ++ []) = (ws ++ meansL ms).map V.str := by
        rw [List.append_nil, meansL, if_neg z]
        simp
      refine ⟨?_, fun p np => ?_⟩
      · have : (1000 : Nat) ≤ sizeLine := by decide
        simp only [List.length_append, List.length_map, List.length_cons, List.length_nil]
        omega
      · exact q p _ (s1.trans (same_new np)) (by rw [← e, upd_same]; simp)

end
end K35


namespace K35
open PySem L2 KB KO KY KV KTr
/-! ### steps -/
structure CA where
  R : Addr
  W : Addr
  S : Addr
  P : Addr
  B : Addr
def oV : Option Str → V
  | none => .non
  | some z => .str z
theorem oV_inj {a b : Option Str} (h : oV a = oV b) : a = b := by
  cases a <;> cases b <;> simp_all [oV]
inductive Stp where
  | read (v p l : Str) (ms : List Str)
  | write (p l : Str) (w : Nat) (s : Int) (k f : Nat) (ms : List Str) (v : Option Str)
  | serve (v : Str) (m : Int)
  | pair (a b f : Str)
  deriving DecidableEq
def flRd (v0 v1 v2 : V) (q : Addr) : List (Str × V) := [("variable", v0), ("port", v1), ("lane", v2), ("means", .ref q)]
def flWr (v0 v1 v2 : V) (q : Addr) (v : V) : List (Str × V) := [("port", v0), ("lane", v1), ("blend", v2), ("means", .ref q), ("variable", v)]
def flSv (v0 v1 : V) : List (Str × V) := [("variable", v0), ("mask", v1)]
def flPr (v0 v1 v2 : V) : List (Str × V) := [("first", v0), ("second", v1), ("field", v2)]
def StpAt (c : CA) (H : Hp) (p : Addr) : Stp → Prop
  | .read v pt l ms => ∃ dx q, H p = some (.ins c.R dx (flRd (.str v) (.str pt) (.str l) q)) ∧ H q = some (.tup (ms.map V.str))
  | .write pt l w s k f ms v => ∃ dx q b, H p = some (.ins c.W dx (flWr (.str pt) (.str l) (.ref b) q (oV v))) ∧ H q = some (.tup (ms.map V.str)) ∧ BlendAt c.B H b w s k f
  | .serve v m => ∃ dx, H p = some (.ins c.S dx (flSv (.str v) (.int m)))
  | .pair a b f => ∃ dx, H p = some (.ins c.P dx (flPr (.str a) (.str b) (.str f)))
theorem StpAt.up {c : CA} {H H' : Hp} {p : Addr} {x : Stp} (h : StpAt c H p x) (s : Same H H') : StpAt c H' p x := by
  cases x with
  | read v pt l ms => obtain ⟨dx, q, a, b⟩ := h; exact ⟨dx, q, s _ _ a, s _ _ b⟩
  | write pt l w sh k f ms v => obtain ⟨dx, q, b, a, e, g⟩ := h; exact ⟨dx, q, b, s _ _ a, s _ _ e, g.up s⟩
  | serve v m => obtain ⟨dx, a⟩ := h; exact ⟨dx, s _ _ a⟩
  | pair a b f => obtain ⟨dx, e⟩ := h; exact ⟨dx, s _ _ e⟩
/-- what is handed in as a blend -/
inductive Ba where
  | bl (w : Nat) (s : Int) (k f : Nat) | tr (t : Tr)
def BaAt (CB : Addr) (H : Hp) (v : V) : Ba → Prop
  | .bl w s k f => ∃ b, v = .ref b ∧ BlendAt CB H b w s k f
  | .tr t => TrAt H v t
theorem BaAt.up {CB : Addr} {H H' : Hp} {v : V} {t : Ba} (h : BaAt CB H v t) (s : Same H H') : BaAt CB H' v t := by
  cases t with
  | bl w sh k f => obtain ⟨b, e, g⟩ := h; exact ⟨b, e, g.up s⟩
  | tr t => exact TrAt.up s _ _ h
def Ba.isB : Ba → Bool
  | .bl .. => true
  | .tr _ => false
def Ba.const : Ba → Bool
  | .bl _ _ k _ => decide (k = 0)
  | .tr _ => false
def isNoT : Tr → Bool
  | .sc .non => true
  | _ => false
theorem no_at {H : Hp} {v : V} {t : Tr} (h : TrAt H v t) : decide (v = V.non) = isNoT t := by
  cases h with
  | sc s =>
    cases s with
    | non => rfl
    | bl => exact decide_eq_false (by simp [Sc.v])
    | int => exact decide_eq_false (by simp [Sc.v])
    | str => exact decide_eq_false (by simp [Sc.v])
  | tup => exact decide_eq_false (by simp)
  | lst => exact decide_eq_false (by simp)
  | dct => exact decide_eq_false (by simp)
def strO : Tr → Option Str
  | .sc (.str z) => some z
  | _ => none
def readres (tv tp tl : Tr) (ts : List Tr) : RS := (nd (isVar tv) "variable").then ((accres tp tl).then (nd (meansOk ts) "means"))
def writeres (tp tl : Tr) (tb : Ba) (ts : List Tr) (tv : Tr) : RS := (accres tp tl).then ((nd tb.isB "blend").then ((nd (meansOk ts) "means").then ((nd (isNoT tv || isVar tv) "variable").then (nd (tb.const == isNoT tv) "variable"))))
def serveres (tv tm : Tr) : RS := (nd (isVar tv) "variable").then (nd (isNum 1 4294967295 tm) "mask")
def pairres (t1 t2 t3 : Tr) : RS := (nd (isVar t1) "first").then ((nd (isVar t2 && decide (strO t2 ≠ strO t1)) "second").then (nd (isNm t3) "field"))
structure TxtSt (K : PySem.W.Frag) (mg : Str → Option Value) (aL : Addr) (c : CA) : Prop extends TxtS K mg aL where
  rc : Cls K c.R
  r_variable : NoAttr K c.R "variable"
  r_port : NoAttr K c.R "port"
  r_lane : NoAttr K c.R "lane"
  r_means : NoAttr K c.R "means"
  wc : Cls K c.W
  w_port : NoAttr K c.W "port"
  w_lane : NoAttr K c.W "lane"
  w_blend : NoAttr K c.W "blend"
  w_means : NoAttr K c.W "means"
  w_variable : NoAttr K c.W "variable"
  sc : Cls K c.S
  s_variable : NoAttr K c.S "variable"
  s_mask : NoAttr K c.S "mask"
  pc : Cls K c.P
  p_first : NoAttr K c.P "first"
  p_second : NoAttr K c.P "second"
  p_field : NoAttr K c.P "field"
  kitB : ∀ A ∈ BT, PySem.W.kitOne K (.type A) (.ref c.B) = some false
  tyB : ∀ {H : Hp} {a dx : Addr} {fs : List (Str × V)}, H a = some (.ins c.B dx fs) → TyX K H (.ref a) (.ref c.B)
  isBB : PySem.W.kitOne K (.ref c.B) (.ref c.B) = some true
  mg_Blend : mg "Blend" = some (.ref c.B)
/-- Read.__init__(self, variable, port, lane, means) -/
def spReadB (eS : Addr) (c : CA) : Sp := fun vs H Q E => ∃ (p dx t : Addr) (v0 v1 v2 : V) (items : List V) (t0 t1 t2 : Tr) (ts : List Tr), vs = [.ref p, v0, v1, v2, .ref t] ∧ H p = some (.ins c.R dx []) ∧ H t = some (.tup items) ∧ TrAt H v0 t0 ∧ TrAt H v1 t1 ∧ TrAt H v2 t2 ∧ Sm t0 ∧ Sm t1 ∧ Sm t2 ∧ TrsAt H items ts ∧ (∀ t ∈ ts, Sm t) ∧ items.length ≤ 60 ∧
  (∀ rs, readres t0 t1 t2 ts = .err rs → ∀ d H', Keep p H H' → H' d = some (.xd [("reason", .str rs)]) → E (.ref eS) (some d) H') ∧
  (∀ zs, readres t0 t1 t2 ts = .ok → meansB [] ts = some zs → ∀ q H', H' p = some (.ins c.R dx (flRd v0 v1 v2 q)) → H' q = some (.tup ((KSrS.sortS zs).map V.str)) → Keep p H H' → Q .non H')
def spWriteB (eS : Addr) (c : CA) : Sp := fun vs H Q E => ∃ (p dx t : Addr) (v0 v1 v2 v3 : V) (items : List V) (t0 t1 : Tr) (tb : Ba) (t3 : Tr) (ts : List Tr), vs = [.ref p, v0, v1, v2, v3, .ref t] ∧ H p = some (.ins c.W dx []) ∧ H t = some (.tup items) ∧ TrAt H v0 t0 ∧ TrAt H v1 t1 ∧ BaAt c.B H v2 tb ∧ TrAt H v3 t3 ∧ Sm t0 ∧ Sm t1 ∧ Sm t3 ∧ TrsAt H items ts ∧ (∀ t ∈ ts, Sm t) ∧ items.length ≤ 60 ∧
  (∀ rs, writeres t0 t1 tb ts t3 = .err rs → ∀ d H', Keep p H H' → H' d = some (.xd [("reason", .str rs)]) → E (.ref eS) (some d) H') ∧
  (∀ zs, writeres t0 t1 tb ts t3 = .ok → meansB [] ts = some zs → ∀ q H', H' p = some (.ins c.W dx (flWr v0 v1 v2 q v3)) → H' q = some (.tup ((KSrS.sortS zs).map V.str)) → Keep p H H' → Q .non H')
def spServe (eS : Addr) (c : CA) : Sp := fun vs H Q E => ∃ (p dx : Addr) (v0 v1 : V) (t0 t1 : Tr), vs = [.ref p, v0, v1] ∧ H p = some (.ins c.S dx []) ∧ TrAt H v0 t0 ∧ TrAt H v1 t1 ∧ Sm t0 ∧
  (∀ rs, serveres t0 t1 = .err rs → ∀ d H', Keep p H H' → H' d = some (.xd [("reason", .str rs)]) → E (.ref eS) (some d) H') ∧
  (serveres t0 t1 = .ok → ∀ H', H' p = some (.ins c.S dx (flSv v0 v1)) → Keep p H H' → Q .non H')
def spPair (eS : Addr) (c : CA) : Sp := fun vs H Q E => ∃ (p dx : Addr) (v0 v1 v2 : V) (t0 t1 t2 : Tr), vs = [.ref p, v0, v1, v2] ∧ H p = some (.ins c.P dx []) ∧ TrAt H v0 t0 ∧ TrAt H v1 t1 ∧ TrAt H v2 t2 ∧ Sm t0 ∧ Sm t1 ∧ Sm t2 ∧
  (∀ rs, pairres t0 t1 t2 = .err rs → ∀ d H', Keep p H H' → H' d = some (.xd [("reason", .str rs)]) → E (.ref eS) (some d) H') ∧
  (pairres t0 t1 t2 = .ok → ∀ H', H' p = some (.ins c.P dx (flPr v0 v1 v2)) → Keep p H H' → Q .non H')
def spIsC (C : Addr) : Sp := fun vs H Q _ => ∃ (p : Addr) (w : Nat) (s : Int) (k f : Nat), vs = [.ref p] ∧ BlendAt C H p w s k f ∧ Q (.bl (decide (k = 0))) H


section
variable {P : Program} {w : World} {K : PySem.W.Frag} {mg : Str → Option Value} {base : Heap}
theorem r_isBa {aL : Addr} {c : CA} (T : TxtSt K mg aL c) {H : Hp} {v : V} {t : Ba} {Q : VK} (h : BaAt c.B H v t) (q : Q (.bl t.isB) H) : rIsi K [v, .ref c.B] H Q := by
  cases t with
  | bl w s k f =>
    obtain ⟨p, rfl, _, dx, e⟩ := h
    exact ⟨_, _, _, _, true, rfl, .own c.B, T.tyB e, T.isBB, q⟩
  | tr t => exact ⟨_, _, _, _, false, rfl, .own c.B, TrAt.tyX h, T.kitB _ t.ty_in, q⟩
theorem keep_upd {H : Hp} {p : Addr} {o : HO} : Keep p H (upd H p o) := fun b x e n => by
  rw [upd_ne n]
  exact e
theorem ok_readB {f aL eS : Addr} {c : CA} {cdv dV kV doc pm ct oc : Value} {an od : Option Addr} {osl : Array (Option Value)} {n : Nat} {ks : List Str} {g : List Value → List Value → List Value} {gV : List V → List V → List V}
    (lk : K.lookup f = some ⟨oc, od, .func (PySem.W.fnOf "__init__" "Read.__init__" (defArgs s_Read___init__) (defBody s_Read___init__) (defScope s_Read___init__) dV kV doc pm an cdv ct), osl⟩) (hcd : PySem.W.codeIn K cdv "Read.__init__" = true)
    (hb : KSt.BStar K (PySem.W.fnOf "__init__" "Read.__init__" (defArgs s_Read___init__) (defBody s_Read___init__) (defScope s_Read___init__) dV kV doc pm an cdv ct) ["self", "variable", "port", "lane"] "means" n ks g)
    (hg : ∀ {vs us zs ws}, Vals vs us → Vals zs ws → Vals (gV vs zs) (g us ws)) (hgl : ∀ vs zs, vs.length = n → zs.length = ks.length → (gV vs zs).length = 4)
    (T : TxtSt K mg aL c) (c_need : KB.Callee P w K mg base (L2.CX P w) 3 "need" ["test", "reason"] (spNeedT eS)) (c_is_variable : KB.Callee P w K mg base CX0 1 "is_variable" ["value"] spIsVar)
    (c_need_access : KB.Callee P w K mg base (L2.CX P w) 4 "need_access" ["port", "lane"] (spAcc eS)) (c_meant : KB.Callee P w K mg base (L2.CX P w) 4 "meant" ["names"] (spMeant K eS)) :
    KSt.FnK P w K mg base (L2.CX P w) 5 f ks (KSt.spStar (spReadB eS c) n gV) := by
  refine KSt.fn_starK (ps := ["self", "variable", "port", "lane"]) (pv := "means") lk hcd sc_Read___init__ StX.cxUp hb hg hgl (fun A outer s H vs Q E hr h => ?_)
  obtain ⟨p, dx, t, v0, v1, v2, items, t0, t1, t2, ts, rfl, hp, ht, h0, h1, h2, m0, m1, m2, hi, sm, li, x, q⟩ := h
  refine ⟨_, (pss_cons (ps_expr (pe_callC c_need (hr.mono (by decide)) (by rfl) (passes_call KL.def_takes fun _ _ _ _ h => h) (pa_cons (pe_callC c_is_variable (hr.mono (by decide)) (by rfl) pass0 (pa_cons (pv 1) pa_nil)) (pa_cons pe_str pa_nil))))
 (pss_cons (ps_expr (pe_callC c_need_access (hr.mono (by decide)) (by rfl) (passes_call KL.def_takes fun _ _ _ _ h => h) (pa_cons (pv 2) (pa_cons (pv 3) pa_nil))))
 (pss_cons (ps_fld (pv 0) (pv 1) rfl)
 (pss_cons (ps_fld (pv 0) (pv 2) rfl)
 (pss_cons (ps_fld (pv 0) (pv 3) rfl)
 (pss_one (ps_fld (pv 0) (pe_callC c_meant (hr.mono (by decide)) (by rfl) (passes_call KL.def_takes fun _ _ _ _ h => h) (pa_cons (pv 4) pa_nil)) rfl))))))), at_start (σ := [some (.ref p), some v0, some v1, some v2, some (.ref t)]) rfl ?_⟩
  have eK : (cxOf (L2.CX P w) P w K mg base ["self", "variable", "port", "lane", "means"] "Read.__init__" (defScope s_Read___init__) f cdv A outer s H E).K = K := rfl
  try simp only [eK]
  have cl := T.rc; have n0 := T.r_variable; have n1 := T.r_port; have n2 := T.r_lane; have n3 := T.r_means
  have ntp : t ≠ p := fun z => by rw [z, hp] at ht; cases ht
  walk_at "rd"
  refine ⟨v0, t0, rfl, h0, m0, ?_⟩
  walk_at "rd"
  refine ⟨_, _, rfl, fun z => ?_, fun z d H' s' hd => x _ (by unfold readres; rw [z]; rfl) d H' (Keep.same s') hd⟩
  have e1 : readres t0 t1 t2 ts = (accres t1 t2).then (nd (meansOk ts) "means") := by unfold readres; rw [z]; rfl
  rw [e1] at x q
  walk_at "rd"
  refine ⟨v1, v2, t1, t2, rfl, h1, h2, m1, m2, fun rs e d H' s' hd => x _ (by rw [e]; rfl) d H' (Keep.same s') hd, fun e H1 s1 => ?_⟩
  rw [e] at x q
  have hp1 := s1 _ _ hp
  walk_at "rd"
  refine ⟨p, c.R, dx, _, rfl, hp1, cl, n0, (by decide), ?_⟩
  walk_at "rd"
  refine ⟨p, c.R, dx, _, rfl, upd_same, cl, n1, putF_lt0 (by decide), ?_⟩
  walk_at "rd"
  refine ⟨p, c.R, dx, _, rfl, upd_same, cl, n2, putF_lt0 (putF_lt (by decide)), ?_⟩
  generalize eH : upd (upd (upd H1 p _) p _) p _ = H2
  have kp : Keep p H H2 := by
    rw [← eH]
    exact (Keep.same s1).tr (keep_upd.tr (keep_upd.tr keep_upd))
  have hp2 : H2 p = some (.ins c.R dx [("variable", v0), ("port", v1), ("lane", v2)]) := by rw [← eH]; exact upd_same
  have ki2 : Ki H H2 := Ki.keep kp hp
  clear eH
  walk_at "rd"
  refine ⟨t, items, ts, rfl, SqT.of (kp _ _ ht ntp), TrsAt.ki ki2 _ _ hi, sm, li, fun z d H' s' hd => x _ (by rw [z]; rfl) d H' (kp.tr (Keep.same s')) hd, fun zs ez q' H3 s3 hq => ?_⟩
  have hp3 := s3 _ _ hp2
  have nq : q' ≠ p := fun z => by rw [z, hp3] at hq; cases hq
  walk_at "rd"
  refine ⟨p, c.R, dx, _, rfl, hp3, cl, n3, (show 3 < 1000 by decide), ?_⟩
  walk_at "rd"
  refine q zs (by unfold meansOk; rw [ez]; rfl) ez q' _ upd_same (by rw [upd_ne nq]; exact hq) ((kp.tr (Keep.same s3)).tr keep_upd)
theorem ok_serveB {f aL eS : Addr} {c : CA} {fd : FuncData} (F : Fun K "__init__" "Serve.__init__" s_Serve___init__ f fd)
    (T : TxtSt K mg aL c) (c_need : KB.Callee P w K mg base (L2.CX P w) 3 "need" ["test", "reason"] (spNeedT eS)) (c_is_variable : KB.Callee P w K mg base CX0 1 "is_variable" ["value"] spIsVar) (c_is_number : KB.Callee P w K mg base CX0 1 "is_number" ["value", "least", "most"] spIsNum) :
    FnOk P w K mg base (L2.CX P w) 4 f fd ["self", "variable", "mask"] (spServe eS c) := by
  refine F.okX sc_Serve___init__ (fun vs H Q E h => ?_) (fun cdv A outer s H vs Q E hr h => ?_)
  · obtain ⟨p, dx, v0, v1, t0, t1, rfl, _⟩ := h
    rfl
  · obtain ⟨p, dx, v0, v1, t0, t1, rfl, hp, h0, h1, m0, x, q⟩ := h
    obtain ⟨tk, gMM⟩ := T.g_MOST_MASK
    refine ⟨_, (pss_cons (ps_expr (pe_callC c_need (hr.mono (by decide)) (by rfl) (passes_call KL.def_takes fun _ _ _ _ h => h) (pa_cons (pe_callC c_is_variable (hr.mono (by decide)) (by rfl) pass0 (pa_cons (pv 1) pa_nil)) (pa_cons pe_str pa_nil))))
 (pss_cons (ps_expr (pe_callC c_need (hr.mono (by decide)) (by rfl) (passes_call KL.def_takes fun _ _ _ _ h => h) (pa_cons (pe_callC c_is_number (hr.mono (by decide)) (by rfl) pass0 (pa_cons (pv 2) (pa_cons pe_int (pa_cons (pe_glob (v := .int _) (by rfl) gMM ⟨_, rfl⟩) pa_nil)))) (pa_cons pe_str pa_nil))))
 (pss_cons (ps_fld (pv 0) (pv 1) rfl)
 (pss_one (ps_fld (pv 0) (pv 2) rfl))))), at_start (σ := [some (.ref p), some v0, some v1]) rfl ?_⟩
    try dsimp only [KC.cx_KX]
    have cl := T.sc; have n0 := T.s_variable; have n1 := T.s_mask
    walk_at "rd"
    refine ⟨v0, t0, rfl, h0, m0, ?_⟩
    walk_at "rd"
    refine ⟨_, _, rfl, fun z => ?_, fun z d H' s' hd => x _ (by unfold serveres; rw [z]; rfl) d H' (Keep.same s') hd⟩
    have e1 : serveres t0 t1 = nd (isNum 1 4294967295 t1) "mask" := by unfold serveres; rw [z]; rfl
    rw [e1] at x q
    walk_at "rd"
    refine ⟨v1, t1, 1, 4294967295, rfl, h1, ?_⟩
    walk_at "rd"
    refine ⟨_, _, rfl, fun z => ?_, fun z d H' s' hd => x _ (by rw [z]; rfl) d H' (Keep.same s') hd⟩
    walk_at "rd"
    refine ⟨p, c.S, dx, _, rfl, hp, cl, n0, (by decide), ?_⟩
    walk_at "rd"
    refine ⟨p, c.S, dx, _, rfl, upd_same, cl, n1, putF_lt0 (by decide), ?_⟩
    walk_at "rd"
    exact q (by rw [z]; rfl) _ upd_same (keep_upd.tr keep_upd)
theorem ok_pairB {f aL eS : Addr} {c : CA} {fd : FuncData} (F : Fun K "__init__" "Pair.__init__" s_Pair___init__ f fd)
    (T : TxtSt K mg aL c) (c_need : KB.Callee P w K mg base (L2.CX P w) 3 "need" ["test", "reason"] (spNeedT eS)) (c_is_variable : KB.Callee P w K mg base CX0 1 "is_variable" ["value"] spIsVar) (c_is_name : KB.Callee P w K mg base CX0 2 "is_name" ["value"] spIsName) :
    FnOk P w K mg base (L2.CX P w) 4 f fd ["self", "first", "second", "field"] (spPair eS c) := by
  refine F.okX sc_Pair___init__ (fun vs H Q E h => ?_) (fun cdv A outer s H vs Q E hr h => ?_)
  · obtain ⟨p, dx, v0, v1, v2, t0, t1, t2, rfl, _⟩ := h
    rfl
  · obtain ⟨p, dx, v0, v1, v2, t0, t1, t2, rfl, hp, h0, h1, h2, m0, m1, m2, x, q⟩ := h
    refine ⟨_, (pss_cons (ps_expr (pe_callC c_need (hr.mono (by decide)) (by rfl) (passes_call KL.def_takes fun _ _ _ _ h => h) (pa_cons (pe_callC c_is_variable (hr.mono (by decide)) (by rfl) pass0 (pa_cons (pv 1) pa_nil)) (pa_cons pe_str pa_nil))))
 (pss_cons (ps_expr (pe_callC c_need (hr.mono (by decide)) (by rfl) (passes_call KL.def_takes fun _ _ _ _ h => h) (pa_cons (pe_and (pe_callC c_is_variable (hr.mono (by decide)) (by rfl) pass0 (pa_cons (pv 2) pa_nil)) (pe_one (pe_cmpR op_ne (pv 2) (pv 1) (nomark _)))) (pa_cons pe_str pa_nil))))
 (pss_cons (ps_expr (pe_callC c_need (hr.mono (by decide)) (by rfl) (passes_call KL.def_takes fun _ _ _ _ h => h) (pa_cons (pe_callC c_is_name (hr.mono (by decide)) (by rfl) pass0 (pa_cons (pv 3) pa_nil)) (pa_cons pe_str pa_nil))))
 (pss_cons (ps_fld (pv 0) (pv 1) rfl)
 (pss_cons (ps_fld (pv 0) (pv 2) rfl)
 (pss_one (ps_fld (pv 0) (pv 3) rfl))))))), at_start (σ := [some (.ref p), some v0, some v1, some v2]) rfl ?_⟩
    try dsimp only [KC.cx_KX]
    have cl := T.pc; have n0 := T.p_first; have n1 := T.p_second; have n2 := T.p_field
    walk_at "rd"
    refine ⟨v0, t0, rfl, h0, m0, ?_⟩
    walk_at "rd"
    refine ⟨_, _, rfl, fun z => ?_, fun z d H' s' hd => x _ (by unfold pairres; rw [z]; rfl) d H' (Keep.same s') hd⟩
    have e1 : pairres t0 t1 t2 = (nd (isVar t1 && decide (strO t1 ≠ strO t0)) "second").then (nd (isNm t2) "field") := by unfold pairres; rw [z]; rfl
    rw [e1] at x q
    walk_at "rd"
    refine ⟨v1, t1, rfl, h1, m1, ?_⟩
    walk_at "rd"
    obtain ⟨z0, rfl⟩ : ∃ z0, t0 = .sc (.str z0) := by
      rcases str_or2 t0 with y | ⟨_, y, _⟩
      · exact y
      · rw [y] at z; cases z
    obtain rfl := sc_at h0
    have fin : nd (isVar t1 && decide (strO t1 ≠ strO (.sc (.str z0)))) "second" = .ok → tDrop (tCall (spNeedT eS) [] E (tCons (tCall spIsName [] E0 (tCons (tVar 3) tNil)) (tCons (tC (V.str (Str.ofString "field"))) tNil))) { nx := fun σ H => tSeq (sFld K (tVar 0) (tVar 1) "first") (tSeq (sFld K (tVar 0) (tVar 2) "second") (sFld K (tVar 0) (tVar 3) "field")) { nx := fun x H' => Q .non H', rt := Q } σ H, rt := Q } [some (.ref p), some (.str z0), some v1, some v2] H := fun e => by
      rw [e] at x q
      walk_at "rd"
      refine ⟨v2, t2, rfl, h2, m2, fun H1 s1 => ?_⟩
      walk_at "rd"
      refine ⟨_, _, rfl, fun z => ?_, fun z d H' s' hd => x _ (by rw [z]; rfl) d H' (Keep.same (s1.trans s')) hd⟩
      walk_at "rd"
      refine ⟨p, c.P, dx, _, rfl, s1 _ _ hp, cl, n0, (by decide), ?_⟩
      walk_at "rd"
      refine ⟨p, c.P, dx, _, rfl, upd_same, cl, n1, putF_lt0 (by decide), ?_⟩
      walk_at "rd"
      refine ⟨p, c.P, dx, _, rfl, upd_same, cl, n2, putF_lt0 (putF_lt (by decide)), ?_⟩
      walk_at "rd"
      exact q (by rw [z]; rfl) _ upd_same ((Keep.same s1).tr (keep_upd.tr (keep_upd.tr keep_upd)))
    refine r_iteB (fun y => ?_) (fun y => ?_)
    · obtain ⟨z1, rfl⟩ : ∃ z1, t1 = .sc (.str z1) := by
        rcases str_or2 t1 with u | ⟨_, u, _⟩
        · exact u
        · rw [u] at y; cases y
      obtain rfl := sc_at h1
      dsimp only [Sc.v]
      walk_at "rd"
      have e2 : (isVar (.sc (.str z1)) && decide (strO (.sc (.str z1)) ≠ strO (.sc (.str z0)))) = !decide (V.str z1 = V.str z0) := by
        rw [y, Bool.true_and]
        simp [strO]
      refine ⟨_, _, rfl, fun z => ?_, fun z d H' s' hd => x _ (by rw [e2, z]; rfl) d H' (Keep.same s') hd⟩
      rw [← e2] at z
      exact fin (by rw [z]; rfl)
    · walk_at "rd"
      refine ⟨_, _, rfl, (fun z => by cases z), fun _ d H' s' hd => x _ (by rw [y]; rfl) d H' (Keep.same s') hd⟩

end
end K35


namespace K35
open PySem L2 KB KO KY KV KTr

section
variable {P : Program} {w : World} {K : PySem.W.Frag} {mg : Str → Option Value} {base : Heap}
theorem bl_of_no {b c : Bool} : decide (V.bl b = V.bl c) = (b == c) := by cases b <;> cases c <;> rfl
theorem ok_writeB {f aL eS : Addr} {c : CA} {cdv dV kV doc pm ct oc : Value} {an od : Option Addr} {osl : Array (Option Value)} {n : Nat} {ks : List Str} {g : List Value → List Value → List Value} {gV : List V → List V → List V}
    (lk : K.lookup f = some ⟨oc, od, .func (PySem.W.fnOf "__init__" "Write.__init__" (defArgs s_Write___init__) (defBody s_Write___init__) (defScope s_Write___init__) dV kV doc pm an cdv ct), osl⟩) (hcd : PySem.W.codeIn K cdv "Write.__init__" = true)
    (hb : KSt.BStar K (PySem.W.fnOf "__init__" "Write.__init__" (defArgs s_Write___init__) (defBody s_Write___init__) (defScope s_Write___init__) dV kV doc pm an cdv ct) ["self", "port", "lane", "blend", "variable"] "means" n ks g)
    (hg : ∀ {vs us zs ws}, Vals vs us → Vals zs ws → Vals (gV vs zs) (g us ws)) (hgl : ∀ vs zs, vs.length = n → zs.length = ks.length → (gV vs zs).length = 5)
    (T : TxtSt K mg aL c) (c_need : KB.Callee P w K mg base (L2.CX P w) 3 "need" ["test", "reason"] (spNeedT eS)) (c_is_variable : KB.Callee P w K mg base CX0 1 "is_variable" ["value"] spIsVar)
    (c_need_access : KB.Callee P w K mg base (L2.CX P w) 4 "need_access" ["port", "lane"] (spAcc eS)) (c_meant : KB.Callee P w K mg base (L2.CX P w) 4 "meant" ["names"] (spMeant K eS))
    (p_Blend_is_constant : KW.OwnP P w K mg base 1 c.B "is_constant" ["self"] (spIsC c.B)) :
    KSt.FnK P w K mg base (L2.CX P w) 5 f ks (KSt.spStar (spWriteB eS c) n gV) := by
  refine KSt.fn_starK (ps := ["self", "port", "lane", "blend", "variable"]) (pv := "means") lk hcd sc_Write___init__ StX.cxUp hb hg hgl (fun A outer s H vs Q E hr h => ?_)
  obtain ⟨p, dx, t, v0, v1, v2, v3, items, t0, t1, tb, t3, ts, rfl, hp, ht, h0, h1, h2, h3, m0, m1, m3, hi, sm, li, x, q⟩ := h
  refine ⟨_, (pss_cons (ps_expr (pe_callC c_need_access (hr.mono (by decide)) (by rfl) (passes_call KL.def_takes fun _ _ _ _ h => h) (pa_cons (pv 1) (pa_cons (pv 2) pa_nil))))
 (pss_cons (ps_expr (pe_callC c_need (hr.mono (by decide)) (by rfl) (passes_call KL.def_takes fun _ _ _ _ h => h) (pa_cons (pe_callB call_isi (by rfl) T.z_isinstance (by decide +kernel) (pa_cons (pv 3) (pa_cons (pe_glob (v := .ref _) (by rfl) T.mg_Blend rfl) pa_nil))) (pa_cons pe_str pa_nil))))
 (pss_cons (ps_set (i := 6) sc_Write___init__.nd rfl (by first | exact Or.inl rfl | exact Or.inr rfl) (pe_callC c_meant (hr.mono (by decide)) (by rfl) (passes_call KL.def_takes fun _ _ _ _ h => h) (pa_cons (pv 5) pa_nil)))
 (Evl.pss_cut (ps_expr (pe_callC c_need (hr.mono (by decide)) (by rfl) (passes_call KL.def_takes fun _ _ _ _ h => h) (pa_cons (pe_or (pe_cmpR op_isN (pv 4) pe_non (nomark _)) (pe_one (pe_callC c_is_variable (hr.mono (by decide)) (by rfl) pass0 (pa_cons (pv 4) pa_nil)))) (pa_cons pe_str pa_nil))))
 (pss_cons (ps_expr (pe_callC c_need (hr.mono (by decide)) (by rfl) (passes_call KL.def_takes fun _ _ _ _ h => h) (pa_cons (pe_cmpR op_eq (KW.pe_propO p_Blend_is_constant (pv 3) (hr.mono (by decide))) (pe_cmpR op_isN (pv 4) pe_non (nomark _)) (nomark _)) (pa_cons pe_str pa_nil))))
 (pss_cons (ps_fld (pv 0) (pv 1) rfl)
 (pss_cons (ps_fld (pv 0) (pv 2) rfl)
 (pss_cons (ps_fld (pv 0) (pv 3) rfl)
 (pss_cons (ps_fld (pv 0) (pv 6) rfl)
 (pss_one (ps_fld (pv 0) (pv 4) rfl))))))))))), at_start (σ := [some (.ref p), some v0, some v1, some v2, some v3, some (.ref t), none]) rfl ?_⟩
  have eK : (cxOf (L2.CX P w) P w K mg base ["self", "port", "lane", "blend", "variable", "means", "names"] "Write.__init__" (defScope s_Write___init__) f cdv A outer s H E).K = K := rfl
  try simp only [eK]
  have cl := T.wc; have n0 := T.w_port; have n1 := T.w_lane; have n2 := T.w_blend; have n3 := T.w_means; have n4 := T.w_variable
  have ntp : t ≠ p := fun z => by rw [z, hp] at ht; cases ht
  walk_at "rd"
  refine ⟨v0, v1, t0, t1, rfl, h0, h1, m0, m1, fun rs e d H' s' hd => x _ (by unfold writeres; rw [e]; rfl) d H' (Keep.same s') hd, fun e H1 s1 => ?_⟩
  have e1 : writeres t0 t1 tb ts t3 = (nd tb.isB "blend").then ((nd (meansOk ts) "means").then ((nd (isNoT t3 || isVar t3) "variable").then (nd (tb.const == isNoT t3) "variable"))) := by unfold writeres; rw [e]; rfl
  rw [e1] at x q
  have hp1 := s1 _ _ hp
  replace h2 := h2.up s1
  walk_at "rd"
  refine r_isBa T h2 ?_
  walk_at "rd"
  refine ⟨_, _, rfl, fun z => ?_, fun z d H' s' hd => x _ (by rw [z]; rfl) d H' (Keep.same (s1.trans s')) hd⟩
  rw [z] at x q
  walk_at "rd"
  refine ⟨t, items, ts, rfl, SqT.of (s1 _ _ ht), TrsAt.up s1 _ _ hi, sm, li, fun z d H' s' hd => x _ (by rw [z]; rfl) d H' (Keep.same (s1.trans s')) hd, fun zs ez q' H3 s3 hq => ?_⟩
  have eM : meansOk ts = true := by unfold meansOk; rw [ez]; rfl
  have s13 := s1.trans s3
  rw [eM] at x q
  replace h2 := h2.up s3
  have h33 := TrAt.up s13 _ _ h3
  walk_at "rd"
  refine ⟨fun σ' H' => σ' = [some (.ref p), some v0, some v1, some v2, some v3, some (.ref t), some (.ref q')] ∧ Same H H' ∧ BaAt c.B H' v2 tb ∧ H' q' = some (.tup ((KSrS.sortS zs).map V.str)) ∧ (isNoT t3 || isVar t3) = true, ?_, ?_⟩
  · walk_at "rd"
    rw [no_at h33]
    refine r_iteB (fun y => ?_) (fun y => ?_)
    · walk_at "rd"
      refine ⟨_, _, rfl, fun _ => ⟨rfl, s13, h2, hq, by rw [y]; rfl⟩, (fun z => by cases z)⟩
    · walk_at "rd"
      refine ⟨v3, t3, rfl, h33, m3, ?_⟩
      walk_at "rd"
      refine ⟨_, _, rfl, fun z => ⟨rfl, s13, h2, hq, by rw [y, z]; rfl⟩, fun z d H' s' hd => x _ (by rw [y, z]; rfl) d H' (Keep.same (s13.trans s')) hd⟩
  · rintro σ5 H5 ⟨rfl, s5, h25, hq5, ev⟩
    rw [ev] at x q
    cases tb with
    | tr tb => cases z
    | bl w s k f =>
    obtain ⟨b, rfl, hb⟩ := h25
    obtain ⟨nmb, dxb, eb⟩ := hb
    walk_at "rd"
    refine KW.r_prop ?_
    walk_at "rd"
    refine ⟨b, _, _, rfl, eb, b, w, s, k, f, rfl, ⟨nmb, dxb, eb⟩, ?_⟩
    walk_at "rd"
    rw [no_at h3, bl_of_no]
    refine ⟨_, _, rfl, fun z => ?_, fun z d H' s' hd => x _ (by rw [show (Ba.bl w s k f).const = decide (k = 0) from rfl, z]; rfl) d H' (Keep.same (s5.trans s')) hd⟩
    have hp5 := s5 _ _ hp
    have nq : q' ≠ p := fun z => by rw [z, hp5] at hq5; cases hq5
    walk_at "rd"
    refine ⟨p, c.W, dx, _, rfl, hp5, cl, n0, (by decide), ?_⟩
    walk_at "rd"
    refine ⟨p, c.W, dx, _, rfl, upd_same, cl, n1, putF_lt0 (by decide), ?_⟩
    walk_at "rd"
    refine ⟨p, c.W, dx, _, rfl, upd_same, cl, n2, putF_lt0 (putF_lt (by decide)), ?_⟩
    walk_at "rd"
    refine ⟨p, c.W, dx, _, rfl, upd_same, cl, n3, putF_lt0 (putF_lt (putF_lt (by decide))), ?_⟩
    walk_at "rd"
    refine ⟨p, c.W, dx, _, rfl, upd_same, cl, n4, putF_lt0 (putF_lt (putF_lt (putF_lt (by decide)))), ?_⟩
    walk_at "rd"
    refine q zs (by rw [show (Ba.bl w s k f).const = decide (k = 0) from rfl, z]; rfl) ez q' _ upd_same ?_ ((Keep.same s5).tr (keep_upd.tr (keep_upd.tr (keep_upd.tr (keep_upd.tr keep_upd)))))
    rw [upd_ne nq, upd_ne nq, upd_ne nq, upd_ne nq, upd_ne nq]
    exact hq5

end
end K35


namespace K35
open PySem L2 KB KO KY KV KTr
def NmS (z : Str) : Prop := madeB CAPS INNS z = true
/-! ### steps made; their lines -/
def Nms (ms : List Str) : Prop := (∀ m ∈ ms, NmS m) ∧ ms.length ≤ 60
/-- what holds of a step that is made -/
def Stp.Ok : Stp → Prop
  | .read v p l ms => varB v = true ∧ NmS p ∧ l ∈ LNS ∧ Nms ms
  | .write p l w s k f ms v => NmS p ∧ l ∈ LNS ∧ Nms ms ∧ (∀ z, v = some z → varB z = true) ∧ (k = 0 ↔ v = none) ∧ Nm w s k f
  | .serve v m => varB v = true ∧ 1 ≤ m ∧ m ≤ 4294967295
  | .pair a b f => varB a = true ∧ varB b = true ∧ b ≠ a ∧ NmS f
theorem means_zs : ∀ (ts : List Tr) (seen zs : List Str), (∀ z ∈ seen, NmS z) → seen.Nodup → meansB seen ts = some zs → (∀ z ∈ zs, NmS z) ∧ zs.Nodup ∧ zs.length = seen.length + ts.length ∧ ∃ rest, zs = seen ++ rest ∧ ts = rest.map fun z => Tr.sc (.str z)
  | [], seen, zs, hs, nd, e => by
    cases e
    exact ⟨hs, nd, rfl, [], by simp, rfl⟩
  | .sc (.str z) :: r, seen, zs, hs, nd, e => by
    unfold meansB at e
    by_cases c : madeB CAPS INNS z = true ∧ z ∉ seen
    · rw [if_pos c] at e
      obtain ⟨a1, a2, a3, rest, a4, a5⟩ := means_zs r (seen ++ [z]) zs (fun y m => by
        rcases List.mem_append.mp m with m | m
        · exact hs y m
        · rw [List.mem_singleton.mp m]; exact c.1) (by
        rw [List.nodup_append]
        exact ⟨nd, by simp, fun a ma b mb => by rw [List.mem_singleton.mp mb]; exact fun z => c.2 (z ▸ ma)⟩) e
      exact ⟨a1, a2, by rw [a3, List.length_append]; simp; omega, z :: rest, by rw [a4]; simp, by rw [a5]; rfl⟩
    · rw [if_neg c] at e
      cases e
  | .sc .non :: _, _, _, _, _, e => by cases e
  | .sc (.bl _) :: _, _, _, _, _, e => by cases e
  | .sc (.int _) :: _, _, _, _, _, e => by cases e
  | .tup _ :: _, _, _, _, _, e => by cases e
  | .lst _ :: _, _, _, _, _, e => by cases e
  | .dct _ :: _, _, _, _, _, e => by cases e
theorem means_of : ∀ (zs seen : List Str), (∀ z ∈ zs, NmS z) → (seen ++ zs).Nodup → meansB seen (zs.map fun z => Tr.sc (.str z)) = some (seen ++ zs)
  | [], seen, _, _ => by simp [meansB]
  | z :: r, seen, h, nd => by
    show (if _ then _ else _) = _
    have c : z ∉ seen := fun m => by
      rw [List.nodup_append] at nd
      exact nd.2.2 z m z List.mem_cons_self rfl
    rw [if_pos ⟨h z List.mem_cons_self, c⟩, means_of r (seen ++ [z]) (fun y m => h y (List.mem_cons_of_mem _ m)) (by simpa using nd)]
    simp
theorem nms_sort {zs : List Str} {n : Nat} (h : ∀ z ∈ zs, NmS z) (l : zs.length ≤ 60) : Nms (KSrS.sortS zs) :=
  ⟨fun m hm => h m ((KSrS.sortS_perm zs).mem_iff.mp hm), by rw [(KSrS.sortS_perm zs).length_eq]; exact l⟩
theorem var_inv {t : Tr} (h : isVar t = true) : ∃ z, t = .sc (.str z) ∧ varB z = true := by
  rcases str_or2 t with ⟨z, rfl⟩ | ⟨_, n, _⟩
  · exact ⟨z, rfl, h⟩
  · rw [n] at h; cases h
theorem lane_inv {t : Tr} (h : isLane t = true) : ∃ z, t = .sc (.str z) ∧ z ∈ LNS := by
  rcases str_or2 t with ⟨z, rfl⟩ | ⟨_, _, n⟩
  · exact ⟨z, rfl, of_decide_eq_true h⟩
  · rw [n] at h; cases h
theorem nmt_inv {t : Tr} (h : isNm t = true) : ∃ nm, t = .sc (.str nm) ∧ NmS nm := by
  obtain ⟨z, e, g⟩ := isMade_of h
  exact ⟨z, e, g⟩
def ReadP (eS : Addr) (c : CA) (v0 v1 v2 : V) (t0 t1 t2 : Tr) (ts : List Tr) (H : Hp) (Q : VK) (E : XK) : Prop :=
  (∀ rs, readres t0 t1 t2 ts = .err rs → ErrS eS rs H E) ∧
  ∀ a b l zs, t0 = .sc (.str a) → t1 = .sc (.str b) → t2 = .sc (.str l) → meansB [] ts = some zs → (Stp.read a b l (KSrS.sortS zs)).Ok → ∀ p H', StpAt c H' p (.read a b l (KSrS.sortS zs)) → Same H H' → Q (.ref p) H'
def WriteP (eS : Addr) (c : CA) (t0 t1 : Tr) (tb : Ba) (ts : List Tr) (t3 : Tr) (H : Hp) (Q : VK) (E : XK) : Prop :=
  (∀ rs, writeres t0 t1 tb ts t3 = .err rs → ErrS eS rs H E) ∧
  ∀ (_ : writeres t0 t1 tb ts t3 = .ok) b l w s k f zs v, t0 = .sc (.str b) → t1 = .sc (.str l) → tb = .bl w s k f → meansB [] ts = some zs → strO t3 = v → (Stp.write b l w s k f (KSrS.sortS zs) v).Ok → ∀ p H', StpAt c H' p (.write b l w s k f (KSrS.sortS zs) v) → Same H H' → Q (.ref p) H'
def ServeP (eS : Addr) (c : CA) (t0 t1 : Tr) (H : Hp) (Q : VK) (E : XK) : Prop :=
  (∀ rs, serveres t0 t1 = .err rs → ErrS eS rs H E) ∧
  ∀ a m, t0 = .sc (.str a) → t1 = .sc (.int m) → (Stp.serve a m).Ok → ∀ p H', StpAt c H' p (.serve a m) → Same H H' → Q (.ref p) H'
def PairP (eS : Addr) (c : CA) (t0 t1 t2 : Tr) (H : Hp) (Q : VK) (E : XK) : Prop :=
  (∀ rs, pairres t0 t1 t2 = .err rs → ErrS eS rs H E) ∧
  ∀ a b f, t0 = .sc (.str a) → t1 = .sc (.str b) → t2 = .sc (.str f) → (Stp.pair a b f).Ok → ∀ p H', StpAt c H' p (.pair a b f) → Same H H' → Q (.ref p) H'
theorem same_made {H : Hp} {x dx C : Addr} (nx : H x = none) (nd : H dx = none) (ne : dx ≠ x) : Same H (upd (upd H dx (.own x)) x (.ins C dx [])) := (same_new nd).trans (same_new (by rw [upd_ne ne.symm]; exact nx))
theorem same_keep {H H0 H' : Hp} {x : Addr} (nx : H x = none) (s : Same H H0) (k : Keep x H0 H') : Same H H' := fun b o eb => k b o (s b o eb) fun z => by rw [z, nx] at eb; cases eb
theorem readres_ok {t0 t1 t2 : Tr} {ts : List Tr} (h : readres t0 t1 t2 ts = .ok) : isVar t0 = true ∧ isNm t1 = true ∧ isLane t2 = true ∧ meansOk ts = true := by
  unfold readres accres at h
  rw [then_ok, then_ok, then_ok, nd_ok, nd_ok, nd_ok, nd_ok] at h
  exact ⟨h.1, h.2.1.1, h.2.1.2, h.2.2⟩
theorem writeres_ok {t0 t1 : Tr} {tb : Ba} {ts : List Tr} {t3 : Tr} (h : writeres t0 t1 tb ts t3 = .ok) : isNm t0 = true ∧ isLane t1 = true ∧ tb.isB = true ∧ meansOk ts = true ∧ (isNoT t3 || isVar t3) = true ∧ (tb.const == isNoT t3) = true := by
  unfold writeres accres at h
  rw [then_ok, then_ok, then_ok, then_ok, then_ok, nd_ok, nd_ok, nd_ok, nd_ok, nd_ok, nd_ok] at h
  exact ⟨h.1.1, h.1.2, h.2.1, h.2.2.1, h.2.2.2.1, h.2.2.2.2⟩
theorem read_newB {eS : Addr} {c : CA} {H : Hp} {v0 v1 v2 : V} {items : List V} {t0 t1 t2 : Tr} {ts : List Tr} {x dx q : Addr} {Q : VK} {E : XK} (nx : H x = none) (nd : H dx = none) (ne : dx ≠ x)
    (nq : upd (upd H dx (.own x)) x (.ins c.R dx []) q = none) (h0 : TrAt H v0 t0) (h1 : TrAt H v1 t1) (h2 : TrAt H v2 t2) (m0 : Sm t0) (m1 : Sm t1) (m2 : Sm t2) (hi : TrsAt H items ts) (sm : ∀ t ∈ ts, Sm t) (li : items.length ≤ 60) (h : ReadP eS c v0 v1 v2 t0 t1 t2 ts H Q E) :
    spReadB eS c [V.ref x, v0, v1, v2, V.ref q] (upd (upd (upd H dx (.own x)) x (.ins c.R dx [])) q (.tup items)) (fun v H3 => v = .non ∧ Q (.ref x) H3) E := by
  have s0 : Same H (upd (upd (upd H dx (.own x)) x (.ins c.R dx [])) q (.tup items)) := (same_made nx nd ne).trans (same_new nq)
  refine ⟨x, dx, q, v0, v1, v2, items, t0, t1, t2, ts, rfl, upd_new nq upd_same, upd_same, TrAt.up s0 _ _ h0, TrAt.up s0 _ _ h1, TrAt.up s0 _ _ h2, m0, m1, m2, TrsAt.up s0 _ _ hi, sm, li, fun rs e d H' kp hd => h.1 rs e d H' (same_keep nx s0 kp) hd, fun zs e ez q' H' hp hq kp => ⟨rfl, ?_⟩⟩
  obtain ⟨e0, e1, e2, e3⟩ := readres_ok e
  obtain ⟨a, rfl, oa⟩ := var_inv e0
  obtain ⟨b, rfl, ob⟩ := nmt_inv e1
  obtain ⟨l, rfl, ol⟩ := lane_inv e2
  obtain ⟨mz, _, lz, _⟩ := means_zs ts [] zs (fun _ m => by cases m) .nil ez
  cases h0
  cases h1
  cases h2
  exact h.2 a b l zs rfl rfl rfl ez ⟨oa, ob, ol, nms_sort (n := 0) mz (by rw [lz, ← hi.len]; simpa using li)⟩ x H' ⟨dx, q', hp, hq⟩ (same_keep nx s0 kp)
theorem write_newB {eS : Addr} {c : CA} {H : Hp} {v0 v1 v2 v3 : V} {items : List V} {t0 t1 : Tr} {tb : Ba} {t3 : Tr} {ts : List Tr} {x dx q : Addr} {Q : VK} {E : XK} (nx : H x = none) (nd : H dx = none) (ne : dx ≠ x)
    (nq : upd (upd H dx (.own x)) x (.ins c.W dx []) q = none) (h0 : TrAt H v0 t0) (h1 : TrAt H v1 t1) (h2 : BaAt c.B H v2 tb) (h3 : TrAt H v3 t3) (m0 : Sm t0) (m1 : Sm t1) (m3 : Sm t3) (hi : TrsAt H items ts) (sm : ∀ t ∈ ts, Sm t) (li : items.length ≤ 60) (h : WriteP eS c t0 t1 tb ts t3 H Q E) :
    spWriteB eS c [V.ref x, v0, v1, v2, v3, V.ref q] (upd (upd (upd H dx (.own x)) x (.ins c.W dx [])) q (.tup items)) (fun v H3 => v = .non ∧ Q (.ref x) H3) E := by
  have s0 : Same H (upd (upd (upd H dx (.own x)) x (.ins c.W dx [])) q (.tup items)) := (same_made nx nd ne).trans (same_new nq)
  refine ⟨x, dx, q, v0, v1, v2, v3, items, t0, t1, tb, t3, ts, rfl, upd_new nq upd_same, upd_same, TrAt.up s0 _ _ h0, TrAt.up s0 _ _ h1, h2.up s0, TrAt.up s0 _ _ h3, m0, m1, m3, TrsAt.up s0 _ _ hi, sm, li, fun rs e d H' kp hd => h.1 rs e d H' (same_keep nx s0 kp) hd, fun zs e ez q' H' hp hq kp => ⟨rfl, ?_⟩⟩
  obtain ⟨e0, e1, e2, e3, e4, e5⟩ := writeres_ok e
  obtain ⟨b, rfl, ob⟩ := nmt_inv e0
  obtain ⟨l, rfl, ol⟩ := lane_inv e1
  obtain ⟨mz, _, lz, _⟩ := means_zs ts [] zs (fun _ m => by cases m) .nil ez
  cases h0
  cases h1
  cases tb with
  | tr t => cases e2
  | bl w s k f =>
  have s1 := same_keep nx s0 kp
  obtain ⟨pb, rfl, hb⟩ := h2
  have e5' : decide (k = 0) = isNoT t3 := beq_iff_eq.mp e5
  have ev : v3 = oV (strO t3) ∧ (∀ z, strO t3 = some z → varB z = true) ∧ (k = 0 ↔ strO t3 = none) := by
    cases h3' : isNoT t3 with
    | true =>
      rw [h3'] at e5'
      cases h3 with
      | sc s =>
        cases s with
        | non => exact ⟨rfl, (fun z e => by cases e), ⟨fun _ => rfl, fun _ => of_decide_eq_true e5'⟩⟩
        | _ => cases h3'
      | _ => cases h3'
    | false =>
      rw [h3'] at e5' e4
      obtain ⟨z, rfl, oz⟩ := var_inv e4
      cases h3
      exact ⟨rfl, fun y e => by cases e; exact oz, ⟨fun e => absurd e (of_decide_eq_false e5'), fun e => by cases e⟩⟩
  exact h.2 e b l w s k f zs _ rfl rfl rfl ez rfl ⟨ob, ol, nms_sort (n := 0) mz (by rw [lz, ← hi.len]; simpa using li), ev.2.1, ev.2.2, hb.1⟩ x H' ⟨dx, q', pb, by rw [← ev.1]; exact hp, hq, hb.up s1⟩ s1
theorem serve_new {eS : Addr} {c : CA} {H : Hp} {v0 v1 : V} {t0 t1 : Tr} {x dx : Addr} {Q : VK} {E : XK} (nx : H x = none) (nd : H dx = none) (ne : dx ≠ x)
    (h0 : TrAt H v0 t0) (h1 : TrAt H v1 t1) (m0 : Sm t0) (h : ServeP eS c t0 t1 H Q E) :
    spServe eS c [V.ref x, v0, v1] (upd (upd H dx (.own x)) x (.ins c.S dx [])) (fun v H3 => v = .non ∧ Q (.ref x) H3) E := by
  have s0 := same_made (C := c.S) nx nd ne
  refine ⟨x, dx, v0, v1, t0, t1, rfl, upd_same, TrAt.up s0 _ _ h0, TrAt.up s0 _ _ h1, m0, fun rs e d H' kp hd => h.1 rs e d H' (same_keep nx s0 kp) hd, fun e H' hp kp => ⟨rfl, ?_⟩⟩
  unfold serveres at e
  rw [then_ok, nd_ok, nd_ok] at e
  obtain ⟨a, rfl, oa⟩ := var_inv e.1
  obtain ⟨m, rfl, l1, l2⟩ := isNum_of e.2
  cases h0
  cases h1
  exact h.2 a m rfl rfl ⟨oa, l1, l2⟩ x H' ⟨dx, hp⟩ (same_keep nx s0 kp)
theorem pair_new {eS : Addr} {c : CA} {H : Hp} {v0 v1 v2 : V} {t0 t1 t2 : Tr} {x dx : Addr} {Q : VK} {E : XK} (nx : H x = none) (nd : H dx = none) (ne : dx ≠ x)
    (h0 : TrAt H v0 t0) (h1 : TrAt H v1 t1) (h2 : TrAt H v2 t2) (m0 : Sm t0) (m1 : Sm t1) (m2 : Sm t2) (h : PairP eS c t0 t1 t2 H Q E) :
    spPair eS c [V.ref x, v0, v1, v2] (upd (upd H dx (.own x)) x (.ins c.P dx [])) (fun v H3 => v = .non ∧ Q (.ref x) H3) E := by
  have s0 := same_made (C := c.P) nx nd ne
  refine ⟨x, dx, v0, v1, v2, t0, t1, t2, rfl, upd_same, TrAt.up s0 _ _ h0, TrAt.up s0 _ _ h1, TrAt.up s0 _ _ h2, m0, m1, m2, fun rs e d H' kp hd => h.1 rs e d H' (same_keep nx s0 kp) hd, fun e H' hp kp => ⟨rfl, ?_⟩⟩
  unfold pairres at e
  rw [then_ok, then_ok, nd_ok, nd_ok, nd_ok, Bool.and_eq_true] at e
  obtain ⟨a, rfl, oa⟩ := var_inv e.1
  obtain ⟨b, rfl, ob⟩ := var_inv e.2.1.1
  obtain ⟨f, rfl, of⟩ := nmt_inv e.2.2
  cases h0
  cases h1
  cases h2
  exact h.2 a b f rfl rfl rfl ⟨oa, ob, fun z => of_decide_eq_true e.2.1.2 (by rw [z]), of⟩ x H' ⟨dx, hp⟩ (same_keep nx s0 kp)
/-- C(e, .., *means) -/
def gSt (us _ : List V) : List V := us
/-- Read(variable = .., lane = .., port = ..) -/
def gRdK (us zs : List V) : List V := us ++ [zs.getD 0 .non, zs.getD 2 .non, zs.getD 1 .non]
/-- Write(port, lane, blend, *means, variable = ..), and without it -/
def gWr (us zs : List V) : List V := us ++ zs
def gWrD (us _ : List V) : List V := us ++ [.non]

end K35


namespace K35
open PySem L2 KB KO KY KV KTr
/-! ### what steps do -/
inductive Kd where
  | R | W | S | P
  deriving DecidableEq
def Stp.kd : Stp → Kd
  | .read .. => .R
  | .write .. => .W
  | .serve .. => .S
  | .pair .. => .P
def CA.cls (c : CA) : Kd → Addr
  | .R => c.R
  | .W => c.W
  | .S => c.S
  | .P => c.P
theorem StpAt.ins {c : CA} {H : Hp} {p : Addr} {a : Stp} (h : StpAt c H p a) : ∃ dx fs, H p = some (.ins (c.cls a.kd) dx fs) := by
  cases a with
  | read => obtain ⟨dx, q, e, _⟩ := h; exact ⟨_, _, e⟩
  | write => obtain ⟨dx, q, b, e, _⟩ := h; exact ⟨_, _, e⟩
  | serve => obtain ⟨dx, e⟩ := h; exact ⟨_, _, e⟩
  | pair => obtain ⟨dx, e⟩ := h; exact ⟨_, _, e⟩
def lineW : Stp → List Str
  | .read v p l ms => (["read", v, p, l] : List Str) ++ meansL ms
  | .write p l _ _ _ f ms none => (["write", p, l] : List Str) ++ ([toString f] : List Str) ++ meansL ms
  | .write p l _ s k f ms (some z) => (["write", p, l, z, toString s, toString k] : List Str) ++ ([toString f] : List Str) ++ meansL ms
  | .serve v m => (["serve", v, toString m] : List Str)
  | .pair a b f => (["pair", a, b, f] : List Str)
def headW (p l : Str) (s : Int) (k : Nat) : Option Str → List Str
  | none => (["write", p, l] : List Str)
  | some z => (["write", p, l, z, toString s, toString k] : List Str)
def lineT (a : Stp) : Str := Txt.join " " (lineW a)
theorem varB_len {z : Str} (h : varB z = true) : z.length ≤ 20 := by
  unfold varB at h
  rw [Bool.and_eq_true, decide_eq_true_eq] at h
  have := h.1
  rw [Array.length_toList] at this
  show z.cps.size ≤ 20
  omega
theorem nms_len {z : Str} (h : NmS z) : z.length ≤ 20 := by
  unfold NmS madeB at h
  rw [Bool.and_eq_true, Bool.and_eq_true, decide_eq_true_eq] at h
  have := h.1.1.2
  rw [Array.length_toList] at this
  show z.cps.size ≤ 20
  omega
theorem lns_len : ∀ z ∈ LNS, z.length ≤ 20 := by decide +kernel
theorem int_len {i : Int} (h : i.natAbs < 10 ^ 12) : (Str.ofString (toString i)).length ≤ 20 := Nat.le_trans (PyData.shown_int_le h) (by decide)
theorem nat_len {n : Nat} (h : n < 10 ^ 12) : (Str.ofString (toString n)).length ≤ 20 := int_len (i := (n : Int)) h
theorem nm_small {w : Nat} {s : Int} {k f : Nat} (h : Nm w s k f) : s.natAbs < 10 ^ 12 ∧ k < 10 ^ 12 ∧ f < 10 ^ 12 := by
  have wp := h.w3.pow
  have wl := h.w3.le
  have := h.lo
  have := h.hi
  have := h.kl
  have := h.fl
  have : (10 : Nat) ^ 12 = 1000000000000 := by decide
  exact ⟨by omega, by omega, by omega⟩
theorem line_small {a : Stp} (o : a.Ok) : (∀ z ∈ lineW a, z.length ≤ 20) ∧ (lineW a).length ≤ 80 := by
  have ms_small : ∀ ms, Nms ms → (∀ z ∈ meansL ms, z.length ≤ 20) ∧ (meansL ms).length ≤ 61 := fun ms h => by
    unfold meansL
    split
    · exact ⟨(fun z m => by cases m), by decide⟩
    · refine ⟨fun z m => ?_, by rw [List.length_cons]; have := h.2; omega⟩
      rcases List.mem_cons.mp m with rfl | m
      · decide +kernel
      · exact nms_len (h.1 z m)
  cases a with
  | read v p l ms =>
    obtain ⟨o1, o2, o3, o4⟩ := o
    have := ms_small ms o4
    refine ⟨fun z m => ?_, by simp only [lineW, List.length_append, List.length_cons, List.length_nil]; omega⟩
    rcases List.mem_append.mp m with m | m
    · simp only [List.mem_cons, List.not_mem_nil, or_false] at m
      rcases m with rfl | rfl | rfl | rfl
      · decide +kernel
      · exact varB_len o1
      · exact nms_len o2
      · exact lns_len _ o3
    · exact this.1 z m
  | write p l w s k f ms v =>
    obtain ⟨o2, o3, o4, o5, _, o6⟩ := o
    have := ms_small ms o4
    obtain ⟨b1, b2, b3⟩ := nm_small o6
    cases v with
    | none =>
      refine ⟨fun z m => ?_, by simp only [lineW, List.length_append, List.length_cons, List.length_nil]; omega⟩
      rcases List.mem_append.mp m with m | m
      · simp only [List.mem_cons, List.not_mem_nil, or_false, List.cons_append, List.nil_append] at m
        rcases m with rfl | rfl | rfl | rfl
        · decide +kernel
        · exact nms_len o2
        · exact lns_len _ o3
        · exact nat_len b3
      · exact this.1 z m
    | some x =>
      refine ⟨fun z m => ?_, by simp only [lineW, List.length_append, List.length_cons, List.length_nil]; omega⟩
      rcases List.mem_append.mp m with m | m
      · simp only [List.mem_cons, List.not_mem_nil, or_false, List.cons_append, List.nil_append] at m
        rcases m with rfl | rfl | rfl | rfl | rfl | rfl | rfl
        · decide +kernel
        · exact nms_len o2
        · exact lns_len _ o3
        · exact varB_len (o5 _ rfl)
        · exact int_len b1
        · exact nat_len b2
        · exact nat_len b3
      · exact this.1 z m
  | serve v m' =>
    obtain ⟨o1, o2, o3⟩ := o
    refine ⟨fun z m => ?_, by simp [lineW]⟩
    simp only [lineW, List.mem_cons, List.not_mem_nil, or_false] at m
    rcases m with rfl | rfl | rfl
    · decide +kernel
    · exact varB_len o1
    · exact int_len (by have : (10 : Nat) ^ 12 = 1000000000000 := by decide
                        omega)
  | pair a b f =>
    obtain ⟨o1, o2, _, o3⟩ := o
    refine ⟨fun z m => ?_, by simp [lineW]⟩
    simp only [lineW, List.mem_cons, List.not_mem_nil, or_false] at m
    rcases m with rfl | rfl | rfl | rfl
    · decide +kernel
    · exact varB_len o1
    · exact varB_len o2
    · exact nms_len o3
theorem sum_small : ∀ zs : List Str, (∀ z ∈ zs, z.length ≤ 20) → (zs.map (·.length)).sum ≤ 20 * zs.length
  | [], _ => Nat.le_refl _
  | z :: r, h => by
    have := sum_small r fun y m => h y (List.mem_cons_of_mem _ m)
    have := h z List.mem_cons_self
    rw [List.map_cons, List.sum_cons, List.length_cons]
    omega
theorem join_small {a : Stp} (o : a.Ok) : ((lineW a).map (·.length)).sum + (lineW a).length * (Str.ofString " ").length ≤ 16777216 := by
  obtain ⟨h1, h2⟩ := line_small o
  have := sum_small _ h1
  have : (Str.ofString " ").length = 1 := by decide +kernel
  rw [this]
  omega
theorem NmS.ok {z : Str} (h : NmS z) : PyData.strOk z = true := by
  have hi : ∀ c ∈ INNS.cps.toList, c < 0x110000 := by decide +kernel
  have hc : ∀ c ∈ CAPS.cps.toList, c < 0x110000 := by decide +kernel
  unfold NmS madeB at h
  rw [Bool.and_eq_true, Bool.and_eq_true, decide_eq_true_eq, decide_eq_true_eq] at h
  show z.cps.all _ = true
  rw [← Array.all_toList, List.all_eq_true]
  intro c m
  refine decide_eq_true ?_
  cases e : z.cps.toList with
  | nil => rw [e] at m; cases m
  | cons a r =>
    rw [e] at m h
    rcases List.mem_cons.mp m with rfl | m
    · exact hc _ h.1.2
    · exact hi _ (of_decide_eq_true (List.all_eq_true.mp h.2 c m))
def spReadOf (K : PySem.W.Frag) (eS : Addr) (c : CA) : Sp := fun vs H Q E => ∃ (cl v0 v1 v2 : V) (L : Addr) (items : List V) (t0 t1 t2 : Tr) (ts : List Tr), vs = [cl, v0, v1, v2, .ref L] ∧ (SqT K H L items ∨ SqL K H L items) ∧ TrAt H v0 t0 ∧ TrAt H v1 t1 ∧ TrAt H v2 t2 ∧ Sm t0 ∧ Sm t1 ∧ Sm t2 ∧ TrsAt H items ts ∧ (∀ t ∈ ts, Sm t) ∧ items.length ≤ 60 ∧ ReadP eS c v0 v1 v2 t0 t1 t2 ts H Q E
def spWriteOf (K : PySem.W.Frag) (eS : Addr) (c : CA) : Sp := fun vs H Q E => ∃ (cl v0 v1 v2 v3 : V) (L : Addr) (items : List V) (t0 t1 : Tr) (tb : Ba) (t3 : Tr) (ts : List Tr), vs = [cl, v0, v1, v2, .ref L, v3] ∧ (SqT K H L items ∨ SqL K H L items) ∧ TrAt H v0 t0 ∧ TrAt H v1 t1 ∧ BaAt c.B H v2 tb ∧ TrAt H v3 t3 ∧ Sm t0 ∧ Sm t1 ∧ Sm t3 ∧ TrsAt H items ts ∧ (∀ t ∈ ts, Sm t) ∧ items.length ≤ 60 ∧ WriteP eS c t0 t1 tb ts t3 H Q E
def spLine (c : CA) (i : Kd) : Sp := fun vs H Q _ => ∃ (p : Addr) (a : Stp), vs = [.ref p] ∧ StpAt c H p a ∧ a.kd = i ∧ a.Ok ∧ ∀ q H', Same H H' → H' q = some (.lst ((lineW a).map V.str)) → Q (.ref q) H'
def spText (c : CA) (i : Kd) : Sp := fun vs H Q _ => ∃ (p : Addr) (a : Stp), vs = [.ref p] ∧ StpAt c H p a ∧ a.kd = i ∧ a.Ok ∧ ∀ H', Same H H' → Q (.str (lineT a)) H'
def spEqS (K : PySem.W.Frag) (c : CA) (i : Kd) : Sp := fun vs H Q _ => ∃ (p : Addr) (y : V) (a : Stp), vs = [.ref p, y] ∧ StpAt c H p a ∧ a.kd = i ∧ a.Ok ∧ ((∃ q b, y = .ref q ∧ StpAt c H q b ∧ b.Ok ∧ Q (.bl (decide (a = b))) H) ∨ ∃ T ∈ BT, TyX K H y (.type T) ∧ Q (.bl false) H)
structure TxtKd (K : PySem.W.Frag) (mg : Str → Option Value) (aL : Addr) (c : CA) : Prop extends TxtSt K mg aL c where
  kit : ∀ i j : Kd, PySem.W.kitOne K (.ref (c.cls i)) (.ref (c.cls j)) = some (decide (i = j))
  kitT : ∀ j : Kd, ∀ A ∈ BT, PySem.W.kitOne K (.type A) (.ref (c.cls j)) = some false
  ty : ∀ {H : Hp} {a dx : Addr} {fs : List (Str × V)} (i : Kd), H a = some (.ins (c.cls i) dx fs) → TyX K H (.ref a) (.ref (c.cls i))
  nfB : PySem.W.notFirst K c.B (.ref c.B) = true
  mg_Read : mg "Read" = some (.ref c.R)
  mg_Write : mg "Write" = some (.ref c.W)
  mg_Serve : mg "Serve" = some (.ref c.S)
  mg_Pair : mg "Pair" = some (.ref c.P)

structure BlCls (K : PySem.W.Frag) (C : Addr) : Prop where
  cl : Cls K C
  n_width : NoAttr K C "width"
  n_shift : NoAttr K C "shift"
  n_keep : NoAttr K C "keep"
  n_flip : NoAttr K C "flip"
theorem small_log {i : Int} (h : i.natAbs < 10 ^ 12) : i.natAbs.log2 < 1920 := by
  by_cases z : i.natAbs = 0
  · rw [z]; decide
  · exact (Nat.log2_lt z).mpr (Nat.lt_of_lt_of_le h (by decide +kernel))

section
variable {P : Program} {w : World} {K : PySem.W.Frag} {mg : Str → Option Value} {base : Heap}
theorem line_free {c : CA} {H : Hp} {p C dx : Addr} {fs : List (Str × V)} {a : Stp} (h : StpAt c H p a) (e : H p = some (.ins C dx fs)) : fs.lookup ("line_words" : Str) = none := by
  cases a with
  | read => obtain ⟨dx, q, e', _⟩ := h; rw [e'] at e; cases e; rfl
  | write => obtain ⟨dx, q, b, e', _⟩ := h; rw [e'] at e; cases e; rfl
  | serve => obtain ⟨dx, e'⟩ := h; rw [e'] at e; cases e; rfl
  | pair => obtain ⟨dx, e'⟩ := h; rw [e'] at e; cases e; rfl
theorem ok_readof {f aL eS a0 : Addr} {c : CA} {fd : FuncData} (F : FunD K "of" "Read.of" (defArgs s_Read_of) (defBody s_Read_of) (defScope s_Read_of) [.ref a0] [] f fd) (r0_Read : KSt.CalleeIK P w K mg base (L2.CX P w) 5 c.R "Read" [] (KSt.spStar (spReadB eS c) 4 gSt)) : FnOk P w K mg base (L2.CX P w) 7 f fd ["cls", "variable", "port", "lane", "means"] (spReadOf K eS c) := by
  refine F.ok sc_Read_of (fun vs H Q E h => ?_) (fun cdv A outer s H vs Q E hr h => ?_)
  · obtain ⟨cl, v0, v1, v2, L, items, t0, t1, t2, ts, rfl, _⟩ := h
    rfl
  · obtain ⟨cl, v0, v1, v2, L, items, t0, t1, t2, ts, rfl, hL, h0, h1, h2, m0, m1, m2, hi, sm, li, z⟩ := h
    refine ⟨_, (pss_one (ps_ret (KSt.pe_makeRS r0_Read (hr.mono (by decide)) (by rfl) (passes_call KL.def_takes fun _ _ _ _ h => h) (pa_cons (pv 1) (pa_cons (pv 2) (pa_cons (pv 3) (StX.pa_star (pv 4) pa_nil))))))), at_start (σ := [some cl, some v0, some v1, some v2, some (.ref L)]) rfl ?_⟩
    try dsimp only [KC.cx_KX]
    walk_at "rd"
    refine KSt.r_makeRK ?_
    walk_at "rd"
    refine ⟨_, rfl, L, items, rfl, hL, ?_⟩
    walk_at "rd"
    refine ⟨rfl, fun x dx nx nd ne => ?_⟩
    rw [List.append_nil]
    refine ⟨[V.ref x, v0, v1, v2], items, rfl, rfl, Nat.le_trans li (by decide), fun q nq => read_newB nx nd ne nq h0 h1 h2 m0 m1 m2 hi sm li z⟩
theorem ok_writeof {f aL eS a0 : Addr} {c : CA} {fd : FuncData} (F : FunD K "of" "Write.of" (defArgs s_Write_of) (defBody s_Write_of) (defScope s_Write_of) [.ref a0, .non] [] f fd) (rk_Write_variable : KSt.CalleeIK P w K mg base (L2.CX P w) 5 c.W "Write" ["variable"] (KSt.spStar (spWriteB eS c) 4 gWr)) : FnOk P w K mg base (L2.CX P w) 7 f fd ["cls", "port", "lane", "blend", "means", "variable"] (spWriteOf K eS c) := by
  refine F.ok sc_Write_of (fun vs H Q E h => ?_) (fun cdv A outer s H vs Q E hr h => ?_)
  · obtain ⟨cl, v0, v1, v2, v3, L, items, t0, t1, tb, t3, ts, rfl, _⟩ := h
    rfl
  · obtain ⟨cl, v0, v1, v2, v3, L, items, t0, t1, tb, t3, ts, rfl, hL, h0, h1, h2, h3, m0, m1, m3, hi, sm, li, z⟩ := h
    refine ⟨_, (pss_one (ps_ret (KSt.pe_makeRKS rk_Write_variable (hr.mono (by decide)) (by rfl) (passes_call KL.def_takes fun _ _ _ _ h => h) (pa_cons (pv 1) (pa_cons (pv 2) (pa_cons (pv 3) (StX.pa_star (pv 4) pa_nil)))) (pk_cons (pv 5) pk_nil)))), at_start (σ := [some cl, some v0, some v1, some v2, some (.ref L), some v3]) rfl ?_⟩
    try dsimp only [KC.cx_KX]
    walk_at "rd"
    refine KSt.r_makeRK ?_
    walk_at "rd"
    refine ⟨_, rfl, L, items, rfl, hL, ?_⟩
    walk_at "rd"
    refine ⟨rfl, fun x dx nx nd ne => ?_⟩
    rw [List.append_nil]
    refine ⟨[V.ref x, v0, v1, v2], items, rfl, rfl, Nat.le_trans li (by decide), fun q nq => write_newB nx nd ne nq h0 h1 h2 h3 m0 m1 m3 hi sm li z⟩
theorem ok_lineR {f aL : Addr} {c : CA} {fd : FuncData} (F : Fun K "line_words" "Read.line_words" s_Read_line_words f fd) (T : TxtSt K mg aL c) (c_with_means : KB.Callee P w K mg base CX0 1 "with_means" ["words", "means"] (spWithM K)) : FnOk P w K mg base CX0 2 f fd ["self"] (spLine c .R) := by
  refine F.ok sc_Read_line_words (fun vs H Q E h => ?_) (fun cdv A outer s H vs Q E hr h => ?_)
  · obtain ⟨p, a, rfl, _⟩ := h
    rfl
  · obtain ⟨p, a, rfl, ha, ka, oa, q⟩ := h
    refine ⟨_, (pss_one (ps_ret (pe_callC c_with_means (hr.mono (by decide)) (by rfl) pass0 (pa_cons (pe_lst (pa_cons pe_str (pa_cons (pe_fld (pv 0) rfl) (pa_cons (pe_fld (pv 0) rfl) (pa_cons (pe_fld (pv 0) rfl) pa_nil))))) (pa_cons (pe_fld (pv 0) rfl) pa_nil))))), at_start (σ := [some (.ref p)]) rfl ?_⟩
    try dsimp only [cx_K]
    cases a with
    | read v pt l ms =>
      obtain ⟨dx, t, e, et⟩ := ha
      obtain ⟨o1, o2, o3, o4⟩ := oa
      have cl := T.rc; have n0 := T.r_variable; have n1 := T.r_port; have n2 := T.r_lane; have n3 := T.r_means
      walk_at "rd"
      refine ⟨by walk_at "sz", fun b nb => ?_⟩
      have s1 := same_new (o := .lst [V.str "read", .str v, .str pt, .str l]) nb
      have e1 := s1 _ _ e
      walk_at "rd"
      exact ⟨b, t, ["read", v, pt, l], ms, rfl, upd_same, SqT.of (s1 _ _ et), fun m hm => NmS.ok (o4.1 m hm), (show 4 ≤ 100 by decide), Nat.le_trans o4.2 (by decide), fun q' H' s' hq => q q' H' (s1.trans s') hq⟩
    | write => cases ka
    | serve => cases ka
    | pair => cases ka
theorem ok_lineS {f aL : Addr} {c : CA} {fd : FuncData} (F : Fun K "line_words" "Serve.line_words" s_Serve_line_words f fd) (T : TxtSt K mg aL c) : FnOk P w K mg base CX0 2 f fd ["self"] (spLine c .S) := by
  refine F.ok sc_Serve_line_words (fun vs H Q E h => ?_) (fun cdv A outer s H vs Q E hr h => ?_)
  · obtain ⟨p, a, rfl, _⟩ := h
    rfl
  · obtain ⟨p, a, rfl, ha, ka, oa, q⟩ := h
    refine ⟨_, (pss_one (ps_ret (pe_lst (pa_cons pe_str (pa_cons (pe_fld (pv 0) rfl) (pa_cons (pe_callTy call_str_int (by rfl) T.z_str (by decide +kernel) (pa_cons (pe_fld (pv 0) rfl) pa_nil)) pa_nil)))))), at_start (σ := [some (.ref p)]) rfl ?_⟩
    try dsimp only [cx_K]
    cases a with
    | serve v m =>
      obtain ⟨dx, e⟩ := ha
      obtain ⟨o1, o2, o3⟩ := oa
      have cl := T.sc; have n0 := T.s_variable; have n1 := T.s_mask
      walk_at "rd"
      exact ⟨small_log (by have : (10 : Nat) ^ 12 = 1000000000000 := by decide
                           omega), by walk_at "sz", fun b nb => q b _ (same_new nb) upd_same⟩
    | write => cases ka
    | read => cases ka
    | pair => cases ka
theorem ok_lineP {f aL : Addr} {c : CA} {fd : FuncData} (F : Fun K "line_words" "Pair.line_words" s_Pair_line_words f fd) (T : TxtSt K mg aL c) : FnOk P w K mg base CX0 2 f fd ["self"] (spLine c .P) := by
  refine F.ok sc_Pair_line_words (fun vs H Q E h => ?_) (fun cdv A outer s H vs Q E hr h => ?_)
  · obtain ⟨p, a, rfl, _⟩ := h
    rfl
  · obtain ⟨p, a, rfl, ha, ka, oa, q⟩ := h
    refine ⟨_, (pss_one (ps_ret (pe_lst (pa_cons pe_str (pa_cons (pe_fld (pv 0) rfl) (pa_cons (pe_fld (pv 0) rfl) (pa_cons (pe_fld (pv 0) rfl) pa_nil))))))), at_start (σ := [some (.ref p)]) rfl ?_⟩
    try dsimp only [cx_K]
    cases a with
    | pair a b g =>
      obtain ⟨dx, e⟩ := ha
      have cl := T.pc; have n0 := T.p_first; have n1 := T.p_second; have n2 := T.p_field
      walk_at "rd"
      exact ⟨by walk_at "sz", fun b nb => q b _ (same_new nb) upd_same⟩
    | write => cases ka
    | read => cases ka
    | serve => cases ka
theorem ok_lineW {f aL : Addr} {c : CA} {fd : FuncData} (F : Fun K "line_words" "Write.line_words" s_Write_line_words f fd) (T : TxtSt K mg aL c) (TB : BlCls K c.B) (c_with_means : KB.Callee P w K mg base CX0 1 "with_means" ["words", "means"] (spWithM K)) : FnOk P w K mg base CX0 2 f fd ["self"] (spLine c .W) := by
  refine F.ok sc_Write_line_words (fun vs H Q E h => ?_) (fun cdv A outer s H vs Q E hr h => ?_)
  · obtain ⟨p, a, rfl, _⟩ := h
    rfl
  · obtain ⟨p, a, rfl, ha, ka, oa, q⟩ := h
    refine ⟨_, (pss_cons (ps_set (i := 1) sc_Write_line_words.nd rfl (by first | exact Or.inl rfl | exact Or.inr rfl) (pe_lst (pa_cons pe_str (pa_cons (pe_fld (pv 0) rfl) (pa_cons (pe_fld (pv 0) rfl) pa_nil)))))
 (Evl.pss_cut (ps_if (pt_cmpR op_notN (pe_fld (pv 0) rfl) pe_non (nomark _)) (pss_one (ps_set (i := 1) sc_Write_line_words.nd rfl (by first | exact Or.inl rfl | exact Or.inr rfl) (pe_lst (StX.pa_star (pv 1) (pa_cons (pe_fld (pv 0) rfl) (pa_cons (pe_callTy call_str_int (by rfl) T.z_str (by decide +kernel) (pa_cons (pe_fld (pe_fld (pv 0) rfl) rfl) pa_nil)) (pa_cons (pe_callTy call_str_int (by rfl) T.z_str (by decide +kernel) (pa_cons (pe_fld (pe_fld (pv 0) rfl) rfl) pa_nil)) pa_nil)))))))
 pss_nil)
 (pss_one (ps_ret (pe_callC c_with_means (hr.mono (by decide)) (by rfl) pass0 (pa_cons (pe_lst (StX.pa_star (pv 1) (pa_cons (pe_callTy call_str_int (by rfl) T.z_str (by decide +kernel) (pa_cons (pe_fld (pe_fld (pv 0) rfl) rfl) pa_nil)) pa_nil))) (pa_cons (pe_fld (pv 0) rfl) pa_nil))))))), at_start (σ := [some (.ref p), none]) rfl ?_⟩
    try dsimp only [cx_K]
    cases a with
    | write pt l w' sh k f ms v =>
      obtain ⟨dx, t, b, e, et, nm, db, eb⟩ := ha
      obtain ⟨o2, o3, o4, o5, _, o6⟩ := oa
      obtain ⟨b1, b2, b3⟩ := nm_small nm
      have cl := T.wc; have n0 := T.w_port; have n1 := T.w_lane; have n2 := T.w_blend; have n3 := T.w_means; have n4 := T.w_variable
      have clB := TB.cl; have ns := TB.n_shift; have nk := TB.n_keep; have nf := TB.n_flip
      walk_at "rd"
      refine ⟨by walk_at "sz", fun l1 nl1 => ?_⟩
      have s1 := same_new (o := .lst [V.str "write", .str pt, .str l]) nl1
      have e1 := s1 _ _ e
      have eb1 := s1 _ _ eb
      walk_at "rd"
      refine ⟨fun σ' H' => ∃ l2, σ' = [some (.ref p), some (.ref l2)] ∧ Same H H' ∧ H' l2 = some (.lst ((headW pt l sh k v).map V.str)), ?_, ?_⟩
      · cases v with
        | none =>
          walk_at "rd"
          exact ⟨l1, rfl, s1, upd_same⟩
        | some z =>
          walk_at "rd"
          refine ⟨_, rfl, l1, _, rfl, .inr (SqL.of upd_same), ?_⟩
          walk_at "rd"
          refine ⟨small_log b1, ?_⟩
          walk_at "rd"
          refine ⟨small_log (i := (k : Int)) b2, ?_⟩
          walk_at "rd"
          refine ⟨?_, fun l2 nl2 => ?_⟩
          · have : (1000 : Nat) ≤ sizeLine := by decide
            simp only [List.length_append, List.length_map, List.length_cons, List.length_nil]
            omega
          exact ⟨l2, rfl, s1.trans (same_new nl2), upd_same⟩
      · rintro σ' H2 ⟨l2, rfl, s2, e2⟩
        have ep2 := s2 _ _ e
        have eb2 := s2 _ _ eb
        have et2 := s2 _ _ et
        walk_at "rd"
        refine ⟨_, rfl, l2, _, rfl, .inr (SqL.of e2), ?_⟩
        walk_at "rd"
        refine ⟨small_log (i := (f : Int)) b3, ?_⟩
        have ll : (headW pt l sh k v).length ≤ 6 := by cases v <;> simp [headW]
        have ec : (headW pt l sh k v).map V.str ++ [V.str (Str.ofString (toString f))] = (headW pt l sh k v ++ [(toString f : Str)]).map V.str := by simp
        refine ⟨?_, fun l3 nl3 => ?_⟩
        · have : (1000 : Nat) ≤ sizeLine := by decide
          simp only [List.length_append, List.length_map, List.length_cons, List.length_nil]
          omega
        have s3 := s2.trans (same_new (o := .lst ((headW pt l sh k v).map V.str ++ [V.str (Str.ofString (toString f))])) nl3)
        have ep3 := s3 _ _ e
        walk_at "rd"
        refine ⟨l3, t, headW pt l sh k v ++ [(toString f : Str)], ms, rfl, by rw [← ec]; exact upd_same, SqT.of (s3 _ _ et), fun m hm => NmS.ok (o4.1 m hm), by rw [List.length_append]; simp; omega, Nat.le_trans o4.2 (by decide), fun q' H' s' hq => q q' H' (s3.trans s') ?_⟩
        rw [hq]
        cases v <;> rfl
    | serve => cases ka
    | read => cases ka
    | pair => cases ka

theorem ok_strR {f aL : Addr} {c : CA} {fd : FuncData} (F : Fun K "__str__" "Read.__str__" s_Read___str__ f fd) (c_Read_line_words : KB.CalleeM P w K mg base CX0 2 c.R "line_words" ["self"] (spLine c .R)) : FnOk P w K mg base CX0 3 f fd ["self"] (spText c .R) := by
  refine F.ok sc_Read___str__ (fun vs H Q E h => ?_) (fun cdv A outer s H vs Q E hr h => ?_)
  · obtain ⟨p, a, rfl, _⟩ := h
    rfl
  · obtain ⟨p, a, rfl, ha, ka, oa, q⟩ := h
    refine ⟨_, (pss_one (ps_ret (pe_join pe_str (pe_methC0 c_Read_line_words (pv 0) (hr.mono (by decide)) pass0)))), at_start (σ := [some (.ref p)]) rfl ?_⟩
    try dsimp only [cx_K]
    have hi := ha.ins
    rw [ka] at hi
    obtain ⟨dx, fs, e⟩ := hi
    have el : fs.lookup ("line_words" : Str) = none := line_free ha e
    walk_at "rd"
    refine ⟨p, dx, fs, rfl, e, el, ?_⟩
    walk_at "rd"
    refine ⟨p, a, rfl, ha, ka, oa, fun l H' s' hl => ?_⟩
    refine ⟨" ", l, lineW a, rfl, rfl, .inl (SqL.of hl), join_small oa, ?_⟩
    exact q H' s'

theorem ok_reprR {f aL : Addr} {c : CA} {fd : FuncData} (F : Fun K "__repr__" "Read.__repr__" s_Read___repr__ f fd) (c_Read_line_words : KB.CalleeM P w K mg base CX0 2 c.R "line_words" ["self"] (spLine c .R)) : FnOk P w K mg base CX0 3 f fd ["self"] (spText c .R) := by
  refine F.ok sc_Read___repr__ (fun vs H Q E h => ?_) (fun cdv A outer s H vs Q E hr h => ?_)
  · obtain ⟨p, a, rfl, _⟩ := h
    rfl
  · obtain ⟨p, a, rfl, ha, ka, oa, q⟩ := h
    refine ⟨_, (pss_one (ps_ret (pe_join pe_str (pe_methC0 c_Read_line_words (pv 0) (hr.mono (by decide)) pass0)))), at_start (σ := [some (.ref p)]) rfl ?_⟩
    try dsimp only [cx_K]
    have hi := ha.ins
    rw [ka] at hi
    obtain ⟨dx, fs, e⟩ := hi
    have el : fs.lookup ("line_words" : Str) = none := line_free ha e
    walk_at "rd"
    refine ⟨p, dx, fs, rfl, e, el, ?_⟩
    walk_at "rd"
    refine ⟨p, a, rfl, ha, ka, oa, fun l H' s' hl => ?_⟩
    refine ⟨" ", l, lineW a, rfl, rfl, .inl (SqL.of hl), join_small oa, ?_⟩
    exact q H' s'

theorem ok_strW {f aL : Addr} {c : CA} {fd : FuncData} (F : Fun K "__str__" "Write.__str__" s_Write___str__ f fd) (c_Write_line_words : KB.CalleeM P w K mg base CX0 2 c.W "line_words" ["self"] (spLine c .W)) : FnOk P w K mg base CX0 3 f fd ["self"] (spText c .W) := by
  refine F.ok sc_Write___str__ (fun vs H Q E h => ?_) (fun cdv A outer s H vs Q E hr h => ?_)
  · obtain ⟨p, a, rfl, _⟩ := h
    rfl
  · obtain ⟨p, a, rfl, ha, ka, oa, q⟩ := h
    refine ⟨_, (pss_one (ps_ret (pe_join pe_str (pe_methC0 c_Write_line_words (pv 0) (hr.mono (by decide)) pass0)))), at_start (σ := [some (.ref p)]) rfl ?_⟩
    try dsimp only [cx_K]
    have hi := ha.ins
    rw [ka] at hi
    obtain ⟨dx, fs, e⟩ := hi
    have el : fs.lookup ("line_words" : Str) = none := line_free ha e
    walk_at "rd"
    refine ⟨p, dx, fs, rfl, e, el, ?_⟩
    walk_at "rd"
    refine ⟨p, a, rfl, ha, ka, oa, fun l H' s' hl => ?_⟩
    refine ⟨" ", l, lineW a, rfl, rfl, .inl (SqL.of hl), join_small oa, ?_⟩
    exact q H' s'

theorem ok_reprW {f aL : Addr} {c : CA} {fd : FuncData} (F : Fun K "__repr__" "Write.__repr__" s_Write___repr__ f fd) (c_Write_line_words : KB.CalleeM P w K mg base CX0 2 c.W "line_words" ["self"] (spLine c .W)) : FnOk P w K mg base CX0 3 f fd ["self"] (spText c .W) := by
  refine F.ok sc_Write___repr__ (fun vs H Q E h => ?_) (fun cdv A outer s H vs Q E hr h => ?_)
  · obtain ⟨p, a, rfl, _⟩ := h
    rfl
  · obtain ⟨p, a, rfl, ha, ka, oa, q⟩ := h
    refine ⟨_, (pss_one (ps_ret (pe_join pe_str (pe_methC0 c_Write_line_words (pv 0) (hr.mono (by decide)) pass0)))), at_start (σ := [some (.ref p)]) rfl ?_⟩
    try dsimp only [cx_K]
    have hi := ha.ins
    rw [ka] at hi
    obtain ⟨dx, fs, e⟩ := hi
    have el : fs.lookup ("line_words" : Str) = none := line_free ha e
    walk_at "rd"
    refine ⟨p, dx, fs, rfl, e, el, ?_⟩
    walk_at "rd"
    refine ⟨p, a, rfl, ha, ka, oa, fun l H' s' hl => ?_⟩
    refine ⟨" ", l, lineW a, rfl, rfl, .inl (SqL.of hl), join_small oa, ?_⟩
    exact q H' s'

theorem ok_strS {f aL : Addr} {c : CA} {fd : FuncData} (F : Fun K "__str__" "Serve.__str__" s_Serve___str__ f fd) (c_Serve_line_words : KB.CalleeM P w K mg base CX0 2 c.S "line_words" ["self"] (spLine c .S)) : FnOk P w K mg base CX0 3 f fd ["self"] (spText c .S) := by
  refine F.ok sc_Serve___str__ (fun vs H Q E h => ?_) (fun cdv A outer s H vs Q E hr h => ?_)
  · obtain ⟨p, a, rfl, _⟩ := h
    rfl
  · obtain ⟨p, a, rfl, ha, ka, oa, q⟩ := h
    refine ⟨_, (pss_one (ps_ret (pe_join pe_str (pe_methC0 c_Serve_line_words (pv 0) (hr.mono (by decide)) pass0)))), at_start (σ := [some (.ref p)]) rfl ?_⟩
    try dsimp only [cx_K]
    have hi := ha.ins
    rw [ka] at hi
    obtain ⟨dx, fs, e⟩ := hi
    have el : fs.lookup ("line_words" : Str) = none := line_free ha e
    walk_at "rd"
    refine ⟨p, dx, fs, rfl, e, el, ?_⟩
    walk_at "rd"
    refine ⟨p, a, rfl, ha, ka, oa, fun l H' s' hl => ?_⟩
    refine ⟨" ", l, lineW a, rfl, rfl, .inl (SqL.of hl), join_small oa, ?_⟩
    exact q H' s'

theorem ok_reprS {f aL : Addr} {c : CA} {fd : FuncData} (F : Fun K "__repr__" "Serve.__repr__" s_Serve___repr__ f fd) (c_Serve_line_words : KB.CalleeM P w K mg base CX0 2 c.S "line_words" ["self"] (spLine c .S)) : FnOk P w K mg base CX0 3 f fd ["self"] (spText c .S) := by
  refine F.ok sc_Serve___repr__ (fun vs H Q E h => ?_) (fun cdv A outer s H vs Q E hr h => ?_)
  · obtain ⟨p, a, rfl, _⟩ := h
    rfl
  · obtain ⟨p, a, rfl, ha, ka, oa, q⟩ := h
    refine ⟨_, (pss_one (ps_ret (pe_join pe_str (pe_methC0 c_Serve_line_words (pv 0) (hr.mono (by decide)) pass0)))), at_start (σ := [some (.ref p)]) rfl ?_⟩
    try dsimp only [cx_K]
    have hi := ha.ins
    rw [ka] at hi
    obtain ⟨dx, fs, e⟩ := hi
    have el : fs.lookup ("line_words" : Str) = none := line_free ha e
    walk_at "rd"
    refine ⟨p, dx, fs, rfl, e, el, ?_⟩
    walk_at "rd"
    refine ⟨p, a, rfl, ha, ka, oa, fun l H' s' hl => ?_⟩
    refine ⟨" ", l, lineW a, rfl, rfl, .inl (SqL.of hl), join_small oa, ?_⟩
    exact q H' s'

theorem ok_strP {f aL : Addr} {c : CA} {fd : FuncData} (F : Fun K "__str__" "Pair.__str__" s_Pair___str__ f fd) (c_Pair_line_words : KB.CalleeM P w K mg base CX0 2 c.P "line_words" ["self"] (spLine c .P)) : FnOk P w K mg base CX0 3 f fd ["self"] (spText c .P) := by
  refine F.ok sc_Pair___str__ (fun vs H Q E h => ?_) (fun cdv A outer s H vs Q E hr h => ?_)
  · obtain ⟨p, a, rfl, _⟩ := h
    rfl
  · obtain ⟨p, a, rfl, ha, ka, oa, q⟩ := h
    refine ⟨_, (pss_one (ps_ret (pe_join pe_str (pe_methC0 c_Pair_line_words (pv 0) (hr.mono (by decide)) pass0)))), at_start (σ := [some (.ref p)]) rfl ?_⟩
    try dsimp only [cx_K]
    have hi := ha.ins
    rw [ka] at hi
    obtain ⟨dx, fs, e⟩ := hi
    have el : fs.lookup ("line_words" : Str) = none := line_free ha e
    walk_at "rd"
    refine ⟨p, dx, fs, rfl, e, el, ?_⟩
    walk_at "rd"
    refine ⟨p, a, rfl, ha, ka, oa, fun l H' s' hl => ?_⟩
    refine ⟨" ", l, lineW a, rfl, rfl, .inl (SqL.of hl), join_small oa, ?_⟩
    exact q H' s'

theorem ok_reprP {f aL : Addr} {c : CA} {fd : FuncData} (F : Fun K "__repr__" "Pair.__repr__" s_Pair___repr__ f fd) (c_Pair_line_words : KB.CalleeM P w K mg base CX0 2 c.P "line_words" ["self"] (spLine c .P)) : FnOk P w K mg base CX0 3 f fd ["self"] (spText c .P) := by
  refine F.ok sc_Pair___repr__ (fun vs H Q E h => ?_) (fun cdv A outer s H vs Q E hr h => ?_)
  · obtain ⟨p, a, rfl, _⟩ := h
    rfl
  · obtain ⟨p, a, rfl, ha, ka, oa, q⟩ := h
    refine ⟨_, (pss_one (ps_ret (pe_join pe_str (pe_methC0 c_Pair_line_words (pv 0) (hr.mono (by decide)) pass0)))), at_start (σ := [some (.ref p)]) rfl ?_⟩
    try dsimp only [cx_K]
    have hi := ha.ins
    rw [ka] at hi
    obtain ⟨dx, fs, e⟩ := hi
    have el : fs.lookup ("line_words" : Str) = none := line_free ha e
    walk_at "rd"
    refine ⟨p, dx, fs, rfl, e, el, ?_⟩
    walk_at "rd"
    refine ⟨p, a, rfl, ha, ka, oa, fun l H' s' hl => ?_⟩
    refine ⟨" ", l, lineW a, rfl, rfl, .inl (SqL.of hl), join_small oa, ?_⟩
    exact q H' s'
end
end K35


namespace K35
open PySem L2 KB KO KY KV KTr

section
variable {P : Program} {w : World} {K : PySem.W.Frag} {mg : Str → Option Value} {base : Heap}
theorem ok_eqR {f aL : Addr} {c : CA} {fd : FuncData} (F : Fun K "__eq__" "Read.__eq__" s_Read___eq__ f fd) (T : TxtKd K mg aL c) : FnOk P w K mg base CX0 3 f fd ["self", "other"] (spEqS K c .R) := by
  refine F.ok sc_Read___eq__ (fun vs H Q E h => ?_) (fun cdv A outer s H vs Q E hr h => ?_)
  · obtain ⟨p, y, a, rfl, _⟩ := h
    rfl
  · obtain ⟨p, y, a, rfl, ha, ka, oa, alt⟩ := h
    have mg_Read := T.mg_Read
    cases a with
    | write => cases ka
    | serve => cases ka
    | pair => cases ka
    | read v pt l ms =>
      rcases alt with ⟨q, b0, rfl, hb, ob, z⟩ | ⟨Ty, hT, ty, z⟩
      · cases b0 with
        | write =>
          obtain ⟨dy, fs', e'⟩ := hb.ins
          refine ⟨_, (pss_one (ps_ret (pe_and (pe_callB call_isi (by rfl) T.z_isinstance (by decide +kernel) (pa_cons (pv 1) (pa_cons (pe_glob (v := .ref _) (by rfl) T.mg_Read rfl) pa_nil))) (pe_and (pe_cmpR op_eq (pe_fld (pv 0) rfl) (pe_fld (pv 1) rfl) (nomark _)) (pe_and (pe_cmpR op_eq (pe_fld (pv 0) rfl) (pe_fld (pv 1) rfl) (nomark _)) (pe_and (pe_cmpR op_eq (pe_fld (pv 0) rfl) (pe_fld (pv 1) rfl) (nomark _)) (pe_one (pe_cmpR (op_eqD hr.units) (pe_fld (pv 0) rfl) (pe_fld (pv 1) rfl) (nomark _))))))))), at_start (σ := [some (.ref p), some (.ref q)]) rfl ?_⟩
          try dsimp only [cx_K]
          walk_at "rd"
          refine ⟨_, _, _, _, false, rfl, .own c.R, T.ty _ e', T.kit _ .R, ?_⟩
          walk_at "rd"
          rw [decide_eq_false (fun z => by cases z)] at z
          exact z
        | serve =>
          obtain ⟨dy, fs', e'⟩ := hb.ins
          refine ⟨_, (pss_one (ps_ret (pe_and (pe_callB call_isi (by rfl) T.z_isinstance (by decide +kernel) (pa_cons (pv 1) (pa_cons (pe_glob (v := .ref _) (by rfl) T.mg_Read rfl) pa_nil))) (pe_and (pe_cmpR op_eq (pe_fld (pv 0) rfl) (pe_fld (pv 1) rfl) (nomark _)) (pe_and (pe_cmpR op_eq (pe_fld (pv 0) rfl) (pe_fld (pv 1) rfl) (nomark _)) (pe_and (pe_cmpR op_eq (pe_fld (pv 0) rfl) (pe_fld (pv 1) rfl) (nomark _)) (pe_one (pe_cmpR (op_eqD hr.units) (pe_fld (pv 0) rfl) (pe_fld (pv 1) rfl) (nomark _))))))))), at_start (σ := [some (.ref p), some (.ref q)]) rfl ?_⟩
          try dsimp only [cx_K]
          walk_at "rd"
          refine ⟨_, _, _, _, false, rfl, .own c.R, T.ty _ e', T.kit _ .R, ?_⟩
          walk_at "rd"
          rw [decide_eq_false (fun z => by cases z)] at z
          exact z
        | pair =>
          obtain ⟨dy, fs', e'⟩ := hb.ins
          refine ⟨_, (pss_one (ps_ret (pe_and (pe_callB call_isi (by rfl) T.z_isinstance (by decide +kernel) (pa_cons (pv 1) (pa_cons (pe_glob (v := .ref _) (by rfl) T.mg_Read rfl) pa_nil))) (pe_and (pe_cmpR op_eq (pe_fld (pv 0) rfl) (pe_fld (pv 1) rfl) (nomark _)) (pe_and (pe_cmpR op_eq (pe_fld (pv 0) rfl) (pe_fld (pv 1) rfl) (nomark _)) (pe_and (pe_cmpR op_eq (pe_fld (pv 0) rfl) (pe_fld (pv 1) rfl) (nomark _)) (pe_one (pe_cmpR (op_eqD hr.units) (pe_fld (pv 0) rfl) (pe_fld (pv 1) rfl) (nomark _))))))))), at_start (σ := [some (.ref p), some (.ref q)]) rfl ?_⟩
          try dsimp only [cx_K]
          walk_at "rd"
          refine ⟨_, _, _, _, false, rfl, .own c.R, T.ty _ e', T.kit _ .R, ?_⟩
          walk_at "rd"
          rw [decide_eq_false (fun z => by cases z)] at z
          exact z
        | read v' pt' l' ms' =>
          obtain ⟨dx, t, e, et⟩ := ha
          obtain ⟨dx', t', e', et'⟩ := hb
          obtain ⟨_, _, _, om⟩ := oa
          obtain ⟨_, _, _, om'⟩ := ob
          have cl := T.rc; have n0 := T.r_variable; have n1 := T.r_port; have n2 := T.r_lane; have n3 := T.r_means
          refine ⟨_, (pss_one (ps_ret (pe_and (pe_callB call_isi (by rfl) T.z_isinstance (by decide +kernel) (pa_cons (pv 1) (pa_cons (pe_glob (v := .ref _) (by rfl) T.mg_Read rfl) pa_nil))) (pe_and (pe_cmpR op_eq (pe_fld (pv 0) rfl) (pe_fld (pv 1) rfl) (nomark _)) (pe_and (pe_cmpR op_eq (pe_fld (pv 0) rfl) (pe_fld (pv 1) rfl) (nomark _)) (pe_and (pe_cmpR op_eq (pe_fld (pv 0) rfl) (pe_fld (pv 1) rfl) (nomark _)) (pe_one (pe_cmpR (op_eqD hr.units) (pe_fld (pv 0) rfl) (pe_fld (pv 1) rfl) (nomark _))))))))), at_start (σ := [some (.ref p), some (.ref q)]) rfl ?_⟩
          try dsimp only [cx_K]
          walk_at "rd"
          refine ⟨_, _, _, _, true, rfl, .own c.R, T.ty .R e', T.kit .R .R, ?_⟩
          walk_at "rd"
          refine r_iteS2 (fun e0 => ?_) (fun e0 => ?_)
          rotate_left
          · walk_at "rd"
            rw [decide_eq_false (fun z => e0 (by cases z; rfl))] at z
            exact z
          walk_at "rd"
          refine r_iteS2 (fun e1 => ?_) (fun e1 => ?_)
          rotate_left
          · walk_at "rd"
            rw [decide_eq_false (fun z => e1 (by cases z; rfl))] at z
            exact z
          walk_at "rd"
          refine r_iteS2 (fun e2 => ?_) (fun e2 => ?_)
          rotate_left
          · walk_at "rd"
            rw [decide_eq_false (fun z => e2 (by cases z; rfl))] at z
            exact z
          walk_at "rd"
          refine r_eqStrsT (SqT.of et) (SqT.of et') (fun x hx => NmS.ok (om.1 x hx)) (fun x hx => NmS.ok (om'.1 x hx)) ?_
          subst e0 e1 e2
          rw [show decide (Stp.read v pt l ms = Stp.read v pt l ms') = decide (ms = ms') from decide_eq_decide.mpr (by simp)] at z
          exact z
      · refine ⟨_, (pss_one (ps_ret (pe_and (pe_callB call_isi (by rfl) T.z_isinstance (by decide +kernel) (pa_cons (pv 1) (pa_cons (pe_glob (v := .ref _) (by rfl) T.mg_Read rfl) pa_nil))) (pe_and (pe_cmpR op_eq (pe_fld (pv 0) rfl) (pe_fld (pv 1) rfl) (nomark _)) (pe_and (pe_cmpR op_eq (pe_fld (pv 0) rfl) (pe_fld (pv 1) rfl) (nomark _)) (pe_and (pe_cmpR op_eq (pe_fld (pv 0) rfl) (pe_fld (pv 1) rfl) (nomark _)) (pe_one (pe_cmpR (op_eqD hr.units) (pe_fld (pv 0) rfl) (pe_fld (pv 1) rfl) (nomark _))))))))), at_start (σ := [some (.ref p), some y]) rfl ?_⟩
        try dsimp only [cx_K]
        walk_at "rd"
        refine ⟨_, _, _, _, false, rfl, .own c.R, ty, T.kitT .R _ hT, ?_⟩
        walk_at "rd"
        exact z

theorem ok_eqW {f aL : Addr} {c : CA} {fd : FuncData} (F : Fun K "__eq__" "Write.__eq__" s_Write___eq__ f fd) (T : TxtKd K mg aL c) (eq_Blend : KO.OwnM P w K mg base 1 c.B "__eq__" ["self", "other"] (spBEq K c.B)) : FnOk P w K mg base CX0 3 f fd ["self", "other"] (spEqS K c .W) := by
  refine F.ok sc_Write___eq__ (fun vs H Q E h => ?_) (fun cdv A outer s H vs Q E hr h => ?_)
  · obtain ⟨p, y, a, rfl, _⟩ := h
    rfl
  · obtain ⟨p, y, a, rfl, ha, ka, oa, alt⟩ := h
    have mg_Write := T.mg_Write
    cases a with
    | read => cases ka
    | serve => cases ka
    | pair => cases ka
    | write pt l w1 sh k1 f1 ms v =>
      rcases alt with ⟨q, b0, rfl, hb, ob, z⟩ | ⟨Ty, hT, ty, z⟩
      · cases b0 with
        | read =>
          obtain ⟨dy, fs', e'⟩ := hb.ins
          refine ⟨_, (pss_one (ps_ret (pe_and (pe_callB call_isi (by rfl) T.z_isinstance (by decide +kernel) (pa_cons (pv 1) (pa_cons (pe_glob (v := .ref _) (by rfl) T.mg_Write rfl) pa_nil))) (pe_and (pe_cmpR op_eq (pe_fld (pv 0) rfl) (pe_fld (pv 1) rfl) (nomark _)) (pe_and (pe_cmpR op_eq (pe_fld (pv 0) rfl) (pe_fld (pv 1) rfl) (nomark _)) (pe_and (pe_cmpR (KO.op_eqO eq_Blend (hr.mono (by decide))) (pe_fld (pv 0) rfl) (pe_fld (pv 1) rfl) (nomark _)) (pe_and (pe_cmpR (op_eqD hr.units) (pe_fld (pv 0) rfl) (pe_fld (pv 1) rfl) (nomark _)) (pe_one (pe_cmpR op_eq (pe_fld (pv 0) rfl) (pe_fld (pv 1) rfl) (nomark _)))))))))), at_start (σ := [some (.ref p), some (.ref q)]) rfl ?_⟩
          try dsimp only [cx_K]
          walk_at "rd"
          refine ⟨_, _, _, _, false, rfl, .own c.W, T.ty _ e', T.kit _ .W, ?_⟩
          walk_at "rd"
          rw [decide_eq_false (fun z => by cases z)] at z
          exact z
        | serve =>
          obtain ⟨dy, fs', e'⟩ := hb.ins
          refine ⟨_, (pss_one (ps_ret (pe_and (pe_callB call_isi (by rfl) T.z_isinstance (by decide +kernel) (pa_cons (pv 1) (pa_cons (pe_glob (v := .ref _) (by rfl) T.mg_Write rfl) pa_nil))) (pe_and (pe_cmpR op_eq (pe_fld (pv 0) rfl) (pe_fld (pv 1) rfl) (nomark _)) (pe_and (pe_cmpR op_eq (pe_fld (pv 0) rfl) (pe_fld (pv 1) rfl) (nomark _)) (pe_and (pe_cmpR (KO.op_eqO eq_Blend (hr.mono (by decide))) (pe_fld (pv 0) rfl) (pe_fld (pv 1) rfl) (nomark _)) (pe_and (pe_cmpR (op_eqD hr.units) (pe_fld (pv 0) rfl) (pe_fld (pv 1) rfl) (nomark _)) (pe_one (pe_cmpR op_eq (pe_fld (pv 0) rfl) (pe_fld (pv 1) rfl) (nomark _)))))))))), at_start (σ := [some (.ref p), some (.ref q)]) rfl ?_⟩
          try dsimp only [cx_K]
          walk_at "rd"
          refine ⟨_, _, _, _, false, rfl, .own c.W, T.ty _ e', T.kit _ .W, ?_⟩
          walk_at "rd"
          rw [decide_eq_false (fun z => by cases z)] at z
          exact z
        | pair =>
          obtain ⟨dy, fs', e'⟩ := hb.ins
          refine ⟨_, (pss_one (ps_ret (pe_and (pe_callB call_isi (by rfl) T.z_isinstance (by decide +kernel) (pa_cons (pv 1) (pa_cons (pe_glob (v := .ref _) (by rfl) T.mg_Write rfl) pa_nil))) (pe_and (pe_cmpR op_eq (pe_fld (pv 0) rfl) (pe_fld (pv 1) rfl) (nomark _)) (pe_and (pe_cmpR op_eq (pe_fld (pv 0) rfl) (pe_fld (pv 1) rfl) (nomark _)) (pe_and (pe_cmpR (KO.op_eqO eq_Blend (hr.mono (by decide))) (pe_fld (pv 0) rfl) (pe_fld (pv 1) rfl) (nomark _)) (pe_and (pe_cmpR (op_eqD hr.units) (pe_fld (pv 0) rfl) (pe_fld (pv 1) rfl) (nomark _)) (pe_one (pe_cmpR op_eq (pe_fld (pv 0) rfl) (pe_fld (pv 1) rfl) (nomark _)))))))))), at_start (σ := [some (.ref p), some (.ref q)]) rfl ?_⟩
          try dsimp only [cx_K]
          walk_at "rd"
          refine ⟨_, _, _, _, false, rfl, .own c.W, T.ty _ e', T.kit _ .W, ?_⟩
          walk_at "rd"
          rw [decide_eq_false (fun z => by cases z)] at z
          exact z
        | write pt' l' w1' sh' k1' f1' ms' v' =>
          obtain ⟨dx, t, b, e, et, nm, db, eb⟩ := ha
          obtain ⟨dx', t', b', e', et', nm', db', eb'⟩ := hb
          obtain ⟨_, _, om, _, _, _⟩ := oa
          obtain ⟨_, _, om', _, _, _⟩ := ob
          have cl := T.wc; have n0 := T.w_port; have n1 := T.w_lane; have n2 := T.w_blend; have n3 := T.w_means; have n4 := T.w_variable
          refine ⟨_, (pss_one (ps_ret (pe_and (pe_callB call_isi (by rfl) T.z_isinstance (by decide +kernel) (pa_cons (pv 1) (pa_cons (pe_glob (v := .ref _) (by rfl) T.mg_Write rfl) pa_nil))) (pe_and (pe_cmpR op_eq (pe_fld (pv 0) rfl) (pe_fld (pv 1) rfl) (nomark _)) (pe_and (pe_cmpR op_eq (pe_fld (pv 0) rfl) (pe_fld (pv 1) rfl) (nomark _)) (pe_and (pe_cmpR (KO.op_eqO eq_Blend (hr.mono (by decide))) (pe_fld (pv 0) rfl) (pe_fld (pv 1) rfl) (nomark _)) (pe_and (pe_cmpR (op_eqD hr.units) (pe_fld (pv 0) rfl) (pe_fld (pv 1) rfl) (nomark _)) (pe_one (pe_cmpR op_eq (pe_fld (pv 0) rfl) (pe_fld (pv 1) rfl) (nomark _)))))))))), at_start (σ := [some (.ref p), some (.ref q)]) rfl ?_⟩
          try dsimp only [cx_K]
          walk_at "rd"
          refine ⟨_, _, _, _, true, rfl, .own c.W, T.ty .W e', T.kit .W .W, ?_⟩
          walk_at "rd"
          refine r_iteS2 (fun e0 => ?_) (fun e0 => ?_)
          rotate_left
          · walk_at "rd"
            rw [decide_eq_false (fun z => e0 (by cases z; rfl))] at z
            exact z
          walk_at "rd"
          refine r_iteS2 (fun e1 => ?_) (fun e1 => ?_)
          rotate_left
          · walk_at "rd"
            rw [decide_eq_false (fun z => e1 (by cases z; rfl))] at z
            exact z
          walk_at "rd"
          refine ⟨b, db, _, b', c.B, db', _, rfl, rfl, eb, eb', T.nfB, .inl ⟨b, b', w1, w1', sh, sh', k1, k1', f1, f1', rfl, ⟨nm, db, eb⟩, ⟨nm', db', eb'⟩, ?_⟩⟩
          walk_at "rd"
          refine r_ite2 (fun e2 => ?_) (fun e2 => ?_)
          rotate_left
          · walk_at "rd"
            rw [decide_eq_false (fun z => e2 (by cases z; exact ⟨rfl, rfl, rfl, rfl⟩))] at z
            exact z
          walk_at "rd"
          refine r_eqStrsT (SqT.of et) (SqT.of et') (fun x hx => NmS.ok (om.1 x hx)) (fun x hx => NmS.ok (om'.1 x hx)) ?_
          walk_at "rd"
          refine r_ite2 (fun e3 => ?_) (fun e3 => ?_)
          rotate_left
          · walk_at "rd"
            rw [decide_eq_false (fun z => e3 (by cases z; rfl))] at z
            exact z
          walk_at "rd"
          obtain ⟨rfl, rfl, rfl, rfl⟩ := e2
          subst e0 e1 e3
          refine ⟨by cases v <;> cases v' <;> rfl, ?_⟩
          rw [show decide (Stp.write pt l w1 sh k1 f1 ms v = Stp.write pt l w1 sh k1 f1 ms v') = decide (oV v = oV v') from decide_eq_decide.mpr ⟨fun z => by cases z; rfl, fun z => by rw [oV_inj z]⟩] at z
          exact z
      · refine ⟨_, (pss_one (ps_ret (pe_and (pe_callB call_isi (by rfl) T.z_isinstance (by decide +kernel) (pa_cons (pv 1) (pa_cons (pe_glob (v := .ref _) (by rfl) T.mg_Write rfl) pa_nil))) (pe_and (pe_cmpR op_eq (pe_fld (pv 0) rfl) (pe_fld (pv 1) rfl) (nomark _)) (pe_and (pe_cmpR op_eq (pe_fld (pv 0) rfl) (pe_fld (pv 1) rfl) (nomark _)) (pe_and (pe_cmpR (KO.op_eqO eq_Blend (hr.mono (by decide))) (pe_fld (pv 0) rfl) (pe_fld (pv 1) rfl) (nomark _)) (pe_and (pe_cmpR (op_eqD hr.units) (pe_fld (pv 0) rfl) (pe_fld (pv 1) rfl) (nomark _)) (pe_one (pe_cmpR op_eq (pe_fld (pv 0) rfl) (pe_fld (pv 1) rfl) (nomark _)))))))))), at_start (σ := [some (.ref p), some y]) rfl ?_⟩
        try dsimp only [cx_K]
        walk_at "rd"
        refine ⟨_, _, _, _, false, rfl, .own c.W, ty, T.kitT .W _ hT, ?_⟩
        walk_at "rd"
        exact z

theorem ok_eqS {f aL : Addr} {c : CA} {fd : FuncData} (F : Fun K "__eq__" "Serve.__eq__" s_Serve___eq__ f fd) (T : TxtKd K mg aL c) : FnOk P w K mg base CX0 3 f fd ["self", "other"] (spEqS K c .S) := by
  refine F.ok sc_Serve___eq__ (fun vs H Q E h => ?_) (fun cdv A outer s H vs Q E hr h => ?_)
  · obtain ⟨p, y, a, rfl, _⟩ := h
    rfl
  · obtain ⟨p, y, a, rfl, ha, ka, oa, alt⟩ := h
    have mg_Serve := T.mg_Serve
    cases a with
    | read => cases ka
    | write => cases ka
    | pair => cases ka
    | serve v m =>
      rcases alt with ⟨q, b0, rfl, hb, ob, z⟩ | ⟨Ty, hT, ty, z⟩
      · cases b0 with
        | read =>
          obtain ⟨dy, fs', e'⟩ := hb.ins
          refine ⟨_, (pss_one (ps_ret (pe_and (pe_callB call_isi (by rfl) T.z_isinstance (by decide +kernel) (pa_cons (pv 1) (pa_cons (pe_glob (v := .ref _) (by rfl) T.mg_Serve rfl) pa_nil))) (pe_and (pe_cmpR op_eq (pe_fld (pv 0) rfl) (pe_fld (pv 1) rfl) (nomark _)) (pe_one (pe_cmpR op_eq (pe_fld (pv 0) rfl) (pe_fld (pv 1) rfl) (nomark _))))))), at_start (σ := [some (.ref p), some (.ref q)]) rfl ?_⟩
          try dsimp only [cx_K]
          walk_at "rd"
          refine ⟨_, _, _, _, false, rfl, .own c.S, T.ty _ e', T.kit _ .S, ?_⟩
          walk_at "rd"
          rw [decide_eq_false (fun z => by cases z)] at z
          exact z
        | write =>
          obtain ⟨dy, fs', e'⟩ := hb.ins
          refine ⟨_, (pss_one (ps_ret (pe_and (pe_callB call_isi (by rfl) T.z_isinstance (by decide +kernel) (pa_cons (pv 1) (pa_cons (pe_glob (v := .ref _) (by rfl) T.mg_Serve rfl) pa_nil))) (pe_and (pe_cmpR op_eq (pe_fld (pv 0) rfl) (pe_fld (pv 1) rfl) (nomark _)) (pe_one (pe_cmpR op_eq (pe_fld (pv 0) rfl) (pe_fld (pv 1) rfl) (nomark _))))))), at_start (σ := [some (.ref p), some (.ref q)]) rfl ?_⟩
          try dsimp only [cx_K]
          walk_at "rd"
          refine ⟨_, _, _, _, false, rfl, .own c.S, T.ty _ e', T.kit _ .S, ?_⟩
          walk_at "rd"
          rw [decide_eq_false (fun z => by cases z)] at z
          exact z
        | pair =>
          obtain ⟨dy, fs', e'⟩ := hb.ins
          refine ⟨_, (pss_one (ps_ret (pe_and (pe_callB call_isi (by rfl) T.z_isinstance (by decide +kernel) (pa_cons (pv 1) (pa_cons (pe_glob (v := .ref _) (by rfl) T.mg_Serve rfl) pa_nil))) (pe_and (pe_cmpR op_eq (pe_fld (pv 0) rfl) (pe_fld (pv 1) rfl) (nomark _)) (pe_one (pe_cmpR op_eq (pe_fld (pv 0) rfl) (pe_fld (pv 1) rfl) (nomark _))))))), at_start (σ := [some (.ref p), some (.ref q)]) rfl ?_⟩
          try dsimp only [cx_K]
          walk_at "rd"
          refine ⟨_, _, _, _, false, rfl, .own c.S, T.ty _ e', T.kit _ .S, ?_⟩
          walk_at "rd"
          rw [decide_eq_false (fun z => by cases z)] at z
          exact z
        | serve v' m' =>
          obtain ⟨dx, e⟩ := ha
          obtain ⟨dx', e'⟩ := hb
          obtain ⟨_, _, _⟩ := oa
          obtain ⟨_, _, _⟩ := ob
          have cl := T.sc; have n0 := T.s_variable; have n1 := T.s_mask
          refine ⟨_, (pss_one (ps_ret (pe_and (pe_callB call_isi (by rfl) T.z_isinstance (by decide +kernel) (pa_cons (pv 1) (pa_cons (pe_glob (v := .ref _) (by rfl) T.mg_Serve rfl) pa_nil))) (pe_and (pe_cmpR op_eq (pe_fld (pv 0) rfl) (pe_fld (pv 1) rfl) (nomark _)) (pe_one (pe_cmpR op_eq (pe_fld (pv 0) rfl) (pe_fld (pv 1) rfl) (nomark _))))))), at_start (σ := [some (.ref p), some (.ref q)]) rfl ?_⟩
          try dsimp only [cx_K]
          walk_at "rd"
          refine ⟨_, _, _, _, true, rfl, .own c.S, T.ty .S e', T.kit .S .S, ?_⟩
          walk_at "rd"
          refine r_iteS2 (fun e0 => ?_) (fun e0 => ?_)
          rotate_left
          · walk_at "rd"
            rw [decide_eq_false (fun z => e0 (by cases z; rfl))] at z
            exact z
          walk_at "rd"
          subst e0
          rw [show decide (Stp.serve v m = Stp.serve v m') = decide (V.int m = V.int m') from decide_eq_decide.mpr (by simp)] at z
          exact z
      · refine ⟨_, (pss_one (ps_ret (pe_and (pe_callB call_isi (by rfl) T.z_isinstance (by decide +kernel) (pa_cons (pv 1) (pa_cons (pe_glob (v := .ref _) (by rfl) T.mg_Serve rfl) pa_nil))) (pe_and (pe_cmpR op_eq (pe_fld (pv 0) rfl) (pe_fld (pv 1) rfl) (nomark _)) (pe_one (pe_cmpR op_eq (pe_fld (pv 0) rfl) (pe_fld (pv 1) rfl) (nomark _))))))), at_start (σ := [some (.ref p), some y]) rfl ?_⟩
        try dsimp only [cx_K]
        walk_at "rd"
        refine ⟨_, _, _, _, false, rfl, .own c.S, ty, T.kitT .S _ hT, ?_⟩
        walk_at "rd"
        exact z

theorem ok_eqP {f aL : Addr} {c : CA} {fd : FuncData} (F : Fun K "__eq__" "Pair.__eq__" s_Pair___eq__ f fd) (T : TxtKd K mg aL c) : FnOk P w K mg base CX0 3 f fd ["self", "other"] (spEqS K c .P) := by
  refine F.ok sc_Pair___eq__ (fun vs H Q E h => ?_) (fun cdv A outer s H vs Q E hr h => ?_)
  · obtain ⟨p, y, a, rfl, _⟩ := h
    rfl
  · obtain ⟨p, y, a, rfl, ha, ka, oa, alt⟩ := h
    have mg_Pair := T.mg_Pair
    cases a with
    | read => cases ka
    | write => cases ka
    | serve => cases ka
    | pair a1 a2 a3 =>
      rcases alt with ⟨q, b0, rfl, hb, ob, z⟩ | ⟨Ty, hT, ty, z⟩
      · cases b0 with
        | read =>
          obtain ⟨dy, fs', e'⟩ := hb.ins
          refine ⟨_, (pss_one (ps_ret (pe_and (pe_callB call_isi (by rfl) T.z_isinstance (by decide +kernel) (pa_cons (pv 1) (pa_cons (pe_glob (v := .ref _) (by rfl) T.mg_Pair rfl) pa_nil))) (pe_and (pe_cmpR op_eq (pe_fld (pv 0) rfl) (pe_fld (pv 1) rfl) (nomark _)) (pe_and (pe_cmpR op_eq (pe_fld (pv 0) rfl) (pe_fld (pv 1) rfl) (nomark _)) (pe_one (pe_cmpR op_eq (pe_fld (pv 0) rfl) (pe_fld (pv 1) rfl) (nomark _)))))))), at_start (σ := [some (.ref p), some (.ref q)]) rfl ?_⟩
          try dsimp only [cx_K]
          walk_at "rd"
          refine ⟨_, _, _, _, false, rfl, .own c.P, T.ty _ e', T.kit _ .P, ?_⟩
          walk_at "rd"
          rw [decide_eq_false (fun z => by cases z)] at z
          exact z
        | write =>
          obtain ⟨dy, fs', e'⟩ := hb.ins
          refine ⟨_, (pss_one (ps_ret (pe_and (pe_callB call_isi (by rfl) T.z_isinstance (by decide +kernel) (pa_cons (pv 1) (pa_cons (pe_glob (v := .ref _) (by rfl) T.mg_Pair rfl) pa_nil))) (pe_and (pe_cmpR op_eq (pe_fld (pv 0) rfl) (pe_fld (pv 1) rfl) (nomark _)) (pe_and (pe_cmpR op_eq (pe_fld (pv 0) rfl) (pe_fld (pv 1) rfl) (nomark _)) (pe_one (pe_cmpR op_eq (pe_fld (pv 0) rfl) (pe_fld (pv 1) rfl) (nomark _)))))))), at_start (σ := [some (.ref p), some (.ref q)]) rfl ?_⟩
          try dsimp only [cx_K]
          walk_at "rd"
          refine ⟨_, _, _, _, false, rfl, .own c.P, T.ty _ e', T.kit _ .P, ?_⟩
          walk_at "rd"
          rw [decide_eq_false (fun z => by cases z)] at z
          exact z
        | serve =>
          obtain ⟨dy, fs', e'⟩ := hb.ins
          refine ⟨_, (pss_one (ps_ret (pe_and (pe_callB call_isi (by rfl) T.z_isinstance (by decide +kernel) (pa_cons (pv 1) (pa_cons (pe_glob (v := .ref _) (by rfl) T.mg_Pair rfl) pa_nil))) (pe_and (pe_cmpR op_eq (pe_fld (pv 0) rfl) (pe_fld (pv 1) rfl) (nomark _)) (pe_and (pe_cmpR op_eq (pe_fld (pv 0) rfl) (pe_fld (pv 1) rfl) (nomark _)) (pe_one (pe_cmpR op_eq (pe_fld (pv 0) rfl) (pe_fld (pv 1) rfl) (nomark _)))))))), at_start (σ := [some (.ref p), some (.ref q)]) rfl ?_⟩
          try dsimp only [cx_K]
          walk_at "rd"
          refine ⟨_, _, _, _, false, rfl, .own c.P, T.ty _ e', T.kit _ .P, ?_⟩
          walk_at "rd"
          rw [decide_eq_false (fun z => by cases z)] at z
          exact z
        | pair a1' a2' a3' =>
          obtain ⟨dx, e⟩ := ha
          obtain ⟨dx', e'⟩ := hb
          obtain ⟨_, _, _, _⟩ := oa
          obtain ⟨_, _, _, _⟩ := ob
          have cl := T.pc; have n0 := T.p_first; have n1 := T.p_second; have n2 := T.p_field
          refine ⟨_, (pss_one (ps_ret (pe_and (pe_callB call_isi (by rfl) T.z_isinstance (by decide +kernel) (pa_cons (pv 1) (pa_cons (pe_glob (v := .ref _) (by rfl) T.mg_Pair rfl) pa_nil))) (pe_and (pe_cmpR op_eq (pe_fld (pv 0) rfl) (pe_fld (pv 1) rfl) (nomark _)) (pe_and (pe_cmpR op_eq (pe_fld (pv 0) rfl) (pe_fld (pv 1) rfl) (nomark _)) (pe_one (pe_cmpR op_eq (pe_fld (pv 0) rfl) (pe_fld (pv 1) rfl) (nomark _)))))))), at_start (σ := [some (.ref p), some (.ref q)]) rfl ?_⟩
          try dsimp only [cx_K]
          walk_at "rd"
          refine ⟨_, _, _, _, true, rfl, .own c.P, T.ty .P e', T.kit .P .P, ?_⟩
          walk_at "rd"
          refine r_iteS2 (fun e0 => ?_) (fun e0 => ?_)
          rotate_left
          · walk_at "rd"
            rw [decide_eq_false (fun z => e0 (by cases z; rfl))] at z
            exact z
          walk_at "rd"
          refine r_iteS2 (fun e1 => ?_) (fun e1 => ?_)
          rotate_left
          · walk_at "rd"
            rw [decide_eq_false (fun z => e1 (by cases z; rfl))] at z
            exact z
          walk_at "rd"
          subst e0 e1
          rw [show decide (Stp.pair a1 a2 a3 = Stp.pair a1 a2 a3') = decide (V.str a3 = V.str a3') from decide_eq_decide.mpr (by simp)] at z
          exact z
      · refine ⟨_, (pss_one (ps_ret (pe_and (pe_callB call_isi (by rfl) T.z_isinstance (by decide +kernel) (pa_cons (pv 1) (pa_cons (pe_glob (v := .ref _) (by rfl) T.mg_Pair rfl) pa_nil))) (pe_and (pe_cmpR op_eq (pe_fld (pv 0) rfl) (pe_fld (pv 1) rfl) (nomark _)) (pe_and (pe_cmpR op_eq (pe_fld (pv 0) rfl) (pe_fld (pv 1) rfl) (nomark _)) (pe_one (pe_cmpR op_eq (pe_fld (pv 0) rfl) (pe_fld (pv 1) rfl) (nomark _)))))))), at_start (σ := [some (.ref p), some y]) rfl ?_⟩
        try dsimp only [cx_K]
        walk_at "rd"
        refine ⟨_, _, _, _, false, rfl, .own c.P, ty, T.kitT .P _ hT, ?_⟩
        walk_at "rd"
        exact z
end
end K35


namespace K35
open PySem L2 KB KO KY KV KTr
/-! ### steps of any class: ==, !=, str, repr, isinstance -/
structure StpOps (P : Program) (w : World) (K : PySem.W.Frag) (mg : Str → Option Value) (base : Heap) (c : CA) : Prop where
  eq : ∀ i : Kd, KO.OwnM P w K mg base 3 (c.cls i) "__eq__" ["self", "other"] (spEqS K c i)
  ne : ∀ i : Kd, KSt.OwnNeK P w K mg base 3 (c.cls i) ["self", "other"] (spEqS K c i)
  str : ∀ i : Kd, KO.OwnM P w K mg base 3 (c.cls i) "__str__" ["self"] (spText c i)
  repr : ∀ i : Kd, KO.OwnM P w K mg base 3 (c.cls i) "__repr__" ["self"] (spText c i)
  nf : ∀ i j : Kd, PySem.W.notFirst K (c.cls i) (.ref (c.cls j)) = true
  nfT : ∀ i : Kd, ∀ T ∈ BT, PySem.W.notFirst K (c.cls i) (.type T) = true
/-- what stands beside a step -/
inductive Bsd (K : PySem.W.Frag) (c : CA) (H : Hp) (a : Stp) : V → Bool → Prop
  | stp {q : Addr} {b : Stp} (h : StpAt c H q b) (ok : b.Ok) : Bsd K c H a (.ref q) (decide (a = b))
  | dat {y : V} {T : String} (hT : T ∈ BT) (nb : T ≠ "bytes") (ty : KStp.TyBX K H y T) : Bsd K c H a y false
def rEqStp (K : PySem.W.Frag) (c : CA) : R2 := fun x y H Q => ∃ p a b, x = .ref p ∧ StpAt c H p a ∧ a.Ok ∧ Bsd K c H a y b ∧ Q (.bl b) H
def rNeStp (K : PySem.W.Frag) (c : CA) : R2 := fun x y H Q => ∃ p a b, x = .ref p ∧ StpAt c H p a ∧ a.Ok ∧ Bsd K c H a y b ∧ Q (.bl (!b)) H
def rTextStp (c : CA) : List V → Hp → VK → Prop := fun xs H Q => ∃ p a, xs = [.ref p] ∧ StpAt c H p a ∧ a.Ok ∧ ∀ H', Same H H' → Q (.str (lineT a)) H'
theorem Bsd.bes {P : Program} {w : World} {K : PySem.W.Frag} {mg : Str → Option Value} {base : Heap} {c : CA} {H : Hp} {a : Stp} {y : V} {b : Bool} (R : StpOps P w K mg base c) (h : Bsd K c H a y b) : KStp.Bes K (c.cls a.kd) H y := by
  cases h with
  | stp h ok => obtain ⟨dx, fs, e⟩ := h.ins; exact .ins e (R.nf _ _)
  | dat hT nb ty => exact .dat ty.1 nb (R.nfT _ _ hT)
theorem Bsd.sp {K : PySem.W.Frag} {c : CA} {H : Hp} {p : Addr} {a : Stp} {y : V} {b : Bool} {Q : VK} {E : XK} (h : Bsd K c H a y b) (ha : StpAt c H p a) (oa : a.Ok) (q : Q (.bl b) H) : spEqS K c a.kd [.ref p, y] H Q E := by
  cases h with
  | stp h ok => exact ⟨p, _, a, rfl, ha, rfl, oa, .inl ⟨_, _, rfl, h, ok, q⟩⟩
  | dat hT nb ty => exact ⟨p, _, a, rfl, ha, rfl, oa, .inr ⟨_, hT, ty.2, q⟩⟩
theorem StpOps.oq_eq {X : Cx} {c : CA} (R : StpOps X.prog X.w X.K X.mg X.base c) (room : Room 3 X.A) : OpR X (compareOp .Eq) (rEqStp X.K c) := by
  intro pins st σ h x y v u Z inv rx ry pre
  obtain ⟨p, a, b, rfl, ha, oa, hb, z⟩ := pre
  obtain ⟨dx, fs, e⟩ := ha.ins
  exact KStp.op_eqB (R.eq a.kd) room pins st σ h _ _ v u Z inv rx ry ⟨p, dx, fs, rfl, e, hb.bes R, hb.sp ha oa z⟩
structure StpIs (K : PySem.W.Frag) (mg : Str → Option Value) (aL : Addr) (c : CA) (CT : Addr) : Prop extends TxtKd K mg aL c where
  mg_Step : mg "Step" = some (.ref CT)
  kitP : ∀ i : Kd, PySem.W.kitOne K (.ref (c.cls i)) (.ref CT) = some true
  kitS : PySem.W.kitOne K (.type "str") (.ref CT) = some false
def MadeAt (C : Addr) (H : Hp) (p : Addr) (w : Nat) (s : Int) (m f : Nat) : Prop := BlendAt C H p w (KBL.shiftN w s m) (KBL.keepN w s m) f
theorem make_b {C cW cS cR : Addr} {H : Hp} {w : Nat} {s : Int} {m f : Nat} {Q : Hp → Prop} {E : XK} {x dx : Addr} (nx : H x = none) (ndx : H dx = none) (nm : Nm w s m f) (q : ∀ H', BlendAt C H' x w (KBL.shiftN w s m) (KBL.keepN w s m) f → Same H H' → Q H') :
    spBlend C cW cS cR [.ref x, .int w, .int s, .int m, .int f] (upd (upd H dx (.own x)) x (.ins C dx [])) (fun v H3 => v = .non ∧ Q H3) E := by
  have sh : isShift w (.sc (.int s)) = true := decide_eq_true ⟨nm.lo, nm.hi⟩
  refine ⟨x, dx, _, _, _, _, .sc (.int w), .sc (.int s), .sc (.int m), .sc (.int f), rfl, upd_same, rfl, rfl, rfl, rfl, fun z => ?_, fun w' e w3 z => ?_, fun w' e w3 _ _ z => ?_, fun w' e w3 _ _ z => ?_, fun w' s' f' e1 e2 e4 _ nm' H' B kp => ⟨rfl, ?_⟩⟩
  · rw [isW_nat nm.w3] at z; cases z
  · cases e; rw [sh] at z; cases z
  · obtain rfl : w = w' := by cases e; rfl
    rw [isWord_nat nm.kl] at z; cases z
  · obtain rfl : w = w' := by cases e; rfl
    rw [isWord_nat nm.fl] at z; cases z
  · obtain rfl : w = w' := by cases e1; rfl
    obtain rfl : s = s' := by cases e2; rfl
    obtain rfl : f = f' := by cases e4; rfl
    exact q H' B fun b o e => kp b o (by rw [upd_ne (ne_of_none e nx), upd_ne (ne_of_none e ndx)]; exact e) (ne_of_none e nx)
def spConst (C cW cR : Addr) : Sp := fun vs H Q E => ∃ (v1 v2 : V) (t1 t2 : Dt), vs = [.ref C, v1, v2] ∧ OdAt H v1 t1 ∧ OdAt H v2 t2 ∧ (isW t1 = false → ∀ d H', Same H H' → H' d = some (.xd [("value", v1)]) → E (.ref cW) (some d) H') ∧
  (∀ w : Nat, t1 = .sc (.int w) → W3 w → isWord w t2 = false → ∀ d H', Same H H' → H' d = some (.xd [("value", v2)]) → E (.ref cR) (some d) H') ∧
  (∀ w n : Nat, t1 = .sc (.int w) → t2 = .sc (.int n) → W3 w → n < 2 ^ w → ∀ H' x, MadeAt C H' x w 0 0 n → Same H H' → Q (.ref x) H')


section
variable {P : Program} {w : World} {K : PySem.W.Frag} {mg : Str → Option Value} {base : Heap}
theorem ok_const {f C aW cW cS cR : Addr} {fd : FuncData} (F : Fun K "constant" "Blend.constant" s_Blend_constant f fd) (T : TxtB K mg C aW) (c_need_width : KB.Callee P w K mg base (L2.CX P w) 3 "need_width" ["width"] (spNW cW)) (c_need_word : KB.Callee P w K mg base (L2.CX P w) 5 "need_word" ["width", "value"] (spNeed cR)) (c_Blend___init__ : CalleeI P w K mg base (L2.CX P w) 6 C "Blend" ["self", "width", "shift", "keep", "flip"] (spBlend C cW cS cR)) : FnOk P w K mg base (L2.CX P w) 8 f fd ["cls", "width", "value"] (spConst C cW cR) := by
  refine F.okX sc_Blend_constant (fun vs H Q E h => ?_) (fun cdv A outer s H vs Q E hr h => ?_)
  · obtain ⟨v1, v2, t1, t2, rfl, _⟩ := h
    rfl
  · obtain ⟨v1, v2, t1, t2, rfl, o1, o2, x1, x2, q⟩ := h
    refine ⟨_, (pss_cons (ps_expr (pe_callC c_need_width (hr.mono (by decide)) (by rfl) (passes_call KL.def_takes fun _ _ _ _ h => h) (pa_cons (pv 1) pa_nil)))
 (pss_cons (ps_expr (pe_callC c_need_word (hr.mono (by decide)) (by rfl) (passes_call KL.def_takes fun _ _ _ _ h => h) (pa_cons (pv 1) (pa_cons (pv 2) pa_nil))))
 (pss_one (ps_ret (KP.pe_makeL c_Blend___init__ (hr.mono (by decide)) (passes_call KL.def_takes fun _ _ _ _ h => h) (pv 0) (pa_cons (pv 1) (pa_cons pe_int (pa_cons pe_int (pa_cons (pv 2) pa_nil))))))))), at_start (σ := [some (.ref C), some v1, some v2]) rfl ?_⟩
    try dsimp only [KC.cx_KX]
    walk_at "rd"
    refine ⟨v1, t1, rfl, o1, fun y1 => ?_, x1⟩
    obtain ⟨w, w3, rfl⟩ := isW_of y1
    obtain rfl : v1 = .int w := o1
    walk_at "rd"
    refine ⟨w, v2, t2, rfl, w3, o2, fun y2 => ?_, x2 w rfl w3⟩
    obtain ⟨n, hn, rfl⟩ := isWord_of y2
    obtain rfl : v2 = .int n := o2
    walk_at "rd"
    refine KP.r_makeL ?_
    walk_at "rd"
    refine ⟨rfl, ?_⟩
    walk_at "rd"
    have wl := w3.le
    exact fun x dx nx ndx nxd => make_b (m := 0) nx ndx ⟨w3, by omega, by omega, Nat.two_pow_pos w, hn⟩ fun H' B' sm => q w n rfl rfl w3 hn H' x B' sm

theorem ok_isc {f C aW : Addr} {fd : FuncData} {j : Nat} (F : Fun K "is_constant" "Blend.is_constant" s_Blend_is_constant f fd) (T : TxtB K mg C aW) : FnOk P w K mg base CX0 (j + 1) f fd ["self"] (spIsC C) := by
  refine F.ok sc_Blend_is_constant (fun vs H Q E h => ?_) (fun cdv A outer s H vs Q E hr h => ?_)
  · obtain ⟨p, w, s, k, f, rfl, _⟩ := h
    rfl
  · obtain ⟨p, w, s, k, f, rfl, ⟨nm, dx, h1⟩, q⟩ := h
    refine ⟨_, (pss_one (ps_ret (pe_cmpR op_eq (pe_fld (pv 0) rfl) pe_int (nomark _)))), at_start (σ := [some (.ref p)]) rfl ?_⟩
    try dsimp only [cx_K]
    have cl := T.cl; have nk := T.n_keep
    walk_at "rd"
    rw [show decide (V.int (k : Int) = V.int 0) = decide (k = 0) from decide_eq_decide.mpr ⟨fun z => by have := V.int.inj z; omega, fun z => by rw [z]; rfl⟩]
    exact q

end
end K35


namespace K35
open PySem L2 KB KO KY KV KTr
/-! ### what is drawn: words, names, variables, normal numbers -/
def spWordB : Sp := fun vs H Q _ => ∃ (pen pc : Addr) (w k : Nat), vs = [.ref pen, .int w] ∧ W3 w ∧ PenC H pen pc (k + 4) ∧ ∀ (n : Nat) H', n < 2 ^ w → PenC H' pen pc k → Keep pen H H' → Q (.int n) H'
/-- none of the law's own names -/
def Pz (z : Str) : Prop := z ≠ "ZZZZZZZZ" ∧ z ≠ "Z9" ∧ z ≠ "Z9Z9Z9Z9"
abbrev PzN (z : Str) : Prop := Pz z
def spNames : Sp := fun vs H Q _ => ∃ (pen pc : Addr) (m k : Nat), vs = [.ref pen, .int m] ∧ m ≤ 5 ∧ PenC H pen pc (k + 12) ∧
  ∀ (q : Addr) (zs : List Str) (H' : Hp), H q = none → H' q = some (.lst (zs.map V.str)) → zs.length = m → (∀ z ∈ zs, NmS z ∧ Pz z) → zs.Nodup → PenC H' pen pc k → Keep pen H H' → Q (.ref q) H'
def spVars : Sp := fun vs H Q _ => ∃ (pen pc : Addr) (k : Nat), vs = [.ref pen] ∧ PenC H pen pc (k + 3) ∧
  ∀ q a b H', H q = none → H' q = some (.lst [.str a, .str b]) → varB a = true → varB b = true → b ≠ a → PenC H' pen pc k → Keep pen H H' → Q (.ref q) H'
def spNormal : Sp := fun vs H Q _ => ∃ (w k : Nat) (s : Int), vs = [.int w, .int s, .int k] ∧ W3 w ∧ 0 - (w : Int) ≤ s ∧ s ≤ w ∧ k < 2 ^ w ∧
  ∀ q H', Same H H' → H' q = some (.tup [.int (KBL.shiftN w s k), .int (KBL.keepN w s k : Nat)]) → Q (.ref q) H'


section
variable {P : Program} {w : World} {K : PySem.W.Frag} {mg : Str → Option Value} {base : Heap}
theorem two_i (n : Nat) : (1 * 2 ^ n : Int) = ((2 ^ n : Nat) : Int) := by simp
theorem w_min {w : Nat} (w3 : W3 w) : (if (16 : Int) < (w : Int) then (16 : Int) else (w : Int)) = ((min w 16 : Nat) : Int) := by
  split <;> omega
theorem ok_wordb {f : Addr} {fd : FuncData} (F : Fun K "_law_word" "_law_word" s__law_word f fd) (T : Txt mg) (c__law_draw : KB.Callee P w K mg base CX0 1 "_law_draw" ["_law_pen_here", "_law_many"] spDraw) : FnOk P w K mg base CX0 2 f fd ["_law_pen_here", "_law_bits"] spWordB := by
  refine F.ok sc__law_word (fun vs H Q E h => ?_) (fun cdv A outer s H vs Q E hr h => ?_)
  · obtain ⟨pen, c, w, k, rfl, _⟩ := h
    rfl
  · obtain ⟨pen, c, w, k, rfl, w3, pn, q⟩ := h
    have wl := w3.le
    have w1 : 1 < 2 ^ w := Nat.one_lt_two_pow (by omega)
    refine ⟨_, (pss_cons (ps_set (i := 2) sc__law_word.nd rfl (by first | exact Or.inl rfl | exact Or.inr rfl) (pe_callC c__law_draw (hr.mono (by decide)) (by rfl) pass0 (pa_cons (pv 0) (pa_cons pe_int pa_nil))))
 (pss_cons (ps_if (pt_cmpR op_eq (pv 2) pe_int (nomark _)) (pss_one (ps_ret pe_int))
 pss_nil)
 (pss_cons (ps_if (pt_cmpR op_eq (pv 2) pe_int (nomark _)) (pss_one (ps_ret (pe_op op_sub (pe_op op_shl pe_int (pv 1)) pe_int)))
 pss_nil)
 (pss_cons (ps_if (pt_cmpR op_eq (pv 2) pe_int (nomark _)) (pss_one (ps_ret (pe_op op_shl pe_int (pe_callC c__law_draw (hr.mono (by decide)) (by rfl) pass0 (pa_cons (pv 0) (pa_cons (pv 1) pa_nil))))))
 pss_nil)
 (pss_cons (ps_set (i := 3) sc__law_word.nd rfl (by first | exact Or.inl rfl | exact Or.inr rfl) (pe_callC c__law_draw (hr.mono (by decide)) (by rfl) pass0 (pa_cons (pv 0) (pa_cons (pe_op op_shl pe_int (pe_callB (call_min2 rfl) (by rfl) T.z_min (by decide +kernel) (pa_cons (pv 1) (pa_cons pe_int pa_nil)))) pa_nil))))
 (pss_cons (ps_if (pt_cmpR op_lt (pv 1) pe_int (nomark _)) (pss_one (ps_ret (pv 3)))
 pss_nil)
 (pss_one (ps_ret (pe_op op_add (pv 3) (pe_op op_shl (pe_callC c__law_draw (hr.mono (by decide)) (by rfl) pass0 (pa_cons (pv 0) (pa_cons (pe_op op_shl pe_int (pe_op op_sub (pv 1) pe_int)) pa_nil))) pe_int)))))))))), at_start (σ := [some (.ref pen), some (.int w), none, none]) rfl ?_⟩
    try dsimp only [cx_K]
    walk_at "rd"
    refine ⟨pen, c, 6, k + 3, rfl, by decide, by decide, pn, fun r1 H1 a1 b1 pn1 kp1 => ?_⟩
    walk_at "rd"
    refine r_iteI2 (fun e => ?_) (fun e => ?_)
    · walk_at "rd"
      exact q 0 H1 (by omega) (pn1.mono (by omega)) kp1
    walk_at "rd"
    refine r_iteI2 (fun e => ?_) (fun e => ?_)
    · walk_at "rd"
      rw [Int.toNat_natCast, two_i, show (((2 ^ w : Nat) : Int) - 1) = ((2 ^ w - 1 : Nat) : Int) by omega]
      exact q _ H1 (by omega) (pn1.mono (by omega)) kp1
    walk_at "rd"
    refine r_iteI2 (fun e => ?_) (fun e => ?_)
    · walk_at "rd"
      refine ⟨pen, c, w, k + 2, rfl, by omega, by omega, pn1, fun r2 H2 a2 b2 pn2 kp2 => ?_⟩
      walk_at "rd"
      rw [two_i]
      exact q _ H2 (Nat.pow_lt_pow_right (by decide) (by omega)) (pn2.mono (by omega)) (kp1.tr kp2)
    walk_at "rd"
    rw [w_min w3]
    have m1 : min w 16 ≤ 16 := Nat.min_le_right _ _
    generalize hm : min w 16 = m at m1 ⊢
    have m2 : 2 ^ m ≤ 65536 := Nat.le_trans (Nat.pow_le_pow_right (by decide) m1) (by decide)
    have m3 := Nat.two_pow_pos m
    walk_at "rd"
    rw [Int.toNat_natCast, two_i]
    refine ⟨pen, c, ((2 ^ m : Nat) : Int), k + 2, rfl, by omega, by omega, pn1, fun r2 H2 a2 b2 pn2 kp2 => ?_⟩
    walk_at "rd"
    obtain ⟨n2, rfl⟩ : ∃ n : Nat, r2 = (n : Int) := ⟨r2.toNat, by omega⟩
    refine r_ite2 (fun y => ?_) (fun y => ?_)
    · walk_at "rd"
      have : m = w := by rcases w3 with rfl | rfl | rfl <;> omega
      subst this
      exact q _ H2 (by omega) (pn2.mono (by omega)) (kp1.tr kp2)
    · obtain rfl : w = 32 := by rcases w3 with rfl | rfl | rfl <;> omega
      obtain rfl : m = 16 := by omega
      walk_at "rd"
      refine ⟨pen, c, _, k + 1, rfl, by decide, by decide, pn2, fun r3 H3 a3 b3 pn3 kp3 => ?_⟩
      have b3' : r3 < 65536 := b3
      have b2' : (n2 : Int) < 65536 := b2
      walk_at "rd"
      have e16 : (2 : Int) ^ (Int.toNat 16) = 65536 := by decide
      rw [e16, show (n2 : Int) + r3 * 65536 = ((n2 + r3.toNat * 65536 : Nat) : Int) by omega]
      exact q _ H3 (by have : (2 : Nat) ^ 32 = 4294967296 := by decide
                       omega) (pn3.mono (by omega)) ((kp1.tr kp2).tr kp3)
theorem cut_take (z : Str) (n : Nat) : (cutS z none (some (n : Int))).cps.toList = z.cps.toList.take n := by
  have e1 : HT.sIx z.length 0 none = 0 := rfl
  have el : z.cps.toList.length = z.length := Array.length_toList
  unfold cutS
  rw [e1, HT.sIx_nat]
  show (List.take (min n z.length - 0) (List.drop 0 z.cps.toList)).toArray.toList = _
  rw [List.toList_toArray, List.drop_zero, Nat.sub_zero]
  by_cases h : n ≤ z.length
  · rw [Nat.min_eq_left h]
  · rw [Nat.min_eq_right (by omega), List.take_of_length_le (by omega), List.take_of_length_le (by omega)]
theorem cut_drop (z : Str) (n : Nat) : (cutS z (some (n : Int)) none).cps.toList = z.cps.toList.drop n := by
  have e2 : HT.sIx z.length z.length none = z.length := rfl
  have el : z.cps.toList.length = z.length := Array.length_toList
  unfold cutS
  rw [e2, HT.sIx_nat]
  show (List.take (z.length - min n z.length) (List.drop (min n z.length) z.cps.toList)).toArray.toList = _
  rw [List.toList_toArray]
  by_cases h : n ≤ z.length
  · rw [Nat.min_eq_left h, List.take_of_length_le]
    rw [List.length_drop, el]
    exact Nat.le_refl _
  · rw [Nat.min_eq_right (by omega), List.drop_of_length_le (by omega), List.drop_of_length_le (by omega)]
    simp
theorem caps_at : ∀ i < 26, INNS.cps.toList[i]? = some (65 + i) ∧ 65 + i ∈ CAPS.cps.toList := by decide +kernel
theorem inns_caps : (∀ c ∈ CAPS.cps.toList, c ∈ INNS.cps.toList) ∧ 95 ∈ INNS.cps.toList ∧ 57 ∉ CAPS.cps.toList ∧ INNS.cps.toList.length = 37 ∧ CAPS.cps.toList.length = 26 := by decide +kernel
theorem under : ∀ r : Nat, r < 3 → (KA.mulS "_" (r : Int)).cps.toList = List.replicate r 95 ∧ (KA.mulS "_" (r : Int)).length = r := by decide +kernel
def nameL (B : List Nat) (sp s r : Nat) : List Nat := B.take sp ++ s :: (B.drop sp ++ List.replicate r 95)
theorem name_len (B : List Nat) (sp s r : Nat) : (nameL B sp s r).length = B.length + 1 + r := by
  unfold nameL
  simp only [List.length_append, List.length_cons, List.length_replicate, List.length_take, List.length_drop]
  omega
theorem name_mem {B : List Nat} {sp s r c : Nat} (h : c ∈ nameL B sp s r) : c ∈ B ∨ c = s ∨ c = 95 := by
  unfold nameL at h
  rcases List.mem_append.mp h with m | m
  · exact .inl (List.mem_of_mem_take m)
  · rcases List.mem_cons.mp m with m | m
    · exact .inr (.inl m)
    · rcases List.mem_append.mp m with m | m
      · exact .inl (List.mem_of_mem_drop m)
      · exact .inr (.inr (List.eq_of_mem_replicate m))
theorem name_under {B : List Nat} {sp s r : Nat} (h : 0 < r) : 95 ∈ nameL B sp s r := by
  unfold nameL
  refine List.mem_append.mpr (.inr (List.mem_cons_of_mem _ (List.mem_append.mpr (.inr ?_))))
  exact List.mem_replicate.mpr ⟨by omega, rfl⟩
theorem name_inj {B : List Nat} {sp s r s' r' : Nat} (hs : sp ≤ B.length) (e : nameL B sp s r = nameL B sp s' r') : s = s' := by
  unfold nameL at e
  have := List.append_cancel_left e
  exact (List.cons.inj this).1
theorem name_ok {B : List Nat} {sp s r : Nat} {z : Str} (ez : z.cps.toList = nameL B sp s r) (l5 : B.length ≤ 5) (r2 : r ≤ 2) (hB : ∀ c ∈ B, c ∈ INNS.cps.toList) (h0 : ∀ c, B.head? = some c → c ∈ CAPS.cps.toList) (hs : s ∈ CAPS.cps.toList) : NmS z ∧ Pz z := by
  have lz := name_len B sp s r
  rw [← ez] at lz
  have all : ∀ c ∈ z.cps.toList, c ∈ INNS.cps.toList := fun c m => by
    rw [ez] at m
    rcases name_mem m with m | rfl | rfl
    · exact hB c m
    · exact inns_caps.1 _ hs
    · exact inns_caps.2.1
  have hd : z.cps.toList.headD 0 ∈ CAPS.cps.toList := by
    rw [ez]
    unfold nameL
    cases B with
    | nil => simpa using hs
    | cons b B =>
      cases sp with
      | zero => simpa using hs
      | succ n => exact h0 b rfl
  have special : ∀ (y : Str), y.cps.toList.length = 8 → 95 ∉ y.cps.toList → z ≠ y := fun y l n e => by
    subst e
    rw [l] at lz
    exact n (by rw [ez]; exact name_under (by omega))
  refine ⟨?_, special _ (by decide +kernel) (by decide +kernel), fun e => ?_, special _ (by decide +kernel) (by decide +kernel)⟩
  · unfold NmS madeB
    rw [decide_eq_true (show 1 ≤ z.cps.toList.length ∧ z.cps.toList.length ≤ 8 by omega), decide_eq_true hd, Bool.true_and, Bool.true_and, List.all_eq_true]
    exact fun c m => decide_eq_true (all c (List.mem_of_mem_tail m))
  · have e2 : z.cps.toList = [90, 57] := by rw [e]; decide +kernel
    rw [e2] at ez lz
    have r0 : r = 0 := by
      by_cases h : r = 0
      · exact h
      · have : 95 ∈ [90, 57] := by rw [ez]; exact name_under (by omega)
        exact absurd this (by decide)
    subst r0
    have m : 57 ∈ nameL B sp s 0 := by rw [← ez]; decide
    match B, lz with
    | [b], _ =>
      rcases name_mem m with m | m | m
      · rw [List.mem_singleton] at m
        exact inns_caps.2.2.1 (m ▸ h0 b rfl)
      · exact inns_caps.2.2.1 (m ▸ hs)
      · cases m
    | [], lz => simp at lz
    | _ :: _ :: _, lz => simp at lz
theorem rest_inj {a l i j : Nat} (hl : l ∈ [1, 3, 5, 7, 9, 11]) (hi : i < 5) (hj : j < 5) (e : (a + l * i) % 26 = (a + l * j) % 26) : i = j := by
  simp only [List.mem_cons, List.not_mem_nil, or_false] at hl
  rcases hl with rfl | rfl | rfl | rfl | rfl | rfl <;> omega

end
end K35


namespace K35
open PySem L2 KB KO KY KV KTr

section
variable {P : Program} {w : World} {K : PySem.W.Frag} {mg : Str → Option Value} {base : Heap}
theorem free_back {H H' : Hp} {pen c q : Addr} {k : Nat} (kp : Keep pen H H') (pn : PenC H' pen c k) (nq : H' q = none) : H q = none := by
  cases e : H q with
  | none => rfl
  | some o =>
    rw [kp _ _ e (pn.ne nq)] at nq
    cases nq
theorem ok_names {f : Addr} {fd : FuncData} (F : Fun K "_law_names" "_law_names" s__law_names f fd) (T : Txt mg) (c__law_draw : KB.Callee P w K mg base CX0 1 "_law_draw" ["_law_pen_here", "_law_many"] spDraw) : FnOk P w K mg base CX0 2 f fd ["_law_pen_here", "_law_many"] spNames := by
  refine F.ok sc__law_names (fun vs H Q E h => ?_) (fun cdv A outer s H vs Q E hr h => ?_)
  · obtain ⟨pen, c, m, k, rfl, _⟩ := h
    rfl
  · obtain ⟨pen, c, m, k, rfl, hm, pn, q⟩ := h
    refine ⟨_, (pss_cons (ps_set (i := 2) sc__law_names.nd rfl (by first | exact Or.inl rfl | exact Or.inr rfl) pe_str)
 (pss_cons (ps_set (i := 3) sc__law_names.nd rfl (by first | exact Or.inl rfl | exact Or.inr rfl) (pe_join pe_str (pe_lc (own := [("_law_k", 4)]) (g := gName 4) (tt := tYes) (by rfl) sc__law_names.nd (pi_range1 rfl T.z_range (pa_cons (pe_callC c__law_draw (hr.mono (by decide)) (by rfl) pass0 (pa_cons (pv 0) (pa_cons pe_int pa_nil))) pa_nil)) (blkOk_by (own := [("_law_k", 4)]) (N := ["_law_pen_here", "_law_many", "_law_signs", "_law_base", "_law_k", "_law_spot", "_law_lead", "_law_leap", "_law_tail", "_law_found", "_law_sign"]) (sc := defScope s__law_names) (by decide +kernel)) (fun _ _ _ _ _ => (pg_name (i := 4) sc__law_names.nd rfl (by first | exact Or.inl rfl | exact Or.inr rfl))) (fun _ _ _ _ _ => pts_nil) (fun _ _ _ _ _ => (pe_ix ix_str (pv 2) (pe_callC c__law_draw (hr.mono (by decide)) (by rfl) pass0 (pa_cons (pv 0) (pa_cons (pe_op op_add pe_int (pe_op op_mul pe_int (pe_callTy call_int1 (by rfl) T.z_int (by decide +kernel) (pa_cons (pe_cmpR op_gt (pv 4) pe_int (nomark _)) pa_nil)))) pa_nil))) (fun _ _ => rfl))))))
 (pss_cons (ps_par (i := 5) (j := 6) (by rfl) sc__law_names.nd rfl rfl (by decide) rfl rfl (pa_cons (pe_callC c__law_draw (hr.mono (by decide)) (by rfl) pass0 (pa_cons (pv 0) (pa_cons (pe_op op_add (pe_callB call_len_str (by rfl) T.z_len (by decide +kernel) (pa_cons (pv 3) pa_nil)) pe_int) pa_nil))) (pa_cons (pe_callC c__law_draw (hr.mono (by decide)) (by rfl) pass0 (pa_cons (pv 0) (pa_cons pe_int pa_nil))) pa_nil)) (by rfl))
 (pss_cons (ps_par (i := 7) (j := 8) (by rfl) sc__law_names.nd rfl rfl (by decide) rfl rfl (pa_cons (pe_ix ix_list (pe_lst (pa_cons pe_int (pa_cons pe_int (pa_cons pe_int (pa_cons pe_int (pa_cons pe_int (pa_cons pe_int pa_nil))))))) (pe_callC c__law_draw (hr.mono (by decide)) (by rfl) pass0 (pa_cons (pv 0) (pa_cons pe_int pa_nil))) (fun _ _ => rfl)) (pa_cons (pe_callC c__law_draw (hr.mono (by decide)) (by rfl) pass0 (pa_cons (pv 0) (pa_cons pe_int pa_nil))) pa_nil)) (by rfl))
 (pss_cons (ps_set (i := 9) sc__law_names.nd rfl (by first | exact Or.inl rfl | exact Or.inr rfl) (pe_lst pa_nil))
 (pss_cons (ps_for PassesOwn.never rfl (pi_range1 rfl T.z_range (pa_cons (pv 1) pa_nil)) (pg_name (i := 4) sc__law_names.nd rfl (by first | exact Or.inl rfl | exact Or.inr rfl))
 (pss_cons (ps_set (i := 10) sc__law_names.nd rfl (by first | exact Or.inl rfl | exact Or.inr rfl) (pe_ix ix_str (pv 2) (pe_op op_mod (pe_callTy call_int1 (by rfl) T.z_int (by decide +kernel) (pa_cons (pe_op op_add (pv 6) (pe_op op_mul (pv 7) (pv 4))) pa_nil)) pe_int) (fun _ _ => rfl)))
 (pss_one (ps_expr (pe_bm PySem.F.plainAttrs_list PySem.F.slot_list_append PySem.F.type_list_append mt_append (pv 9) (pa_cons (pe_op op_add_str (pe_op op_add_str (pe_op op_add_str (pe_slice sl_str (pv 3) po_none (po_some (pv 5))) (pv 10)) (pe_slice sl_str (pv 3) (po_some (pv 5)) po_none)) (pe_op KA.op_mulS pe_str (pe_op op_mul (pv 8) (pe_op op_and (pv 4) pe_int)))) pa_nil))))))
 (pss_one (ps_ret (pv 9))))))))), at_start (σ := [some (.ref pen), some (.int m), none, none, none, none, none, none, none, none, none]) rfl ?_⟩
    try dsimp only [cx_K]
    walk_at "rd"
    refine ⟨pen, c, 6, k + 11, rfl, by decide, by decide, pn, fun r1 H1 a1 b1 pn1 kp1 => ?_⟩
    walk_at "rd"
    refine ⟨by omega, by omega, ?_⟩
    refine lc_pen (walk_range (lo := 0) (n := r1.toNat)) (pen := pen) (c := c) (fun i v _ => ∃ cc, cc ∈ INNS.cps.toList ∧ (i = 0 → cc ∈ CAPS.cps.toList) ∧ v = .str (sign cc)) (fun i => k + 11 - i) (by omega) pn1 (fun i v H H' r _ => r) (fun _ _ => trivial) (fun i x Ha Ha' N B hi kpa pna y qN => ?_) (fun D Hd ys nD kpd pnd eD ly hy => ?_)
    · obtain ⟨rfl, rfl⟩ := y
      walk_at "rd"
      refine ⟨rfl, KD.r_yes (iteT ?_)⟩
      walk_at "rd"
      by_cases i0 : i = 0
      · rw [decide_eq_false (by omega)]
        refine ⟨pen, c, _, k + 11 - (i + 1), rfl, by decide, by decide, pna.mono (by omega), fun r H a b pn' kp' => ?_⟩
        obtain ⟨n1, rfl⟩ : ∃ n : Nat, r = (n : Int) := ⟨r.toNat, by omega⟩
        have b' : (n1 : Int) < 26 := b
        obtain ⟨g1, g2⟩ := caps_at n1 (by omega)
        refine r_ixS (by decide +kernel) (atI_nat g1) ?_
        exact qN _ _ kp' pn' ⟨_, inns_caps.1 _ g2, fun _ => g2, rfl⟩
      · rw [decide_eq_true (by omega)]
        refine ⟨pen, c, _, k + 11 - (i + 1), rfl, by decide, by decide, pna.mono (by omega), fun r H a b pn' kp' => ?_⟩
        obtain ⟨cc, hc, at3⟩ := atI_mem (xs := INNS.cps.toList) a (by rw [inns_caps.2.2.2.1]; exact b)
        refine r_ixS (by decide +kernel) at3 ?_
        exact qN _ _ kp' pn' ⟨cc, hc, fun z => absurd z i0, rfl⟩
    obtain ⟨cs, rfl, lc, hcs⟩ := choose_list (f := fun cc => V.str (sign cc)) (Pr := fun i cc => cc ∈ INNS.cps.toList ∧ (i = 0 → cc ∈ CAPS.cps.toList)) ys (fun i v e => by obtain ⟨cc, h1, h2, h3⟩ := hy i v e; exact ⟨cc, ⟨h1, h2⟩, h3⟩)
    refine ⟨"", D, cs.map sign, rfl, rfl, .inl (SqL.of (by rw [eD, List.map_map]; rfl)), ?_, ?_⟩
    · rw [sum_signs, List.length_map]
      rw [show (Str.ofString "").length = 0 from rfl, Nat.mul_zero]
      omega
    have ej : (Txt.join "" (cs.map sign)).cps.toList = cs := by rw [TL.join_eq]; exact join_signs cs
    generalize Txt.join "" (cs.map sign) = B at ej
    have lB : B.length = cs.length := by
      have := congrArg List.length ej
      rw [Array.length_toList] at this
      exact this
    have l5 : cs.length ≤ 5 := by omega
    have hB : ∀ x ∈ cs, x ∈ INNS.cps.toList := fun x mx => by
      obtain ⟨i, hi, e⟩ := List.getElem_of_mem mx
      exact (hcs i x (by rw [List.getElem?_eq_getElem hi, e])).1
    have h0 : ∀ x, cs.head? = some x → x ∈ CAPS.cps.toList := fun x e => (hcs 0 x (by rw [← List.head?_eq_getElem?]; exact e)).2 rfl
    have szB : B.length ≤ sizeLine := by rw [lB]; exact Nat.le_trans l5 (by decide)
    clear hy hcs
    walk_at "rd"
    refine ⟨B, rfl, szB, ?_⟩
    walk_at "rd"
    refine ⟨pen, c, (B.length : Int) + 1, k + 5, rfl, by omega, by omega, pnd.mono (by omega), fun r2 H2 a2 b2 pn2 kp2 => ?_⟩
    walk_at "rd"
    refine ⟨pen, c, 26, k + 4, rfl, by decide, by decide, pn2, fun r3 H3 a3 b3 pn3 kp3 => ?_⟩
    walk_at "rd"
    refine ⟨_, _, rfl, ?_⟩
    walk_at "rd"
    refine ⟨by walk_at "sz", fun t1 nt1 => ?_⟩
    have st1 := same_new (o := .lst [.int 1, .int 3, .int 5, .int 7, .int 9, .int 11]) nt1
    walk_at "rd"
    refine ⟨pen, c, 6, k + 3, rfl, by decide, by decide, pn3.up st1, fun r4 H4 a4 b4 pn4 kp4 => ?_⟩
    obtain ⟨lv, hl, at4⟩ := atI_mem (xs := ([1, 3, 5, 7, 9, 11] : List Nat).map fun n => V.int (n : Nat)) a4 b4
    obtain ⟨l, hl6, rfl⟩ := List.mem_map.mp hl
    refine r_ixL (xs := ([1, 3, 5, 7, 9, 11] : List Nat).map fun n => V.int (n : Nat)) (SqL.of (kp4 _ _ upd_same (pn3.ne nt1))) at4 ?_
    walk_at "rd"
    refine ⟨pen, c, 3, k + 2, rfl, by decide, by decide, pn4.mono (by omega), fun r5 H5 a5 b5 pn5 kp5 => ?_⟩
    walk_at "rd"
    refine ⟨_, _, rfl, ?_⟩
    walk_at "rd"
    refine ⟨by walk_at "sz", fun L nL => ?_⟩
    obtain ⟨sp, rfl⟩ : ∃ n : Nat, r2 = (n : Int) := ⟨r2.toNat, by omega⟩
    obtain ⟨ld, rfl⟩ : ∃ n : Nat, r3 = (n : Int) := ⟨r3.toNat, by omega⟩
    obtain ⟨tl, rfl⟩ : ∃ n : Nat, r5 = (n : Int) := ⟨r5.toNat, by omega⟩
    have kp : Keep pen H (upd H5 L (.lst [])) := ((((((kp1.tr kpd).tr kp2).tr kp3).tr (Keep.same st1)).tr kp4).tr kp5).tr (Keep.same (same_new nL))
    have nL0 : H L = none := by
      cases e : H L with
      | none => rfl
      | some o =>
        have := ((((((kp1.tr kpd).tr kp2).tr kp3).tr (Keep.same st1)).tr kp4).tr kp5) _ _ e (pn5.ne nL)
        rw [nL] at this
        cases this
    have pnL : PenC (upd H5 L (.lst [])) pen c k := (pn5.up (same_new nL)).mono (by omega)
    walk_at "rd"
    have lp : l ≤ 11 := (show ∀ x ∈ ([1, 3, 5, 7, 9, 11] : List Nat), x ≤ 11 by decide) l hl6
    refine ⟨by omega, by omega, forW (walk_range (lo := 0) (n := (m : Int).toNat)) (fun i σ' H' => ∃ y4 y10 zs, σ' = [some (.ref pen), some (.int m), some (.str INNS), some (.str B), y4, some (.int sp), some (.int ld), some (.int l), some (.int tl), some (.ref L), y10] ∧ Keep pen H H' ∧ PenC H' pen c k ∧ H' L = some (.lst (zs.map V.str)) ∧ zs.length = i ∧ ∀ j z, zs[j]? = some z → z.cps.toList = nameL cs sp (65 + (ld + l * j) % 26) (tl * (j % 2))) ⟨_, _, [], rfl, kp, pnL, upd_same, rfl, fun j z e => by simp at e⟩ (fun _ _ _ _ _ => trivial) ?_ ?_⟩
    · rintro i x σ' H' H2' hi ⟨y4, y10, zs, rfl, kpi, pni, eL, lz, hz⟩ ⟨rfl, rfl⟩
      have hi' : i < m := by omega
      have e1 : (ld : Int) + l * (0 + (i : Nat)) = ((ld + l * i : Nat) : Int) := by rw [Int.zero_add]; simp
      have bd := mul_bd (x := (l : Int)) (y := (0 + (i : Nat) : Int)) (A := 11) (B := 5) (by omega) (by omega) (by omega) (by omega)
      walk_at "rd"
      rw [e1, show ((ld + l * i : Nat) : Int) % 26 = (((ld + l * i) % 26 : Nat) : Int) by omega]
      have m26 : (ld + l * i) % 26 < 26 := Nat.mod_lt _ (by decide)
      obtain ⟨g1, g2⟩ := caps_at _ m26
      refine r_ixS (by decide +kernel) (atI_nat g1) ?_
      walk_at "rd"
      refine KS.r_sls szB ?_
      walk_at "rd"
      have c1 := cut_take B sp
      have c2 := cut_drop B sp
      rw [ej] at c1 c2
      generalize cutS B none (some (sp : Int)) = z1 at c1 ⊢
      have l1 : z1.length ≤ 5 := by
        have := congrArg List.length c1
        rw [Array.length_toList, List.length_take] at this
        show z1.cps.size ≤ 5
        omega
      have s1000 : (1000 : Nat) ≤ sizeLine := by decide
      refine ⟨_, _, rfl, rfl, by show _ + 1 ≤ _; omega, ?_⟩
      walk_at "rd"
      have la : ∀ a b : Str, (a ++ b).length = a.length + b.length := fun a b => Array.size_append
      have lsg : (⟨#[65 + (ld + l * i) % 26]⟩ : Str).length = 1 := rfl
      refine KS.r_sls szB ?_
      generalize cutS B (some (sp : Int)) none = z2 at c2 ⊢
      have l2 : z2.length ≤ 5 := by
        have := congrArg List.length c2
        rw [Array.length_toList, List.length_drop] at this
        show z2.cps.size ≤ 5
        omega
      refine ⟨_, _, rfl, rfl, by rw [la, lsg]; omega, ?_⟩
      have bA : Builtin.bitAnd (0 + (i : Int)) 1 = ((i % 2 : Nat) : Int) := by
        rw [Int.zero_add, show (1 : Int) = ((1 : Nat) : Int) from rfl, KBL.bAnd, Nat.and_one_is_mod]
      have i2 : i % 2 < 2 := Nat.mod_lt _ (by decide)
      have tb : tl * (i % 2) < 3 := by rcases Nat.mod_two_eq_zero_or_one i with h | h <;> rw [h] <;> omega
      walk_at "rd"
      rw [bA]
      walk_at "rd"
      rw [show (tl : Int) * ((i % 2 : Nat) : Int) = ((tl * (i % 2) : Nat) : Int) by simp]
      generalize hrr : tl * (i % 2) = rr at tb ⊢
      obtain ⟨u1, u2⟩ := under rr tb
      refine ⟨"_", (rr : Int), rfl, rfl, by omega, by omega, by decide +kernel, ?_⟩
      refine ⟨_, _, rfl, rfl, by rw [la, la, lsg, u2]; omega, ?_⟩
      walk_at "rd"
      refine r_append eL (by rw [List.length_map]; omega) ?_
      refine ⟨_, _, zs ++ [z1 ++ (⟨#[65 + (ld + l * i) % 26]⟩ : Str) ++ z2 ++ KA.mulS (Str.ofString "_") (rr : Int)], rfl, kpi.mut nL0, pni.mut (pn5.ne nL) (pn5.nec nL), by rw [upd_same, List.map_append]; rfl, by rw [List.length_append, lz]; rfl, fun j z e => ?_⟩
      by_cases hj : j < zs.length
      · rw [List.getElem?_append_left hj] at e
        exact hz j z e
      · rw [List.getElem?_append_right (by omega)] at e
        have h0 : j - zs.length = 0 := by
          cases y : j - zs.length with
          | zero => rfl
          | succ n => rw [y] at e; simp at e
        rw [h0] at e
        obtain rfl := (Option.some.inj e).symm
        obtain rfl : j = i := by omega
        rw [append_toList, append_toList, append_toList, c1, c2, u1, ← hrr]
        simp [nameL]
    · rintro σ' H' ⟨y4, y10, zs, rfl, kpi, pni, eL, lz, hz⟩
      walk_at "rd"
      have lzm : zs.length = m := by omega
      have all : ∀ j z, zs[j]? = some z → NmS z ∧ Pz z := fun j z e => name_ok (hz j z e) l5 (by have := Nat.mod_lt j (show 0 < 2 by decide); rcases Nat.mod_two_eq_zero_or_one j with h | h <;> rw [h] <;> omega) hB h0 (caps_at _ (Nat.mod_lt _ (by decide))).2
      refine q L zs H' nL0 eL lzm (fun z mz => ?_) ?_ pni kpi
      · obtain ⟨j, hj, e⟩ := List.getElem_of_mem mz
        exact all j z (by rw [List.getElem?_eq_getElem hj, e])
      · refine List.pairwise_iff_getElem.mpr fun i j hi hj hij e => ?_
        have e1 := List.getElem?_eq_getElem hj
        have e2 : zs[i]? = some zs[j] := by rw [List.getElem?_eq_getElem hi, e]
        have n1 := hz i _ e2
        have n2 := hz j _ e1
        have := name_inj (by omega) (n1.symm.trans n2)
        exact absurd (rest_inj (a := ld) hl6 (by omega) (by omega) (by omega)) (Nat.ne_of_lt hij)
theorem small_at : ∀ i < 26, SMS.cps.toList[i]? = some (97 + i) ∧ 97 + i ∈ SMS.cps.toList := by decide +kernel
theorem var_sign {i : Nat} (h : i < 26) : varB ⟨#[97 + i]⟩ = true := by
  unfold varB
  rw [Bool.and_eq_true]
  exact ⟨rfl, decide_eq_true (small_at i h).2⟩
theorem ok_vars {f : Addr} {fd : FuncData} (F : Fun K "_law_variables" "_law_variables" s__law_variables f fd) (T : Txt mg) (c__law_draw : KB.Callee P w K mg base CX0 1 "_law_draw" ["_law_pen_here", "_law_many"] spDraw) : FnOk P w K mg base CX0 2 f fd ["_law_pen_here"] spVars := by
  refine F.ok sc__law_variables (fun vs H Q E h => ?_) (fun cdv A outer s H vs Q E hr h => ?_)
  · obtain ⟨pen, c, k, rfl, _⟩ := h
    rfl
  · obtain ⟨pen, c, k, rfl, pn, q⟩ := h
    refine ⟨_, (pss_cons (ps_set (i := 1) sc__law_variables.nd rfl (by first | exact Or.inl rfl | exact Or.inr rfl) pe_str)
 (pss_cons (ps_set (i := 2) sc__law_variables.nd rfl (by first | exact Or.inl rfl | exact Or.inr rfl) (pe_callC c__law_draw (hr.mono (by decide)) (by rfl) pass0 (pa_cons (pv 0) (pa_cons pe_int pa_nil))))
 (pss_one (ps_ret (pe_lst (pa_cons (pe_ix ix_str (pv 1) (pv 2) (fun _ _ => rfl)) (pa_cons (pe_ix ix_str (pv 1) (pe_op op_mod (pe_callTy call_int1 (by rfl) T.z_int (by decide +kernel) (pa_cons (pe_op op_add (pe_op op_add (pv 2) pe_int) (pe_callC c__law_draw (hr.mono (by decide)) (by rfl) pass0 (pa_cons (pv 0) (pa_cons pe_int pa_nil)))) pa_nil)) pe_int) (fun _ _ => rfl)) pa_nil))))))), at_start (σ := [some (.ref pen), none, none]) rfl ?_⟩
    try dsimp only [cx_K]
    walk_at "rd"
    refine ⟨pen, c, 26, k + 2, rfl, by decide, by decide, pn, fun r1 H1 a1 b1 pn1 kp1 => ?_⟩
    obtain ⟨n1, rfl⟩ : ∃ n : Nat, r1 = (n : Int) := ⟨r1.toNat, by omega⟩
    walk_at "rd"
    refine r_ixS (by decide +kernel) (atI_nat (small_at n1 (by omega)).1) ?_
    walk_at "rd"
    refine ⟨pen, c, 25, k + 1, rfl, by decide, by decide, pn1, fun r2 H2 a2 b2 pn2 kp2 => ?_⟩
    obtain ⟨n2, rfl⟩ : ∃ n : Nat, r2 = (n : Int) := ⟨r2.toNat, by omega⟩
    walk_at "rd"
    rw [show ((n1 : Int) + 1 + n2) % 26 = (((n1 + 1 + n2) % 26 : Nat) : Int) by omega]
    have m26 : (n1 + 1 + n2) % 26 < 26 := Nat.mod_lt _ (by decide)
    refine r_ixS (by decide +kernel) (atI_nat (small_at _ m26).1) ?_
    walk_at "rd"
    refine ⟨by walk_at "sz", fun q' nq => ?_⟩
    have kp := kp1.tr kp2
    refine q q' ⟨#[97 + n1]⟩ ⟨#[97 + (n1 + 1 + n2) % 26]⟩ _ (free_back kp pn2 nq) upd_same (var_sign (by omega)) (var_sign m26) (fun e => ?_) ((pn2.up (same_new nq)).mono (by omega)) (kp.tr (Keep.same (same_new nq)))
    have e2 : 97 + (n1 + 1 + n2) % 26 = 97 + n1 := by
      have := congrArg (fun z : Str => z.cps.toList) e
      simpa using this
    omega
theorem ok_normal {f : Addr} {fd : FuncData} {j : Nat} (F : Fun K "_law_normal" "_law_normal" s__law_normal f fd) (T : Txt mg) : FnOk P w K mg base CX0 (j + 1) f fd ["_law_width", "_law_shift", "_law_keep"] spNormal := by
  refine F.ok sc__law_normal (fun vs H Q E h => ?_) (fun cdv A outer s H vs Q E hr h => ?_)
  · obtain ⟨w', k, sh, rfl, _⟩ := h
    rfl
  · obtain ⟨w', k, sh, rfl, w3, l1, l2, lk, q⟩ := h
    have wl := w3.le
    refine ⟨_, (pss_cons (ps_set (i := 3) sc__law_normal.nd rfl (by first | exact Or.inl rfl | exact Or.inr rfl) (pe_callB (cr_sum rfl) (by rfl) T.z_sum (by decide +kernel) (pa_cons (pe_lc (own := [("_law_j", 4)]) (g := gName 4) (by rfl) sc__law_normal.nd (pi_range1 rfl T.z_range (pa_cons (pv 0) pa_nil)) (blkOk_by (own := [("_law_j", 4)]) (N := ["_law_width", "_law_shift", "_law_keep", "_law_kept", "_law_j"]) (sc := defScope s__law_normal) (by decide +kernel)) (fun _ _ _ _ _ => (pg_name (i := 4) sc__law_normal.nd rfl (by first | exact Or.inl rfl | exact Or.inr rfl))) (fun _ _ _ _ _ => (pts_one (PW.pt (pw_and (pt_cmpR op_eq (pe_op op_and (pe_op op_shr (pv 2) (pv 4)) pe_int) pe_int (nomark _)) (pw_and1 (pt_chain op_le op_lt pe_int (pe_op op_sub (pv 4) (pv 1)) (pv 0))))))) (fun _ _ _ _ _ => (pe_op op_shl pe_int (pv 4)))) pa_nil)))
 (pss_one (ps_ret (pe_tup (pa_cons (pe_op op_mul (pv 1) (pe_callTy call_int1 (by rfl) T.z_int (by decide +kernel) (pa_cons (pe_cmpR op_ne (pv 3) pe_int (nomark _)) pa_nil))) (pa_cons (pv 3) pa_nil)))))), at_start (σ := [some (.int w'), some (.int sh), some (.int k), none, none]) rfl ?_⟩
    try dsimp only [cx_K]
    walk_at "rd"
    refine ⟨by omega, by omega, ?_⟩
    have wN : (w' : Int).toNat = w' := Int.toNat_natCast w'
    refine lc_all (walk_range (lo := 0) (n := (w' : Int).toNat)) (j := 4) (fun i => .int (0 + (i : Nat))) (fun i => KBL.src w' sh k i) (fun i => .int ((2 ^ i : Nat) : Int)) (by omega) (fun i H x H' hi y => y) (fun _ _ => trivial) (fun x => rfl) (fun i H' hi s QT q => ?_) (fun i H' hi _ s Q q => ?_) (fun D H1 nD s1 eD => ?_)
    · have hi' : i < w' := by omega
      have es : KBL.src w' sh k i = (k.testBit i && (decide (sh ≤ (i : Int)) && decide ((i : Int) - sh < w'))) := by
        unfold KBL.src
        rw [decide_eq_true hi', Bool.true_and]
        cases k.testBit i <;> simp
      rw [es] at q
      walk_at "rd"
      rw [show (0 + (i : Int)).toNat = i by omega, KBL.bit_one]
      rw [show decide (V.int ((KBL.b2n (k.testBit i) : Nat) : Int) = V.int 1) = k.testBit i by cases k.testBit i <;> rfl]
      refine r_iteB (fun z => ?_) (fun z => ?_)
      · rw [z] at q
        walk_at "rd"
        refine KC.r_chain ?_
        walk_at "rd"
        refine r_ite2 (fun y => ?_) (fun y => ?_)
        · walk_at "rd"
          rw [decide_eq_true (show sh ≤ (i : Int) by omega)] at q
          rw [show decide (0 + (i : Int) - sh < (w' : Int)) = decide ((i : Int) - sh < w') from decide_eq_decide.mpr (by omega)]
          exact q _ (Same.refl _)
        · rw [decide_eq_false (show ¬ sh ≤ (i : Int) by omega)] at q
          walk_at "rd"
          exact q _ (Same.refl _)
      · rw [z] at q
        exact q _ (Same.refl _)
    · have hi' : i < w' := by omega
      walk_at "rd"
      rw [show (0 + (i : Int)).toNat = i by omega, two_i]
      exact q _ (Same.refl _)
    · have sums : ∀ n, n ≤ w' → (((List.range n).filter (fun i => KBL.src w' sh k i)).map (fun i => ((2 ^ i : Nat) : Int))).sum = ((KBL.keepN w' sh k % 2 ^ n : Nat) : Int) := by
        intro n hn
        induction n with
        | zero => simp [Nat.mod_one]
        | succ n ih =>
          rw [List.range_succ, List.filter_append, List.map_append, List.sum_append, ih (by omega), KBL.mod_next, KBL.bit_keep]
          cases e : KBL.src w' sh k n <;> simp [e, KBL.b2n]
      have eS := sums w' (Nat.le_refl _)
      rw [Nat.mod_eq_of_lt (KBL.keep_lt _ _ _)] at eS
      walk_at "rd"
      refine ⟨D, _, rfl, SqL.of (xs := ((((List.range w').filter (fun i => KBL.src w' sh k i)).map (fun i => ((2 ^ i : Nat) : Int))).map V.int)) (by rw [eD, wN]; unfold Evl.given; rw [List.map_map]; rfl), ?_⟩
      rw [eS]
      walk_at "rd"
      have e : (sh * if (!decide (V.int ((KBL.keepN w' sh k : Nat) : Int) = V.int 0)) = true then 1 else 0) = KBL.shiftN w' sh k := by
        unfold KBL.shiftN
        by_cases z : KBL.keepN w' sh k = 0
        · rw [z]; simp
        · rw [decide_eq_false (fun y => z (by have := V.int.inj y; omega)), if_neg z]
          exact Int.mul_one _
      rw [e]
      exact ⟨by walk_at "sz", fun p np => q p _ (s1.trans (same_new np)) upd_same⟩

end
end K35


namespace K35
open PySem L2 KB KO KY KV KTr
/-! ### rows that tell steps -/
inductive SRow where
  | read (v p l : Str) (ms : List Str)
  | write (p l : Str) (v : Option Str) (s : Int) (k f : Nat) (ms : List Str)
  | serve (v : Str) (m : Int)
  | pair (a b f : Str)
def SRowAt (H : Hp) (a : Addr) : SRow → Prop
  | .read v p l ms => ∃ m, H a = some (.lst [.str "read", .str v, .str p, .str l, .ref m]) ∧ H m = some (.lst (ms.map V.str))
  | .write p l v s k f ms => ∃ m, H a = some (.lst [.str "write", .str p, .str l, oV v, .int s, .int (k : Nat), .int (f : Nat), .ref m]) ∧ H m = some (.lst (ms.map V.str))
  | .serve v m => H a = some (.lst [.str "serve", .str v, .int m])
  | .pair b c f => H a = some (.lst [.str "pair", .str b, .str c, .str f])
theorem SRowAt.up {H H' : Hp} {a : Addr} {r : SRow} (h : SRowAt H a r) (s : Same H H') : SRowAt H' a r := by
  cases r with
  | read => obtain ⟨m, e, g⟩ := h; exact ⟨m, s _ _ e, s _ _ g⟩
  | write => obtain ⟨m, e, g⟩ := h; exact ⟨m, s _ _ e, s _ _ g⟩
  | serve => exact s _ _ h
  | pair => exact s _ _ h
def SRow.stp (w : Nat) : SRow → Stp
  | .read v p l ms => .read v p l (KSrS.sortS ms)
  | .write p l v s k f ms => .write p l w s k f (KSrS.sortS ms) v
  | .serve v m => .serve v m
  | .pair a b f => .pair a b f
/-- right means, not sorted -/
def Msk (ms : List Str) : Prop := (∀ m ∈ ms, NmS m) ∧ ms.Nodup ∧ ms.length ≤ 10
def SRow.Ok (w : Nat) : SRow → Prop
  | .read v p l ms => varB v = true ∧ NmS p ∧ l ∈ LNS ∧ Msk ms
  | .write p l v s k f ms => NmS p ∧ l ∈ LNS ∧ Msk ms ∧ (∀ z, v = some z → varB z = true) ∧ (k = 0 ↔ v = none) ∧ Nm w s k f ∧ KBL.keepN w s k = k ∧ KBL.shiftN w s k = s
  | .serve v m => varB v = true ∧ 1 ≤ m ∧ m ≤ 4294967295
  | .pair a b f => varB a = true ∧ varB b = true ∧ b ≠ a ∧ NmS f
def SRow.Pz : SRow → Prop
  | .read _ p _ ms => PzN p ∧ (∀ m ∈ ms, PzN m) ∧ ms.length ≤ 5
  | .write p _ _ _ _ _ ms => PzN p ∧ (∀ m ∈ ms, PzN m) ∧ ms.length ≤ 5
  | .serve _ m => m < 4294967296
  | .pair _ _ f => PzN f
theorem msk_sort {ms : List Str} (h : Msk ms) : Nms (KSrS.sortS ms) := nms_sort (n := 0) h.1 (Nat.le_trans h.2.2 (by decide))
theorem SRow.stp_ok {w : Nat} {r : SRow} (h : r.Ok w) : (r.stp w).Ok := by
  cases r with
  | read v p l ms => exact ⟨h.1, h.2.1, h.2.2.1, msk_sort h.2.2.2⟩
  | write p l v s k f ms => exact ⟨h.1, h.2.1, msk_sort h.2.2.1, h.2.2.2.1, h.2.2.2.2.1, h.2.2.2.2.2.1⟩
  | serve v m => exact h
  | pair a b f => exact h
theorem cutV_mid (xs : List V) (n : Nat) : cutV xs (some 1) (some (1 + (n : Int))) = (xs.drop 1).take n := by
  unfold cutV
  rw [show (1 + (n : Int)) = ((1 + n : Nat) : Int) by omega, show (1 : Int) = ((1 : Nat) : Int) from rfl, HT.sIx_nat, HT.sIx_nat]
  by_cases h : 1 ≤ xs.length
  · rw [Nat.min_eq_left h]
    by_cases g : 1 + n ≤ xs.length
    · rw [Nat.min_eq_left g, show 1 + n - 1 = n by omega]
    · rw [Nat.min_eq_right (by omega), List.take_of_length_le (by rw [List.length_drop]; omega), List.take_of_length_le (by rw [List.length_drop]; omega)]
  · have : xs.length = 0 := by omega
    have : xs = [] := List.eq_nil_of_length_eq_zero this
    subst this
    simp
def spRow : Sp := fun vs H Q _ => ∃ (pen pc : Addr) (kd w k : Nat), vs = [.ref pen, .int kd, .int w] ∧ W3 w ∧ PenC H pen pc (k + 40) ∧ ∀ (a : Addr) (r : SRow) (H' : Hp), SRowAt H' a r → r.Ok w → r.Pz → PenC H' pen pc k → Keep pen H H' → Q (.ref a) H'


section
variable {P : Program} {w : World} {K : PySem.W.Frag} {mg : Str → Option Value} {base : Heap}
theorem keep_keep {w : Nat} {s : Int} {k : Nat} : KBL.keepN w s (KBL.keepN w s k) = KBL.keepN w s k := by
  unfold KBL.keepN
  rw [← Nat.and_assoc, Nat.and_self]
theorem keep_shift {w : Nat} {s : Int} {k : Nat} : KBL.keepN w (KBL.shiftN w s k) (KBL.keepN w s k) = KBL.keepN w s k ∧ KBL.shiftN w (KBL.shiftN w s k) (KBL.keepN w s k) = KBL.shiftN w s k := by
  by_cases z : KBL.keepN w s k = 0
  · have e : KBL.shiftN w s k = 0 := by unfold KBL.shiftN; rw [if_pos z]
    rw [e, z]
    have : KBL.keepN w 0 0 = 0 := by unfold KBL.keepN; exact Nat.and_zero _
    exact ⟨this, by unfold KBL.shiftN; rw [if_pos this]⟩
  · have e : KBL.shiftN w s k = s := by unfold KBL.shiftN; rw [if_neg z]
    rw [e]
    exact ⟨keep_keep, by unfold KBL.shiftN; rw [keep_keep, if_neg z]⟩
theorem at0 {α : Type} {v : α} {xs : List α} : atI (v :: xs) 0 = some v := atI_nat (show (v :: xs)[0]? = some v from rfl)
theorem ok_row {f : Addr} {fd : FuncData} (F : Fun K "_law_row" "_law_row" s__law_row f fd) (T : Txt mg) (c__law_draw : KB.Callee P w K mg base CX0 1 "_law_draw" ["_law_pen_here", "_law_many"] spDraw) (c__law_word : KB.Callee P w K mg base CX0 2 "_law_word" ["_law_pen_here", "_law_bits"] spWordB)
    (c__law_names : KB.Callee P w K mg base CX0 2 "_law_names" ["_law_pen_here", "_law_many"] spNames) (c__law_variables : KB.Callee P w K mg base CX0 2 "_law_variables" ["_law_pen_here"] spVars) (c__law_normal : KB.Callee P w K mg base CX0 1 "_law_normal" ["_law_width", "_law_shift", "_law_keep"] spNormal) : FnOk P w K mg base CX0 3 f fd ["_law_pen_here", "_law_kind", "_law_width"] spRow := by
  refine F.ok sc__law_row (fun vs H Q E h => ?_) (fun cdv A outer s H vs Q E hr h => ?_)
  · obtain ⟨pen, c, kd, w, k, rfl, _⟩ := h
    rfl
  · obtain ⟨pen, c, kd, w, k, rfl, w3, pn, q⟩ := h
    have wl := w3.le
    have wp := w3.pow
    refine ⟨_, (pss_cons (ps_par (i := 3) (j := 4) (by rfl) sc__law_row.nd rfl rfl (by decide) rfl rfl (pa_cons (pe_callC c__law_names (hr.mono (by decide)) (by rfl) pass0 (pa_cons (pv 0) (pa_cons pe_int pa_nil))) (pa_cons (pe_callC c__law_variables (hr.mono (by decide)) (by rfl) pass0 (pa_cons (pv 0) pa_nil)) pa_nil)) (by rfl))
 (pss_cons (ps_if (pt_cmpR op_eq (pv 1) pe_int (nomark _)) (pss_one (ps_ret (pe_lst (pa_cons pe_str (pa_cons (pe_ix ix_list (pv 4) pe_int (fun _ _ => rfl)) (pa_cons (pe_callB (call_max2 rfl) (by rfl) T.z_max (by decide +kernel) (pa_cons pe_int (pa_cons (pe_callC c__law_word (hr.mono (by decide)) (by rfl) pass0 (pa_cons (pv 0) (pa_cons (pv 2) pa_nil))) pa_nil))) pa_nil))))))
 pss_nil)
 (pss_cons (ps_if (pt_cmpR op_eq (pv 1) pe_int (nomark _)) (pss_one (ps_ret (pe_lst (pa_cons pe_str (pa_cons (pe_ix ix_list (pv 4) pe_int (fun _ _ => rfl)) (pa_cons (pe_ix ix_list (pv 4) pe_int (fun _ _ => rfl)) (pa_cons (pe_ix ix_list (pv 3) pe_int (fun _ _ => rfl)) pa_nil)))))))
 pss_nil)
 (pss_cons (ps_par (i := 5) (j := 6) (by rfl) sc__law_row.nd rfl rfl (by decide) rfl rfl (pa_cons (pe_ix ix_list (pe_lst (pa_cons pe_str (pa_cons pe_str (pa_cons pe_str (pa_cons pe_str (pa_cons pe_str (pa_cons pe_str (pa_cons pe_str pa_nil)))))))) (pe_callC c__law_draw (hr.mono (by decide)) (by rfl) pass0 (pa_cons (pv 0) (pa_cons pe_int pa_nil))) (fun _ _ => rfl)) (pa_cons (pe_slice sl_list (pv 3) (po_some pe_int) (po_some (pe_op op_add pe_int (pe_callC c__law_draw (hr.mono (by decide)) (by rfl) pass0 (pa_cons (pv 0) (pa_cons pe_int pa_nil)))))) pa_nil)) (by rfl))
 (pss_cons (ps_if (pt_cmpR op_eq (pv 1) pe_int (nomark _)) (pss_one (ps_ret (pe_lst (pa_cons pe_str (pa_cons (pe_ix ix_list (pv 4) pe_int (fun _ _ => rfl)) (pa_cons (pe_ix ix_list (pv 3) pe_int (fun _ _ => rfl)) (pa_cons (pv 5) (pa_cons (pv 6) pa_nil))))))))
 pss_nil)
 (pss_cons (ps_asg (pe_callC c__law_normal (hr.mono (by decide)) (by rfl) pass0 (pa_cons (pv 2) (pa_cons (pe_op op_sub (pe_callC c__law_draw (hr.mono (by decide)) (by rfl) pass0 (pa_cons (pv 0) (pa_cons (pe_op op_add (pe_op op_mul pe_int (pv 2)) pe_int) pa_nil))) (pv 2)) (pa_cons (pe_callC c__law_word (hr.mono (by decide)) (by rfl) pass0 (pa_cons (pv 0) (pa_cons (pv 2) pa_nil))) pa_nil)))) (pg_tup rfl (pgs_cons (pg_name (i := 7) sc__law_row.nd rfl (by first | exact Or.inl rfl | exact Or.inr rfl)) (pgs_cons (pg_name (i := 8) sc__law_row.nd rfl (by first | exact Or.inl rfl | exact Or.inr rfl)) pgs_nil))))
 (pss_cons (ps_if (PW.pt (pw_or (pt_cmpR op_eq (pv 8) pe_int (nomark _)) (pw_or1 (pt_cmpR op_eq (pe_callC c__law_draw (hr.mono (by decide)) (by rfl) pass0 (pa_cons (pv 0) (pa_cons pe_int pa_nil))) pe_int (nomark _))))) (pss_one (ps_ret (pe_lst (pa_cons pe_str (pa_cons (pe_ix ix_list (pv 3) pe_int (fun _ _ => rfl)) (pa_cons (pv 5) (pa_cons pe_non (pa_cons pe_int (pa_cons pe_int (pa_cons (pe_callC c__law_word (hr.mono (by decide)) (by rfl) pass0 (pa_cons (pv 0) (pa_cons (pv 2) pa_nil))) (pa_cons (pv 6) pa_nil)))))))))))
 pss_nil)
 (pss_one (ps_ret (pe_lst (pa_cons pe_str (pa_cons (pe_ix ix_list (pv 3) pe_int (fun _ _ => rfl)) (pa_cons (pv 5) (pa_cons (pe_ix ix_list (pv 4) pe_int (fun _ _ => rfl)) (pa_cons (pv 7) (pa_cons (pv 8) (pa_cons (pe_callC c__law_word (hr.mono (by decide)) (by rfl) pass0 (pa_cons (pv 0) (pa_cons (pv 2) pa_nil))) (pa_cons (pv 6) pa_nil)))))))))))))))))), at_start (σ := [some (.ref pen), some (.int kd), some (.int w), none, none, none, none, none, none]) rfl ?_⟩
    try dsimp only [cx_K]
    walk_at "rd"
    refine ⟨pen, c, 5, k + 28, rfl, by decide, pn, fun q1 zs H1 nq1 e1 lz hz nd pn1 kp1 => ?_⟩
    walk_at "rd"
    refine ⟨pen, c, k + 25, rfl, pn1, fun q2 a b H2 nq2 e2 va vb ab pn2 kp2 => ?_⟩
    have e1' := kp2 _ _ e1 (pn.ne nq1)
    obtain ⟨z0, zr, rfl⟩ : ∃ z0 zr, zs = z0 :: zr := by
      cases zs with
      | nil => cases lz
      | cons z0 zr => exact ⟨z0, zr, rfl⟩
    have lr : zr.length = 4 := by simpa using lz
    have kp12 := kp1.tr kp2
    have h0 := hz z0 List.mem_cons_self
    rw [List.map_cons] at e1'
    walk_at "rd"
    refine ⟨_, _, rfl, ?_⟩
    walk_at "rd"
    refine r_iteI2 (fun i2 => ?_) (fun i2 => ?_)
    · walk_at "rd"
      refine ⟨pen, c, w, k + 1, rfl, w3, pn2.mono (by omega), fun n H3 hn pn3 kp3 => ?_⟩
      walk_at "rd"
      refine ⟨by walk_at "sz", fun p np => ?_⟩
      have hn2 : n < 4294967296 := Nat.lt_of_lt_of_le hn wp
      have em : (if (n : Int) > 1 then (n : Int) else 1) = ((max 1 n : Nat) : Int) := by split <;> omega
      rw [em]
      exact q p (.serve a ((max 1 n : Nat) : Int)) _ (show _ from upd_same) ⟨va, by omega, by omega⟩ (show ((max 1 n : Nat) : Int) < 4294967296 by omega) ((pn3.up (same_new np)).mono (by omega)) ((kp12.tr kp3).tr (Keep.same (same_new np)))
    walk_at "rd"
    refine r_iteI2 (fun i3 => ?_) (fun i3 => ?_)
    · walk_at "rd"
      refine r_ixL (SqL.of e1') at0 ?_
      walk_at "rd"
      refine ⟨by walk_at "sz", fun p np => ?_⟩
      exact q p (.pair a b z0) _ (show _ from upd_same) ⟨va, vb, ab, h0.1⟩ h0.2 ((pn2.up (same_new np)).mono (by omega)) (kp12.tr (Keep.same (same_new np)))
    walk_at "rd"
    refine ⟨by walk_at "sz", fun t1 nt1 => ?_⟩
    have st1 := same_new (o := .lst [.str "w", .str "b0", .str "b1", .str "b2", .str "b3", .str "h0", .str "h1"]) nt1
    walk_at "rd"
    refine ⟨pen, c, 7, k + 24, rfl, by decide, by decide, pn2.up st1, fun r4 H4 a4 b4 pn4 kp4 => ?_⟩
    obtain ⟨lv, hl, at4⟩ := atI_mem (xs := LNS.map V.str) a4 b4
    obtain ⟨l, hl7, rfl⟩ := List.mem_map.mp hl
    refine r_ixL (xs := LNS.map V.str) (SqL.of (kp4 _ _ upd_same (pn2.ne nt1))) at4 ?_
    have kp4' := (kp12.tr (Keep.same st1)).tr kp4
    have e14 := kp4 _ _ (st1 _ _ e1') (pn.ne nq1)
    have e24 := kp4 _ _ (st1 _ _ e2) (pn1.ne nq2)
    walk_at "rd"
    refine ⟨pen, c, 5, k + 23, rfl, by decide, by decide, pn4, fun r5 H5 a5 b5 pn5 kp5 => ?_⟩
    obtain ⟨n5, rfl⟩ : ∃ n : Nat, r5 = (n : Int) := ⟨r5.toNat, by omega⟩
    have e15 := kp5 _ _ e14 (pn.ne nq1)
    have e25 := kp5 _ _ e24 (pn1.ne nq2)
    walk_at "rd"
    intro t2 nt2
    rw [cutV_mid, List.drop_one, List.tail_cons, ← List.map_take]
    have st2 := same_new (o := .lst ((zr.take n5).map V.str)) nt2
    have msk : Msk (zr.take n5) := ⟨fun m hm => (hz m (List.mem_cons_of_mem _ (List.mem_of_mem_take hm))).1, (List.nodup_cons.mp nd).2.sublist (List.take_sublist _ _), by rw [List.length_take]; omega⟩
    have mpz : ∀ m ∈ zr.take n5, PzN m := fun m hm => (hz m (List.mem_cons_of_mem _ (List.mem_of_mem_take hm))).2
    have ml5 : (zr.take n5).length ≤ 5 := by rw [List.length_take]; omega
    have kp6 := (kp4'.tr kp5).tr (Keep.same st2)
    have e16 := st2 _ _ e15
    have e26 := st2 _ _ e25
    have pn6 := pn5.up st2
    have e36 : upd H5 t2 (.lst ((zr.take n5).map V.str)) t2 = some (.lst ((zr.take n5).map V.str)) := upd_same
    generalize upd H5 t2 (.lst ((zr.take n5).map V.str)) = H6 at e16 e26 e36 kp6 pn6 ⊢
    generalize zr.take n5 = ms at msk mpz ml5 e36
    walk_at "rd"
    refine ⟨_, _, rfl, ?_⟩
    walk_at "rd"
    refine r_iteI2 (fun i0 => ?_) (fun i0 => ?_)
    · walk_at "rd"
      refine r_ixL (SqL.of e16) at0 ?_
      walk_at "rd"
      refine ⟨by walk_at "sz", fun p np => ?_⟩
      exact q p (.read a z0 l ms) _ ⟨t2, upd_same, same_new np _ _ e36⟩ ⟨va, h0.1, hl7, msk⟩ ⟨h0.2, mpz, ml5⟩ ((pn6.up (same_new np)).mono (by omega)) (kp6.tr (Keep.same (same_new np)))
    walk_at "rd"
    refine ⟨pen, c, 2 * (w : Int) + 1, k + 22, rfl, by omega, by omega, pn6, fun r6 H7 a6 b6 pn7 kp7 => ?_⟩
    have e17 := kp7 _ _ e16 (pn.ne nq1)
    have e27 := kp7 _ _ e26 (pn1.ne nq2)
    have e37 := kp7 _ _ e36 (pn5.ne nt2)
    walk_at "rd"
    refine ⟨pen, c, w, k + 18, rfl, w3, pn7, fun n7 H8 hn7 pn8 kp8 => ?_⟩
    have e18 := kp8 _ _ e17 (pn.ne nq1)
    have e28 := kp8 _ _ e27 (pn1.ne nq2)
    have e38 := kp8 _ _ e37 (pn5.ne nt2)
    walk_at "rd"
    refine ⟨w, n7, r6 - w, rfl, w3, by omega, by omega, hn7, fun qn H9 s9 en => ?_⟩
    have e19 := s9 _ _ e18
    have e29 := s9 _ _ e28
    have e39 := s9 _ _ e38
    have pn9 := pn8.up s9
    have kp9 := ((kp6.tr kp7).tr kp8).tr (Keep.same s9)
    have kk := keep_shift (w := w) (s := r6 - w) (k := n7)
    have kl := KBL.keep_lt w (r6 - w) n7
    have sb : 0 - (w : Int) ≤ KBL.shiftN w (r6 - w) n7 ∧ KBL.shiftN w (r6 - w) n7 ≤ w := by unfold KBL.shiftN; split <;> omega
    generalize KBL.keepN w (r6 - w) n7 = k9 at en kk kl
    generalize KBL.shiftN w (r6 - w) n7 = s9' at en kk sb
    have k0 : KBL.keepN w 0 0 = 0 := by unfold KBL.keepN; exact Nat.and_zero _
    walk_at "rd"
    have const : ∀ H10, Keep pen H H10 → PenC H10 pen c (k + 17) → H10 q1 = some (.lst (V.str z0 :: zr.map V.str)) → H10 t2 = some (.lst (ms.map V.str)) → tRet (tLst (tCons (tC (V.str (Str.ofString "write"))) (tCons (tOp (rIxL K) (tVar 3) (tC (V.int 0))) (tCons (tVar 5) (tCons (tC .non) (tCons (tC (V.int 0)) (tCons (tC (V.int 0)) (tCons (tCall spWordB [] E0 (tCons (tVar 0) (tCons (tVar 2) tNil))) (tCons (tVar 6) tNil)))))))))
        { nx := fun _ H' => Q .non H', rt := Q } [some (.ref pen), some (.int kd), some (.int w), some (.ref q1), some (.ref q2), some (.str l), some (.ref t2), some (.int s9'), some (.int k9)] H10 := fun H10 kp10 pn10 e110 e310 => by
      walk_at "rd"
      refine r_ixL (SqL.of e110) at0 ?_
      walk_at "rd"
      refine ⟨pen, c, w, k + 1, rfl, w3, pn10.mono (by omega), fun n H11 hn pn11 kp11 => ?_⟩
      walk_at "rd"
      refine ⟨by walk_at "sz", fun p np => ?_⟩
      refine q p (.write z0 l none 0 0 n ms) _ ⟨t2, upd_same, same_new np _ _ (kp11 _ _ e310 (pn5.ne nt2))⟩ ⟨h0.1, hl7, msk, (fun z e => by cases e), ⟨fun _ => rfl, fun _ => rfl⟩, ⟨w3, by omega, by omega, Nat.two_pow_pos w, hn⟩, k0, by unfold KBL.shiftN; rw [if_pos k0]⟩ ⟨h0.2, mpz, ml5⟩ ((pn11.up (same_new np)).mono (by omega)) ((kp10.tr kp11).tr (Keep.same (same_new np)))
    refine r_iteB (fun y => ?_) (fun y => ?_)
    · exact const H9 kp9 (pn9.mono (by omega)) e19 e39
    · have k9n : k9 ≠ 0 := fun z => by
        rw [z] at y
        exact absurd y (by decide)
      walk_at "rd"
      refine ⟨pen, c, 4, k + 17, rfl, by decide, by decide, pn9, fun r10 H10 a10 b10 pn10 kp10 => ?_⟩
      have e110 := kp10 _ _ e19 (pn.ne nq1)
      have e210 := kp10 _ _ e29 (pn1.ne nq2)
      have e310 := kp10 _ _ e39 (pn5.ne nt2)
      walk_at "rd"
      refine r_iteI2 (fun i4 => ?_) (fun i4 => ?_)
      · exact const H10 (kp9.tr kp10) pn10 e110 e310
      · walk_at "rd"
        refine r_ixL (SqL.of e110) at0 ?_
        walk_at "rd"
        refine ⟨pen, c, w, k + 1, rfl, w3, pn10.mono (by omega), fun n H11 hn pn11 kp11 => ?_⟩
        walk_at "rd"
        refine ⟨by walk_at "sz", fun p np => ?_⟩
        refine q p (.write z0 l (some a) s9' k9 n ms) _ ⟨t2, upd_same, same_new np _ _ (kp11 _ _ e310 (pn5.ne nt2))⟩ ⟨h0.1, hl7, msk, (fun z e => by cases e; exact va), ⟨fun z => absurd z k9n, fun z => by cases z⟩, ⟨w3, sb.1, sb.2, kl, hn⟩, kk.1, kk.2⟩ ⟨h0.2, mpz, ml5⟩ ((pn11.up (same_new np)).mono (by omega)) (((kp9.tr kp10).tr kp11).tr (Keep.same (same_new np)))

end
end K35


namespace K35
open PySem L2 KB KO KY KV KTr
/-! ### steps made of rows -/
def spMadeS (c : CA) : Sp := fun vs H Q _ => ∃ (w : Nat) (a : Addr) (r : SRow), vs = [.int w, .ref a] ∧ W3 w ∧ SRowAt H a r ∧ r.Ok w ∧ ∀ p H', StpAt c H' p (r.stp w) → (r.stp w).Ok → Same H H' → Q (.ref p) H'
theorem trs_strs {H : Hp} : ∀ ms : List Str, TrsAt H (ms.map V.str) (ms.map fun z => Tr.sc (.str z))
  | [] => .nil
  | m :: ms => .cons (.sc (.str m)) (trs_strs ms)
theorem sm_str {z : Str} (h : z.length ≤ 20) : Sm (.sc (.str z)) := .sc _ fun x e => by cases e; exact Nat.le_trans h (by decide)
theorem sm_strs {ms : List Str} (h : ∀ m ∈ ms, NmS m) : ∀ t ∈ ms.map (fun z => Tr.sc (.str z)), Sm t := fun t m => by
  obtain ⟨z, hz, rfl⟩ := List.mem_map.mp m
  exact sm_str (nms_len (h z hz))
theorem means_msk {ms : List Str} (h : Msk ms) : meansB [] (ms.map fun z => Tr.sc (.str z)) = some ms := by
  have := means_of ms [] h.1 (by simpa using h.2.1)
  simpa using this
def trO : Option Str → Tr
  | none => .sc .non
  | some z => .sc (.str z)
theorem trO_at {H : Hp} (v : Option Str) : TrAt H (oV v) (trO v) := by
  cases v
  · exact .sc .non
  · exact .sc (.str _)
theorem trO_sm {v : Option Str} (h : ∀ z, v = some z → varB z = true) : Sm (trO v) := by
  cases v with
  | none => exact .sc _ fun x e => by cases e
  | some z => exact sm_str (varB_len (h z rfl))
theorem readP_of {eS : Addr} {c : CA} {v p l : Str} {ms : List Str} {H : Hp} {Q : VK} {E : XK} (o : varB v = true ∧ NmS p ∧ l ∈ LNS ∧ Msk ms) (q : ∀ a H', StpAt c H' a (.read v p l (KSrS.sortS ms)) → Same H H' → Q (.ref a) H') : ReadP eS c (.str v) (.str p) (.str l) (.sc (.str v)) (.sc (.str p)) (.sc (.str l)) (ms.map fun z => Tr.sc (.str z)) H Q E := by
  have ok : readres (.sc (.str v)) (.sc (.str p)) (.sc (.str l)) (ms.map fun z => Tr.sc (.str z)) = .ok := by
    unfold readres accres meansOk
    rw [means_msk o.2.2.2, show isVar (.sc (.str v)) = true from o.1, show isNm (.sc (.str p)) = true from o.2.1, show isLane (.sc (.str l)) = true from decide_eq_true o.2.2.1]
    rfl
  refine ⟨fun rs e => (by rw [ok] at e; cases e), fun a b l' zs e1 e2 e3 e4 _ x H' h s => ?_⟩
  cases e1
  cases e2
  cases e3
  rw [means_msk o.2.2.2] at e4
  cases e4
  exact q x H' h s
theorem writeP_of {eS : Addr} {c : CA} {p l : Str} {w : Nat} {s : Int} {k f : Nat} {v : Option Str} {ms : List Str} {H : Hp} {Q : VK} {E : XK} (o1 : NmS p) (o2 : l ∈ LNS) (o3 : Msk ms) (o4 : ∀ z, v = some z → varB z = true) (o5 : k = 0 ↔ v = none) (q : ∀ a H', StpAt c H' a (.write p l w s k f (KSrS.sortS ms) v) → Same H H' → Q (.ref a) H') : WriteP eS c (.sc (.str p)) (.sc (.str l)) (.bl w s k f) (ms.map fun z => Tr.sc (.str z)) (trO v) H Q E := by
  have ov : isNoT (trO v) = v.isNone ∧ (isNoT (trO v) || isVar (trO v)) = true ∧ strO (trO v) = v := by
    cases v with
    | none => exact ⟨rfl, rfl, rfl⟩
    | some z => exact ⟨rfl, (by rw [show isVar (trO (some z)) = true from o4 z rfl, Bool.or_true]), rfl⟩
  have oc : ((Ba.bl w s k f).const == isNoT (trO v)) = true := by
    rw [ov.1]
    show (decide (k = 0) == v.isNone) = true
    cases v with
    | none => rw [decide_eq_true (o5.mpr rfl)]; rfl
    | some z => rw [decide_eq_false (fun e => by cases o5.mp e)]; rfl
  have ok : writeres (.sc (.str p)) (.sc (.str l)) (.bl w s k f) (ms.map fun z => Tr.sc (.str z)) (trO v) = .ok := by
    unfold writeres accres meansOk
    rw [means_msk o3, show isNm (.sc (.str p)) = true from o1, show isLane (.sc (.str l)) = true from decide_eq_true o2, ov.2.1, oc]
    rfl
  refine ⟨fun rs e => (by rw [ok] at e; cases e), fun _ b l' w' s' k' f' zs v' e1 e2 e3 e4 e5 _ x H' h s => ?_⟩
  cases e1
  cases e2
  cases e3
  rw [means_msk o3] at e4
  cases e4
  rw [ov.2.2] at e5
  subst e5
  exact q x H' h s
theorem serveP_of {eS : Addr} {c : CA} {v : Str} {m : Int} {H : Hp} {Q : VK} {E : XK} (o : varB v = true ∧ 1 ≤ m ∧ m ≤ 4294967295) (q : ∀ a H', StpAt c H' a (.serve v m) → Same H H' → Q (.ref a) H') : ServeP eS c (.sc (.str v)) (.sc (.int m)) H Q E := by
  have ok : serveres (.sc (.str v)) (.sc (.int m)) = .ok := by
    unfold serveres
    rw [show isVar (.sc (.str v)) = true from o.1, show isNum 1 4294967295 (.sc (.int m)) = true from decide_eq_true o.2]
    rfl
  refine ⟨fun rs e => (by rw [ok] at e; cases e), fun a m' e1 e2 _ x H' h s => ?_⟩
  cases e1
  cases e2
  exact q x H' h s
theorem pairP_of {eS : Addr} {c : CA} {a b f : Str} {H : Hp} {Q : VK} {E : XK} (o : varB a = true ∧ varB b = true ∧ b ≠ a ∧ NmS f) (q : ∀ x H', StpAt c H' x (.pair a b f) → Same H H' → Q (.ref x) H') : PairP eS c (.sc (.str a)) (.sc (.str b)) (.sc (.str f)) H Q E := by
  have ok : pairres (.sc (.str a)) (.sc (.str b)) (.sc (.str f)) = .ok := by
    unfold pairres
    rw [show isVar (.sc (.str a)) = true from o.1, show isVar (.sc (.str b)) = true from o.2.1, show isNm (.sc (.str f)) = true from o.2.2.2, show decide (strO (.sc (.str b)) ≠ strO (.sc (.str a))) = true from decide_eq_true (fun e => o.2.2.1 (Option.some.inj e))]
    rfl
  refine ⟨fun rs e => (by rw [ok] at e; cases e), fun a' b' f' e1 e2 e3 _ x H' h s => ?_⟩
  cases e1
  cases e2
  cases e3
  exact q x H' h s


section
variable {P : Program} {w : World} {K : PySem.W.Frag} {mg : Str → Option Value} {base : Heap}
theorem ok_mades {f eS aL cW cS cR : Addr} {c : CA} {fd : FuncData} (F : Fun K "_law_made_step" "_law_made_step" s__law_made_step f fd) (T : TxtKd K mg aL c)
    (cm_Read_of : KP.CalleeC P w K mg base (L2.CX P w) 7 c.R "of" (spReadOf K eS c)) (cm_Write_of : KP.CalleeC P w K mg base (L2.CX P w) 7 c.W "of" (spWriteOf K eS c))
    (c_Serve___init__ : CalleeI P w K mg base (L2.CX P w) 4 c.S "Serve" ["self", "variable", "mask"] (spServe eS c)) (c_Pair___init__ : CalleeI P w K mg base (L2.CX P w) 4 c.P "Pair" ["self", "first", "second", "field"] (spPair eS c))
    (c_Blend___init__ : CalleeI P w K mg base (L2.CX P w) 6 c.B "Blend" ["self", "width", "shift", "keep", "flip"] (spBlend c.B cW cS cR)) : FnOk P w K mg base CX0 8 f fd ["_law_width", "_law_step"] (spMadeS c) := by
  refine F.ok sc__law_made_step (fun vs H Q E h => ?_) (fun cdv A outer s H vs Q E hr h => ?_)
  · obtain ⟨w', a, r, rfl, _⟩ := h
    rfl
  · obtain ⟨w', a, r, rfl, w3, hr0, ok, q⟩ := h
    refine ⟨_, (pss_cons (ps_if (pt_cmpR op_eq (pe_ix ix_list (pv 1) pe_int (fun _ _ => rfl)) pe_str (nomark _)) (pss_one (ps_ret (KP.pe_cmethC cm_Read_of (pe_glob (v := .ref _) (by rfl) T.mg_Read rfl) (hr.mono (by decide)) passL (pa_cons (pe_ix ix_list (pv 1) pe_int (fun _ _ => rfl)) (pa_cons (pe_ix ix_list (pv 1) pe_int (fun _ _ => rfl)) (pa_cons (pe_ix ix_list (pv 1) pe_int (fun _ _ => rfl)) (pa_cons (pe_ix ix_list (pv 1) pe_int (fun _ _ => rfl)) pa_nil)))))))
 pss_nil)
 (pss_cons (ps_if (pt_cmpR op_eq (pe_ix ix_list (pv 1) pe_int (fun _ _ => rfl)) pe_str (nomark _)) (pss_one (ps_ret (KP.pe_cmethC cm_Write_of (pe_glob (v := .ref _) (by rfl) T.mg_Write rfl) (hr.mono (by decide)) passL (pa_cons (pe_ix ix_list (pv 1) pe_int (fun _ _ => rfl)) (pa_cons (pe_ix ix_list (pv 1) pe_int (fun _ _ => rfl)) (pa_cons (pe_makeC c_Blend___init__ (hr.mono (by decide)) (by rfl) passL (pa_cons (pv 0) (pa_cons (pe_ix ix_list (pv 1) pe_int (fun _ _ => rfl)) (pa_cons (pe_ix ix_list (pv 1) pe_int (fun _ _ => rfl)) (pa_cons (pe_ix ix_list (pv 1) pe_int (fun _ _ => rfl)) pa_nil))))) (pa_cons (pe_ix ix_list (pv 1) pe_int (fun _ _ => rfl)) (pa_cons (pe_ix ix_list (pv 1) pe_int (fun _ _ => rfl)) pa_nil))))))))
 pss_nil)
 (pss_cons (ps_if (pt_cmpR op_eq (pe_ix ix_list (pv 1) pe_int (fun _ _ => rfl)) pe_str (nomark _)) (pss_one (ps_ret (pe_makeC c_Serve___init__ (hr.mono (by decide)) (by rfl) passL (pa_cons (pe_ix ix_list (pv 1) pe_int (fun _ _ => rfl)) (pa_cons (pe_ix ix_list (pv 1) pe_int (fun _ _ => rfl)) pa_nil)))))
 pss_nil)
 (pss_one (ps_ret (pe_makeC c_Pair___init__ (hr.mono (by decide)) (by rfl) passL (pa_cons (pe_ix ix_list (pv 1) pe_int (fun _ _ => rfl)) (pa_cons (pe_ix ix_list (pv 1) pe_int (fun _ _ => rfl)) (pa_cons (pe_ix ix_list (pv 1) pe_int (fun _ _ => rfl)) pa_nil))))))))), at_start (σ := [some (.int w'), some (.ref a)]) rfl ?_⟩
    try dsimp only [cx_K]
    cases r with
    | read v p l ms =>
      obtain ⟨m, e, em⟩ := hr0
      walk_at "rd"
      refine r_iteT rfl ?_
      walk_at "rd"
      refine KP.r_cmeth ?_
      walk_at "rd"
      refine ⟨rfl, ?_⟩
      walk_at "rd"
      exact ⟨_, _, _, _, m, ms.map V.str, _, _, _, _, rfl, .inr (SqL.of em), .sc (.str v), .sc (.str p), .sc (.str l), sm_str (varB_len ok.1), sm_str (nms_len ok.2.1), sm_str (lns_len _ ok.2.2.1), trs_strs ms, sm_strs ok.2.2.2.1, by rw [List.length_map]; exact Nat.le_trans ok.2.2.2.2.2 (by decide), readP_of ok fun x H' h s => q x H' h (SRow.stp_ok (r := .read v p l ms) ok) s⟩
    | write p l v s' k' f' ms =>
      obtain ⟨m, e, em⟩ := hr0
      have okS := SRow.stp_ok (r := .write p l v s' k' f' ms) ok
      obtain ⟨o1, o2, o3, o4, o5, o6, o7, o8⟩ := ok
      walk_at "rd"
      refine r_iteF (by decide) ?_
      walk_at "rd"
      refine r_iteT rfl ?_
      walk_at "rd"
      refine KP.r_cmeth ?_
      walk_at "rd"
      refine ⟨rfl, ?_⟩
      walk_at "rd"
      refine fun x dx nx ndx nxd => make_b nx ndx o6 fun H' B sm => ?_
      rw [o7, o8] at B
      have em' := sm _ _ em
      have e' := sm _ _ e
      walk_at "rd"
      refine ⟨_, _, _, _, _, m, ms.map V.str, _, _, .bl w' s' k' f', trO v, _, rfl, .inr (SqL.of em'), .sc (.str p), .sc (.str l), ⟨x, rfl, B⟩, trO_at v, sm_str (nms_len o1), sm_str (lns_len _ o2), trO_sm o4, trs_strs ms, sm_strs o3.1, by rw [List.length_map]; exact Nat.le_trans o3.2.2 (by decide), writeP_of o1 o2 o3 o4 o5 fun x H' h s => q x H' h okS (sm.trans s)⟩
    | serve v m =>
      have e : H a = some (.lst [.str "serve", .str v, .int m]) := hr0
      walk_at "rd"
      refine r_iteF (by decide) ?_
      walk_at "rd"
      refine r_iteF (by decide) ?_
      walk_at "rd"
      refine r_iteT rfl ?_
      walk_at "rd"
      exact fun x dx nx nd ne => serve_new nx nd ne (.sc (.str v)) (.sc (.int m)) (sm_str (varB_len ok.1)) (serveP_of ok fun x H' h s => q x H' h ok s)
    | pair b1 b2 g =>
      have e : H a = some (.lst [.str "pair", .str b1, .str b2, .str g]) := hr0
      walk_at "rd"
      refine r_iteF (by decide) ?_
      walk_at "rd"
      refine r_iteF (by decide) ?_
      walk_at "rd"
      refine r_iteF (by decide) ?_
      walk_at "rd"
      exact fun x dx nx nd ne => pair_new nx nd ne (.sc (.str b1)) (.sc (.str b2)) (.sc (.str g)) (sm_str (varB_len ok.1)) (sm_str (varB_len ok.2.1)) (sm_str (nms_len ok.2.2.2)) (pairP_of ok fun x H' h s => q x H' h ok s)

end
end K35


namespace K35
open PySem L2 KB KO KY KV KTr
/-- short, two deep at most -/
def okN (m : Nat) : Nat → Tr → Bool
  | _, .sc (.str z) => decide (z.length ≤ m)
  | _, .sc _ => true
  | _, .dct l => decide (l.map (·.1)).Nodup
  | 0, _ => false
  | n + 1, .tup l => decide (l.length ≤ 1000) && l.all (okN m n)
  | n + 1, .lst l => decide (l.length ≤ 2) && l.all (okN m n)
theorem okN_sm {m : Nat} (hm : m ≤ 1000) : ∀ (n : Nat) (t : Tr), okN m n t = true → Sm t
  | n, .sc .non, _ => .sc _ fun x e => by cases e
  | n, .sc (.bl _), _ => .sc _ fun x e => by cases e
  | n, .sc (.int _), _ => .sc _ fun x e => by cases e
  | n, .sc (.str z), h => .sc _ fun x e => by
    cases e
    cases n <;> (unfold okN at h; exact Nat.le_trans (of_decide_eq_true h) hm)
  | n, .dct l, h => .dct l (by cases n <;> (unfold okN at h; exact of_decide_eq_true h))
  | 0, .tup l, h => by unfold okN at h; cases h
  | 0, .lst l, h => by unfold okN at h; cases h
  | n + 1, .tup l, h => by
    unfold okN at h
    rw [Bool.and_eq_true, List.all_eq_true] at h
    exact .tup fun t m => okN_sm hm n t (h.2 t m)
  | n + 1, .lst l, h => by
    unfold okN at h
    rw [Bool.and_eq_true, List.all_eq_true] at h
    exact .lst (of_decide_eq_true h.1) fun t m => okN_sm hm n t (h.2 t m)
/-! ### wrong values -/
inductive WK where
  | letter | name | part | blend | ones
def WK.s : WK → Str
  | .letter => "letter"
  | .name => "name"
  | .part => "part"
  | .blend => "blend"
  | .ones => "ones"
def strT (z : Str) : Tr := .sc (.str z)
def intT (i : Int) : Tr := .sc (.int i)
def wrongTs : List Tr := [.sc .non, .sc (.bl true), intT 0, intT 7, strT "", strT " ", .tup [], .lst [], .dct [], .lst [strT "a"], .tup [strT "A"], intT (10 ^ Int.toNat 59), intT (-1), .sc (.bl false), strT "w w"]
/-- the values that are wrong of a kind -/
def WK.ts : WK → List Tr
  | .letter => [strT "ab", strT "A", strT "1", strT "_", strT "a ", strT " a", strT "aa", strT "variable"]
  | .name => [strT "a", strT "Ab", strT "1A", strT "_A", strT "A B", strT "A-B", strT "ABCDEFGHI", strT "A.", strT "aB", strT " A", strT "A\n", strT "AAAAAAAAA_"]
  | .part => [strT "b4", strT "h2", strT "W", strT "b", strT "h", strT "ww", strT "b00", strT "B0", strT "w ", strT "b-1", strT "h3", strT "0", strT "b01"]
  | .blend => [strT "Blend", .tup [intT 8, intT 0, intT 255, intT 0], .lst [intT 8, intT 0, intT 255, intT 0], strT "a", intT 255, .dct [(Sum.inr "width", .int 8)]]
  | .ones => [intT (1 * 2 ^ Int.toNat 32), intT (2 ^ Int.toNat 32 + 7), strT "1", .lst [intT 1], .tup [intT 1], intT (-5), strT "ff", .sc .non, .sc (.bl true)]
def WK.right : WK → Tr → Bool
  | .letter, t => isVar t
  | .name, t => isNm t
  | .part, t => isLane t
  | .blend, _ => false
  | .ones, t => isNum 1 4294967295 t
/-- which of the values are taken -/
def WK.gd : WK → Tr → Bool
  | .ones, t => KLm.neI t 7 && KLm.neI t 1
  | _, _ => true
mutual
/-- no list of three entries in it (e: no empty dict, either) -/
def s3 (e : Bool) : Tr → Bool
  | .sc _ => true
  | .tup l => s3s e l
  | .lst l => decide (l.length ≠ 3) && s3s e l
  | .dct l => !e || !l.isEmpty
def s3s (e : Bool) : List Tr → Bool
  | [] => true
  | t :: l => s3 e t && s3s e l
end
def Fr3 (e : Bool) (H H' : Hp) : Prop := ∀ b o, H b = some o → (∀ xs, o = .lst xs → xs.length ≠ 3) → (e = true → o ≠ .dK []) → H' b = some o
theorem fr_keep {H H' : Hp} {p c : Addr} {k : Nat} (s : Keep p H H') (pn : PenC H p c k) : Fr3 false H H' := fun b o e n _ => s b o e fun z => by
  obtain ⟨ns, at_, left, h1, _⟩ := pn
  rw [z, h1] at e
  exact n _ (Option.some.inj e).symm rfl
mutual
theorem TrAt.fr3 {e : Bool} {H H' : Hp} (s : Fr3 e H H') : ∀ (t : Tr) (v : V), s3 e t = true → TrAt H v t → TrAt H' v t
  | .sc x, _, _, h => by cases h; exact .sc x
  | .tup l, _, m, h => by
    cases h with
    | tup h r => exact .tup (s _ _ h (fun _ z => by cases z) (fun _ z => by cases z)) (TrsAt.fr3 s l _ (by unfold s3 at m; exact m) r)
  | .lst l, _, m, h => by
    unfold s3 at m
    rw [Bool.and_eq_true] at m
    cases h with
    | lst h r => exact .lst (s _ _ h (fun xs z => by cases z; rw [r.len]; exact of_decide_eq_true m.1) (fun _ z => by cases z)) (TrsAt.fr3 s l _ m.2 r)
  | .dct l, _, m, h => by
    cases h with
    | dct h =>
      refine .dct (s _ _ h (fun xs z => by cases z) fun ee z => ?_)
      subst ee
      cases l with
      | nil => cases m
      | cons => cases z
theorem TrsAt.fr3 {e : Bool} {H H' : Hp} (s : Fr3 e H H') : ∀ (l : List Tr) (xs : List V), s3s e l = true → TrsAt H xs l → TrsAt H' xs l
  | [], _, _, h => by cases h; exact .nil
  | t :: l, _, m, h => by
    unfold s3s at m
    rw [Bool.and_eq_true] at m
    cases h with
    | cons h r => exact .cons (TrAt.fr3 s t _ m.1 h) (TrsAt.fr3 s l _ m.2 r)
end
/-- what can be shown, in short -/
def dTopB : Tr → Bool
  | .dct _ => true
  | t => !(KLm.trD t).hasDict
def fitT (t : Tr) : Bool := dTopB t && PyData.showable (KLm.trD t) && decide ((KLm.trD t).depth ≤ 10) && decide ((KLm.trD t).shown.length ≤ 1000)
def smB (t : Tr) : Bool := okN 20 2 t
def WK.good (kd : WK) (t : Tr) : Bool := s3 false t && fitT t && !kd.right t && (smB t || (match kd with | .blend => true | _ => false))
theorem good_all (kd : WK) : ∀ t ∈ wrongTs.filter kd.gd ++ kd.ts ++ kd.ts, kd.good t = true := by
  cases kd <;> decide +kernel
/-- what a wrong value is -/
structure WrongT (kd : WK) (t : Tr) : Prop where
  s3 : s3 false t = true
  fit : fitT t = true
  bad : kd.right t = false
  sm : kd ≠ .blend → Sm t
theorem WrongT.of {kd : WK} {t : Tr} (h : kd.good t = true) : WrongT kd t := by
  unfold WK.good at h
  simp only [Bool.and_eq_true, Bool.or_eq_true, Bool.not_eq_true'] at h
  refine ⟨h.1.1.1, h.1.1.2, h.1.2, fun n => ?_⟩
  rcases h.2 with z | z
  · exact okN_sm (by decide) _ _ z
  · cases kd <;> first | exact absurd rfl n | cases z
def spWrong : Sp := fun vs H Q _ => ∃ (pen c : Addr) (kd : WK) (k : Nat), vs = [.ref pen, .str kd.s] ∧ PenC H pen c (k + 1) ∧ ∀ v t H', TrAt H' v t → WrongT kd t → PenC H' pen c k → Keep pen H H' → Q v H'
theorem trs_filter {H : Hp} (g : Tr → Bool) : ∀ {ts : List Tr} {vs : List V}, TrsAt H vs ts → TrsAt H (((vs.zip ts).filter fun p => g p.2).map (·.1)) (ts.filter g)
  | _, _, .nil => .nil
  | t :: ts, _, .cons (x := x) (xs := xs) h r => by
    have ih := trs_filter g r
    rw [List.zip_cons_cons, List.filter_cons, List.filter_cons]
    cases g t with
    | false => simpa using ih
    | true => simpa using TrsAt.cons h ih
theorem trs_append {H : Hp} : ∀ {ts us : List Tr} {xs ys : List V}, TrsAt H xs ts → TrsAt H ys us → TrsAt H (xs ++ ys) (ts ++ us)
  | _, _, _, _, .nil, b => b
  | _, _, _, _, .cons h r, b => .cons h (trs_append r b)
theorem trl_at {H : Hp} {v : V} {l : List Tr} (h : TrAt H v (.lst l)) : ∃ a vs, v = .ref a ∧ H a = some (.lst vs) ∧ TrsAt H vs l := by
  cases h with
  | lst e r => exact ⟨_, _, rfl, e, r⟩


section
variable {P : Program} {w : World} {K : PySem.W.Frag} {mg : Str → Option Value} {base : Heap}
theorem ok_wrong {f : Addr} {fd : FuncData} (F : Fun K "_law_wrong" "_law_wrong" s__law_wrong f fd) (T : Txt mg) (c__law_draw : KB.Callee P w K mg base CX0 1 "_law_draw" ["_law_pen_here", "_law_many"] spDraw) : FnOk P w K mg base CX0 2 f fd ["_law_pen_here", "_law_kind"] spWrong := by
  refine F.ok sc__law_wrong (fun vs H Q E h => ?_) (fun cdv A outer s H vs Q E hr h => ?_)
  · obtain ⟨pen, c, kd, k, rfl, _⟩ := h
    rfl
  · obtain ⟨pen, c, kd, k, rfl, pn, q⟩ := h
    refine ⟨_, (pss_cons (ps_set (i := 2) sc__law_wrong.nd rfl (by first | exact Or.inl rfl | exact Or.inr rfl) (pe_lst (pa_cons pe_non (pa_cons pe_bl (pa_cons pe_int (pa_cons pe_int (pa_cons pe_str (pa_cons pe_str (pa_cons (pe_tup pa_nil) (pa_cons (pe_lst pa_nil) (pa_cons pe_dnewK (pa_cons (pe_lst (pa_cons pe_str pa_nil)) (pa_cons (pe_tup (pa_cons pe_str pa_nil)) (pa_cons (pe_op op_pow pe_int pe_int) (pa_cons (pe_un un_neg pe_int) (pa_cons pe_bl (pa_cons pe_str pa_nil)))))))))))))))))
 (pss_cons (ps_set (i := 3) sc__law_wrong.nd rfl (by first | exact Or.inl rfl | exact Or.inr rfl) (pe_disp (pps_cons pe_str (pe_lst (pa_cons pe_str (pa_cons pe_str (pa_cons pe_str (pa_cons pe_str (pa_cons pe_str (pa_cons pe_str (pa_cons pe_str (pa_cons pe_str pa_nil))))))))) (pps_cons pe_str (pe_lst (pa_cons pe_str (pa_cons pe_str (pa_cons pe_str (pa_cons pe_str (pa_cons pe_str (pa_cons pe_str (pa_cons pe_str (pa_cons pe_str (pa_cons pe_str (pa_cons pe_str (pa_cons pe_str (pa_cons pe_str pa_nil))))))))))))) (pps_cons pe_str (pe_lst (pa_cons pe_str (pa_cons pe_str (pa_cons pe_str (pa_cons pe_str (pa_cons pe_str (pa_cons pe_str (pa_cons pe_str (pa_cons pe_str (pa_cons pe_str (pa_cons pe_str (pa_cons pe_str (pa_cons pe_str (pa_cons pe_str pa_nil)))))))))))))) (pps_cons pe_str (pe_lst (pa_cons pe_str (pa_cons (pe_tup (pa_cons pe_int (pa_cons pe_int (pa_cons pe_int (pa_cons pe_int pa_nil))))) (pa_cons (pe_lst (pa_cons pe_int (pa_cons pe_int (pa_cons pe_int (pa_cons pe_int pa_nil))))) (pa_cons pe_str (pa_cons pe_int (pa_cons (pe_disp (pps_cons pe_str pe_int pps_nil) (by rfl) (by rfl) (fun z => by cases z) (by decide)) pa_nil))))))) (pps_cons pe_str (pe_lst (pa_cons (pe_op op_shl pe_int pe_int) (pa_cons (pe_op op_add (pe_op op_pow pe_int pe_int) pe_int) (pa_cons pe_str (pa_cons (pe_lst (pa_cons pe_int pa_nil)) (pa_cons (pe_tup (pa_cons pe_int pa_nil)) (pa_cons (pe_un un_neg pe_int) (pa_cons pe_str (pa_cons pe_non (pa_cons pe_bl pa_nil)))))))))) pps_nil))))) (by rfl) (by rfl) (fun z => by cases z) (by decide)))
 (pss_cons (ps_set (i := 2) sc__law_wrong.nd rfl (by first | exact Or.inl rfl | exact Or.inr rfl) (pe_op op_cat (pe_op op_cat (pe_lc (own := [("_law_one", 4)]) (g := gName 4) (by rfl) sc__law_wrong.nd (pi_list (pv 2)) (blkOk_by (own := [("_law_one", 4)]) (N := ["_law_pen_here", "_law_kind", "_law_some", "_law_more", "_law_one"]) (sc := defScope s__law_wrong) (by decide +kernel)) (fun _ _ _ _ _ => (pg_name (i := 4) sc__law_wrong.nd rfl (by first | exact Or.inl rfl | exact Or.inr rfl))) (fun _ _ _ _ _ => (pts_one (PW.pt (pw_or (pt_cmpR op_ne (pv 1) pe_str (nomark _)) (pw_or1 (PW.pt (pw_and (pt_cmpR (KLm.op_neTI hr) (pv 4) pe_int (nomark _)) (pw_and1 (pt_cmpR (KLm.op_neTI hr) (pv 4) pe_int (nomark _)))))))))) (fun _ _ _ _ _ => (pv 4))) (pe_dget (hu_of hr) (pv 3) (pv 1) (fun _ _ => rfl))) (pe_dget (hu_of hr) (pv 3) (pv 1) (fun _ _ => rfl))))
 (pss_one (ps_ret (pe_ix ix_list (pv 2) (pe_callC c__law_draw (hr.mono (by decide)) (by rfl) pass0 (pa_cons (pv 0) (pa_cons (pe_callB call_len_seq (by rfl) T.z_len (by decide +kernel) (pa_cons (pv 2) pa_nil)) pa_nil))) (fun _ _ => rfl))))))), at_start (σ := [some (.ref pen), some (.str kd.s), none, none, none]) rfl ?_⟩
    try dsimp only [cx_K]
    walk_at "rd"
    refine ⟨by walk_at "sz", fun c1 n1 => ?_⟩
    have s1 := same_new (o := .tup []) n1
    have t1 : TrAt (upd H c1 (.tup [])) (.ref c1) (.tup []) := .tup upd_same .nil
    generalize upd H c1 (.tup []) = H1 at s1 t1 ⊢
    have ss := s1
    clear s1 n1
    walk_at "rd"
    refine ⟨by walk_at "sz", fun c2 n2 => ?_⟩
    have s2 := same_new (o := .lst []) n2
    have t2 : TrAt (upd H1 c2 (.lst [])) (.ref c2) (.lst []) := .lst upd_same .nil
    generalize upd H1 c2 (.lst []) = H2 at s2 t2 ⊢
    replace t1 := TrAt.up s2 _ _ t1
    replace ss := ss.trans s2
    clear s2 n2
    walk_at "rd"
    intro c3 n3
    have s3 := same_new (o := .dK []) n3
    have t3 : TrAt (upd H2 c3 (.dK [])) (.ref c3) (.dct []) := .dct upd_same
    generalize upd H2 c3 (.dK []) = H3 at s3 t3 ⊢
    replace t1 := TrAt.up s3 _ _ t1
    replace t2 := TrAt.up s3 _ _ t2
    replace ss := ss.trans s3
    clear s3 n3
    walk_at "rd"
    refine ⟨by walk_at "sz", fun c4 n4 => ?_⟩
    have s4 := same_new (o := .lst [.str "a"]) n4
    have t4 : TrAt (upd H3 c4 (.lst [.str "a"])) (.ref c4) (.lst [.sc (.str "a")]) := .lst upd_same (.cons (.sc (.str "a")) .nil)
    generalize upd H3 c4 (.lst [.str "a"]) = H4 at s4 t4 ⊢
    replace t1 := TrAt.up s4 _ _ t1
    replace t2 := TrAt.up s4 _ _ t2
    replace t3 := TrAt.up s4 _ _ t3
    replace ss := ss.trans s4
    clear s4 n4
    walk_at "rd"
    refine ⟨by walk_at "sz", fun c5 n5 => ?_⟩
    have s5 := same_new (o := .tup [.str "A"]) n5
    have t5 : TrAt (upd H4 c5 (.tup [.str "A"])) (.ref c5) (.tup [.sc (.str "A")]) := .tup upd_same (.cons (.sc (.str "A")) .nil)
    generalize upd H4 c5 (.tup [.str "A"]) = H5 at s5 t5 ⊢
    replace t1 := TrAt.up s5 _ _ t1
    replace t2 := TrAt.up s5 _ _ t2
    replace t3 := TrAt.up s5 _ _ t3
    replace t4 := TrAt.up s5 _ _ t4
    replace ss := ss.trans s5
    clear s5 n5
    walk_at "rd"
    have al : TrsAt H5 [.non, .bl true, .int 0, .int 7, .str "", .str " ", .ref c1, .ref c2, .ref c3, .ref c4, .ref c5, .int (10 ^ Int.toNat 59), .int (-1), .bl false, .str "w w"] [.sc (.non), .sc (.bl true), .sc (.int 0), .sc (.int 7), .sc (.str ""), .sc (.str " "), .tup [], .lst [], .dct [], .lst [.sc (.str "a")], .tup [.sc (.str "A")], .sc (.int (10 ^ Int.toNat 59)), .sc (.int (-1)), .sc (.bl false), .sc (.str "w w")] := (.cons (.sc (.non)) (.cons (.sc (.bl true)) (.cons (.sc (.int 0)) (.cons (.sc (.int 7)) (.cons (.sc (.str "")) (.cons (.sc (.str " ")) (.cons t1 (.cons t2 (.cons t3 (.cons t4 (.cons t5 (.cons (.sc (.int (10 ^ Int.toNat 59))) (.cons (.sc (.int (-1))) (.cons (.sc (.bl false)) (.cons (.sc (.str "w w")) .nil)))))))))))))))
    have ok : ∀ t ∈ ([.sc (.non), .sc (.bl true), .sc (.int 0), .sc (.int 7), .sc (.str ""), .sc (.str " "), .tup [], .lst [], .dct [], .lst [.sc (.str "a")], .tup [.sc (.str "A")], .sc (.int (10 ^ Int.toNat 59)), .sc (.int (-1)), .sc (.bl false), .sc (.str "w w")] : List Tr), okN 9 2 t = true := by decide +kernel
    have ll : ([.sc (.non), .sc (.bl true), .sc (.int 0), .sc (.int 7), .sc (.str ""), .sc (.str " "), .tup [], .lst [], .dct [], .lst [.sc (.str "a")], .tup [.sc (.str "A")], .sc (.int (10 ^ Int.toNat 59)), .sc (.int (-1)), .sc (.bl false), .sc (.str "w w")] : List Tr).length = 15 := rfl
    refine ⟨by walk_at "sz", fun L nL => ?_⟩
    have eL : upd H5 L (.lst [.non, .bl true, .int 0, .int 7, .str "", .str " ", .ref c1, .ref c2, .ref c3, .ref c4, .ref c5, .int (10 ^ Int.toNat 59), .int (-1), .bl false, .str "w w"]) L = some (.lst [.non, .bl true, .int 0, .int 7, .str "", .str " ", .ref c1, .ref c2, .ref c3, .ref c4, .ref c5, .int (10 ^ Int.toNat 59), .int (-1), .bl false, .str "w w"]) := upd_same
    have sL := same_new (o := .lst [.non, .bl true, .int 0, .int 7, .str "", .str " ", .ref c1, .ref c2, .ref c3, .ref c4, .ref c5, .int (10 ^ Int.toNat 59), .int (-1), .bl false, .str "w w"]) nL
    have ets : ([.sc (.non), .sc (.bl true), .sc (.int 0), .sc (.int 7), .sc (.str ""), .sc (.str " "), .tup [], .lst [], .dct [], .lst [.sc (.str "a")], .tup [.sc (.str "A")], .sc (.int (10 ^ Int.toNat 59)), .sc (.int (-1)), .sc (.bl false), .sc (.str "w w")] : List Tr) = wrongTs := rfl
    generalize ([.sc (.non), .sc (.bl true), .sc (.int 0), .sc (.int 7), .sc (.str ""), .sc (.str " "), .tup [], .lst [], .dct [], .lst [.sc (.str "a")], .tup [.sc (.str "A")], .sc (.int (10 ^ Int.toNat 59)), .sc (.int (-1)), .sc (.bl false), .sc (.str "w w")] : List Tr) = ts at al ok ll ets
    generalize ([.non, .bl true, .int 0, .int 7, .str "", .str " ", .ref c1, .ref c2, .ref c3, .ref c4, .ref c5, .int (10 ^ Int.toNat 59), .int (-1), .bl false, .str "w w"] : List V) = vs at al eL sL ⊢
    replace al := TrsAt.up sL _ _ al
    have lv := al.len
    generalize upd H5 L (.lst vs) = HL at eL sL al ⊢
    replace sL := ss.trans sL
    walk_at "rd"
    intro p0 np0
    have s0 := same_new (o := .dK []) np0
    have d0 : upd HL p0 (.dK []) p0 = some (.dK []) := upd_same
    generalize upd HL p0 (.dK []) = H0 at s0 d0 ⊢
    have ss := s0
    walk_at "rd"
    refine ⟨by walk_at "sz", fun c21 n21 => ?_⟩
    have s21 := same_new (o := .lst [.str "ab", .str "A", .str "1", .str "_", .str "a ", .str " a", .str "aa", .str "variable"]) n21
    have t21 : TrAt (upd H0 c21 (.lst [.str "ab", .str "A", .str "1", .str "_", .str "a ", .str " a", .str "aa", .str "variable"])) (.ref c21) (.lst [.sc (.str "ab"), .sc (.str "A"), .sc (.str "1"), .sc (.str "_"), .sc (.str "a "), .sc (.str " a"), .sc (.str "aa"), .sc (.str "variable")]) := .lst upd_same (.cons (.sc (.str "ab")) (.cons (.sc (.str "A")) (.cons (.sc (.str "1")) (.cons (.sc (.str "_")) (.cons (.sc (.str "a ")) (.cons (.sc (.str " a")) (.cons (.sc (.str "aa")) (.cons (.sc (.str "variable")) .nil))))))))
    generalize upd H0 c21 (.lst [.str "ab", .str "A", .str "1", .str "_", .str "a ", .str " a", .str "aa", .str "variable"]) = H21 at s21 t21 ⊢
    replace ss := ss.trans s21
    replace d0 := s21 _ _ d0
    clear s21 n21
    walk_at "rd"
    refine ⟨by walk_at "sz", fun c22 n22 => ?_⟩
    have s22 := same_new (o := .lst [.str "a", .str "Ab", .str "1A", .str "_A", .str "A B", .str "A-B", .str "ABCDEFGHI", .str "A.", .str "aB", .str " A", .str "A\n", .str "AAAAAAAAA_"]) n22
    have t22 : TrAt (upd H21 c22 (.lst [.str "a", .str "Ab", .str "1A", .str "_A", .str "A B", .str "A-B", .str "ABCDEFGHI", .str "A.", .str "aB", .str " A", .str "A\n", .str "AAAAAAAAA_"])) (.ref c22) (.lst [.sc (.str "a"), .sc (.str "Ab"), .sc (.str "1A"), .sc (.str "_A"), .sc (.str "A B"), .sc (.str "A-B"), .sc (.str "ABCDEFGHI"), .sc (.str "A."), .sc (.str "aB"), .sc (.str " A"), .sc (.str "A\n"), .sc (.str "AAAAAAAAA_")]) := .lst upd_same (.cons (.sc (.str "a")) (.cons (.sc (.str "Ab")) (.cons (.sc (.str "1A")) (.cons (.sc (.str "_A")) (.cons (.sc (.str "A B")) (.cons (.sc (.str "A-B")) (.cons (.sc (.str "ABCDEFGHI")) (.cons (.sc (.str "A.")) (.cons (.sc (.str "aB")) (.cons (.sc (.str " A")) (.cons (.sc (.str "A\n")) (.cons (.sc (.str "AAAAAAAAA_")) .nil))))))))))))
    generalize upd H21 c22 (.lst [.str "a", .str "Ab", .str "1A", .str "_A", .str "A B", .str "A-B", .str "ABCDEFGHI", .str "A.", .str "aB", .str " A", .str "A\n", .str "AAAAAAAAA_"]) = H22 at s22 t22 ⊢
    replace t21 := TrAt.up s22 _ _ t21
    replace ss := ss.trans s22
    replace d0 := s22 _ _ d0
    clear s22 n22
    walk_at "rd"
    refine ⟨by walk_at "sz", fun c23 n23 => ?_⟩
    have s23 := same_new (o := .lst [.str "b4", .str "h2", .str "W", .str "b", .str "h", .str "ww", .str "b00", .str "B0", .str "w ", .str "b-1", .str "h3", .str "0", .str "b01"]) n23
    have t23 : TrAt (upd H22 c23 (.lst [.str "b4", .str "h2", .str "W", .str "b", .str "h", .str "ww", .str "b00", .str "B0", .str "w ", .str "b-1", .str "h3", .str "0", .str "b01"])) (.ref c23) (.lst [.sc (.str "b4"), .sc (.str "h2"), .sc (.str "W"), .sc (.str "b"), .sc (.str "h"), .sc (.str "ww"), .sc (.str "b00"), .sc (.str "B0"), .sc (.str "w "), .sc (.str "b-1"), .sc (.str "h3"), .sc (.str "0"), .sc (.str "b01")]) := .lst upd_same (.cons (.sc (.str "b4")) (.cons (.sc (.str "h2")) (.cons (.sc (.str "W")) (.cons (.sc (.str "b")) (.cons (.sc (.str "h")) (.cons (.sc (.str "ww")) (.cons (.sc (.str "b00")) (.cons (.sc (.str "B0")) (.cons (.sc (.str "w ")) (.cons (.sc (.str "b-1")) (.cons (.sc (.str "h3")) (.cons (.sc (.str "0")) (.cons (.sc (.str "b01")) .nil)))))))))))))
    generalize upd H22 c23 (.lst [.str "b4", .str "h2", .str "W", .str "b", .str "h", .str "ww", .str "b00", .str "B0", .str "w ", .str "b-1", .str "h3", .str "0", .str "b01"]) = H23 at s23 t23 ⊢
    replace t21 := TrAt.up s23 _ _ t21
    replace t22 := TrAt.up s23 _ _ t22
    replace ss := ss.trans s23
    replace d0 := s23 _ _ d0
    clear s23 n23
    walk_at "rd"
    refine ⟨by walk_at "sz", fun c24 n24 => ?_⟩
    have s24 := same_new (o := .tup [.int 8, .int 0, .int 255, .int 0]) n24
    have t24 : TrAt (upd H23 c24 (.tup [.int 8, .int 0, .int 255, .int 0])) (.ref c24) (.tup [.sc (.int 8), .sc (.int 0), .sc (.int 255), .sc (.int 0)]) := .tup upd_same (.cons (.sc (.int 8)) (.cons (.sc (.int 0)) (.cons (.sc (.int 255)) (.cons (.sc (.int 0)) .nil))))
    generalize upd H23 c24 (.tup [.int 8, .int 0, .int 255, .int 0]) = H24 at s24 t24 ⊢
    replace t21 := TrAt.up s24 _ _ t21
    replace t22 := TrAt.up s24 _ _ t22
    replace t23 := TrAt.up s24 _ _ t23
    replace ss := ss.trans s24
    replace d0 := s24 _ _ d0
    clear s24 n24
    walk_at "rd"
    refine ⟨by walk_at "sz", fun c25 n25 => ?_⟩
    have s25 := same_new (o := .lst [.int 8, .int 0, .int 255, .int 0]) n25
    have t25 : TrAt (upd H24 c25 (.lst [.int 8, .int 0, .int 255, .int 0])) (.ref c25) (.lst [.sc (.int 8), .sc (.int 0), .sc (.int 255), .sc (.int 0)]) := .lst upd_same (.cons (.sc (.int 8)) (.cons (.sc (.int 0)) (.cons (.sc (.int 255)) (.cons (.sc (.int 0)) .nil))))
    generalize upd H24 c25 (.lst [.int 8, .int 0, .int 255, .int 0]) = H25 at s25 t25 ⊢
    replace t21 := TrAt.up s25 _ _ t21
    replace t22 := TrAt.up s25 _ _ t22
    replace t23 := TrAt.up s25 _ _ t23
    replace t24 := TrAt.up s25 _ _ t24
    replace ss := ss.trans s25
    replace d0 := s25 _ _ d0
    clear s25 n25
    walk_at "rd"
    intro c26 n26
    refine ⟨upd_same, [(Sum.inr "width", (.int 8 : V))], rfl, by decide, ?_⟩
    rw [show upd (upd H25 c26 (.dK [])) c26 (.dK (mergeK [] [(Sum.inr "width", (.int 8 : V))])) = upd H25 c26 (.dK [(Sum.inr "width", (.int 8 : V))]) from upd_upd]
    have s26 := same_new (o := .dK [(Sum.inr "width", (.int 8 : V))]) n26
    have t26 : TrAt (upd H25 c26 (.dK [(Sum.inr "width", (.int 8 : V))])) (.ref c26) (.dct [(Sum.inr "width", (.int 8 : Sc))]) := .dct upd_same
    generalize upd H25 c26 (.dK [(Sum.inr "width", (.int 8 : V))]) = H26 at s26 t26 ⊢
    replace t21 := TrAt.up s26 _ _ t21
    replace t22 := TrAt.up s26 _ _ t22
    replace t23 := TrAt.up s26 _ _ t23
    replace t24 := TrAt.up s26 _ _ t24
    replace t25 := TrAt.up s26 _ _ t25
    replace ss := ss.trans s26
    replace d0 := s26 _ _ d0
    clear s26 n26
    walk_at "rd"
    refine ⟨by walk_at "sz", fun c27 n27 => ?_⟩
    have s27 := same_new (o := .lst [.str "Blend", .ref c24, .ref c25, .str "a", .int 255, .ref c26]) n27
    have t27 : TrAt (upd H26 c27 (.lst [.str "Blend", .ref c24, .ref c25, .str "a", .int 255, .ref c26])) (.ref c27) (.lst [.sc (.str "Blend"), .tup [.sc (.int 8), .sc (.int 0), .sc (.int 255), .sc (.int 0)], .lst [.sc (.int 8), .sc (.int 0), .sc (.int 255), .sc (.int 0)], .sc (.str "a"), .sc (.int 255), .dct [(Sum.inr "width", (.int 8 : Sc))]]) := .lst upd_same (.cons (.sc (.str "Blend")) (.cons (TrAt.up (same_new (o := .lst [.str "Blend", .ref c24, .ref c25, .str "a", .int 255, .ref c26]) n27) _ _ t24) (.cons (TrAt.up (same_new (o := .lst [.str "Blend", .ref c24, .ref c25, .str "a", .int 255, .ref c26]) n27) _ _ t25) (.cons (.sc (.str "a")) (.cons (.sc (.int 255)) (.cons (TrAt.up (same_new (o := .lst [.str "Blend", .ref c24, .ref c25, .str "a", .int 255, .ref c26]) n27) _ _ t26) .nil))))))
    generalize upd H26 c27 (.lst [.str "Blend", .ref c24, .ref c25, .str "a", .int 255, .ref c26]) = H27 at s27 t27 ⊢
    replace t21 := TrAt.up s27 _ _ t21
    replace t22 := TrAt.up s27 _ _ t22
    replace t23 := TrAt.up s27 _ _ t23
    replace t24 := TrAt.up s27 _ _ t24
    replace t25 := TrAt.up s27 _ _ t25
    replace t26 := TrAt.up s27 _ _ t26
    replace ss := ss.trans s27
    replace d0 := s27 _ _ d0
    clear s27 n27
    walk_at "rd"
    refine ⟨by walk_at "sz", fun c28 n28 => ?_⟩
    have s28 := same_new (o := .lst [.int 1]) n28
    have t28 : TrAt (upd H27 c28 (.lst [.int 1])) (.ref c28) (.lst [.sc (.int 1)]) := .lst upd_same (.cons (.sc (.int 1)) .nil)
    generalize upd H27 c28 (.lst [.int 1]) = H28 at s28 t28 ⊢
    replace t21 := TrAt.up s28 _ _ t21
    replace t22 := TrAt.up s28 _ _ t22
    replace t23 := TrAt.up s28 _ _ t23
    replace t24 := TrAt.up s28 _ _ t24
    replace t25 := TrAt.up s28 _ _ t25
    replace t26 := TrAt.up s28 _ _ t26
    replace t27 := TrAt.up s28 _ _ t27
    replace ss := ss.trans s28
    replace d0 := s28 _ _ d0
    clear s28 n28
    walk_at "rd"
    refine ⟨by walk_at "sz", fun c29 n29 => ?_⟩
    have s29 := same_new (o := .tup [.int 1]) n29
    have t29 : TrAt (upd H28 c29 (.tup [.int 1])) (.ref c29) (.tup [.sc (.int 1)]) := .tup upd_same (.cons (.sc (.int 1)) .nil)
    generalize upd H28 c29 (.tup [.int 1]) = H29 at s29 t29 ⊢
    replace t21 := TrAt.up s29 _ _ t21
    replace t22 := TrAt.up s29 _ _ t22
    replace t23 := TrAt.up s29 _ _ t23
    replace t24 := TrAt.up s29 _ _ t24
    replace t25 := TrAt.up s29 _ _ t25
    replace t26 := TrAt.up s29 _ _ t26
    replace t27 := TrAt.up s29 _ _ t27
    replace t28 := TrAt.up s29 _ _ t28
    replace ss := ss.trans s29
    replace d0 := s29 _ _ d0
    clear s29 n29
    walk_at "rd"
    refine ⟨by walk_at "sz", fun c30 n30 => ?_⟩
    have s30 := same_new (o := .lst [.int (1 * 2 ^ Int.toNat 32), .int (2 ^ Int.toNat 32 + 7), .str "1", .ref c28, .ref c29, .int (-5), .str "ff", .non, .bl true]) n30
    have t30 : TrAt (upd H29 c30 (.lst [.int (1 * 2 ^ Int.toNat 32), .int (2 ^ Int.toNat 32 + 7), .str "1", .ref c28, .ref c29, .int (-5), .str "ff", .non, .bl true])) (.ref c30) (.lst [.sc (.int (1 * 2 ^ Int.toNat 32)), .sc (.int (2 ^ Int.toNat 32 + 7)), .sc (.str "1"), .lst [.sc (.int 1)], .tup [.sc (.int 1)], .sc (.int (-5)), .sc (.str "ff"), .sc (.non), .sc (.bl true)]) := .lst upd_same (.cons (.sc (.int (1 * 2 ^ Int.toNat 32))) (.cons (.sc (.int (2 ^ Int.toNat 32 + 7))) (.cons (.sc (.str "1")) (.cons (TrAt.up (same_new (o := .lst [.int (1 * 2 ^ Int.toNat 32), .int (2 ^ Int.toNat 32 + 7), .str "1", .ref c28, .ref c29, .int (-5), .str "ff", .non, .bl true]) n30) _ _ t28) (.cons (TrAt.up (same_new (o := .lst [.int (1 * 2 ^ Int.toNat 32), .int (2 ^ Int.toNat 32 + 7), .str "1", .ref c28, .ref c29, .int (-5), .str "ff", .non, .bl true]) n30) _ _ t29) (.cons (.sc (.int (-5))) (.cons (.sc (.str "ff")) (.cons (.sc (.non)) (.cons (.sc (.bl true)) .nil)))))))))
    generalize upd H29 c30 (.lst [.int (1 * 2 ^ Int.toNat 32), .int (2 ^ Int.toNat 32 + 7), .str "1", .ref c28, .ref c29, .int (-5), .str "ff", .non, .bl true]) = H30 at s30 t30 ⊢
    replace t21 := TrAt.up s30 _ _ t21
    replace t22 := TrAt.up s30 _ _ t22
    replace t23 := TrAt.up s30 _ _ t23
    replace t24 := TrAt.up s30 _ _ t24
    replace t25 := TrAt.up s30 _ _ t25
    replace t26 := TrAt.up s30 _ _ t26
    replace t27 := TrAt.up s30 _ _ t27
    replace t28 := TrAt.up s30 _ _ t28
    replace t29 := TrAt.up s30 _ _ t29
    replace ss := ss.trans s30
    replace d0 := s30 _ _ d0
    clear s30 n30
    walk_at "rd"
    have fm : ∀ kd : WK, ∃ l : Addr, valV (mergeK [] ([(Sum.inr "letter", .ref c21), (Sum.inr "name", .ref c22), (Sum.inr "part", .ref c23), (Sum.inr "blend", .ref c27), (Sum.inr "ones", .ref c30)] : List (Key × V))) (Sum.inr kd.s) = some (.ref l) ∧ TrAt H30 (.ref l) (.lst kd.ts) := by
      intro kd
      cases kd
      · exact ⟨_, rfl, t21⟩
      · exact ⟨_, rfl, t22⟩
      · exact ⟨_, rfl, t23⟩
      · exact ⟨_, rfl, t27⟩
      · exact ⟨_, rfl, t30⟩
    refine ⟨d0, [(Sum.inr "letter", .ref c21), (Sum.inr "name", .ref c22), (Sum.inr "part", .ref c23), (Sum.inr "blend", .ref c27), (Sum.inr "ones", .ref c30)], rfl, (show 5 ≤ 15 by decide), ?_⟩
    generalize ([(Sum.inr "letter", .ref c21), (Sum.inr "name", .ref c22), (Sum.inr "part", .ref c23), (Sum.inr "blend", .ref c27), (Sum.inr "ones", .ref c30)] : List (Key × V)) = kvs at fm ⊢
    clear t21 t22 t23 t24 t25 t26 t27 t28 t29 t30
    generalize H30 = HM at ss d0 fm ⊢
    have sF : Same HL (upd HM p0 (.dK (mergeK [] kvs))) := same_mut ss np0
    have d1 : upd HM p0 (.dK (mergeK [] kvs)) p0 = some (.dK (mergeK [] kvs)) := upd_same
    have fF : Fr3 true HM (upd HM p0 (.dK (mergeK [] kvs))) := fun b o e _ n => by
      rw [upd_ne (fun z => by rw [z, d0] at e; exact n rfl (Option.some.inj e).symm)]
      exact e
    have fm2 : ∃ l : Addr, valV (mergeK [] kvs) (Sum.inr kd.s) = some (.ref l) ∧ TrAt (upd HM p0 (.dK (mergeK [] kvs))) (.ref l) (.lst kd.ts) := by
      obtain ⟨l, e1, e2⟩ := fm kd
      exact ⟨l, e1, TrAt.fr3 fF _ _ (by cases kd <;> decide) e2⟩
    generalize upd HM p0 (.dK (mergeK [] kvs)) = HF at sF d1 fm2 ⊢
    generalize mergeK [] kvs = kvs at d1 fm2
    clear fm fF d0 ss s0 np0
    obtain ⟨lm, gm, tm⟩ := fm2
    have eLF := sF _ _ eL
    replace al := TrsAt.up sF _ _ al
    have pnF := pn.up (sL.trans sF)
    generalize hzs : vs.zip ts = zs
    have zl : zs.length = 15 := by rw [← hzs, List.length_zip, lv, ll]; rfl
    walk_at "rd"
    refine ⟨L, rfl, ⟨_, SqL.of eLF⟩, KSrt.lc_mkF (walk_list (xs := vs)) (fun i ws H' => ws = ((zs.take i).filter fun p => kd.gd p.2).map (·.1) ∧ ws.length ≤ i ∧ i ≤ 15) (fun H' => ⟨rfl, Nat.le_refl _, by decide⟩) (fun i ws H' h => by omega) (fun i ws H' H'' h s => h) (fun H' s => SqL.of (s _ _ eLF)) (fun i x0 H' H'' N B hi s5 y nn bb => ?_) (fun D1 H1 ws nD s1 eD h => ?_)⟩
    · obtain ⟨rfl, ex⟩ := y
      obtain ⟨t, et, tx⟩ := al.get ex
      replace tx := TrAt.up s5 _ _ tx
      have ez : zs[i]? = some (x0, t) := by rw [← hzs, List.getElem?_zip_eq_some]; exact ⟨ex, et⟩
      have hi' : i < zs.length := by omega
      have tk : zs.take (i + 1) = zs.take i ++ [(x0, t)] := by
        rw [List.take_succ_eq_append_getElem hi']
        rw [List.getElem?_eq_getElem hi'] at ez
        rw [Option.some.inj ez]
      have finT : kd.gd t = true → N x0 H'' := fun ek => by
        refine nn _ _ (Same.refl _) fun ys h => ⟨?_, by rw [List.length_append]; have := h.2.1; simp only [List.length_cons, List.length_nil]; omega, by omega⟩
        rw [tk, List.filter_append, List.map_append, h.1]
        simp [ek]
      have finF : kd.gd t = false → B H'' := fun ek => by
        refine bb _ (Same.refl _) fun ys h => ⟨?_, by have := h.2.1; omega, by omega⟩
        rw [tk, List.filter_append, List.map_append, h.1]
        simp [ek]
      clear nn bb
      walk_at "rd"
      refine ⟨rfl, ?_⟩
      walk_at "rd"
      by_cases c : kd = .ones
      · subst c
        rw [if_neg (by decide)]
        walk_at "rd"
        refine ⟨t, 7, tx, rfl, ?_⟩
        refine ⟨_, rfl, ?_⟩
        cases e7 : KLm.neI t 7 with
        | false =>
          simp only [Bool.false_eq_true, if_false]
          exact finF (by show (_ && _) = false; rw [e7]; rfl)
        | true =>
          rw [if_pos rfl]
          walk_at "rd"
          refine ⟨t, 1, tx, rfl, ?_⟩
          refine ⟨_, rfl, ?_⟩
          cases e1 : KLm.neI t 1 with
          | false =>
            simp only [Bool.false_eq_true, if_false]
            exact finF (by show (_ && _) = false; rw [e7, e1]; rfl)
          | true =>
            rw [if_pos rfl]
            walk_at "rd"
            exact finT (by show (_ && _) = true; rw [e7, e1]; rfl)
      · rw [if_pos (by cases kd <;> first | decide | exact absurd rfl c), if_pos rfl]
        walk_at "rd"
        exact finT (by cases kd <;> first | rfl | exact absurd rfl c)
    · have hw : TrsAt H1 ws (wrongTs.filter kd.gd) := by
        rw [h.1, List.take_of_length_le (by rw [zl]; rw [lv, ll]; decide), ← hzs, ← ets]
        exact trs_filter kd.gd (TrsAt.up s1 _ _ al)
      replace tm := TrAt.up s1 _ _ tm
      have gk : ∀ {G : Hp}, Same H1 G → DGet G p0 (.str kd.s) (some (.ref lm)) := fun {G} s => by
        have := DGet.k (k := Sum.inr kd.s) (s _ _ (s1 _ _ d1))
        rw [gm] at this
        exact this
      have pn1 := pnF.up s1
      have nDp := (pnF.ne nD)
      have sZ := (sL.trans sF).trans s1
      clear al pnF pn d1 eLF eL gm s1
      have g0 := gk (Same.refl _)
      obtain ⟨vm, em, am⟩ : ∃ vm, H1 lm = some (.lst vm) ∧ TrsAt H1 vm kd.ts := by
        obtain ⟨_, vm, e0, e, r⟩ := trl_at tm
        cases e0
        exact ⟨vm, e, r⟩
      have lw := hw.len
      have lmm := am.len
      have l1 : (wrongTs.filter kd.gd).length ≤ 15 ∧ kd.ts.length ≤ 13 ∧ 1 ≤ kd.ts.length := by cases kd <;> decide
      walk_at "rd"
      refine ⟨p0, .ref lm, rfl, g0, ?_⟩
      have szl : ∀ n : Nat, n ≤ 100 → n ≤ sizeLine := fun n h => Nat.le_trans h (by decide)
      refine r_cat eD em (szl _ (by omega)) fun c3 n3 => ?_
      have s3' := same_new (o := .lst (ws ++ vm)) n3
      have e3 : upd H1 c3 (.lst (ws ++ vm)) c3 = some (.lst (ws ++ vm)) := upd_same
      have g3 := gk s3'
      have em3 := s3' _ _ em
      generalize upd H1 c3 (.lst (ws ++ vm)) = H3 at s3' e3 g3 em3 ⊢
      walk_at "rd"
      refine ⟨p0, .ref lm, rfl, g3, ?_⟩
      refine r_cat e3 em3 (szl _ (by rw [List.length_append]; omega)) fun c4 n4 => ?_
      have s4 := same_new (o := .lst (ws ++ vm ++ vm)) n4
      have e4 : upd H3 c4 (.lst (ws ++ vm ++ vm)) c4 = some (.lst (ws ++ vm ++ vm)) := upd_same
      generalize upd H3 c4 (.lst (ws ++ vm ++ vm)) = H4 at s4 e4 ⊢
      have n4p : c4 ≠ pen := (pn1.up s3').ne n4
      have s34 := s3'.trans s4
      have pn4 := pn1.up s34
      have al4 : TrsAt H4 (ws ++ vm ++ vm) (wrongTs.filter kd.gd ++ kd.ts ++ kd.ts) := TrsAt.up s34 _ _ (trs_append (trs_append hw am) am)
      clear g0 em em3 e3 g3 hw am gk
      have l4 := al4.len
      have gl := good_all kd
      have n34 : 0 < (ws ++ vm ++ vm).length ∧ (ws ++ vm ++ vm).length ≤ 41 := by
        rw [List.length_append, List.length_append]
        omega
      generalize ws ++ vm ++ vm = vz at e4 al4 l4 n34 ⊢
      generalize wrongTs.filter kd.gd ++ kd.ts ++ kd.ts = tz at al4 l4 gl
      walk_at "rd"
      refine ⟨pen, c, _, k, rfl, by omega, by omega, pn4, fun r Hd a b pn' kp' => ?_⟩
      obtain ⟨n, rfl⟩ : ∃ n : Nat, r = (n : Int) := ⟨r.toNat, by omega⟩
      have hn : n < vz.length := by omega
      have hx := List.getElem?_eq_getElem hn
      obtain ⟨t, ht, at1⟩ := al4.get hx
      have gt := WrongT.of (gl t (List.mem_of_getElem? ht))
      refine r_ixL (SqL.of (kp' _ _ e4 n4p)) (atI_nat hx) ?_
      exact q _ t Hd (TrAt.fr3 (fr_keep kp' pn4) _ _ gt.s3 at1) gt pn' ((Keep.same (sZ.trans s34)).tr kp')

end
end K35


namespace K35
open PySem L2 KB KO KY KV KTr
/-! ### wrong means -/
theorem rep_len {z : Str} (o : PyData.strOk z = true) : (reprText z).length ≤ 10 * z.length + 2 := PySem.StrLaws.reprText_len z (fun c m => by
  have o2 : z.cps.all (· < 0x110000) = true := o
  rw [← Array.all_toList, List.all_eq_true] at o2
  exact Nat.lt_trans (of_decide_eq_true (o2 c m)) (by decide))
theorem varB_ok {z : Str} (h : varB z = true) : PyData.strOk z = true := by
  unfold varB at h
  rw [Bool.and_eq_true, decide_eq_true_eq, decide_eq_true_eq] at h
  obtain ⟨c, e⟩ := List.length_eq_one_iff.mp h.1
  have hs : ∀ c ∈ SMS.cps.toList, c < 0x110000 := by decide +kernel
  show z.cps.all _ = true
  rw [← Array.all_toList, e]
  rw [e] at h
  simp only [List.all_cons, List.all_nil, Bool.and_true]
  exact decide_eq_true (hs c h.2)
theorem lns_ok : ∀ z ∈ LNS, PyData.strOk z = true := by decide +kernel
theorem fit_str {z : Str} (ok : PyData.strOk z = true) (h : z.length ≤ 20) : fitT (.sc (.str z)) = true := by
  have l := rep_len ok
  show ((!false) && true && decide (0 ≤ 10) && decide ((reprText z).length ≤ 1000)) = true
  rw [decide_eq_true (by omega : (reprText z).length ≤ 1000)]
  rfl
theorem means_wrong {ts : List Tr} (h : ∀ zs : List Str, ts = zs.map (fun z => Tr.sc (.str z)) → (∀ z ∈ zs, NmS z) → zs.Nodup → False) : meansOk ts = false := by
  unfold meansOk
  cases e : meansB [] ts with
  | none => rfl
  | some zs =>
    obtain ⟨a1, a2, _, rest, a4, a5⟩ := means_zs ts [] zs (by simp) .nil e
    rw [List.nil_append] at a4
    subst a4
    exact (h zs a5 a1 a2).elim
theorem strT_inj : ∀ {a b : List Str}, a.map (fun z => Tr.sc (.str z)) = b.map (fun z => Tr.sc (.str z)) → a = b
  | [], [], _ => rfl
  | [], _ :: _, e => by cases e
  | _ :: _, [], e => by cases e
  | x :: a, y :: b, e => by
    rw [List.map_cons, List.map_cons] at e
    injection e with e1 e2
    injection e1 with e1
    injection e1 with e1
    rw [e1, strT_inj e2]
theorem means_twice {ms : List Str} {n : Nat} {x : Str} (hx : x ∈ ms) : meansOk ((ms.take n).map (fun z => Tr.sc (.str z)) ++ [.sc (.str x)] ++ (ms.drop n).map (fun z => Tr.sc (.str z))) = false := means_wrong fun zs e _ nd => by
  rw [show [Tr.sc (.str x)] = [x].map (fun z => Tr.sc (.str z)) from rfl, ← List.map_append, ← List.map_append] at e
  have e := strT_inj e
  subst e
  rw [← List.take_append_drop n ms] at hx
  have p : (ms.take n ++ [x] ++ ms.drop n).Perm (x :: (ms.take n ++ ms.drop n)) := by
    rw [List.append_assoc]
    exact List.perm_middle
  exact (List.nodup_cons.mp (p.nodup_iff.mp nd)).1 hx
theorem means_odd {ms : List Str} {n : Nat} {t : Tr} (ht : isNm t = false) : meansOk ((ms.take n).map (fun z => Tr.sc (.str z)) ++ [t] ++ (ms.drop n).map (fun z => Tr.sc (.str z))) = false := means_wrong fun zs e nm _ => by
  have m : t ∈ zs.map (fun z => Tr.sc (.str z)) := by rw [← e]; simp
  obtain ⟨z, hz, rfl⟩ := List.mem_map.mp m
  rw [show isNm (.sc (.str z)) = true from nm z hz] at ht
  cases ht
theorem nm_parts {z : Str} (h : NmS z) : Sm (.sc (.str z)) ∧ s3 false (.sc (.str z)) = true ∧ fitT (.sc (.str z)) = true := ⟨sm_str (nms_len h), rfl, fit_str h.ok (nms_len h)⟩
def spWrongM : Sp := fun vs H Q _ => ∃ (pen c m : Addr) (ms : List Str) (k : Nat), vs = [.ref pen, .ref m] ∧ H m = some (.lst (ms.map V.str)) ∧ Msk ms ∧ PenC H pen c (k + 4) ∧
  ∀ q xs ts H', H q = none → H' q = some (.lst xs) → TrsAt H' xs ts → meansOk ts = false → (∀ t ∈ ts, Sm t ∧ s3 false t = true ∧ fitT t = true) → ts.length ≤ 11 → PenC H' pen c k → Keep pen H H' → Q (.ref q) H'
theorem cutV_drop (xs : List V) (n : Nat) : cutV xs (some (n : Int)) none = xs.drop n := by
  unfold cutV
  rw [HT.sIx_none, HT.sIx_nat]
  by_cases h : n ≤ xs.length
  · rw [Nat.min_eq_left h, List.take_of_length_le]
    rw [List.length_drop]
    exact Nat.le_refl _
  · rw [Nat.min_eq_right (by omega), List.drop_of_length_le (by omega), List.drop_of_length_le (by omega)]
    simp


section
variable {P : Program} {w : World} {K : PySem.W.Frag} {mg : Str → Option Value} {base : Heap}
theorem ok_wrongm {f : Addr} {fd : FuncData} (F : Fun K "_law_wrong_means" "_law_wrong_means" s__law_wrong_means f fd) (T : Txt mg) (c__law_draw : KB.Callee P w K mg base CX0 1 "_law_draw" ["_law_pen_here", "_law_many"] spDraw)
    (c__law_wrong : KB.Callee P w K mg base CX0 2 "_law_wrong" ["_law_pen_here", "_law_kind"] spWrong) : FnOk P w K mg base CX0 3 f fd ["_law_pen_here", "_law_aims"] spWrongM := by
  refine F.ok sc__law_wrong_means (fun vs H Q E h => ?_) (fun cdv A outer s H vs Q E hr h => ?_)
  · obtain ⟨pen, c, m, ms, k, rfl, _⟩ := h
    rfl
  · obtain ⟨pen, c, m, ms, k, rfl, hm, mk, pn, q⟩ := h
    refine ⟨_, (pss_cons (ps_set (i := 2) sc__law_wrong_means.nd rfl (by first | exact Or.inl rfl | exact Or.inr rfl) (pe_callC c__law_draw (hr.mono (by decide)) (by rfl) pass0 (pa_cons (pv 0) (pa_cons (pe_op op_add (pe_callB call_len_seq (by rfl) T.z_len (by decide +kernel) (pa_cons (pv 1) pa_nil)) pe_int) pa_nil))))
 (pss_cons (ps_if (PW.pt (pw_and (pt_cmpR (op_neD hr.units) (pv 1) (pe_lst pa_nil) (nomark _)) (pw_and1 (pt_cmpR op_eq (pe_callC c__law_draw (hr.mono (by decide)) (by rfl) pass0 (pa_cons (pv 0) (pa_cons pe_int pa_nil))) pe_int (nomark _))))) (pss_one (ps_ret (pe_op op_cat (pe_op op_cat (pe_slice sl_list (pv 1) po_none (po_some (pv 2))) (pe_lst (pa_cons (pe_ix ix_list (pv 1) (pe_callC c__law_draw (hr.mono (by decide)) (by rfl) pass0 (pa_cons (pv 0) (pa_cons (pe_callB call_len_seq (by rfl) T.z_len (by decide +kernel) (pa_cons (pv 1) pa_nil)) pa_nil))) (fun _ _ => rfl)) pa_nil))) (pe_slice sl_list (pv 1) (po_some (pv 2)) po_none))))
 pss_nil)
 (pss_one (ps_ret (pe_op op_cat (pe_op op_cat (pe_slice sl_list (pv 1) po_none (po_some (pv 2))) (pe_lst (pa_cons (pe_callC c__law_wrong (hr.mono (by decide)) (by rfl) pass0 (pa_cons (pv 0) (pa_cons pe_str pa_nil))) pa_nil))) (pe_slice sl_list (pv 1) (po_some (pv 2)) po_none)))))), at_start (σ := [some (.ref pen), some (.ref m), none]) rfl ?_⟩
    try dsimp only [cx_K]
    walk_at "rd"
    have ml := mk.2.2
    have lm : (ms.map V.str).length = ms.length := List.length_map _
    refine ⟨pen, c, _, k + 3, rfl, by omega, by omega, pn, fun r H1 a b pn1 kp1 => ?_⟩
    rw [lm] at b
    obtain ⟨n, rfl⟩ : ∃ n : Nat, r = (n : Int) := ⟨r.toNat, by omega⟩
    have hn : n ≤ ms.length := by omega
    have mp : m ≠ pen := fun z => by
      obtain ⟨ns, at_, left, h1, _⟩ := pn
      rw [z, h1] at hm
      have := Option.some.inj hm
      injection this with this
      cases ms with
      | nil => cases this
      | cons x r => cases this
    have hm1 := kp1 _ _ hm mp
    have szl : ∀ j : Nat, j ≤ 100 → j ≤ sizeLine := fun j h => Nat.le_trans h (by decide)
    walk_at "rd"
    refine ⟨by walk_at "sz", fun p np => ?_⟩
    refine KS.r_neStrs (ms := []) (SqL.of (upd_new np hm1)) (SqL.of upd_same) (fun z m => (mk.1 z m).ok) (by simp) ?_
    refine ⟨_, rfl, ?_⟩
    have sp := same_new (o := .lst []) np
    have kp := kp1.tr (Keep.same sp)
    have pnG := pn1.up sp
    have hmG := sp _ _ hm1
    generalize upd H1 p (.lst []) = G at kp pnG hmG ⊢
    clear sp np hm1 pn1 kp1
    have tail : ∀ {G : Hp} {x : V} {t : Tr}, meansOk ((ms.take n).map (fun z => Tr.sc (.str z)) ++ [t] ++ (ms.drop n).map (fun z => Tr.sc (.str z))) = false → TrAt G x t → Sm t ∧ s3 false t = true ∧ fitT t = true → PenC G pen c k → Keep pen H G → G m = some (.lst (ms.map V.str)) → ∀ c2 c4, G c2 = some (.lst (cutV (ms.map V.str) none (some (n : Int)) ++ [x])) → G c4 = some (.lst (cutV (ms.map V.str) (some (n : Int)) none)) → rCat (.ref c2) (.ref c4) G Q := by
      intro G x t mo tx tp pnk kG mG c2 c4 e2 e4
      rw [cutV_take, ← List.map_take] at e2
      rw [cutV_drop, ← List.map_drop] at e4
      refine r_cat e2 e4 (szl _ (by simp; omega)) fun c5 n5 => ?_
      have hH : H c5 = none := by
        cases e : H c5 with
        | none => rfl
        | some o =>
          by_cases ep : c5 = pen
          · rw [ep] at n5; exact absurd rfl (pnk.ne (by rw [← ep] at n5 ⊢; exact n5))
          · rw [kG _ _ e ep] at n5; cases n5
      have s5 := same_new (o := .lst ((ms.take n).map V.str ++ [x] ++ (ms.drop n).map V.str)) n5
      refine q c5 _ _ _ hH upd_same (TrsAt.up s5 _ _ (trs_append (trs_append (trs_strs _) (.cons tx .nil)) (trs_strs _))) mo (fun u hu => ?_) ?_ (pnk.up s5) (kG.tr (Keep.same s5))
      · rw [List.mem_append, List.mem_append, List.mem_singleton] at hu
        rcases hu with (hu | rfl) | hu
        · obtain ⟨z, hz, rfl⟩ := List.mem_map.mp hu
          exact nm_parts (mk.1 z (List.mem_of_mem_take hz))
        · exact tp
        · obtain ⟨z, hz, rfl⟩ := List.mem_map.mp hu
          exact nm_parts (mk.1 z (List.mem_of_mem_drop hz))
      · simp; omega
    by_cases e0 : ms = []
    case' pos =>
      rw [if_neg (by simp [e0]), if_neg (by simp)]
      have pn2 := pnG.mono (show k + 1 ≤ k + 3 by omega)
      clear pnG
    case' neg =>
      rw [if_pos (by simp [e0])]
      walk_at "rd"
      refine ⟨pen, c, 2, k + 2, rfl, by decide, by decide, pnG, fun r2 G a2 b2 pnk kp2 => ?_⟩
      have hm2 := kp2 _ _ hmG mp
      replace kp := kp.tr kp2
      clear pnG kp2 hmG
      rename PenC G pen c (k + 2) => pnG
      have pn2 := pnG.mono (show k + 1 ≤ k + 2 by omega)
      have hmG := hm2
      clear hm2
      walk_at "rd"
      refine r_ite2 (fun e2 => ?twice) (fun e2 => ?odd)
      case twice =>
        clear pn2
        walk_at "rd"
        intro c1 n1
        have s1 := same_new (o := .lst (cutV (ms.map V.str) none (some (n : Int)))) n1
        have e1 : upd G c1 (.lst (cutV (ms.map V.str) none (some (n : Int)))) c1 = some (.lst (cutV (ms.map V.str) none (some (n : Int)))) := upd_same
        have c1p := pnG.ne n1
        have pn3 := pnG.up s1
        replace hmG := s1 _ _ hmG
        replace kp := kp.tr (Keep.same s1)
        generalize upd G c1 (.lst (cutV (ms.map V.str) none (some (n : Int)))) = G1 at e1 pn3 hmG kp ⊢
        clear s1 n1 pnG
        have ml0 : 0 < ms.length := List.length_pos_iff.mpr e0
        walk_at "rd"
        refine ⟨pen, c, _, k + 1, rfl, by omega, by omega, pn3, fun r3 G3 a3 b3 pn4 kp4 => ?_⟩
        rw [lm] at b3
        obtain ⟨j, rfl⟩ : ∃ j : Nat, r3 = (j : Int) := ⟨r3.toNat, by omega⟩
        have hj : j < ms.length := by omega
        replace hmG := kp4 _ _ hmG mp
        replace e1 := kp4 _ _ e1 c1p
        replace kp := kp.tr kp4
        refine r_ixL (SqL.of hmG) (atI_nat (by rw [List.getElem?_map, List.getElem?_eq_getElem hj]; rfl)) ?_
        walk_at "rd"
        refine ⟨by walk_at "sz", fun c2 n2 => ?_⟩
        refine r_cat (upd_new n2 e1) upd_same (szl _ (by rw [cutV_take]; simp; omega)) fun c3 n3 => ?_
        have s2 := (same_new (o := .lst [V.str ms[j]]) n2).trans (same_new (o := .lst (cutV (ms.map V.str) none (some (n : Int)) ++ [V.str ms[j]])) n3)
        have e3 : upd (upd G3 c2 (.lst [V.str ms[j]])) c3 (.lst (cutV (ms.map V.str) none (some (n : Int)) ++ [V.str ms[j]])) c3 = some (.lst (cutV (ms.map V.str) none (some (n : Int)) ++ [V.str ms[j]])) := upd_same
        generalize upd (upd G3 c2 (.lst [V.str ms[j]])) c3 (.lst (cutV (ms.map V.str) none (some (n : Int)) ++ [V.str ms[j]])) = G4 at s2 e3 ⊢
        replace hmG := s2 _ _ hmG
        replace pn4 := pn4.up s2
        replace kp := kp.tr (Keep.same s2)
        walk_at "rd"
        intro c4 n4
        have s4 := same_new (o := .lst (cutV (ms.map V.str) (some (n : Int)) none)) n4
        exact tail (t := .sc (.str ms[j])) (means_twice (List.getElem_mem hj)) (.sc (.str _)) (nm_parts (mk.1 _ (List.getElem_mem hj))) ((pn4.mono (by omega)).up s4) (kp.tr (Keep.same s4)) (s4 _ _ hmG) c3 c4 (s4 _ _ e3) upd_same
    all_goals
      walk_at "rd"
      intro c1 n1
      have s1 := same_new (o := .lst (cutV (ms.map V.str) none (some (n : Int)))) n1
      have e1 : upd G c1 (.lst (cutV (ms.map V.str) none (some (n : Int)))) c1 = some (.lst (cutV (ms.map V.str) none (some (n : Int)))) := upd_same
      have c1p := pn2.ne n1
      have pn3 := pn2.up s1
      replace hmG := s1 _ _ hmG
      replace kp := kp.tr (Keep.same s1)
      generalize upd G c1 (.lst (cutV (ms.map V.str) none (some (n : Int)))) = G1 at e1 pn3 hmG kp ⊢
      clear s1 n1 pn2
      walk_at "rd"
      refine ⟨pen, c, .name, k, rfl, pn3, fun v t G3 tv wt pn4 kp4 => ?_⟩
      replace hmG := kp4 _ _ hmG mp
      replace e1 := kp4 _ _ e1 c1p
      replace kp := kp.tr kp4
      walk_at "rd"
      refine ⟨by walk_at "sz", fun c2 n2 => ?_⟩
      refine r_cat (upd_new n2 e1) upd_same (szl _ (by rw [cutV_take]; simp; omega)) fun c3 n3 => ?_
      have s2 := (same_new (o := .lst [v]) n2).trans (same_new (o := .lst (cutV (ms.map V.str) none (some (n : Int)) ++ [v])) n3)
      have e3 : upd (upd G3 c2 (.lst [v])) c3 (.lst (cutV (ms.map V.str) none (some (n : Int)) ++ [v])) c3 = some (.lst (cutV (ms.map V.str) none (some (n : Int)) ++ [v])) := upd_same
      generalize upd (upd G3 c2 (.lst [v])) c3 (.lst (cutV (ms.map V.str) none (some (n : Int)) ++ [v])) = G4 at s2 e3 ⊢
      replace hmG := s2 _ _ hmG
      replace pn4 := pn4.up s2
      replace kp := kp.tr (Keep.same s2)
      replace tv := TrAt.up s2 _ _ tv
      walk_at "rd"
      intro c4 n4
      have s4 := same_new (o := .lst (cutV (ms.map V.str) (some (n : Int)) none)) n4
      exact tail (means_odd wt.bad) (TrAt.up s4 _ _ tv) ⟨wt.sm (fun e => by cases e), wt.s3, wt.fit⟩ (pn4.up s4) (kp.tr (Keep.same s4)) (s4 _ _ hmG) c3 c4 (s4 _ _ e3) upd_same

end
end K35


namespace K35
open PySem L2 KB KO KY KV KTr
/-! ### the arguments of a step -/
/-- names and kinds of the arguments -/
def argN : SRow → List (Str × Str)
  | .read .. => [("variable", "letter"), ("port", "name"), ("lane", "part"), ("means", "means")]
  | .write .. => [("port", "name"), ("lane", "part"), ("blend", "blend"), ("means", "means"), ("variable", "letter")]
  | .serve .. => [("variable", "letter"), ("mask", "ones")]
  | .pair .. => [("first", "letter"), ("second", "letter"), ("field", "name")]
def meansT (ms : List Str) : Tr := .lst (ms.map fun z => .sc (.str z))
/-- their values -/
def argV (w : Nat) : SRow → List Ba
  | .read v p l ms => [.tr (.sc (.str v)), .tr (.sc (.str p)), .tr (.sc (.str l)), .tr (meansT ms)]
  | .write p l v s k f ms => [.tr (.sc (.str p)), .tr (.sc (.str l)), .bl w s k f, .tr (meansT ms), .tr (trO v)]
  | .serve v m => [.tr (.sc (.str v)), .tr (.sc (.int m))]
  | .pair a b f => [.tr (.sc (.str a)), .tr (.sc (.str b)), .tr (.sc (.str f))]
/-! ### rows that tell arguments -/
structure ARow where
  a : Addr
  nm : Str
  kn : Str
  x : V
  b : Ba
def okA : Ba → Bool
  | .bl .. => true
  | .tr (.lst ts) => s3s false ts
  | .tr t => s3 false t
theorem ba_some {CB : Addr} {H : Hp} {x : V} {b : Ba} {m : Addr} (h : BaAt CB H x b) (e : x = .ref m) : H m ≠ none := by
  subst e
  cases b with
  | bl w s k f =>
    obtain ⟨b, e, _, dx, g⟩ := h
    cases e
    rw [g]
    exact fun z => by cases z
  | tr t =>
    have h : TrAt H (.ref m) t := h
    generalize ev : V.ref m = v at h
    cases h with
    | sc s => cases s <;> cases ev
    | tup e _ => cases ev; rw [e]; exact fun z => by cases z
    | lst e _ => cases ev; rw [e]; exact fun z => by cases z
    | dct e => cases ev; rw [e]; exact fun z => by cases z
/-- rows of arguments, all new since H0 -/
structure ArgsB (CB : Addr) (H0 H : Hp) (L : List ARow) : Prop where
  sm : Same H0 H
  row : ∀ e ∈ L, H e.a = some (.lst [.str e.nm, .str e.kn, e.x]) ∧ BaAt CB H e.x e.b ∧ okA e.b = true
  sep : ∀ e ∈ L, ∀ m, e.x = .ref m → m ∉ L.map (·.a)
  nd : (L.map (·.a)).Nodup
  new : ∀ e ∈ L, H0 e.a = none ∧ ∀ m, e.x = .ref m → H0 m = none
structure ArgsAt (CB : Addr) (H : Hp) (D : Addr) (L : List ARow) : Prop where
  d : H D = some (.lst (L.map fun e => V.ref e.a))
  row : ∀ e ∈ L, H e.a = some (.lst [.str e.nm, .str e.kn, e.x]) ∧ BaAt CB H e.x e.b ∧ okA e.b = true
  sep : ∀ e ∈ L, ∀ m, e.x = .ref m → m ∉ L.map (·.a) ∧ m ≠ D
  nd : (L.map (·.a)).Nodup
  dn : D ∉ L.map (·.a)
theorem ArgsB.nil {CB : Addr} {H : Hp} : ArgsB CB H H [] := ⟨Same.refl _, by simp, by simp, .nil, by simp⟩
theorem ArgsB.up {CB : Addr} {H0 H H' : Hp} {L : List ARow} (h : ArgsB CB H0 H L) (s : Same H H') : ArgsB CB H0 H' L :=
  ⟨h.sm.trans s, fun e m => ⟨s _ _ (h.row e m).1, (h.row e m).2.1.up s, (h.row e m).2.2⟩, h.sep, h.nd, h.new⟩
theorem ArgsB.add {CB : Addr} {H0 H : Hp} {L : List ARow} {p : Addr} {nm kn : Str} {x : V} {b : Ba} (h : ArgsB CB H0 H L) (hb : BaAt CB H x b) (ok : okA b = true) (hx : ∀ m, x = .ref m → H0 m = none ∧ m ∉ L.map (·.a)) (np : H p = none) :
    ArgsB CB H0 (upd H p (.lst [.str nm, .str kn, x])) (L ++ [⟨p, nm, kn, x, b⟩]) := by
  have s := same_new (o := .lst [.str nm, .str kn, x]) np
  have pL : p ∉ L.map (·.a) := fun z => by
    obtain ⟨e, he, rfl⟩ := List.mem_map.mp z
    rw [(h.row e he).1] at np
    cases np
  have p0 : H0 p = none := by
    cases e : H0 p with
    | none => rfl
    | some o => rw [h.sm _ _ e] at np; cases np
  refine ⟨h.sm.trans s, fun e m => ?_, fun e m q eq => ?_, ?_, fun e m => ?_⟩
  · rcases List.mem_append.mp m with m | m
    · exact ⟨s _ _ (h.row e m).1, (h.row e m).2.1.up s, (h.row e m).2.2⟩
    · rw [List.mem_singleton.mp m]
      exact ⟨upd_same, hb.up s, ok⟩
  · rw [List.map_append, List.mem_append]
    rintro (z | z)
    · rcases List.mem_append.mp m with m | m
      · exact h.sep e m q eq z
      · rw [List.mem_singleton.mp m] at eq
        exact (hx q eq).2 z
    · have z : q = p := by simpa using z
      subst z
      rcases List.mem_append.mp m with m | m
      · exact ba_some (h.row e m).2.1 eq np
      · rw [List.mem_singleton.mp m] at eq
        exact ba_some hb eq np
  · rw [List.map_append, List.nodup_append]
    exact ⟨h.nd, by simp, fun u mu v mv e => pL (by rw [show p = u from by rw [e, List.mem_singleton.mp (show v ∈ [p] from mv)]]; exact mu)⟩
  · rcases List.mem_append.mp m with m | m
    · exact h.new e m
    · rw [List.mem_singleton.mp m]
      exact ⟨p0, fun q eq => (hx q eq).1⟩
theorem ArgsB.fr {CB : Addr} {H0 H : Hp} {L : List ARow} {p : Addr} (h : ArgsB CB H0 H L) (np : H p = none) : H0 p = none ∧ p ∉ L.map (·.a) := by
  refine ⟨?_, fun z => ?_⟩
  · cases e : H0 p with
    | none => rfl
    | some o => rw [h.sm _ _ e] at np; cases np
  · obtain ⟨e, he, rfl⟩ := List.mem_map.mp z
    rw [(h.row e he).1] at np
    cases np
/-- a blend that stood ahead of the rows -/
theorem ArgsB.bl {CB : Addr} {H0 H : Hp} {L : List ARow} {x : Addr} {w : Nat} {s : Int} {k f : Nat} (h : ArgsB CB H0 H L) (hb : BlendAt CB H x w s k f) : x ∉ L.map (·.a) := fun z => by
  obtain ⟨e, he, rfl⟩ := List.mem_map.mp z
  obtain ⟨_, dx, g⟩ := hb
  rw [(h.row e he).1] at g
  cases g
theorem ArgsB.fin {CB : Addr} {H0 H : Hp} {L : List ARow} {D : Addr} (h : ArgsB CB H0 H L) (nD : H D = none) : ArgsAt CB (upd H D (.lst (L.map fun e => V.ref e.a))) D L ∧ Same H0 (upd H D (.lst (L.map fun e => V.ref e.a))) ∧ H0 D = none := by
  have s := same_new (o := .lst (L.map fun e => V.ref e.a)) nD
  refine ⟨⟨upd_same, fun e m => ⟨s _ _ (h.row e m).1, (h.row e m).2.1.up s, (h.row e m).2.2⟩, fun e m q eq => ⟨h.sep e m q eq, fun z => ba_some (h.row e m).2.1 eq (z ▸ nD)⟩, h.nd, fun z => ?_⟩, h.sm.trans s, ?_⟩
  · obtain ⟨e, he, rfl⟩ := List.mem_map.mp z
    rw [(h.row e he).1] at nD
    cases nD
  · cases e : H0 D with
    | none => rfl
    | some o => rw [h.sm _ _ e] at nD; cases nD
def spArgs (c : CA) : Sp := fun vs H Q _ => ∃ (a : Addr) (w : Nat) (r : SRow), vs = [.ref a, .int w] ∧ W3 w ∧ SRowAt H a r ∧ r.Ok w ∧
  ∀ D L H', ArgsAt c.B H' D L → (L.map fun e => (e.nm, e.kn)) = argN r → L.map (·.b) = argV w r → Same H H' → H D = none → (∀ e ∈ L, H e.a = none ∧ ∀ m, e.x = .ref m → H m = none) → Q (.ref D) H'
theorem s3s_strs : ∀ ms : List Str, s3s false (ms.map fun z => Tr.sc (.str z)) = true
  | [] => rfl
  | m :: ms => by
    show (true && s3s false (ms.map fun z => Tr.sc (.str z))) = true
    rw [s3s_strs ms]
    rfl


section
variable {P : Program} {w : World} {K : PySem.W.Frag} {mg : Str → Option Value} {base : Heap}
theorem ok_args {f aL cW cS cR : Addr} {c : CA} {fd : FuncData} (F : Fun K "_law_arguments" "_law_arguments" s__law_arguments f fd) (T : TxtSt K mg aL c)
    (c_Blend___init__ : CalleeI P w K mg base (L2.CX P w) 6 c.B "Blend" ["self", "width", "shift", "keep", "flip"] (spBlend c.B cW cS cR)) : FnOk P w K mg base CX0 8 f fd ["_law_step", "_law_width"] (spArgs c) := by
  refine F.ok sc__law_arguments (fun vs H Q E h => ?_) (fun cdv A outer s H vs Q E hr h => ?_)
  · obtain ⟨a, w, r, rfl, _⟩ := h
    rfl
  · obtain ⟨a, w', r, rfl, w3, ra, ok, q⟩ := h
    refine ⟨_, (pss_cons (ps_if (pt_cmpR op_eq (pe_ix ix_list (pv 0) pe_int (fun _ _ => rfl)) pe_str (nomark _)) (pss_one (ps_ret (pe_lst (pa_cons (pe_lst (pa_cons pe_str (pa_cons pe_str (pa_cons (pe_ix ix_list (pv 0) pe_int (fun _ _ => rfl)) pa_nil)))) (pa_cons (pe_lst (pa_cons pe_str (pa_cons pe_str (pa_cons (pe_ix ix_list (pv 0) pe_int (fun _ _ => rfl)) pa_nil)))) (pa_cons (pe_lst (pa_cons pe_str (pa_cons pe_str (pa_cons (pe_ix ix_list (pv 0) pe_int (fun _ _ => rfl)) pa_nil)))) (pa_cons (pe_lst (pa_cons pe_str (pa_cons pe_str (pa_cons (pe_callTy call_list_of (by rfl) T.z_list (by decide +kernel) (pa_cons (pe_ix ix_list (pv 0) pe_int (fun _ _ => rfl)) pa_nil)) pa_nil)))) pa_nil)))))))
 pss_nil)
 (pss_cons (ps_if (pt_cmpR op_eq (pe_ix ix_list (pv 0) pe_int (fun _ _ => rfl)) pe_str (nomark _)) (pss_cons (ps_set (i := 2) sc__law_arguments.nd rfl (by first | exact Or.inl rfl | exact Or.inr rfl) (pe_makeC c_Blend___init__ (hr.mono (by decide)) (by rfl) passL (pa_cons (pv 1) (pa_cons (pe_ix ix_list (pv 0) pe_int (fun _ _ => rfl)) (pa_cons (pe_ix ix_list (pv 0) pe_int (fun _ _ => rfl)) (pa_cons (pe_ix ix_list (pv 0) pe_int (fun _ _ => rfl)) pa_nil))))))
 (pss_one (ps_ret (pe_lst (pa_cons (pe_lst (pa_cons pe_str (pa_cons pe_str (pa_cons (pe_ix ix_list (pv 0) pe_int (fun _ _ => rfl)) pa_nil)))) (pa_cons (pe_lst (pa_cons pe_str (pa_cons pe_str (pa_cons (pe_ix ix_list (pv 0) pe_int (fun _ _ => rfl)) pa_nil)))) (pa_cons (pe_lst (pa_cons pe_str (pa_cons pe_str (pa_cons (pv 2) pa_nil)))) (pa_cons (pe_lst (pa_cons pe_str (pa_cons pe_str (pa_cons (pe_callTy call_list_of (by rfl) T.z_list (by decide +kernel) (pa_cons (pe_ix ix_list (pv 0) pe_int (fun _ _ => rfl)) pa_nil)) pa_nil)))) (pa_cons (pe_lst (pa_cons pe_str (pa_cons pe_str (pa_cons (pe_ix ix_list (pv 0) pe_int (fun _ _ => rfl)) pa_nil)))) pa_nil)))))))))
 pss_nil)
 (pss_cons (ps_if (pt_cmpR op_eq (pe_ix ix_list (pv 0) pe_int (fun _ _ => rfl)) pe_str (nomark _)) (pss_one (ps_ret (pe_lst (pa_cons (pe_lst (pa_cons pe_str (pa_cons pe_str (pa_cons (pe_ix ix_list (pv 0) pe_int (fun _ _ => rfl)) pa_nil)))) (pa_cons (pe_lst (pa_cons pe_str (pa_cons pe_str (pa_cons (pe_ix ix_list (pv 0) pe_int (fun _ _ => rfl)) pa_nil)))) pa_nil)))))
 pss_nil)
 (pss_one (ps_ret (pe_lst (pa_cons (pe_lst (pa_cons pe_str (pa_cons pe_str (pa_cons (pe_ix ix_list (pv 0) pe_int (fun _ _ => rfl)) pa_nil)))) (pa_cons (pe_lst (pa_cons pe_str (pa_cons pe_str (pa_cons (pe_ix ix_list (pv 0) pe_int (fun _ _ => rfl)) pa_nil)))) (pa_cons (pe_lst (pa_cons pe_str (pa_cons pe_str (pa_cons (pe_ix ix_list (pv 0) pe_int (fun _ _ => rfl)) pa_nil)))) pa_nil))))))))), at_start (σ := [some (.ref a), some (.int w'), none]) rfl ?_⟩
    try dsimp only [cx_K]
    have B0 : ArgsB c.B H H [] := .nil
    have nos : ∀ {z : Str} {L : List ARow} (m : Addr), V.str z = .ref m → H m = none ∧ m ∉ L.map (·.a) := fun m e => by cases e
    have noi : ∀ {z : Int} {L : List ARow} (m : Addr), V.int z = .ref m → H m = none ∧ m ∉ L.map (·.a) := fun m e => by cases e
    cases r with
    | read v p l ms =>
      obtain ⟨m, e, em⟩ := ra
      walk_at "rd"
      refine r_iteT rfl ?_
      walk_at "rd"
      refine ⟨by walk_at "sz", fun p1 n1 => ?_⟩
      have B1 := B0.add (nm := "variable") (kn := "letter") (x := .str v) (b := .tr (.sc (.str v))) (.sc (.str v)) rfl nos n1
      generalize upd _ p1 _ = H1 at B1 ⊢
      have e1 := B1.sm _ _ e
      walk_at "rd"
      refine ⟨by walk_at "sz", fun p2 n2 => ?_⟩
      have B2 := B1.add (nm := "port") (kn := "name") (x := .str p) (b := .tr (.sc (.str p))) (.sc (.str p)) rfl nos n2
      generalize upd _ p2 _ = H2 at B2 ⊢
      have e2 := B2.sm _ _ e
      walk_at "rd"
      refine ⟨by walk_at "sz", fun p3 n3 => ?_⟩
      have B3 := B2.add (nm := "lane") (kn := "part") (x := .str l) (b := .tr (.sc (.str l))) (.sc (.str l)) rfl nos n3
      generalize upd _ p3 _ = H3 at B3 ⊢
      have e3 := B3.sm _ _ e
      walk_at "rd"
      refine ⟨m, ms.map V.str, rfl, .inl (SqL.of (B3.sm _ _ em)), fun lq nl => ?_⟩
      have fl := B3.fr nl
      have sl := same_new (o := .lst (ms.map V.str)) nl
      have el : upd H3 lq (.lst (ms.map V.str)) lq = some (.lst (ms.map V.str)) := upd_same
      replace B3 := B3.up sl
      generalize upd H3 lq (.lst (ms.map V.str)) = HL at B3 el ⊢
      clear sl
      have e3 := B3.sm _ _ e
      walk_at "rd"
      refine ⟨by walk_at "sz", fun p4 n4 => ?_⟩
      have B4 := B3.add (nm := "means") (kn := "means") (x := .ref lq) (b := .tr (meansT ms)) (.lst el (trs_strs ms)) (s3s_strs ms) (fun q z => by cases z; exact fl) n4
      generalize upd _ p4 _ = H4 at B4 ⊢
      have e4 := B4.sm _ _ e
      walk_at "rd"
      refine ⟨by walk_at "sz", fun D nD => ?_⟩
      obtain ⟨x1, x2, x3⟩ := B4.fin nD
      exact q D _ _ x1 rfl rfl x2 x3 fun e m => B4.new e m
    | write p l v s k f ms =>
      obtain ⟨m, e, em⟩ := ra
      obtain ⟨o1, o2, o3, o4, o5, o6, o7, o8⟩ := ok
      walk_at "rd"
      refine r_iteF (by decide) ?_
      walk_at "rd"
      refine r_iteT rfl ?_
      walk_at "rd"
      refine fun x dx nx ndx nxd => make_b nx ndx o6 fun HB B sm => ?_
      rw [o7, o8] at B
      replace B0 : ArgsB c.B H HB [] := B0.up sm
      have eB := sm _ _ e
      walk_at "rd"
      refine ⟨by walk_at "sz", fun p1 n1 => ?_⟩
      have B1 := B0.add (nm := "port") (kn := "name") (x := .str p) (b := .tr (.sc (.str p))) (.sc (.str p)) rfl nos n1
      replace B := B.up (same_new (o := .lst [.str "port", .str "name", .str p]) n1)
      generalize upd _ p1 _ = H1 at B1 B ⊢
      have e1 := B1.sm _ _ e
      walk_at "rd"
      refine ⟨by walk_at "sz", fun p2 n2 => ?_⟩
      have B2 := B1.add (nm := "lane") (kn := "part") (x := .str l) (b := .tr (.sc (.str l))) (.sc (.str l)) rfl nos n2
      replace B := B.up (same_new (o := .lst [.str "lane", .str "part", .str l]) n2)
      generalize upd _ p2 _ = H2 at B2 B ⊢
      have e2 := B2.sm _ _ e
      walk_at "rd"
      refine ⟨by walk_at "sz", fun p3 n3 => ?_⟩
      have B3 := B2.add (nm := "blend") (kn := "blend") (x := .ref x) (b := .bl w' s k f) ⟨x, rfl, B⟩ rfl (fun q z => by cases z; exact ⟨nx, B2.bl B⟩) n3
      generalize upd _ p3 _ = H3 at B3 ⊢
      have e3 := B3.sm _ _ e
      walk_at "rd"
      refine ⟨m, ms.map V.str, rfl, .inl (SqL.of (B3.sm _ _ em)), fun lq nl => ?_⟩
      have fl := B3.fr nl
      have sl := same_new (o := .lst (ms.map V.str)) nl
      have el : upd H3 lq (.lst (ms.map V.str)) lq = some (.lst (ms.map V.str)) := upd_same
      replace B3 := B3.up sl
      generalize upd H3 lq (.lst (ms.map V.str)) = HL at B3 el ⊢
      clear sl
      have e3 := B3.sm _ _ e
      walk_at "rd"
      refine ⟨by walk_at "sz", fun p4 n4 => ?_⟩
      have B4 := B3.add (nm := "means") (kn := "means") (x := .ref lq) (b := .tr (meansT ms)) (.lst el (trs_strs ms)) (s3s_strs ms) (fun q z => by cases z; exact fl) n4
      generalize upd _ p4 _ = H4 at B4 ⊢
      have e4 := B4.sm _ _ e
      walk_at "rd"
      refine ⟨by walk_at "sz", fun p5 n5 => ?_⟩
      have B5 := B4.add (nm := "variable") (kn := "letter") (x := oV v) (b := .tr (trO v)) (trO_at v) (by cases v <;> rfl) (fun q z => by cases v <;> cases z) n5
      generalize upd _ p5 _ = H5 at B5 ⊢
      have e5 := B5.sm _ _ e
      walk_at "rd"
      refine ⟨by walk_at "sz", fun D nD => ?_⟩
      obtain ⟨x1, x2, x3⟩ := B5.fin nD
      exact q D _ _ x1 rfl rfl x2 x3 fun e m => B5.new e m
    | serve v m =>
      have e : H a = some (.lst [.str "serve", .str v, .int m]) := ra
      walk_at "rd"
      refine r_iteF (by decide) ?_
      walk_at "rd"
      refine r_iteF (by decide) ?_
      walk_at "rd"
      refine r_iteT rfl ?_
      walk_at "rd"
      refine ⟨by walk_at "sz", fun p1 n1 => ?_⟩
      have B1 := B0.add (nm := "variable") (kn := "letter") (x := .str v) (b := .tr (.sc (.str v))) (.sc (.str v)) rfl nos n1
      generalize upd _ p1 _ = H1 at B1 ⊢
      have e1 := B1.sm _ _ e
      walk_at "rd"
      refine ⟨by walk_at "sz", fun p2 n2 => ?_⟩
      have B2 := B1.add (nm := "mask") (kn := "ones") (x := .int m) (b := .tr (.sc (.int m))) (.sc (.int m)) rfl noi n2
      generalize upd _ p2 _ = H2 at B2 ⊢
      have e2 := B2.sm _ _ e
      walk_at "rd"
      refine ⟨by walk_at "sz", fun D nD => ?_⟩
      obtain ⟨x1, x2, x3⟩ := B2.fin nD
      exact q D _ _ x1 rfl rfl x2 x3 fun e m => B2.new e m
    | pair x y z =>
      have e : H a = some (.lst [.str "pair", .str x, .str y, .str z]) := ra
      walk_at "rd"
      refine r_iteF (by decide) ?_
      walk_at "rd"
      refine r_iteF (by decide) ?_
      walk_at "rd"
      refine r_iteF (by decide) ?_
      walk_at "rd"
      refine ⟨by walk_at "sz", fun p1 n1 => ?_⟩
      have B1 := B0.add (nm := "first") (kn := "letter") (x := .str x) (b := .tr (.sc (.str x))) (.sc (.str x)) rfl nos n1
      generalize upd _ p1 _ = H1 at B1 ⊢
      have e1 := B1.sm _ _ e
      walk_at "rd"
      refine ⟨by walk_at "sz", fun p2 n2 => ?_⟩
      have B2 := B1.add (nm := "second") (kn := "letter") (x := .str y) (b := .tr (.sc (.str y))) (.sc (.str y)) rfl nos n2
      generalize upd _ p2 _ = H2 at B2 ⊢
      have e2 := B2.sm _ _ e
      walk_at "rd"
      refine ⟨by walk_at "sz", fun p3 n3 => ?_⟩
      have B3 := B2.add (nm := "field") (kn := "name") (x := .str z) (b := .tr (.sc (.str z))) (.sc (.str z)) rfl nos n3
      generalize upd _ p3 _ = H3 at B3 ⊢
      have e3 := B3.sm _ _ e
      walk_at "rd"
      refine ⟨by walk_at "sz", fun D nD => ?_⟩
      obtain ⟨x1, x2, x3⟩ := B3.fin nD
      exact q D _ _ x1 rfl rfl x2 x3 fun e m => B3.new e m

end
end K35


namespace K35
open PySem L2 KB KO KY KV KTr
/-! ### an argument spoiled -/
inductive BadA : SRow → Nat → Ba → Prop
  | wrong {r : SRow} {i : Nat} {nm : Str} (kd : WK) (h : (argN r)[i]? = some (nm, kd.s)) (nw : nm = "variable" → ∀ p l v s k f ms, r ≠ .write p l v s k f ms) {t : Tr} (wt : WrongT kd t) : BadA r i (.tr t)
  | means {r : SRow} {i : Nat} {nm : Str} (h : (argN r)[i]? = some (nm, ("means" : Str))) {ts : List Tr} (mo : meansOk ts = false) (sm : ∀ t ∈ ts, Sm t ∧ s3 false t = true ∧ fitT t = true) (ln : ts.length ≤ 11) : BadA r i (.tr (.lst ts))
  | second {a b f : Str} : BadA (.pair a b f) 1 (.tr (.sc (.str a)))
  | var {p l : Str} {v : Option Str} {s : Int} {k f : Nat} {ms : List Str} {t : Tr} (bad : (isNoT t || isVar t) = false ∨ isNoT t ≠ v.isNone) (sm : Sm t) (st : s3 false t = true) (fit : fitT t = true) : BadA (.write p l v s k f ms) 4 (.tr t)
theorem BaAt.kp {CB : Addr} {H H' : Hp} {p : Addr} {x : V} {b : Ba} {u v z : V} (h : BaAt CB H x b) (ok : okA b = true) (hp : H p = some (.lst [u, v, z])) (k : Keep p H H') (top : ∀ m, x = .ref m → m ≠ p) : BaAt CB H' x b := by
  have fr : Fr3 false H H' := fun b o e n _ => k b o e fun ee => by
    rw [ee, hp] at e
    exact n _ (Option.some.inj e).symm rfl
  cases b with
  | bl w s kk f =>
    obtain ⟨b, e, n, dx, g⟩ := h
    exact ⟨b, e, n, dx, k _ _ g (top b e)⟩
  | tr t =>
    have h : TrAt H x t := h
    show TrAt H' x t
    cases t with
    | sc s => exact TrAt.fr3 fr _ _ ok h
    | tup l => exact TrAt.fr3 fr _ _ ok h
    | dct l => exact TrAt.fr3 fr _ _ ok h
    | lst l =>
      obtain ⟨m, vs, rfl, e, r⟩ := trl_at h
      exact .lst (k _ _ e (top m rfl)) (TrsAt.fr3 fr _ _ ok r)
theorem ArgsAt.keep {CB : Addr} {H H' : Hp} {D p : Addr} {L : List ARow} {u v z : V} (h : ArgsAt CB H D L) (hp : H p = some (.lst [u, v, z])) (k : Keep p H H') (dp : D ≠ p) (ok : ∀ e ∈ L, e.a ≠ p ∧ ∀ m, e.x = .ref m → m ≠ p) : ArgsAt CB H' D L :=
  ⟨k _ _ h.d dp, fun e m => ⟨k _ _ (h.row e m).1 (ok e m).1, (h.row e m).2.1.kp (h.row e m).2.2 hp k (ok e m).2, (h.row e m).2.2⟩, h.sep, h.nd, h.dn⟩
theorem map_set_same {α β : Type} {f : α → β} {L : List α} {i : Nat} {e e' : α} (he : L[i]? = some e) (hf : f e' = f e) : (L.set i e').map f = L.map f := by
  refine List.ext_getElem? fun j => ?_
  rw [List.getElem?_map, List.getElem?_map, List.getElem?_set]
  by_cases c : i = j
  · subst c
    have hl : i < L.length := (List.getElem?_eq_some_iff.mp he).1
    rw [if_pos rfl, if_pos hl, he]
    simp [hf]
  · rw [if_neg c]
theorem mem_set_or {L : List ARow} {i : Nat} {e e' u : ARow} (nd : (L.map fun e => e.a).Nodup) (he : L[i]? = some e) (m : u ∈ L.set i e') : u = e' ∨ (u ∈ L ∧ u.a ≠ e.a) := by
  obtain ⟨j, hj⟩ := List.getElem?_of_mem m
  rw [List.getElem?_set] at hj
  by_cases c : i = j
  · subst c
    have hl : i < L.length := (List.getElem?_eq_some_iff.mp he).1
    rw [if_pos rfl, if_pos hl] at hj
    exact .inl (Option.some.inj hj).symm
  · rw [if_neg c] at hj
    refine .inr ⟨List.mem_of_getElem? hj, fun z => c ?_⟩
    have hl : i < (L.map fun e => e.a).length := by rw [List.length_map]; exact (List.getElem?_eq_some_iff.mp he).1
    exact (List.getElem?_inj hl nd).mp (by rw [List.getElem?_map, List.getElem?_map, he, hj]; simp [z])
theorem ArgsAt.set {CB : Addr} {H : Hp} {D : Addr} {L : List ARow} {i : Nat} {e : ARow} {x' : V} {b' : Ba} (h : ArgsAt CB H D L) (he : L[i]? = some e) (hb : BaAt CB H x' b') (ok : okA b' = true) (sep : ∀ m, x' = .ref m → m ∉ L.map (·.a) ∧ m ≠ D) :
    ArgsAt CB (upd H e.a (.lst [.str e.nm, .str e.kn, x'])) D (L.set i { e with x := x', b := b' }) := by
  have em := List.mem_of_getElem? he
  have hp := (h.row e em).1
  have ea : e.a ∈ L.map (·.a) := List.mem_map.mpr ⟨e, em, rfl⟩
  have ne : D ≠ e.a := fun z => h.dn (z ▸ ea)
  have ma : ((L.set i { e with x := x', b := b' }).map fun e => e.a) = L.map fun e => e.a := map_set_same he rfl
  have mb : ((L.set i { e with x := x', b := b' }).map fun e => V.ref e.a) = L.map fun e => V.ref e.a := map_set_same he rfl
  have kp : Keep e.a H (upd H e.a (.lst [.str e.nm, .str e.kn, x'])) := keep_upd
  refine ⟨by rw [mb]; exact kp _ _ h.d ne, fun u m => ?_, fun u m q eq => ?_, by rw [ma]; exact h.nd, by rw [ma]; exact h.dn⟩
  · rcases mem_set_or h.nd he m with rfl | ⟨m, na⟩
    · exact ⟨upd_same, hb.kp ok hp kp (fun q eq z => (sep q eq).1 (z ▸ ea)), ok⟩
    · obtain ⟨r1, r2, r3⟩ := h.row u m
      exact ⟨kp _ _ r1 na, r2.kp r3 hp kp (fun q eq z => (h.sep u m q eq).1 (z ▸ ea)), r3⟩
  · rw [ma]
    rcases mem_set_or h.nd he m with rfl | ⟨m, na⟩
    · exact sep q eq
    · exact h.sep u m q eq
/-- nothing of the arguments is the pen -/
def PenOk (pen D : Addr) (L : List ARow) : Prop := D ≠ pen ∧ ∀ e ∈ L, e.a ≠ pen ∧ ∀ m, e.x = .ref m → m ≠ pen
theorem arg_kind {w i : Nat} {r : SRow} {nm kn : Str} {b : Ba} (ok : r.Ok w) (h : (argN r)[i]? = some (nm, kn)) (hb : (argV w r)[i]? = some b) :
    (kn = "means" ∧ nm ≠ "second" ∧ ∃ ms, Msk ms ∧ b = .tr (meansT ms)) ∨ (nm = "second" ∧ kn = "letter" ∧ i = 1 ∧ ∃ a b' f, r = .pair a b' f) ∨ (nm = "variable" ∧ kn = "letter" ∧ i = 4 ∧ ∃ p l v s k f ms, r = .write p l v s k f ms) ∨
    (kn ≠ "means" ∧ nm ≠ "second" ∧ (nm = "variable" → ∀ p l v s k f ms, r ≠ .write p l v s k f ms) ∧ ∃ kd : WK, kn = kd.s) := by
  cases r with
  | read v p l ms =>
    match i, h, hb with
    | 0, h, hb => cases h; exact .inr (.inr (.inr ⟨by decide, by decide, (fun _ _ _ _ _ _ _ _ z => by cases z), .letter, rfl⟩))
    | 1, h, hb => cases h; exact .inr (.inr (.inr ⟨by decide, by decide, (fun _ _ _ _ _ _ _ _ z => by cases z), .name, rfl⟩))
    | 2, h, hb => cases h; exact .inr (.inr (.inr ⟨by decide, by decide, (fun _ _ _ _ _ _ _ _ z => by cases z), .part, rfl⟩))
    | 3, h, hb => cases h; exact .inl ⟨rfl, by decide, ms, ok.2.2.2, (Option.some.inj hb).symm⟩
  | write p l v s k f ms =>
    match i, h, hb with
    | 0, h, hb => cases h; exact .inr (.inr (.inr ⟨by decide, by decide, fun z => absurd z (by decide), .name, rfl⟩))
    | 1, h, hb => cases h; exact .inr (.inr (.inr ⟨by decide, by decide, fun z => absurd z (by decide), .part, rfl⟩))
    | 2, h, hb => cases h; exact .inr (.inr (.inr ⟨by decide, by decide, fun z => absurd z (by decide), .blend, rfl⟩))
    | 3, h, hb => cases h; exact .inl ⟨rfl, by decide, ms, ok.2.2.1, (Option.some.inj hb).symm⟩
    | 4, h, hb => cases h; exact .inr (.inr (.inl ⟨rfl, rfl, rfl, _, _, _, _, _, _, _, rfl⟩))
  | serve v m =>
    match i, h, hb with
    | 0, h, hb => cases h; exact .inr (.inr (.inr ⟨by decide, by decide, (fun _ _ _ _ _ _ _ _ z => by cases z), .letter, rfl⟩))
    | 1, h, hb => cases h; exact .inr (.inr (.inr ⟨by decide, by decide, (fun _ _ _ _ _ _ _ _ z => by cases z), .ones, rfl⟩))
  | pair x y z =>
    match i, h, hb with
    | 0, h, hb => cases h; exact .inr (.inr (.inr ⟨by decide, by decide, (fun _ _ _ _ _ _ _ _ z => by cases z), .letter, rfl⟩))
    | 1, h, hb => cases h; exact .inr (.inl ⟨rfl, rfl, rfl, _, _, _, rfl⟩)
    | 2, h, hb => cases h; exact .inr (.inr (.inr ⟨by decide, by decide, (fun _ _ _ _ _ _ _ _ z => by cases z), .name, rfl⟩))
/-- a short tree is no list of three -/
theorem top_ne {H : Hp} {v u x z : V} {t : Tr} {m p : Addr} (h : TrAt H v t) (st : s3 false t = true) (e : v = .ref m) (hp : H p = some (.lst [u, x, z])) : m ≠ p := fun q => by
  subst q
  cases t with
  | sc s => cases s <;> (cases h; cases e)
  | tup l => cases h with | tup g _ => cases e; rw [hp] at g; cases g
  | dct l => cases h with | dct g => cases e; rw [hp] at g; cases g
  | lst l =>
    obtain ⟨a, vs, rfl, g, r⟩ := trl_at h
    cases e
    rw [hp] at g
    have g := Option.some.inj g
    injection g with g
    subst g
    unfold s3 at st
    rw [Bool.and_eq_true] at st
    exact of_decide_eq_true st.1 r.len.symm
theorem top_nd {CB : Addr} {H : Hp} {v : V} {t : Tr} {m D : Addr} {L : List ARow} (h : TrAt H v t) (st : s3 false t = true) (e : v = .ref m) (at0 : ArgsAt CB H D L) (ne : L ≠ []) : m ≠ D := fun q => by
  subst q
  cases t with
  | sc s => cases s <;> (cases h; cases e)
  | tup l => cases h with | tup g _ => cases e; rw [at0.d] at g; cases g
  | dct l => cases h with | dct g => cases e; rw [at0.d] at g; cases g
  | lst l =>
    obtain ⟨a, vs, rfl, g, r⟩ := trl_at h
    cases e
    rw [at0.d] at g
    have g := Option.some.inj g
    injection g with g
    subst g
    cases L with
    | nil => exact ne rfl
    | cons e0 L =>
      cases r with
      | cons h0 r0 =>
        unfold s3 at st
        rw [Bool.and_eq_true] at st
        have st2 := st.2
        unfold s3s at st2
        rw [Bool.and_eq_true] at st2
        exact top_ne h0 st2.1 rfl (at0.row e0 List.mem_cons_self).1 rfl
theorem trs_strs_inv {H : Hp} : ∀ {ms : List Str} {vs : List V}, TrsAt H vs (ms.map fun z => Tr.sc (.str z)) → vs = ms.map V.str
  | [], _, h => by cases h; rfl
  | m :: ms, _, h => by
    cases h with
    | cons h r =>
      cases h
      rw [trs_strs_inv r]
      rfl
theorem s3s_all : ∀ {ts : List Tr}, (∀ t ∈ ts, s3 false t = true) → s3s false ts = true
  | [], _ => rfl
  | t :: ts, h => by
    unfold s3s
    rw [h t List.mem_cons_self, s3s_all fun u m => h u (List.mem_cons_of_mem _ m)]
    rfl
theorem row_first {H : Hp} {a : Addr} {r : SRow} (h : SRowAt H a r) : ∃ (z : Str) (xs : List V), H a = some (.lst (V.str z :: xs)) ∧ ((∀ p l v s k f ms, r ≠ .write p l v s k f ms) → z ≠ "write") := by
  cases r with
  | read => obtain ⟨m, e, _⟩ := h; exact ⟨_, _, e, fun _ => by decide⟩
  | write => obtain ⟨m, e, _⟩ := h; exact ⟨_, _, e, fun z => absurd rfl (z _ _ _ _ _ _ _)⟩
  | serve => exact ⟨_, _, h, fun _ => by decide⟩
  | pair => exact ⟨_, _, h, fun _ => by decide⟩
def othT (y : Tr) : List Tr := [y, strT "", strT "ab", strT "A", intT 0, .sc (.bl true), .tup [strT "a"], .lst [], .dct []]
def othB (n : Bool) (t : Tr) : Bool := s3 false t && fitT t && smB t && (!(isNoT t || isVar t) || (isNoT t != n))
theorem oth_all : (∀ t ∈ othT (strT "a"), othB true t = true) ∧ ∀ t ∈ othT (.sc .non), othB false t = true := by decide +kernel
theorem oth_bad {p l : Str} {v : Option Str} {s : Int} {k f : Nat} {ms : List Str} {t : Tr} (h : othB v.isNone t = true) : BadA (.write p l v s k f ms) 4 (.tr t) ∧ s3 false t = true := by
  unfold othB at h
  simp only [Bool.and_eq_true, Bool.or_eq_true, Bool.not_eq_true', bne_iff_ne] at h
  exact ⟨.var h.2 (okN_sm (by decide) _ _ h.1.2) h.1.1.1 h.1.1.2, h.1.1.1⟩
def spSpoil (c : CA) : Sp := fun vs H Q _ => ∃ (pen pc a D : Addr) (w i k : Nat) (r : SRow) (L : List ARow), vs = [.ref pen, .ref a, .ref D, .int (i : Nat)] ∧ SRowAt H a r ∧ r.Ok w ∧ ArgsAt c.B H D L ∧ (L.map fun e => (e.nm, e.kn)) = argN r ∧ i < L.length ∧
  (∀ j, j ≤ i → (L.map (·.b))[j]? = (argV w r)[j]?) ∧ PenOk pen D L ∧ PenC H pen pc (k + 6) ∧
  ∀ (e : ARow) x' b' H', L[i]? = some e → ArgsAt c.B H' D (L.set i { e with x := x', b := b' }) → PenOk pen D (L.set i { e with x := x', b := b' }) → BadA r i b' → PenC H' pen pc k → (∀ b o, H b = some o → b ≠ pen → (∀ e ∈ L, b ≠ e.a) → H' b = some o) → Q .non H'


section
variable {P : Program} {w : World} {K : PySem.W.Frag} {mg : Str → Option Value} {base : Heap}
theorem ok_spoil {f : Addr} {c : CA} {fd : FuncData} (F : Fun K "_law_spoil" "_law_spoil" s__law_spoil f fd) (T : Txt mg) (c__law_draw : KB.Callee P w K mg base CX0 1 "_law_draw" ["_law_pen_here", "_law_many"] spDraw)
    (c__law_wrong : KB.Callee P w K mg base CX0 2 "_law_wrong" ["_law_pen_here", "_law_kind"] spWrong) (c__law_wrong_means : KB.Callee P w K mg base CX0 3 "_law_wrong_means" ["_law_pen_here", "_law_aims"] spWrongM) :
    FnOk P w K mg base CX0 4 f fd ["_law_pen_here", "_law_step", "_law_told", "_law_at"] (spSpoil c) := by
  refine F.ok sc__law_spoil (fun vs H Q E h => ?_) (fun cdv A outer s H vs Q E hr h => ?_)
  · obtain ⟨pen, pc, a, D, w, i, k, r, L, rfl, _⟩ := h
    rfl
  · obtain ⟨pen, pc, a, D, w', i, k, r, L, rfl, ra, ok, at0, nL, hi, same, pok, pn, q⟩ := h
    refine ⟨_, (pss_cons (ps_set (i := 4) sc__law_spoil.nd rfl (by first | exact Or.inl rfl | exact Or.inr rfl) (pe_ix ix_list (pv 2) (pv 3) (fun _ _ => rfl)))
 (pss_one (ps_if (pt_cmpR op_eq (pe_ix ix_list (pv 4) pe_int (fun _ _ => rfl)) pe_str (nomark _)) (pss_one (ps_asg (pe_callC c__law_wrong_means (hr.mono (by decide)) (by rfl) pass0 (pa_cons (pv 0) (pa_cons (pe_ix ix_list (pv 4) pe_int (fun _ _ => rfl)) pa_nil))) (pg_sub (pv 4) pe_int set_list)))
 (pss_one (ps_if (PW.pt (pw_and (pt_cmpR op_eq (pe_ix ix_list (pv 4) pe_int (fun _ _ => rfl)) pe_str (nomark _)) (pw_and1 (pt_cmpR op_eq (pe_callC c__law_draw (hr.mono (by decide)) (by rfl) pass0 (pa_cons (pv 0) (pa_cons pe_int pa_nil))) pe_int (nomark _))))) (pss_one (ps_asg (pe_ix ix_list (pe_ix ix_list (pv 2) pe_int (fun _ _ => rfl)) pe_int (fun _ _ => rfl)) (pg_sub (pv 4) pe_int set_list)))
 (pss_one (ps_if (PW.pt (pw_and (pt_cmpR op_eq (pe_ix ix_list (pv 4) pe_int (fun _ _ => rfl)) pe_str (nomark _)) (pw_and1 (pt_cmpR op_eq (pe_ix ix_list (pv 1) pe_int (fun _ _ => rfl)) pe_str (nomark _))))) (pss_cons (ps_set (i := 5) sc__law_spoil.nd rfl (by first | exact Or.inl rfl | exact Or.inr rfl) (pe_lst (pa_cons (pe_ifExp (pt_cmpR op_isN (pe_ix ix_list (pv 1) pe_int (fun _ _ => rfl)) pe_non (nomark _)) pe_str pe_non) (pa_cons pe_str (pa_cons pe_str (pa_cons pe_str (pa_cons pe_int (pa_cons pe_bl (pa_cons (pe_tup (pa_cons pe_str pa_nil)) (pa_cons (pe_lst pa_nil) (pa_cons pe_dnewK pa_nil)))))))))))
 (pss_one (ps_asg (pe_ix ix_list (pv 5) (pe_op op_mul (pe_callC c__law_draw (hr.mono (by decide)) (by rfl) pass0 (pa_cons (pv 0) (pa_cons pe_int pa_nil))) (pe_callC c__law_draw (hr.mono (by decide)) (by rfl) pass0 (pa_cons (pv 0) (pa_cons pe_int pa_nil)))) (fun _ _ => rfl)) (pg_sub (pv 4) pe_int set_list))))
 (pss_one (ps_asg (pe_callC c__law_wrong (hr.mono (by decide)) (by rfl) pass0 (pa_cons (pv 0) (pa_cons (pe_ix ix_list (pv 4) pe_int (fun _ _ => rfl)) pa_nil))) (pg_sub (pv 4) pe_int set_list)))))))))), at_start (σ := [some (.ref pen), some (.ref a), some (.ref D), some (.int (i : Nat)), none, none]) rfl ?_⟩
    try dsimp only [cx_K]
    obtain ⟨e, he⟩ : ∃ e, L[i]? = some e := ⟨_, List.getElem?_eq_getElem hi⟩
    have eL := List.mem_of_getElem? he
    obtain ⟨er, eb, eo⟩ := at0.row e eL
    walk_at "rd"
    refine r_ixL (SqL.of at0.d) (atI_nat (by rw [List.getElem?_map, he]; rfl)) ?_
    walk_at "rd"
    have nk : (argN r)[i]? = some (e.nm, e.kn) := by rw [← nL, List.getElem?_map, he]; rfl
    have bi : (argV w' r)[i]? = some e.b := by rw [← same i (Nat.le_refl _), List.getElem?_map, he]; rfl
    have l0 : L ≠ [] := fun z => by rw [z] at hi; exact Nat.not_lt_zero _ hi
    have penL : ∃ u v z : V, H pen = some (.lst [u, v, z]) := by
      obtain ⟨ns, at_, left, h1, _⟩ := pn
      exact ⟨_, _, _, h1⟩
    have put : ∀ {H1 : Hp} {x' : V} {b' : Ba}, Keep pen H H1 → PenC H1 pen pc k → BaAt c.B H1 x' b' → okA b' = true → (∀ m, x' = .ref m → m ∉ L.map (·.a) ∧ m ≠ D ∧ m ≠ pen) → BadA r i b' → rSetL (.ref e.a) (.int 2) x' H1 (fun H4 => Q .non H4) := by
      intro H1 x' b' kp pn1 hb okb sep bad
      obtain ⟨u, v, z, hpen⟩ := penL
      have at1 := at0.keep hpen kp pok.1 pok.2
      have at2 := at1.set he hb okb fun m eq => ⟨(sep m eq).1, (sep m eq).2.1⟩
      have ea : e.a ∈ L.map (·.a) := List.mem_map.mpr ⟨e, eL, rfl⟩
      have npc : e.a ≠ pc := fun zz => by
        obtain ⟨ns, at_, left, _, h2, _⟩ := pn1
        rw [← zz, (at1.row e eL).1] at h2
        have h2 := Option.some.inj h2
        injection h2 with h2
        cases ns <;> cases h2
      have pn2 : PenC (upd H1 e.a (.lst [.str e.nm, .str e.kn, x'])) pen pc k := pn1.keep keep_upd (pok.2 e eL).1 npc
      refine r_setL (j := 2) (at1.row e eL).1 rfl ?_
      refine q e x' b' _ he at2 ⟨pok.1, fun u m => ?_⟩ bad pn2 (fun b o eb nb nr => ?_)
      · rcases mem_set_or at0.nd he m with rfl | ⟨m, _⟩
        · exact ⟨(pok.2 e eL).1, fun q eq => (sep q eq).2.2⟩
        · exact pok.2 u m
      · rw [upd_ne (nr e eL)]
        exact kp _ _ eb nb
    have putT : ∀ {H1 : Hp} {x' : V} {t : Tr}, Keep pen H H1 → PenC H1 pen pc k → TrAt H1 x' t → s3 false t = true → BadA r i (.tr t) → rSetL (.ref e.a) (.int 2) x' H1 (fun H4 => Q .non H4) := by
      intro H1 x' t kp pn1 ht st bad
      obtain ⟨u, v, z, hpen⟩ := penL
      have at1 := at0.keep hpen kp pok.1 pok.2
      refine put kp pn1 (b' := .tr t) ht ?_ (fun m eq => ⟨fun mm => ?_, top_nd ht st eq at1 l0, ?_⟩) bad
      · cases t with
        | sc s => exact st
        | tup l => exact st
        | dct l => exact st
        | lst l =>
          unfold s3 at st
          rw [Bool.and_eq_true] at st
          exact st.2
      · obtain ⟨e2, h2, rfl⟩ := List.mem_map.mp mm
        exact top_ne ht st eq (at1.row e2 h2).1 rfl
      · obtain ⟨ns, at_, left, h1, _⟩ := pn1
        exact top_ne ht st eq h1
    rcases arg_kind ok nk bi with ⟨c0, c1, ms, mk, ebm⟩ | ⟨c0, c1, rfl, x, y, z, rfl⟩ | ⟨c0, c1, rfl, p0, l1, v1, s1x, k1, f1, ms1, rfl⟩ | ⟨c0, c1, c2, kd, c3⟩
    · rw [if_pos (decide_eq_true (by rw [c0]))]
      rw [ebm] at eb
      obtain ⟨m, vs, ex, em, ev⟩ := trl_at (show TrAt H e.x (.lst _) from eb)
      have evs := trs_strs_inv ev
      subst evs
      rw [c0] at nk
      walk_at "rd"
      rw [ex]
      refine ⟨pen, pc, m, ms, k, rfl, em, mk, pn.mono (by omega), fun q1 xs ts H1 n1 e1 tx mo al ln pn1 kp1 => ?_⟩
      walk_at "rd"
      refine put kp1 pn1 (b' := .tr (.lst ts)) (.lst e1 tx) (s3s_all fun t m => (al t m).2.1) (fun q2 eq => ?_) (.means nk mo al ln)
      cases eq
      refine ⟨fun mm => ?_, fun z => ?_, fun z => ?_⟩
      · obtain ⟨e2, h2, z⟩ := List.mem_map.mp mm
        have := (at0.row e2 h2).1
        rw [show e2.a = q1 from z, n1] at this
        cases this
      · have := at0.d
        rw [← z, n1] at this
        cases this
      · exact (pn.ne n1) z
    · rw [if_neg (by rw [c1]; decide)]
      walk_at "rd"
      rw [if_pos (decide_eq_true (by rw [c0]))]
      walk_at "rd"
      refine ⟨pen, pc, 2, k + 5, rfl, by decide, by decide, pn, fun r2 H1 a2 b2 pn1 kp1 => ?_⟩
      have at1 : ArgsAt c.B H1 D L := by
        obtain ⟨u, v, z, hpen⟩ := penL
        exact at0.keep hpen kp1 pok.1 pok.2
      walk_at "rd"
      refine r_ite2 (fun e2 => ?_) (fun e2 => ?_)
      · walk_at "rd"
        have h0 : 0 < L.length := Nat.lt_of_le_of_lt (Nat.zero_le _) hi
        have g0 := List.getElem?_eq_getElem h0
        generalize L[0] = e0 at g0
        obtain ⟨r0, b0, _⟩ := at1.row e0 (List.mem_of_getElem? g0)
        have eb0 : e0.b = .tr (.sc (.str x)) := by
          have := same 0 (Nat.zero_le _)
          rw [List.getElem?_map, g0] at this
          exact Option.some.inj this
        rw [eb0] at b0
        have ex0 : e0.x = .str x := by
          have b0 : TrAt H1 e0.x (.sc (.str x)) := b0
          generalize e0.x = v0 at b0
          cases b0
          rfl
        refine r_ixL (SqL.of at1.d) (atI_nat (j := 0) (by rw [List.getElem?_map, g0]; rfl)) ?_
        walk_at "rd"
        rw [ex0]
        exact putT kp1 (pn1.mono (by omega)) (.sc (.str x)) rfl .second
      · have r1 := (at1.row e eL).1
        walk_at "rd"
        rw [if_neg (by rw [c0]; decide)]
        walk_at "rd"
        rw [c1] at nk ⊢
        refine ⟨pen, pc, .letter, k, rfl, pn1.mono (by omega), fun v t H2 tv wt pn2 kp2 => ?_⟩
        walk_at "rd"
        exact putT (kp1.tr kp2) pn2 tv wt.s3 (.wrong .letter nk (fun z => absurd (c0.symm.trans z) (by decide)) wt)
    · obtain ⟨mm, er0, _⟩ := ra
      rw [if_neg (by rw [c1]; decide)]
      walk_at "rd"
      rw [if_neg (by rw [c0]; decide)]
      walk_at "rd"
      rw [if_pos (decide_eq_true (by rw [c0]))]
      walk_at "rd"
      rw [if_pos (decide_eq_true rfl)]
      walk_at "rd"
      cases v1 with
      | none =>
        refine r_iteT rfl ?_
        walk_at "rd"
        refine ⟨by walk_at "sz", fun c1 n1 => ?_⟩
        have s1 := same_new (o := .tup [.str "a"]) n1
        have t1 : TrAt (upd H c1 (.tup [.str "a"])) (.ref c1) (.tup [.sc (.str "a")]) := .tup upd_same (.cons (.sc (.str "a")) .nil)
        generalize upd H c1 _ = H1 at s1 t1 ⊢
        walk_at "rd"
        refine ⟨by walk_at "sz", fun c2 n2 => ?_⟩
        have s2 := same_new (o := .lst []) n2
        have t2 : TrAt (upd H1 c2 (.lst [])) (.ref c2) (.lst []) := .lst upd_same .nil
        replace t1 := TrAt.up s2 _ _ t1
        generalize upd H1 c2 _ = H2 at s2 t1 t2 ⊢
        walk_at "rd"
        intro c3 n3
        have s3' := same_new (o := .dK []) n3
        have t3 : TrAt (upd H2 c3 (.dK [])) (.ref c3) (.dct []) := .dct upd_same
        replace t1 := TrAt.up s3' _ _ t1
        replace t2 := TrAt.up s3' _ _ t2
        generalize upd H2 c3 _ = H3 at s3' t1 t2 t3 ⊢
        walk_at "rd"
        have al : TrsAt H3 [.str "a", .str "", .str "ab", .str "A", .int 0, .bl true, .ref c1, .ref c2, .ref c3] (othT (strT "a")) := .cons (.sc (.str "a")) (.cons (.sc (.str "")) (.cons (.sc (.str "ab")) (.cons (.sc (.str "A")) (.cons (.sc (.int 0)) (.cons (.sc (.bl true)) (.cons t1 (.cons t2 (.cons t3 .nil))))))))
        refine ⟨by walk_at "sz", fun c4 n4 => ?_⟩
        have s4 := same_new (o := .lst [.str "a", .str "", .str "ab", .str "A", .int 0, .bl true, .ref c1, .ref c2, .ref c3]) n4
        have e4 : upd H3 c4 (.lst [.str "a", .str "", .str "ab", .str "A", .int 0, .bl true, .ref c1, .ref c2, .ref c3]) c4 = some (.lst [.str "a", .str "", .str "ab", .str "A", .int 0, .bl true, .ref c1, .ref c2, .ref c3]) := upd_same
        have sA := ((s1.trans s2).trans s3').trans s4
        have l9 : ([.str "a", .str "", .str "ab", .str "A", .int 0, .bl true, .ref c1, .ref c2, .ref c3] : List V).length = 9 := rfl
        replace al := TrsAt.up s4 _ _ al
        generalize ([.str "a", .str "", .str "ab", .str "A", .int 0, .bl true, .ref c1, .ref c2, .ref c3] : List V) = vs at e4 al l9 sA s4 ⊢
        generalize upd H3 c4 (.lst vs) = H4 at e4 al sA ⊢
        have c4p := ((pn.up ((s1.trans s2).trans s3')).ne n4)
        have pn4 := pn.up sA
        walk_at "rd"
        refine ⟨pen, pc, 9, k + 5, rfl, by decide, by decide, pn4, fun r1 H5 a1 b1 pn5 kp5 => ?_⟩
        walk_at "rd"
        refine ⟨pen, pc, 2, k + 4, rfl, by decide, by decide, pn5, fun r2 H6 a2 b2 pn6 kp6 => ?_⟩
        obtain ⟨n, hn, hb⟩ : ∃ n : Nat, r1 * r2 = (n : Int) ∧ n < 9 := by
          rcases (by omega : r2 = 0 ∨ r2 = 1) with rfl | rfl
          · exact ⟨0, by simp, by decide⟩
          · exact ⟨r1.toNat, by omega, by omega⟩
        have hx := List.getElem?_eq_getElem (show n < vs.length by omega)
        obtain ⟨t, ht, at2⟩ := al.get hx
        have gb := oth_all.1 t (List.mem_of_getElem? ht)
        obtain ⟨bad, st⟩ := oth_bad (p := p0) (l := l1) (v := none) (s := s1x) (k := k1) (f := f1) (ms := ms1) gb
        walk_at "rd"
        rw [hn]
        refine r_ixL (SqL.of (kp6 _ _ (kp5 _ _ e4 c4p) c4p)) (atI_nat hx) ?_
        walk_at "rd"
        exact putT (((Keep.same sA).tr kp5).tr kp6) (pn6.mono (by omega)) (TrAt.fr3 (fr_keep kp6 pn5) _ _ st (TrAt.fr3 (fr_keep kp5 pn4) _ _ st at2)) st bad
      | some z1 =>
        refine r_iteF (by simp [oV]) ?_
        walk_at "rd"
        refine ⟨by walk_at "sz", fun c1 n1 => ?_⟩
        have s1 := same_new (o := .tup [.str "a"]) n1
        have t1 : TrAt (upd H c1 (.tup [.str "a"])) (.ref c1) (.tup [.sc (.str "a")]) := .tup upd_same (.cons (.sc (.str "a")) .nil)
        generalize upd H c1 _ = H1 at s1 t1 ⊢
        walk_at "rd"
        refine ⟨by walk_at "sz", fun c2 n2 => ?_⟩
        have s2 := same_new (o := .lst []) n2
        have t2 : TrAt (upd H1 c2 (.lst [])) (.ref c2) (.lst []) := .lst upd_same .nil
        replace t1 := TrAt.up s2 _ _ t1
        generalize upd H1 c2 _ = H2 at s2 t1 t2 ⊢
        walk_at "rd"
        intro c3 n3
        have s3' := same_new (o := .dK []) n3
        have t3 : TrAt (upd H2 c3 (.dK [])) (.ref c3) (.dct []) := .dct upd_same
        replace t1 := TrAt.up s3' _ _ t1
        replace t2 := TrAt.up s3' _ _ t2
        generalize upd H2 c3 _ = H3 at s3' t1 t2 t3 ⊢
        walk_at "rd"
        have al : TrsAt H3 [.non, .str "", .str "ab", .str "A", .int 0, .bl true, .ref c1, .ref c2, .ref c3] (othT (.sc .non)) := .cons (.sc .non) (.cons (.sc (.str "")) (.cons (.sc (.str "ab")) (.cons (.sc (.str "A")) (.cons (.sc (.int 0)) (.cons (.sc (.bl true)) (.cons t1 (.cons t2 (.cons t3 .nil))))))))
        refine ⟨by walk_at "sz", fun c4 n4 => ?_⟩
        have s4 := same_new (o := .lst [.non, .str "", .str "ab", .str "A", .int 0, .bl true, .ref c1, .ref c2, .ref c3]) n4
        have e4 : upd H3 c4 (.lst [.non, .str "", .str "ab", .str "A", .int 0, .bl true, .ref c1, .ref c2, .ref c3]) c4 = some (.lst [.non, .str "", .str "ab", .str "A", .int 0, .bl true, .ref c1, .ref c2, .ref c3]) := upd_same
        have sA := ((s1.trans s2).trans s3').trans s4
        have l9 : ([.non, .str "", .str "ab", .str "A", .int 0, .bl true, .ref c1, .ref c2, .ref c3] : List V).length = 9 := rfl
        replace al := TrsAt.up s4 _ _ al
        generalize ([.non, .str "", .str "ab", .str "A", .int 0, .bl true, .ref c1, .ref c2, .ref c3] : List V) = vs at e4 al l9 sA s4 ⊢
        generalize upd H3 c4 (.lst vs) = H4 at e4 al sA ⊢
        have c4p := ((pn.up ((s1.trans s2).trans s3')).ne n4)
        have pn4 := pn.up sA
        walk_at "rd"
        refine ⟨pen, pc, 9, k + 5, rfl, by decide, by decide, pn4, fun r1 H5 a1 b1 pn5 kp5 => ?_⟩
        walk_at "rd"
        refine ⟨pen, pc, 2, k + 4, rfl, by decide, by decide, pn5, fun r2 H6 a2 b2 pn6 kp6 => ?_⟩
        obtain ⟨n, hn, hb⟩ : ∃ n : Nat, r1 * r2 = (n : Int) ∧ n < 9 := by
          rcases (by omega : r2 = 0 ∨ r2 = 1) with rfl | rfl
          · exact ⟨0, by simp, by decide⟩
          · exact ⟨r1.toNat, by omega, by omega⟩
        have hx := List.getElem?_eq_getElem (show n < vs.length by omega)
        obtain ⟨t, ht, at2⟩ := al.get hx
        have gb := oth_all.2 t (List.mem_of_getElem? ht)
        obtain ⟨bad, st⟩ := oth_bad (p := p0) (l := l1) (v := some z1) (s := s1x) (k := k1) (f := f1) (ms := ms1) gb
        walk_at "rd"
        rw [hn]
        refine r_ixL (SqL.of (kp6 _ _ (kp5 _ _ e4 c4p) c4p)) (atI_nat hx) ?_
        walk_at "rd"
        exact putT (((Keep.same sA).tr kp5).tr kp6) (pn6.mono (by omega)) (TrAt.fr3 (fr_keep kp6 pn5) _ _ st (TrAt.fr3 (fr_keep kp5 pn4) _ _ st at2)) st bad
    · obtain ⟨zf, xf, ef, nf⟩ := row_first ra
      rw [if_neg (by simpa using c0)]
      walk_at "rd"
      rw [if_neg (by simpa using c1)]
      walk_at "rd"
      by_cases c4 : e.nm = "variable"
      · rw [if_pos (decide_eq_true (by rw [c4]))]
        walk_at "rd"
        refine r_ixL (SqL.of ef) (atI_nat (j := 0) rfl) ?_
        walk_at "rd"
        have nw := nf (c2 c4)
        rw [if_neg (by simpa using nw)]
        walk_at "rd"
        rw [c3] at nk ⊢
        refine ⟨pen, pc, kd, k, rfl, pn.mono (by omega), fun v t H2 tv wt pn2 kp2 => ?_⟩
        walk_at "rd"
        exact putT kp2 pn2 tv wt.s3 (.wrong kd nk c2 wt)
      · rw [if_neg (by simpa using c4), if_neg (by simp)]
        walk_at "rd"
        rw [c3] at nk ⊢
        refine ⟨pen, pc, kd, k, rfl, pn.mono (by omega), fun v t H2 tv wt pn2 kp2 => ?_⟩
        walk_at "rd"
        exact putT kp2 pn2 tv wt.s3 (.wrong kd nk c2 wt)

end
end K35


namespace K35
open PySem L2 KB KO KY KV KTr
/-! ### a step made of any values -/
inductive MadeX (eS : Addr) (c : CA) (H : Hp) (Q : VK) (E : XK) : Str → List V → Prop
  | read {x0 x1 x2 : V} {m : Addr} {items : List V} {t0 t1 t2 : Tr} {ts : List Tr} (hm : H m = some (.lst items)) (h0 : TrAt H x0 t0) (h1 : TrAt H x1 t1) (h2 : TrAt H x2 t2) (m0 : Sm t0) (m1 : Sm t1) (m2 : Sm t2) (hi : TrsAt H items ts) (sm : ∀ t ∈ ts, Sm t) (ln : items.length ≤ 60) (p : ReadP eS c x0 x1 x2 t0 t1 t2 ts H Q E) : MadeX eS c H Q E "read" [x0, x1, x2, .ref m]
  | write {x0 x1 x2 x4 : V} {m : Addr} {items : List V} {t0 t1 t4 : Tr} {tb : Ba} {ts : List Tr} (hm : H m = some (.lst items)) (h0 : TrAt H x0 t0) (h1 : TrAt H x1 t1) (h2 : BaAt c.B H x2 tb) (h4 : TrAt H x4 t4) (m0 : Sm t0) (m1 : Sm t1) (m4 : Sm t4) (hi : TrsAt H items ts) (sm : ∀ t ∈ ts, Sm t) (ln : items.length ≤ 60) (p : WriteP eS c t0 t1 tb ts t4 H Q E) : MadeX eS c H Q E "write" [x0, x1, x2, .ref m, x4]
  | serve {x0 x1 : V} {t0 t1 : Tr} (h0 : TrAt H x0 t0) (h1 : TrAt H x1 t1) (m0 : Sm t0) (p : ServeP eS c t0 t1 H Q E) : MadeX eS c H Q E "serve" [x0, x1]
  | pair {x0 x1 x2 : V} {t0 t1 t2 : Tr} (h0 : TrAt H x0 t0) (h1 : TrAt H x1 t1) (h2 : TrAt H x2 t2) (m0 : Sm t0) (m1 : Sm t1) (m2 : Sm t2) (p : PairP eS c t0 t1 t2 H Q E) : MadeX eS c H Q E "pair" [x0, x1, x2]
def spMadeX (eS : Addr) (c : CA) : Sp := fun vs H Q E => ∃ (kd : Str) (l : Addr) (xs : List V), vs = [.str kd, .ref l] ∧ H l = some (.lst xs) ∧ MadeX eS c H Q E kd xs


section
variable {P : Program} {w : World} {K : PySem.W.Frag} {mg : Str → Option Value} {base : Heap}
theorem ok_lmade {f eS aL : Addr} {c : CA} {fd : FuncData} (F : Fun K "_law_made" "_law_made" s__law_made f fd) (T : TxtKd K mg aL c) (cm_Read_of : KP.CalleeC P w K mg base (L2.CX P w) 7 c.R "of" (spReadOf K eS c)) (cm_Write_of : KP.CalleeC P w K mg base (L2.CX P w) 7 c.W "of" (spWriteOf K eS c))
    (c_Serve___init__ : CalleeI P w K mg base (L2.CX P w) 4 c.S "Serve" ["self", "variable", "mask"] (spServe eS c)) (c_Pair___init__ : CalleeI P w K mg base (L2.CX P w) 4 c.P "Pair" ["self", "first", "second", "field"] (spPair eS c)) :
    FnOk P w K mg base (L2.CX P w) 8 f fd ["_law_kind", "_law_told"] (spMadeX eS c) := by
  refine F.okX sc__law_made (fun vs H Q E h => ?_) (fun cdv A outer s H vs Q E hr h => ?_)
  · obtain ⟨kd, l, xs, rfl, _⟩ := h
    rfl
  · obtain ⟨kd, l, xs, rfl, hl, h⟩ := h
    refine ⟨_, (pss_cons (ps_if (pt_cmpR op_eq (pv 0) pe_str (nomark _)) (pss_one (ps_ret (KP.pe_cmethC cm_Read_of (pe_glob (v := .ref _) (by rfl) T.mg_Read rfl) (hr.mono (by decide)) (passes_call KL.def_takes fun _ _ _ _ h => h) (pa_cons (pe_ix ix_list (pv 1) pe_int (fun _ _ => rfl)) (pa_cons (pe_ix ix_list (pv 1) pe_int (fun _ _ => rfl)) (pa_cons (pe_ix ix_list (pv 1) pe_int (fun _ _ => rfl)) (pa_cons (pe_ix ix_list (pv 1) pe_int (fun _ _ => rfl)) pa_nil)))))))
 pss_nil)
 (pss_cons (ps_if (pt_cmpR op_eq (pv 0) pe_str (nomark _)) (pss_one (ps_ret (KP.pe_cmethC cm_Write_of (pe_glob (v := .ref _) (by rfl) T.mg_Write rfl) (hr.mono (by decide)) (passes_call KL.def_takes fun _ _ _ _ h => h) (pa_cons (pe_ix ix_list (pv 1) pe_int (fun _ _ => rfl)) (pa_cons (pe_ix ix_list (pv 1) pe_int (fun _ _ => rfl)) (pa_cons (pe_ix ix_list (pv 1) pe_int (fun _ _ => rfl)) (pa_cons (pe_ix ix_list (pv 1) pe_int (fun _ _ => rfl)) (pa_cons (pe_ix ix_list (pv 1) pe_int (fun _ _ => rfl)) pa_nil))))))))
 pss_nil)
 (pss_cons (ps_if (pt_cmpR op_eq (pv 0) pe_str (nomark _)) (pss_one (ps_ret (pe_makeC c_Serve___init__ (hr.mono (by decide)) (by rfl) (passes_call KL.def_takes fun _ _ _ _ h => h) (pa_cons (pe_ix ix_list (pv 1) pe_int (fun _ _ => rfl)) (pa_cons (pe_ix ix_list (pv 1) pe_int (fun _ _ => rfl)) pa_nil)))))
 pss_nil)
 (pss_one (ps_ret (pe_makeC c_Pair___init__ (hr.mono (by decide)) (by rfl) (passes_call KL.def_takes fun _ _ _ _ h => h) (pa_cons (pe_ix ix_list (pv 1) pe_int (fun _ _ => rfl)) (pa_cons (pe_ix ix_list (pv 1) pe_int (fun _ _ => rfl)) (pa_cons (pe_ix ix_list (pv 1) pe_int (fun _ _ => rfl)) pa_nil))))))))), at_start (σ := [some (.str kd), some (.ref l)]) rfl ?_⟩
    try dsimp only [KC.cx_KX]
    cases h with
    | read hm h0 h1 h2 m0 m1 m2 hi sm ln p =>
      walk_at "rd"
      refine r_iteT rfl ?_
      walk_at "rd"
      refine KP.r_cmeth ?_
      walk_at "rd"
      refine ⟨rfl, ?_⟩
      walk_at "rd"
      exact ⟨_, _, _, _, _, _, _, _, _, _, rfl, .inr (SqL.of hm), h0, h1, h2, m0, m1, m2, hi, sm, ln, p⟩
    | write hm h0 h1 h2 h4 m0 m1 m4 hi sm ln p =>
      walk_at "rd"
      refine r_iteF (by decide) ?_
      walk_at "rd"
      refine r_iteT rfl ?_
      walk_at "rd"
      refine KP.r_cmeth ?_
      walk_at "rd"
      refine ⟨rfl, ?_⟩
      walk_at "rd"
      exact ⟨_, _, _, _, _, _, _, _, _, _, _, _, rfl, .inr (SqL.of hm), h0, h1, h2, h4, m0, m1, m4, hi, sm, ln, p⟩
    | serve h0 h1 m0 p =>
      walk_at "rd"
      refine r_iteF (by decide) ?_
      walk_at "rd"
      refine r_iteF (by decide) ?_
      walk_at "rd"
      refine r_iteT rfl ?_
      walk_at "rd"
      exact fun x dx nx nd ne => serve_new nx nd ne h0 h1 m0 p
    | pair h0 h1 h2 m0 m1 m2 p =>
      walk_at "rd"
      refine r_iteF (by decide) ?_
      walk_at "rd"
      refine r_iteF (by decide) ?_
      walk_at "rd"
      refine r_iteF (by decide) ?_
      walk_at "rd"
      exact fun x dx nx nd ne => pair_new nx nd ne h0 h1 h2 m0 m1 m2 p

end
end K35


namespace K35
open PySem L2 KB KO KY KV KTr
/-! ### _law_heard -/
/-- what is asked of the class of the error that is heard -/
structure TxtE (K : PySem.W.Frag) (mg : Str → Option Value) (CB eS : Addr) (c : Nat → Addr) : Prop extends Txt mg where
  mg_BitError : mg "BitError" = some (.ref CB)
  mg_InvalidStep : mg "InvalidStep" = some (.ref eS)
  mg_InvalidField : mg "InvalidField" = some (.ref (c 0))
  mg_InvalidLane : mg "InvalidLane" = some (.ref (c 1))
  mg_InvalidMap : mg "InvalidMap" = some (.ref (c 2))
  mg_InvalidSystem : mg "InvalidSystem" = some (.ref (c 3))
  mg_InvalidTask : mg "InvalidTask" = some (.ref (c 4))
  mg_InvalidText : mg "InvalidText" = some (.ref (c 5))
  mg_InvalidWord : mg "InvalidWord" = some (.ref (c 6))
  mg_NoName : mg "NoName" = some (.ref (c 7))
  mg_TooLarge : mg "TooLarge" = some (.ref (c 8))
  bit : PySem.W.exmOne K (.ref eS) (.ref CB) = some true
  exc : ExcC K eS
  xf : XfC K eS
  nof : PySem.W.findIn K (.ref eS) "reason" = some none
  own : PySem.W.kitOne K (.ref eS) (.ref eS) = some true
  ve : PySem.W.kitOne K (.ref eS) (.type "ValueError") = some true
  kit : ∀ j, j < 9 → PySem.W.kitOne K (.ref eS) (.ref (c j)) = some false
def echo (eS : Addr) (Q : VK) : XK := fun cls d H' => ∃ (dd : Addr) (rs : Str), cls = .ref eS ∧ d = some dd ∧ H' dd = some (.xd [("reason", .str rs)]) ∧ ∀ H2, Same H' H2 → Q (.str rs) H2
def TH (eS : Addr) : (XK → Hp → VK → Prop) → Hp → VK → Prop := fun tl H Q => ∀ Z : VK, tl (echo eS Q) H Z
abbrev hX (X : Cx) (g : Addr) (cdg : Value) (s : Shared) (H : Hp) : Cx := cxOf C8.CX0 X.prog X.w X.K X.mg X.base ["_law_ask", "_law_caught", "e", "_law_some"] "_law_heard" (defScope s__law_heard) g cdg X.A X.stack s H C8.E0


section
variable {P : Program} {w : World} {K : PySem.W.Frag} {mg : Str → Option Value} {base : Heap}
open LamX in
theorem heard_gives {X : Cx} {CB eS g : Addr} {c : Nat → Addr} {k : Nat} {cdg : Value} {q : Str} (T : TxtE X.K X.mg CB eS c) (room : Room (k + 1) X.A) :
    GivesTo X ["_law_ask", "_law_caught", "e", "_law_some"] "_law_heard" (defScope s__law_heard) g cdg (defBody s__law_heard) "_law_ask" q (TH eS) := by
  intro f c' s H Q tl act hc h
  have hr : Room k (hX X g cdg s H).A := room.deeper _
  refine ⟨_, pss_cons (ps_set (i := 1) sc__law_heard.nd rfl (by first | exact Or.inl rfl | exact Or.inr rfl) pe_non)
    (pss_cons (KX.ps_try_keep (X := (hX X g cdg s H).nox) (c := .ref CB) (i := 2)
      (tb := fun W D σ H => ∃ Ech : XK, (∀ cls d σ' H', σ'.length = 4 → Ech cls d H' → W cls d σ' H') ∧ σ[0]? = some (some (.ref f)) ∧ H c' = some (CodeO c' q) ∧ tl Ech H (fun _ H1 => D.nx σ H1))
      rfl rfl sc__law_heard.nd rfl rfl ⟨rfl, by decide, .inl T.mg_BitError⟩ L2.takes0 rfl (fun W pn xe tk _ => ?_) (fun a oe cls d pn _ _ => pss_one (ps_set (i := 1) sc__law_heard.nd rfl (by first | exact Or.inl rfl | exact Or.inr rfl) (pv 2))))
    (pss_cons (ps_if (PW.pt (pw_or (pt_not (pt_val (pe_callB KX.call_isH (by rfl) T.z_isinstance (by decide +kernel) (pa_cons (pv 1) (pa_cons (pe_glob (v := .ref _) (by rfl) T.mg_InvalidStep rfl) pa_nil))))) (pw_or1 (pt_not (pt_val (pe_callB KX.call_isH (by rfl) T.z_isinstance (by decide +kernel) (pa_cons (pv 1) (pa_cons (pe_bltn (v := .ty "ValueError") (by rfl) T.z_ValueError (by decide +kernel) rfl) pa_nil)))))))) (pss_one (ps_ret (pe_tup (pa_cons pe_str (pa_cons pe_str pa_nil)))))
 pss_nil)
 (pss_cons (ps_set (i := 3) sc__law_heard.nd rfl (by first | exact Or.inl rfl | exact Or.inr rfl) (pe_lst (pa_cons (pe_callB KX.call_isH (by rfl) T.z_isinstance (by decide +kernel) (pa_cons (pv 1) (pa_cons (pe_glob (v := .ref _) (by rfl) T.mg_InvalidField rfl) pa_nil))) (pa_cons (pe_callB KX.call_isH (by rfl) T.z_isinstance (by decide +kernel) (pa_cons (pv 1) (pa_cons (pe_glob (v := .ref _) (by rfl) T.mg_InvalidLane rfl) pa_nil))) (pa_cons (pe_callB KX.call_isH (by rfl) T.z_isinstance (by decide +kernel) (pa_cons (pv 1) (pa_cons (pe_glob (v := .ref _) (by rfl) T.mg_InvalidMap rfl) pa_nil))) pa_nil)))))
 (pss_cons (ps_set (i := 3) sc__law_heard.nd rfl (by first | exact Or.inl rfl | exact Or.inr rfl) (pe_op op_cat (pv 3) (pe_lst (pa_cons (pe_callB KX.call_isH (by rfl) T.z_isinstance (by decide +kernel) (pa_cons (pv 1) (pa_cons (pe_glob (v := .ref _) (by rfl) T.mg_InvalidSystem rfl) pa_nil))) (pa_cons (pe_callB KX.call_isH (by rfl) T.z_isinstance (by decide +kernel) (pa_cons (pv 1) (pa_cons (pe_glob (v := .ref _) (by rfl) T.mg_InvalidTask rfl) pa_nil))) (pa_cons (pe_callB KX.call_isH (by rfl) T.z_isinstance (by decide +kernel) (pa_cons (pv 1) (pa_cons (pe_glob (v := .ref _) (by rfl) T.mg_InvalidText rfl) pa_nil))) pa_nil))))))
 (pss_cons (ps_set (i := 3) sc__law_heard.nd rfl (by first | exact Or.inl rfl | exact Or.inr rfl) (pe_op op_cat (pv 3) (pe_lst (pa_cons (pe_callB KX.call_isH (by rfl) T.z_isinstance (by decide +kernel) (pa_cons (pv 1) (pa_cons (pe_glob (v := .ref _) (by rfl) T.mg_InvalidWord rfl) pa_nil))) (pa_cons (pe_callB KX.call_isH (by rfl) T.z_isinstance (by decide +kernel) (pa_cons (pv 1) (pa_cons (pe_glob (v := .ref _) (by rfl) T.mg_NoName rfl) pa_nil))) (pa_cons (pe_callB KX.call_isH (by rfl) T.z_isinstance (by decide +kernel) (pa_cons (pv 1) (pa_cons (pe_glob (v := .ref _) (by rfl) T.mg_TooLarge rfl) pa_nil))) pa_nil))))))
 (pss_cons (ps_if (pt_cmpR op_in_seq pe_bl (pv 3) (by rfl)) (pss_one (ps_ret (pe_tup (pa_cons pe_str (pa_cons pe_str pa_nil)))))
 pss_nil)
 (pss_one (ps_ret (KX.pe_xh (pv 1)))))))))), ?_⟩
  · refine ⟨fun pins s' σ H' D I h' => ?_⟩
    obtain ⟨Ech, hW, h1, h2, h3⟩ := h'
    exact PSs.run (X := (hX X g cdg s H).tr pn xe) (pss_one (ps_expr (act (fun cls d σ H => σ.length = 4 → W cls d σ H) pn xe Ech _ _ (KL.takes_len tk) (fun cls d σ' H' e hl => hW cls d σ' H' hl e)))) pins s' σ H' D I ⟨h1, h2, h3⟩
  · refine at_start (σ := [some (.ref f), none, none, none]) rfl ?_
    walk_at "rd"
    have eK : (hX X g cdg s H).K = X.K := rfl
    have eK2 : (hX X g cdg s H).nox.K = X.K := rfl
    simp only [eK, eK2]
    refine ⟨echo eS Q, fun cls d σ' H' hl he => ?_, rfl, hc, ?_⟩
    rotate_left
    · exact h _
    obtain ⟨dd, rs, rfl, rfl, hd, z⟩ := he
    refine ⟨true, T.bit, fun _ a na => ?_, fun z => by cases z⟩
    obtain ⟨x0, x1, x2, x3, rfl⟩ : ∃ x0 x1 x2 x3, σ' = [x0, x1, x2, x3] := by
      match σ', hl with
      | [x0, x1, x2, x3], _ => exact ⟨_, _, _, _, rfl⟩
    have g1 : upd H' a (KX.exh a (.ref eS) (some dd)) a = some (KX.exh a (.ref eS) (some dd)) := upd_same
    have g2 : upd H' a (KX.exh a (.ref eS) (some dd)) dd = some (.xd [("reason", .str rs)]) := upd_new na hd
    have sa : Same H' (upd H' a (KX.exh a (.ref eS) (some dd))) := same_new na
    walk_at "rd"
    generalize upd H' a (KX.exh a (.ref eS) (some dd)) = H1 at g1 g2 sa ⊢
    refine ⟨a, eS, dd, _, _, _, _, rfl, g1, g2, T.exc, .own _, T.own, ?_⟩
    walk_at "rd"
    refine ⟨a, eS, dd, _, _, _, _, rfl, g1, g2, T.exc, .ty _, T.ve, ?_⟩
    walk_at "rd"
    refine ⟨a, eS, dd, _, _, _, _, rfl, g1, g2, T.exc, .own _, T.kit 0 (by decide), ?_⟩
    walk_at "rd"
    refine ⟨a, eS, dd, _, _, _, _, rfl, g1, g2, T.exc, .own _, T.kit 1 (by decide), ?_⟩
    walk_at "rd"
    refine ⟨a, eS, dd, _, _, _, _, rfl, g1, g2, T.exc, .own _, T.kit 2 (by decide), ?_⟩
    walk_at "rd"
    refine ⟨by walk_at "sz", fun c1 n1 => ?_⟩
    have s1 := same_new (o := .lst [.bl false, .bl false, .bl false]) n1
    have e1 : upd H1 c1 (.lst [.bl false, .bl false, .bl false]) c1 = some (.lst [.bl false, .bl false, .bl false]) := upd_same
    replace g1 := s1 _ _ g1
    replace g2 := s1 _ _ g2
    replace sa := sa.trans s1
    generalize upd H1 c1 _ = H2 at s1 e1 g1 g2 sa ⊢
    walk_at "rd"
    refine ⟨a, eS, dd, _, _, _, _, rfl, g1, g2, T.exc, .own _, T.kit 3 (by decide), ?_⟩
    walk_at "rd"
    refine ⟨a, eS, dd, _, _, _, _, rfl, g1, g2, T.exc, .own _, T.kit 4 (by decide), ?_⟩
    walk_at "rd"
    refine ⟨a, eS, dd, _, _, _, _, rfl, g1, g2, T.exc, .own _, T.kit 5 (by decide), ?_⟩
    walk_at "rd"
    refine ⟨by walk_at "sz", fun c2 n2 => ?_⟩
    have s2 := same_new (o := .lst [.bl false, .bl false, .bl false]) n2
    have e2 : upd H2 c2 (.lst [.bl false, .bl false, .bl false]) c2 = some (.lst [.bl false, .bl false, .bl false]) := upd_same
    replace g1 := s2 _ _ g1
    replace g2 := s2 _ _ g2
    replace sa := sa.trans s2
    replace e1 := s2 _ _ e1
    generalize upd H2 c2 _ = H3 at s2 e1 e2 g1 g2 sa ⊢
    refine r_cat e1 e2 (Nat.le_trans (show _ ≤ 100 by decide) (by decide)) fun c3 n3 => ?_
    dsimp only [List.cons_append, List.nil_append]
    have s3 := same_new (o := .lst [.bl false, .bl false, .bl false, .bl false, .bl false, .bl false]) n3
    have e3 : upd H3 c3 (.lst [.bl false, .bl false, .bl false, .bl false, .bl false, .bl false]) c3 = some (.lst [.bl false, .bl false, .bl false, .bl false, .bl false, .bl false]) := upd_same
    replace g1 := s3 _ _ g1
    replace g2 := s3 _ _ g2
    replace sa := sa.trans s3
    generalize upd H3 c3 _ = H4 at s3 e3 g1 g2 sa ⊢
    walk_at "rd"
    refine ⟨a, eS, dd, _, _, _, _, rfl, g1, g2, T.exc, .own _, T.kit 6 (by decide), ?_⟩
    walk_at "rd"
    refine ⟨a, eS, dd, _, _, _, _, rfl, g1, g2, T.exc, .own _, T.kit 7 (by decide), ?_⟩
    walk_at "rd"
    refine ⟨a, eS, dd, _, _, _, _, rfl, g1, g2, T.exc, .own _, T.kit 8 (by decide), ?_⟩
    walk_at "rd"
    refine ⟨by walk_at "sz", fun c4 n4 => ?_⟩
    have s4 := same_new (o := .lst [.bl false, .bl false, .bl false]) n4
    have e4 : upd H4 c4 (.lst [.bl false, .bl false, .bl false]) c4 = some (.lst [.bl false, .bl false, .bl false]) := upd_same
    replace g1 := s4 _ _ g1
    replace g2 := s4 _ _ g2
    replace sa := sa.trans s4
    replace e3 := s4 _ _ e3
    generalize upd H4 c4 _ = H5 at s4 e3 e4 g1 g2 sa ⊢
    refine r_cat e3 e4 (Nat.le_trans (show _ ≤ 100 by decide) (by decide)) fun c5 n5 => ?_
    dsimp only [List.cons_append, List.nil_append]
    have s5 := same_new (o := .lst [.bl false, .bl false, .bl false, .bl false, .bl false, .bl false, .bl false, .bl false, .bl false]) n5
    have e5 : upd H5 c5 (.lst [.bl false, .bl false, .bl false, .bl false, .bl false, .bl false, .bl false, .bl false, .bl false]) c5 = some (.lst [.bl false, .bl false, .bl false, .bl false, .bl false, .bl false, .bl false, .bl false, .bl false]) := upd_same
    replace g1 := s5 _ _ g1
    replace g2 := s5 _ _ g2
    replace sa := sa.trans s5
    generalize upd H5 c5 _ = H6 at s5 e5 g1 g2 sa ⊢
    walk_at "rd"
    refine ⟨c5, [V.bl false, V.bl false, V.bl false, V.bl false, V.bl false, V.bl false, V.bl false, V.bl false, V.bl false], rfl, .inl (SqL.of e5), rfl, rfl, ?_⟩
    refine ⟨false, rfl, ?_⟩
    rw [if_neg (by decide)]
    walk_at "rd"
    exact ⟨_, rfl, a, eS, dd, _, .str rs, rfl, g1, g2, T.xf, T.nof, rfl, z _ sa⟩

end
end K35


namespace K35
open PySem L2 KB KO KY KV KTr
/-! ### which argument is told -/
theorem right_letter {z : Str} (h : varB z = true) : isVar (.sc (.str z)) = true := h
theorem right_lane {z : Str} (h : z ∈ LNS) : isLane (.sc (.str z)) = true := decide_eq_true h
/-- a read whose argument i is wrong, the ones ahead right -/
theorem read_bad {v p l : Str} {ms : List Str} {w : Nat} (ok : (SRow.read v p l ms).Ok w) {t0 t1 t2 : Tr} {ts : List Tr} :
    (isVar t0 = false → readres t0 t1 t2 ts = .err "variable") ∧ (isNm t1 = false → readres (.sc (.str v)) t1 t2 ts = .err "port") ∧
    (isLane t2 = false → readres (.sc (.str v)) (.sc (.str p)) t2 ts = .err "lane") ∧ (meansOk ts = false → readres (.sc (.str v)) (.sc (.str p)) (.sc (.str l)) ts = .err "means") := by
  have o1 := right_letter ok.1
  have o2 : isNm (.sc (.str p)) = true := ok.2.1
  have o3 := right_lane ok.2.2.1
  refine ⟨fun h => ?_, fun h => ?_, fun h => ?_, fun h => ?_⟩ <;> unfold readres accres
  · rw [h]; rfl
  · rw [o1, h]; rfl
  · rw [o1, o2, h]; rfl
  · rw [o1, o2, o3, h]; rfl
theorem serve_bad {v : Str} {m : Int} {w : Nat} (ok : (SRow.serve v m).Ok w) {t0 t1 : Tr} : (isVar t0 = false → serveres t0 t1 = .err "variable") ∧ (isNum 1 4294967295 t1 = false → serveres (.sc (.str v)) t1 = .err "mask") := by
  have o1 := right_letter ok.1
  refine ⟨fun h => ?_, fun h => ?_⟩ <;> unfold serveres
  · rw [h]; rfl
  · rw [o1, h]; rfl
theorem pair_bad {a b f : Str} {w : Nat} (ok : (SRow.pair a b f).Ok w) {t0 t1 t2 : Tr} : (isVar t0 = false → pairres t0 t1 t2 = .err "first") ∧ (isVar t1 = false → pairres (.sc (.str a)) t1 t2 = .err "second") ∧
    pairres (.sc (.str a)) (.sc (.str a)) t2 = .err "second" ∧ (isNm t2 = false → pairres (.sc (.str a)) (.sc (.str b)) t2 = .err "field") := by
  have o1 := right_letter ok.1
  have o2 := right_letter ok.2.1
  refine ⟨fun h => ?_, fun h => ?_, ?_, fun h => ?_⟩ <;> unfold pairres
  · rw [h]; rfl
  · rw [o1, h]; rfl
  · rw [o1, show decide (strO (.sc (.str a)) ≠ strO (.sc (.str a))) = false from decide_eq_false (fun z => z rfl)]; rfl
  · rw [o1, o2, show decide (strO (.sc (.str b)) ≠ strO (.sc (.str a))) = true from decide_eq_true (fun e => ok.2.2.1 (Option.some.inj e)), h]; rfl
theorem write_bad {p l : Str} {v : Option Str} {s : Int} {k f : Nat} {ms : List Str} {w : Nat} (ok : (SRow.write p l v s k f ms).Ok w) {t0 t1 t4 : Tr} {tb : Ba} {ts : List Tr} (okm : meansOk (ms.map fun z => Tr.sc (.str z)) = true) :
    (isNm t0 = false → writeres t0 t1 tb ts t4 = .err "port") ∧ (isLane t1 = false → writeres (.sc (.str p)) t1 tb ts t4 = .err "lane") ∧ (tb.isB = false → writeres (.sc (.str p)) (.sc (.str l)) tb ts t4 = .err "blend") ∧
    (meansOk ts = false → writeres (.sc (.str p)) (.sc (.str l)) (.bl w s k f) ts t4 = .err "means") ∧
    ((isNoT t4 || isVar t4) = false ∨ isNoT t4 ≠ v.isNone → writeres (.sc (.str p)) (.sc (.str l)) (.bl w s k f) (ms.map fun z => Tr.sc (.str z)) t4 = .err "variable") := by
  have o1 : isNm (.sc (.str p)) = true := ok.1
  have o2 := right_lane ok.2.1
  have ob : (Ba.bl w s k f).isB = true := rfl
  refine ⟨fun h => ?_, fun h => ?_, fun h => ?_, fun h => ?_, fun h => ?_⟩ <;> unfold writeres accres
  · rw [h]; rfl
  · rw [o1, h]; rfl
  · rw [o1, o2, h]; rfl
  · rw [o1, o2, ob, h]; rfl
  · rw [o1, o2, ob, okm]
    cases c : (isNoT t4 || isVar t4) with
    | false => rfl
    | true =>
      rcases h with h | h
      · rw [c] at h; cases h
      · have e : (Ba.bl w s k f).const = v.isNone := by
          show decide (k = 0) = v.isNone
          cases v with
          | none => exact decide_eq_true (ok.2.2.2.2.1.mpr rfl)
          | some z => exact decide_eq_false fun q => by cases ok.2.2.2.2.1.mp q
        rw [show ((Ba.bl w s k f).const == isNoT t4) = false from by rw [e]; exact beq_eq_false_iff_ne.mpr (Ne.symm h)]
        rfl
/-! ### arguments, right or wrong -/
def SRow.kd : SRow → Str
  | .read .. => "read"
  | .write .. => "write"
  | .serve .. => "serve"
  | .pair .. => "pair"
def Pos (w : Nat) (r : SRow) (i : Nat) (b : Ba) : Prop := (argV w r)[i]? = some b ∨ BadA r i b
theorem kd_inj {a b : WK} (h : a.s = b.s) : b = a := by
  cases a <;> cases b <;> first | rfl | exact absurd h (by decide)
theorem bad_inv {r : SRow} {i : Nat} {b : Ba} {nm kn : Str} (h : BadA r i b) (hn : (argN r)[i]? = some (nm, kn)) (ns : nm ≠ "second") (nv : nm = "variable" → ∀ p l v s k f ms, r ≠ .write p l v s k f ms) :
    (∃ (kd : WK) (t : Tr), kn = kd.s ∧ b = .tr t ∧ WrongT kd t) ∨ (kn = "means" ∧ ∃ ts, b = .tr (.lst ts) ∧ meansOk ts = false ∧ (∀ t ∈ ts, Sm t ∧ s3 false t = true ∧ fitT t = true) ∧ ts.length ≤ 11) := by
  cases h with
  | wrong kd h nw wt =>
    rw [h] at hn
    cases hn
    exact .inl ⟨kd, _, rfl, rfl, wt⟩
  | means h mo sm ln =>
    rw [h] at hn
    cases hn
    exact .inr ⟨rfl, _, rfl, mo, sm, ln⟩
  | second =>
    cases hn
    exact absurd rfl ns
  | var =>
    cases hn
    exact absurd rfl (nv rfl _ _ _ _ _ _ _)
theorem kd_means (kd : WK) : ("means" : Str) ≠ kd.s := by cases kd <;> decide
theorem pos_kd {w : Nat} {r : SRow} {i : Nat} {b : Ba} {nm : Str} {t0 : Tr} (kd : WK) (hb : Pos w r i b) (hn : (argN r)[i]? = some (nm, kd.s)) (ns : nm ≠ "second") (nv : nm = "variable" → ∀ p l v s k f ms, r ≠ .write p l v s k f ms)
    (hv : (argV w r)[i]? = some (.tr t0)) (s0 : Sm t0) (nb : kd ≠ .blend) : ∃ t, b = .tr t ∧ Sm t ∧ ((argV w r)[i]? = some b → t = t0) ∧ (BadA r i b → kd.right t = false) := by
  have bd : ∀ b', BadA r i b' → ∃ t, b' = .tr t ∧ WrongT kd t := fun b' h => by
    rcases bad_inv h hn ns nv with ⟨kd', t, e, eb, wt⟩ | ⟨e, _⟩
    · rw [kd_inj e] at wt
      exact ⟨t, eb, wt⟩
    · exact absurd e.symm (kd_means kd)
  rcases hb with e | e
  · rw [hv] at e
    cases e
    exact ⟨t0, rfl, s0, fun _ => rfl, fun h => by
      obtain ⟨t, et, wt⟩ := bd _ h
      cases et
      exact wt.bad⟩
  · obtain ⟨t, rfl, wt⟩ := bd _ e
    exact ⟨t, rfl, wt.sm nb, fun h => by rw [hv] at h; cases h; rfl, fun _ => wt.bad⟩
theorem pos_means {w : Nat} {r : SRow} {i : Nat} {b : Ba} {nm : Str} {ms : List Str} (hb : Pos w r i b) (hn : (argN r)[i]? = some (nm, ("means" : Str))) (ns : nm ≠ "second") (nv : nm = "variable" → ∀ p l v s k f ms, r ≠ .write p l v s k f ms)
    (hv : (argV w r)[i]? = some (.tr (meansT ms))) (mk : Msk ms) : ∃ ts, b = .tr (.lst ts) ∧ (∀ t ∈ ts, Sm t) ∧ ts.length ≤ 11 ∧ ((argV w r)[i]? = some b → ts = ms.map fun z => .sc (.str z)) ∧ (BadA r i b → meansOk ts = false) := by
  have bd : ∀ b', BadA r i b' → ∃ ts, b' = .tr (.lst ts) ∧ meansOk ts = false ∧ (∀ t ∈ ts, Sm t ∧ s3 false t = true ∧ fitT t = true) ∧ ts.length ≤ 11 := fun b' h => by
    rcases bad_inv h hn ns nv with ⟨kd', t, e, eb, wt⟩ | ⟨_, q⟩
    · exact absurd e (kd_means kd')
    · exact q
  rcases hb with e | e
  · rw [hv] at e
    cases e
    exact ⟨_, rfl, sm_strs mk.1, by rw [List.length_map]; exact Nat.le_trans mk.2.2 (by decide), fun _ => rfl, fun h => by
      obtain ⟨ts, et, mo, _⟩ := bd _ h
      cases et
      exact mo⟩
  · obtain ⟨ts, rfl, mo, al, ln⟩ := bd _ e
    exact ⟨ts, rfl, fun t m => (al t m).1, ln, fun h => by rw [hv] at h; cases h; rfl, fun _ => mo⟩
theorem pos_blend {w : Nat} {r : SRow} {i : Nat} {b : Ba} {nm : Str} {b0 : Ba} (hb : Pos w r i b) (hn : (argN r)[i]? = some (nm, WK.blend.s)) (ns : nm ≠ "second") (nv : nm = "variable" → ∀ p l v s k f ms, r ≠ .write p l v s k f ms)
    (hv : (argV w r)[i]? = some b0) : ((argV w r)[i]? = some b → b = b0) ∧ (BadA r i b → b.isB = false) := by
  refine ⟨fun h => by rw [hv] at h; cases h; rfl, fun h => ?_⟩
  rcases bad_inv h hn ns nv with ⟨kd', t, e, eb, wt⟩ | ⟨e, _⟩
  · rw [eb]; rfl
  · exact absurd e.symm (kd_means .blend)
theorem pos_second {w : Nat} {x y z : Str} {b : Ba} (hb : Pos w (.pair x y z) 1 b) (ox : varB x = true) (oy : varB y = true) : ∃ t, b = .tr t ∧ Sm t ∧ ((argV w (.pair x y z))[1]? = some b → t = .sc (.str y)) ∧ (BadA (.pair x y z) 1 b → isVar t = false ∨ t = .sc (.str x)) := by
  have bd : ∀ b', BadA (.pair x y z) 1 b' → ∃ t, b' = .tr t ∧ Sm t ∧ (isVar t = false ∨ t = .sc (.str x)) := fun b' h => by
    cases h with
    | wrong kd h nw wt =>
      have e : ("letter" : Str) = kd.s := congrArg Prod.snd (Option.some.inj h)
      have e : kd = .letter := kd_inj (a := .letter) e
      subst e
      exact ⟨_, rfl, wt.sm (fun z => by cases z), .inl wt.bad⟩
    | means h => exact absurd (show ("letter" : Str) = "means" from congrArg Prod.snd (Option.some.inj h)) (by decide)
    | second => exact ⟨_, rfl, sm_str (varB_len ox), .inr rfl⟩
  rcases hb with e | e
  · cases e
    exact ⟨_, rfl, sm_str (varB_len oy), fun _ => rfl, fun h => by
      obtain ⟨t, et, _, q⟩ := bd _ h
      cases et
      exact q⟩
  · obtain ⟨t, rfl, sm, q⟩ := bd _ e
    exact ⟨t, rfl, sm, fun h => by cases h; rfl, fun _ => q⟩
theorem pos_var {w : Nat} {p l : Str} {v : Option Str} {s : Int} {k f : Nat} {ms : List Str} {b : Ba} (hb : Pos w (.write p l v s k f ms) 4 b) (ov : ∀ z, v = some z → varB z = true) :
    ∃ t, b = .tr t ∧ Sm t ∧ ((argV w (.write p l v s k f ms))[4]? = some b → t = trO v) ∧ (BadA (.write p l v s k f ms) 4 b → (isNoT t || isVar t) = false ∨ isNoT t ≠ v.isNone) := by
  have bd : ∀ b', BadA (.write p l v s k f ms) 4 b' → ∃ t, b' = .tr t ∧ Sm t ∧ ((isNoT t || isVar t) = false ∨ isNoT t ≠ v.isNone) := fun b' h => by
    cases h with
    | wrong kd h nw wt => exact absurd rfl (nw (congrArg Prod.fst (Option.some.inj h)).symm _ _ _ _ _ _ _)
    | means h => exact absurd (show ("letter" : Str) = "means" from congrArg Prod.snd (Option.some.inj h)) (by decide)
    | var bad sm st fit => exact ⟨_, rfl, sm, bad⟩
  rcases hb with e | e
  · cases e
    exact ⟨_, rfl, trO_sm ov, fun _ => rfl, fun h => by
      obtain ⟨t, et, _, q⟩ := bd _ h
      cases et
      exact q⟩
  · obtain ⟨t, rfl, sm, q⟩ := bd _ e
    exact ⟨t, rfl, sm, fun h => by cases h; rfl, fun _ => q⟩
/-! ### what is told of them -/
theorem readP_err {eS : Addr} {c : CA} {H : Hp} {v0 v1 v2 : V} {t0 t1 t2 : Tr} {ts : List Tr} {nm : Str} {Q : VK} {E : XK} (e : readres t0 t1 t2 ts = .err nm) (q : ErrS eS nm H E) : ReadP eS c v0 v1 v2 t0 t1 t2 ts H Q E := by
  refine ⟨fun rs e' => ?_, fun a b l zs e1 e2 e3 e4 o => ?_⟩
  · rw [e] at e'
    cases e'
    exact q
  · subst e1 e2 e3
    have ok : readres (.sc (.str a)) (.sc (.str b)) (.sc (.str l)) ts = .ok := by
      unfold readres accres
      rw [show isVar (.sc (.str a)) = true from o.1, show isNm (.sc (.str b)) = true from o.2.1, show isLane (.sc (.str l)) = true from decide_eq_true o.2.2.1, show meansOk ts = true from by unfold meansOk; rw [e4]; rfl]
      rfl
    rw [ok] at e
    cases e
theorem writeP_err {eS : Addr} {c : CA} {H : Hp} {t0 t1 t3 : Tr} {tb : Ba} {ts : List Tr} {nm : Str} {Q : VK} {E : XK} (e : writeres t0 t1 tb ts t3 = .err nm) (q : ErrS eS nm H E) : WriteP eS c t0 t1 tb ts t3 H Q E := by
  refine ⟨fun rs e' => ?_, fun ok => ?_⟩
  · rw [e] at e'
    cases e'
    exact q
  · rw [e] at ok
    cases ok
theorem serveP_err {eS : Addr} {c : CA} {H : Hp} {t0 t1 : Tr} {nm : Str} {Q : VK} {E : XK} (e : serveres t0 t1 = .err nm) (q : ErrS eS nm H E) : ServeP eS c t0 t1 H Q E := by
  refine ⟨fun rs e' => ?_, fun a m e1 e2 o => ?_⟩
  · rw [e] at e'
    cases e'
    exact q
  · subst e1 e2
    have ok : serveres (.sc (.str a)) (.sc (.int m)) = .ok := by
      unfold serveres
      rw [show isVar (.sc (.str a)) = true from o.1, show isNum 1 4294967295 (.sc (.int m)) = true from by unfold isNum; simp; exact o.2]
      rfl
    rw [ok] at e
    cases e
theorem pairP_err {eS : Addr} {c : CA} {H : Hp} {t0 t1 t2 : Tr} {nm : Str} {Q : VK} {E : XK} (e : pairres t0 t1 t2 = .err nm) (q : ErrS eS nm H E) : PairP eS c t0 t1 t2 H Q E := by
  refine ⟨fun rs e' => ?_, fun a b f e1 e2 e3 o => ?_⟩
  · rw [e] at e'
    cases e'
    exact q
  · subst e1 e2 e3
    have ok : pairres (.sc (.str a)) (.sc (.str b)) (.sc (.str f)) = .ok := by
      unfold pairres
      rw [show isVar (.sc (.str a)) = true from o.1, show isVar (.sc (.str b)) = true from o.2.1, show isNm (.sc (.str f)) = true from o.2.2.2, show decide (strO (.sc (.str b)) ≠ strO (.sc (.str a))) = true from decide_eq_true (fun e => o.2.2.1 (Option.some.inj e))]
      rfl
    rw [ok] at e
    cases e
/-- the arguments told: those ahead of i0 right, i0 wrong -/
structure Told (CB : Addr) (H : Hp) (w : Nat) (r : SRow) (L : List ARow) (i0 : Nat) (nm : Str) : Prop where
  ok : r.Ok w
  row : ∀ e ∈ L, BaAt CB H e.x e.b
  nms : (L.map fun e => (e.nm, e.kn)) = argN r
  pos : ∀ j e, L[j]? = some e → Pos w r j e.b
  fst : ∀ j e, j < i0 → L[j]? = some e → (argV w r)[j]? = some e.b
  bad : ∃ e, L[i0]? = some e ∧ BadA r i0 e.b ∧ e.nm = nm
theorem nat_two {i : Nat} (h : i < 2) : i = 0 ∨ i = 1 := by omega
theorem nat_three {i : Nat} (h : i < 3) : i = 0 ∨ i = 1 ∨ i = 2 := by omega
theorem nat_four {i : Nat} (h : i < 4) : i = 0 ∨ i = 1 ∨ i = 2 ∨ i = 3 := by omega
theorem nat_five {i : Nat} (h : i < 5) : i = 0 ∨ i = 1 ∨ i = 2 ∨ i = 3 ∨ i = 4 := by omega
theorem Told.len {CB : Addr} {H : Hp} {w : Nat} {r : SRow} {L : List ARow} {i0 : Nat} {nm : Str} (T : Told CB H w r L i0 nm) : L.length = (argN r).length := by rw [← T.nms, List.length_map]
theorem Told.nm_at {CB : Addr} {H : Hp} {w : Nat} {r : SRow} {L : List ARow} {i0 : Nat} {nm : Str} (T : Told CB H w r L i0 nm) : ((argN r)[i0]?).map (·.1) = some nm := by
  obtain ⟨e, he, _, en⟩ := T.bad
  rw [← T.nms, List.getElem?_map, he, ← en]
  rfl
theorem made_bad {eS : Addr} {c : CA} {H : Hp} {w : Nat} {r : SRow} {L : List ARow} {i0 : Nat} {nm : Str} {Q : VK} {E : XK} (T : Told c.B H w r L i0 nm) (q : ErrS eS nm H E) : MadeX eS c H Q E r.kd (L.map (·.x)) := by
  have ln := T.len
  obtain ⟨eb, hb, bad, en⟩ := T.bad
  have lt : i0 < L.length := (List.getElem?_eq_some_iff.mp hb).1
  have NA := T.nm_at
  cases r with
  | read v p l ms =>
    have lt : i0 < 4 := by rw [ln] at lt; exact lt
    obtain ⟨e0, e1, e2, e3, rfl⟩ : ∃ e0 e1 e2 e3, L = [e0, e1, e2, e3] := by
      match L, ln with
      | [e0, e1, e2, e3], _ => exact ⟨_, _, _, _, rfl⟩
    have r0 := T.row e0 (by simp)
    have r1 := T.row e1 (by simp)
    have r2 := T.row e2 (by simp)
    have r3 := T.row e3 (by simp)
    have f0 := fun h => T.fst 0 e0 h rfl
    have f1 := fun h => T.fst 1 e1 h rfl
    have f2 := fun h => T.fst 2 e2 h rfl
    obtain ⟨o1, o2, o3, o4⟩ := T.ok
    obtain ⟨t0, b0, m0, g0, d0⟩ := pos_kd (t0 := .sc (.str v)) .letter (T.pos 0 e0 rfl) rfl (by decide) (fun _ _ _ _ _ _ _ _ z => by cases z) rfl (sm_str (varB_len o1)) (fun z => by cases z)
    obtain ⟨t1, b1, m1, g1, d1⟩ := pos_kd (t0 := .sc (.str p)) .name (T.pos 1 e1 rfl) rfl (by decide) (fun _ _ _ _ _ _ _ _ z => by cases z) rfl (sm_str (nms_len o2)) (fun z => by cases z)
    obtain ⟨t2, b2, m2, g2, d2⟩ := pos_kd (t0 := .sc (.str l)) .part (T.pos 2 e2 rfl) rfl (by decide) (fun _ _ _ _ _ _ _ _ z => by cases z) rfl (sm_str (lns_len _ o3)) (fun z => by cases z)
    obtain ⟨ts, b3, m3, l3, g3, d3⟩ := pos_means (ms := ms) (T.pos 3 e3 rfl) rfl (by decide) (fun _ _ _ _ _ _ _ _ z => by cases z) rfl o4
    rw [b0] at r0
    rw [b1] at r1
    rw [b2] at r2
    rw [b3] at r3
    obtain ⟨m, vs, ex, em, al⟩ := trl_at (show TrAt H e3.x (.lst ts) from r3)
    have RB := read_bad T.ok (t0 := t0) (t1 := t1) (t2 := t2) (ts := ts)
    have res : readres t0 t1 t2 ts = .err nm := by
      rcases nat_four lt with rfl | rfl | rfl | rfl
      · cases hb
        cases NA
        exact RB.1 (d0 bad)
      · cases hb
        cases NA
        rw [g0 (f0 (by decide))]
        exact RB.2.1 (d1 bad)
      · cases hb
        cases NA
        rw [g0 (f0 (by decide)), g1 (f1 (by decide))]
        exact RB.2.2.1 (d2 bad)
      · cases hb
        cases NA
        rw [g0 (f0 (by decide)), g1 (f1 (by decide)), g2 (f2 (by decide))]
        exact RB.2.2.2 (d3 bad)
    show MadeX eS c H Q E "read" [e0.x, e1.x, e2.x, e3.x]
    rw [ex]
    exact .read em r0 r1 r2 m0 m1 m2 al m3 (by rw [al.len]; omega) (readP_err res q)
  | write p l v s k f ms =>
    have lt : i0 < 5 := by rw [ln] at lt; exact lt
    obtain ⟨e0, e1, e2, e3, e4, rfl⟩ : ∃ e0 e1 e2 e3 e4, L = [e0, e1, e2, e3, e4] := by
      match L, ln with
      | [e0, e1, e2, e3, e4], _ => exact ⟨_, _, _, _, _, rfl⟩
    have r0 := T.row e0 (by simp)
    have r1 := T.row e1 (by simp)
    have r2 := T.row e2 (by simp)
    have r3 := T.row e3 (by simp)
    have r4 := T.row e4 (by simp)
    have f0 := fun h => T.fst 0 e0 h rfl
    have f1 := fun h => T.fst 1 e1 h rfl
    have f2 := fun h => T.fst 2 e2 h rfl
    have f3 := fun h => T.fst 3 e3 h rfl
    obtain ⟨o1, o2, o3, o4, o5⟩ := T.ok
    obtain ⟨t0, b0, m0, g0, d0⟩ := pos_kd (t0 := .sc (.str p)) .name (T.pos 0 e0 rfl) rfl (by decide) (fun z => absurd z (by decide)) rfl (sm_str (nms_len o1)) (fun z => by cases z)
    obtain ⟨t1, b1, m1, g1, d1⟩ := pos_kd (t0 := .sc (.str l)) .part (T.pos 1 e1 rfl) rfl (by decide) (fun z => absurd z (by decide)) rfl (sm_str (lns_len _ o2)) (fun z => by cases z)
    obtain ⟨g2, d2⟩ := pos_blend (b0 := .bl w s k f) (T.pos 2 e2 rfl) rfl (by decide) (fun z => absurd z (by decide)) rfl
    obtain ⟨ts, b3, m3, l3, g3, d3⟩ := pos_means (ms := ms) (T.pos 3 e3 rfl) rfl (by decide) (fun z => absurd z (by decide)) rfl o3
    obtain ⟨t4, b4, m4, g4, d4⟩ := pos_var (T.pos 4 e4 rfl) o4
    rw [b0] at r0
    rw [b1] at r1
    rw [b3] at r3
    rw [b4] at r4
    obtain ⟨m, vs, ex, em, al⟩ := trl_at (show TrAt H e3.x (.lst ts) from r3)
    have RB := write_bad T.ok (t0 := t0) (t1 := t1) (tb := e2.b) (ts := ts) (t4 := t4) (by unfold meansOk; rw [means_msk o3]; rfl)
    have res : writeres t0 t1 e2.b ts t4 = .err nm := by
      rcases nat_five lt with rfl | rfl | rfl | rfl | rfl
      · cases hb
        cases NA
        exact RB.1 (d0 bad)
      · cases hb
        cases NA
        rw [g0 (f0 (by decide))]
        exact RB.2.1 (d1 bad)
      · cases hb
        cases NA
        rw [g0 (f0 (by decide)), g1 (f1 (by decide))]
        exact RB.2.2.1 (d2 bad)
      · cases hb
        cases NA
        rw [g0 (f0 (by decide)), g1 (f1 (by decide)), g2 (f2 (by decide))]
        exact RB.2.2.2.1 (d3 bad)
      · cases hb
        cases NA
        rw [g0 (f0 (by decide)), g1 (f1 (by decide)), g2 (f2 (by decide)), g3 (f3 (by decide))]
        exact RB.2.2.2.2 (d4 bad)
    show MadeX eS c H Q E "write" [e0.x, e1.x, e2.x, e3.x, e4.x]
    rw [ex]
    exact .write em r0 r1 r2 r4 m0 m1 m4 al m3 (by rw [al.len]; omega) (writeP_err res q)
  | serve v n =>
    have lt : i0 < 2 := by rw [ln] at lt; exact lt
    obtain ⟨e0, e1, rfl⟩ : ∃ e0 e1, L = [e0, e1] := by
      match L, ln with
      | [e0, e1], _ => exact ⟨_, _, rfl⟩
    have r0 := T.row e0 (by simp)
    have r1 := T.row e1 (by simp)
    have f0 := fun h => T.fst 0 e0 h rfl
    obtain ⟨o1, o2⟩ := T.ok
    obtain ⟨t0, b0, m0, g0, d0⟩ := pos_kd (t0 := .sc (.str v)) .letter (T.pos 0 e0 rfl) rfl (by decide) (fun _ _ _ _ _ _ _ _ z => by cases z) rfl (sm_str (varB_len o1)) (fun z => by cases z)
    obtain ⟨t1, b1, m1, g1, d1⟩ := pos_kd (t0 := .sc (.int n)) .ones (T.pos 1 e1 rfl) rfl (by decide) (fun _ _ _ _ _ _ _ _ z => by cases z) rfl (.sc _ fun x e => by cases e) (fun z => by cases z)
    rw [b0] at r0
    rw [b1] at r1
    have RB := serve_bad T.ok (t0 := t0) (t1 := t1)
    have res : serveres t0 t1 = .err nm := by
      rcases nat_two lt with rfl | rfl
      · cases hb
        cases NA
        exact RB.1 (d0 bad)
      · cases hb
        cases NA
        rw [g0 (f0 (by decide))]
        exact RB.2 (d1 bad)
    exact .serve r0 r1 m0 (serveP_err res q)
  | pair x y z =>
    have lt : i0 < 3 := by rw [ln] at lt; exact lt
    obtain ⟨e0, e1, e2, rfl⟩ : ∃ e0 e1 e2, L = [e0, e1, e2] := by
      match L, ln with
      | [e0, e1, e2], _ => exact ⟨_, _, _, rfl⟩
    have r0 := T.row e0 (by simp)
    have r1 := T.row e1 (by simp)
    have r2 := T.row e2 (by simp)
    have f0 := fun h => T.fst 0 e0 h rfl
    have f1 := fun h => T.fst 1 e1 h rfl
    obtain ⟨o1, o2, o3, o4⟩ := T.ok
    obtain ⟨t0, b0, m0, g0, d0⟩ := pos_kd (t0 := .sc (.str x)) .letter (T.pos 0 e0 rfl) rfl (by decide) (fun _ _ _ _ _ _ _ _ z => by cases z) rfl (sm_str (varB_len o1)) (fun z => by cases z)
    obtain ⟨t1, b1, m1, g1, d1⟩ := pos_second (T.pos 1 e1 rfl) o1 o2
    obtain ⟨t2, b2, m2, g2, d2⟩ := pos_kd (t0 := .sc (.str z)) .name (T.pos 2 e2 rfl) rfl (by decide) (fun _ _ _ _ _ _ _ _ z => by cases z) rfl (sm_str (nms_len o4)) (fun z => by cases z)
    rw [b0] at r0
    rw [b1] at r1
    rw [b2] at r2
    have RB := pair_bad T.ok (t0 := t0) (t1 := t1) (t2 := t2)
    have res : pairres t0 t1 t2 = .err nm := by
      rcases nat_three lt with rfl | rfl | rfl
      · cases hb
        cases NA
        exact RB.1 (d0 bad)
      · cases hb
        cases NA
        rw [g0 (f0 (by decide))]
        rcases d1 bad with h | h
        · exact RB.2.1 h
        · rw [h]; exact RB.2.2.1
      · cases hb
        cases NA
        rw [g0 (f0 (by decide)), g1 (f1 (by decide))]
        exact RB.2.2.2 (d2 bad)
    exact .pair r0 r1 r2 m0 m1 m2 (pairP_err res q)
/-- the right arguments -/
theorem made_right {eS : Addr} {c : CA} {H : Hp} {w : Nat} {r : SRow} {L : List ARow} {Q : VK} {E : XK} (ok : r.Ok w) (row : ∀ e ∈ L, BaAt c.B H e.x e.b) (vals : L.map (·.b) = argV w r) (q : ∀ p H', StpAt c H' p (r.stp w) → Same H H' → Q (.ref p) H') : MadeX eS c H Q E r.kd (L.map (·.x)) := by
  cases r with
  | read v p l ms =>
    obtain ⟨e0, e1, e2, e3, rfl⟩ : ∃ e0 e1 e2 e3, L = [e0, e1, e2, e3] := by
      match L, congrArg List.length vals with
      | [e0, e1, e2, e3], _ => exact ⟨_, _, _, _, rfl⟩
    have r0 := row e0 (by simp)
    have r1 := row e1 (by simp)
    have r2 := row e2 (by simp)
    have r3 := row e3 (by simp)
    have b0 : e0.b = _ := List.head_eq_of_cons_eq vals
    have v1 := List.tail_eq_of_cons_eq vals
    have b1 : e1.b = _ := List.head_eq_of_cons_eq v1
    have v2 := List.tail_eq_of_cons_eq v1
    have b2 : e2.b = _ := List.head_eq_of_cons_eq v2
    have v3 := List.tail_eq_of_cons_eq v2
    have b3 : e3.b = _ := List.head_eq_of_cons_eq v3
    rw [b0] at r0
    rw [b1] at r1
    rw [b2] at r2
    rw [b3] at r3
    obtain ⟨m, vs, ex, em, al⟩ := trl_at (show TrAt H e3.x (.lst _) from r3)
    obtain ⟨o1, o2, o3, o4⟩ := ok
    have x0 : e0.x = .str v := by generalize e0.x = y at r0; cases (show TrAt H y (.sc (.str v)) from r0); rfl
    have x1 : e1.x = .str p := by generalize e1.x = y at r1; cases (show TrAt H y (.sc (.str p)) from r1); rfl
    have x2 : e2.x = .str l := by generalize e2.x = y at r2; cases (show TrAt H y (.sc (.str l)) from r2); rfl
    show MadeX eS c H Q E "read" [e0.x, e1.x, e2.x, e3.x]
    rw [ex, x0, x1, x2]
    exact .read em (.sc (.str v)) (.sc (.str p)) (.sc (.str l)) (sm_str (varB_len o1)) (sm_str (nms_len o2)) (sm_str (lns_len _ o3)) al (sm_strs o4.1) (by rw [al.len, List.length_map]; have := o4.2.2; omega) (readP_of ⟨o1, o2, o3, o4⟩ q)
  | write p l v s k f ms =>
    obtain ⟨e0, e1, e2, e3, e4, rfl⟩ : ∃ e0 e1 e2 e3 e4, L = [e0, e1, e2, e3, e4] := by
      match L, congrArg List.length vals with
      | [e0, e1, e2, e3, e4], _ => exact ⟨_, _, _, _, _, rfl⟩
    have r0 := row e0 (by simp)
    have r1 := row e1 (by simp)
    have r2 := row e2 (by simp)
    have r3 := row e3 (by simp)
    have r4 := row e4 (by simp)
    have b0 : e0.b = _ := List.head_eq_of_cons_eq vals
    have v1 := List.tail_eq_of_cons_eq vals
    have b1 : e1.b = _ := List.head_eq_of_cons_eq v1
    have v2 := List.tail_eq_of_cons_eq v1
    have b2 : e2.b = _ := List.head_eq_of_cons_eq v2
    have v3 := List.tail_eq_of_cons_eq v2
    have b3 : e3.b = _ := List.head_eq_of_cons_eq v3
    have v4 := List.tail_eq_of_cons_eq v3
    have b4 : e4.b = _ := List.head_eq_of_cons_eq v4
    rw [b0] at r0
    rw [b1] at r1
    rw [b2] at r2
    rw [b3] at r3
    rw [b4] at r4
    obtain ⟨m, vs, ex, em, al⟩ := trl_at (show TrAt H e3.x (.lst _) from r3)
    obtain ⟨o1, o2, o3, o4, o5, o6⟩ := ok
    show MadeX eS c H Q E "write" [e0.x, e1.x, e2.x, e3.x, e4.x]
    rw [ex]
    exact .write em r0 r1 r2 r4 (sm_str (nms_len o1)) (sm_str (lns_len _ o2)) (trO_sm o4) al (sm_strs o3.1) (by rw [al.len, List.length_map]; have := o3.2.2; omega) (writeP_of o1 o2 o3 o4 o5 q)
  | serve v n =>
    obtain ⟨e0, e1, rfl⟩ : ∃ e0 e1, L = [e0, e1] := by
      match L, congrArg List.length vals with
      | [e0, e1], _ => exact ⟨_, _, rfl⟩
    have r0 := row e0 (by simp)
    have r1 := row e1 (by simp)
    have b0 : e0.b = _ := List.head_eq_of_cons_eq vals
    have v1 := List.tail_eq_of_cons_eq vals
    have b1 : e1.b = _ := List.head_eq_of_cons_eq v1
    rw [b0] at r0
    rw [b1] at r1
    exact .serve r0 r1 (sm_str (varB_len ok.1)) (serveP_of ok q)
  | pair x y z =>
    obtain ⟨e0, e1, e2, rfl⟩ : ∃ e0 e1 e2, L = [e0, e1, e2] := by
      match L, congrArg List.length vals with
      | [e0, e1, e2], _ => exact ⟨_, _, _, rfl⟩
    have r0 := row e0 (by simp)
    have r1 := row e1 (by simp)
    have r2 := row e2 (by simp)
    have b0 : e0.b = _ := List.head_eq_of_cons_eq vals
    have v1 := List.tail_eq_of_cons_eq vals
    have b1 : e1.b = _ := List.head_eq_of_cons_eq v1
    have v2 := List.tail_eq_of_cons_eq v1
    have b2 : e2.b = _ := List.head_eq_of_cons_eq v2
    rw [b0] at r0
    rw [b1] at r1
    rw [b2] at r2
    obtain ⟨o1, o2, o3, o4⟩ := ok
    exact .pair r0 r1 r2 (sm_str (varB_len o1)) (sm_str (varB_len o2)) (sm_str (nms_len o4)) (pairP_of ⟨o1, o2, o3, o4⟩ q)
/-! ### what can be shown of them -/
structure FtT (t : Tr) : Prop where
  ok : PyData.showable (KLm.trD t) = true
  deep : (KLm.trD t).depth ≤ 20
  sz : (KLm.trD t).shown.length ≤ 20000
theorem ft_of {t : Tr} (h : fitT t = true) : FtT t := by
  unfold fitT at h
  simp only [Bool.and_eq_true, decide_eq_true_eq] at h
  exact ⟨h.1.1.2, Nat.le_trans h.1.2 (by decide), Nat.le_trans h.2 (by decide)⟩
theorem fts {n d k : Nat} : ∀ {ts : List Tr}, (∀ t ∈ ts, PyData.showable (KLm.trD t) = true ∧ (KLm.trD t).depth ≤ d ∧ (KLm.trD t).shown.length ≤ k) → ts.length ≤ n →
    PyData.showableAll (KLm.trDs ts) = true ∧ PyData.depthAll (KLm.trDs ts) ≤ d ∧ ((PyData.shownAll (KLm.trDs ts)).map (·.length)).sum ≤ k * ts.length ∧ (PyData.shownAll (KLm.trDs ts)).length = ts.length
  | [], _, _ => by
    simp only [KLm.trDs, PyData.showableAll, PyData.depthAll, PyData.shownAll]
    exact ⟨trivial, Nat.zero_le _, Nat.le_refl _, rfl⟩
  | t :: ts, h, l => by
    obtain ⟨a1, a2, a3, a4⟩ := fts (n := n) (fun u m => h u (List.mem_cons_of_mem _ m)) (Nat.le_of_succ_le l)
    obtain ⟨b1, b2, b3⟩ := h t List.mem_cons_self
    simp only [KLm.trDs, PyData.showableAll, PyData.depthAll, PyData.shownAll, List.map_cons, List.sum_cons, List.length_cons, Bool.and_eq_true]
    refine ⟨⟨b1, a1⟩, Nat.max_le.mpr ⟨b2, a2⟩, ?_, by rw [a4]⟩
    rw [Nat.mul_add]
    omega
theorem ft_lst {ts : List Tr} (h : ∀ t ∈ ts, fitT t = true) (l : ts.length ≤ 11) : FtT (.lst ts) := by
  obtain ⟨a1, a2, a3, a4⟩ := fts (n := 11) (d := 10) (k := 1000) (ts := ts) (fun t m => by
    have := h t m
    unfold fitT at this
    simp only [Bool.and_eq_true, decide_eq_true_eq] at this
    exact ⟨this.1.1.2, this.1.2, this.2⟩) l
  have b := listText_len_le (PyData.shownAll (KLm.trDs ts))
  refine ⟨?_, ?_, ?_⟩ <;> simp only [KLm.trD, PyData.showable, PyData.depth, PyData.shown]
  · exact a1
  · omega
  · rw [a4] at b
    omega
theorem fitA_of {ts : List Tr} (h : ∀ t ∈ ts, FtT t) (l : ts.length ≤ 5) : KLm.FitA ts := by
  obtain ⟨a1, a2, a3, a4⟩ := fts (n := 5) (d := 20) (k := 20000) (ts := ts) (fun t m => ⟨(h t m).ok, (h t m).deep, (h t m).sz⟩) l
  have b := listText_len_le (PyData.shownAll (KLm.trDs ts))
  refine ⟨a1, ?_, ?_⟩ <;> simp only [PyData.depth, PyData.shown]
  · omega
  · rw [a4] at b
    rw [sizeLine_eq]; omega


section
variable {P : Program} {w : World} {K : PySem.W.Frag} {mg : Str → Option Value} {base : Heap}

end
end K35


namespace K35
open PySem L2 KB KO KY KV KTr
/-! ### a refusal -/
abbrev qR : Str := "_law_refused.<locals>.<lambda>"
abbrev qP : Str := "_law_plain_refused.<locals>.<lambda>"
abbrev TT2 (PR PP : Addr) : List (Addr × Str) := [(PR, qR), (PP, qP)]
theorem uniqR {PR PP : Addr} (h : PR ≠ PP) : ∀ p ∈ TT2 PR PP, p.1 = PR → p.2 = qR := fun p hp e => by
  simp only [TT2, List.mem_cons, List.not_mem_nil, or_false] at hp
  rcases hp with rfl | rfl
  · rfl
  · exact absurd e.symm h
theorem uniqP {PR PP : Addr} (h : PR ≠ PP) : ∀ p ∈ TT2 PR PP, p.1 = PP → p.2 = qP := fun p hp e => by
  simp only [TT2, List.mem_cons, List.not_mem_nil, or_false] at hp
  rcases hp with rfl | rfl
  · exact absurd e h
  · rfl
def lamM (K : PySem.W.Frag) (eS : Addr) (c : CA) : XK → TE := fun E => tCall (spMadeX eS c) [] E (tCons (tOp (rIxL K) (tVar 2) (tC (.int 0))) (tCons (tVar 8) tNil))
structure HeardC (K : PySem.W.Frag) (mg : Str → Option Value) : Prop where
  ex : ∃ (g : Addr) (oc kV doc pm cdg ct : Value) (od an : Option Addr) (osl : Array (Option Value)), mg "_law_heard" = some (.ref g) ∧ PySem.W.keepIn K (.ref g) = true ∧
    K.lookup g = some ⟨oc, od, .func (PySem.W.fnOf "_law_heard" "_law_heard" (defArgs s__law_heard) (defBody s__law_heard) (defScope s__law_heard) .none kV doc pm an cdg ct), osl⟩ ∧ PySem.W.codeIn K cdg "_law_heard" = true ∧
    L2.Binds K (PySem.W.fnOf "_law_heard" "_law_heard" (defArgs s__law_heard) (defBody s__law_heard) (defScope s__law_heard) .none kV doc pm an cdg ct) ["_law_ask"] []
/-- without tables of code -/
def noT (H : Hp) : Hp := fun b => match H b with
  | some (.tbl _) => none
  | o => o
theorem noT_get {H : Hp} {b : Addr} {o : HO} (h : noT H b = some o) : H b = some o ∧ ∀ ps, o ≠ .tbl ps := by
  unfold noT at h
  split at h
  · cases h
  · rename_i n
    exact ⟨h, fun ps e => n ps (by rw [h, e])⟩
theorem noT_of {H : Hp} {b : Addr} {o : HO} (h : H b = some o) (n : ∀ ps, o ≠ .tbl ps) : noT H b = some o := by
  unfold noT
  split
  · rename_i ps e
    rw [h] at e
    exact absurd (Option.some.inj e) (n ps)
  · exact h
theorem noT_same {H : Hp} : Same (noT H) H := fun _ _ e => (noT_get e).1
mutual
theorem TrAt.noT {H : Hp} : ∀ (t : Tr) (v : V), TrAt H v t → TrAt (noT H) v t
  | .sc x, _, h => by cases h; exact .sc x
  | .tup l, _, h => by cases h with | tup h r => exact .tup (noT_of h (fun _ z => by cases z)) (TrsAt.noT l _ r)
  | .lst l, _, h => by cases h with | lst h r => exact .lst (noT_of h (fun _ z => by cases z)) (TrsAt.noT l _ r)
  | .dct l, _, h => by cases h with | dct h => exact .dct (noT_of h (fun _ z => by cases z))
theorem TrsAt.noT {H : Hp} : ∀ (l : List Tr) (xs : List V), TrsAt H xs l → TrsAt (noT H) xs l
  | [], _, h => by cases h; exact .nil
  | t :: l, _, h => by cases h with | cons h r => exact .cons (TrAt.noT t _ h) (TrsAt.noT l _ r)
end
theorem BaAt.noT {CB : Addr} {H : Hp} {x : V} {b : Ba} (h : BaAt CB H x b) : BaAt CB (noT H) x b := by
  cases b with
  | bl w s k f =>
    obtain ⟨p, e, n, dx, g⟩ := h
    exact ⟨p, e, n, dx, noT_of g fun _ z => by cases z⟩
  | tr t => exact TrAt.noT t _ h
theorem SRowAt.noT {H : Hp} {a : Addr} {r : SRow} (h : SRowAt H a r) : SRowAt (noT H) a r := by
  cases r with
  | read => obtain ⟨m, e, g⟩ := h; exact ⟨m, noT_of e (fun _ z => by cases z), noT_of g (fun _ z => by cases z)⟩
  | write => obtain ⟨m, e, g⟩ := h; exact ⟨m, noT_of e (fun _ z => by cases z), noT_of g (fun _ z => by cases z)⟩
  | serve => exact noT_of h (fun _ z => by cases z)
  | pair => exact noT_of h (fun _ z => by cases z)
theorem ArgsAt.noT {CB : Addr} {H : Hp} {D : Addr} {L : List ARow} (h : ArgsAt CB H D L) : ArgsAt CB (noT H) D L :=
  ⟨noT_of h.d (fun _ z => by cases z), fun e m => ⟨noT_of (h.row e m).1 (fun _ z => by cases z), (h.row e m).2.1.noT, (h.row e m).2.2⟩, h.sep, h.nd, h.dn⟩
theorem ArgsAt.up {CB : Addr} {H H' : Hp} {D : Addr} {L : List ARow} (h : ArgsAt CB H D L) (s : Same H H') : ArgsAt CB H' D L :=
  ⟨s _ _ h.d, fun e m => ⟨s _ _ (h.row e m).1, (h.row e m).2.1.up s, (h.row e m).2.2⟩, h.sep, h.nd, h.dn⟩
/-- the pen stands nowhere in a row -/
theorem SRowAt.keep {H H' : Hp} {a pen pc : Addr} {k : Nat} {r : SRow} (h : SRowAt H a r) (pn : PenC H pen pc k) (s : Keep pen H H') : SRowAt H' a r := by
  obtain ⟨ns, at_, left, h1, _⟩ := pn
  have nl : ∀ (m : Addr) (ms : List Str), H m = some (.lst (ms.map V.str)) → m ≠ pen := fun m ms e z => by
    rw [z, h1] at e
    cases ms <;> cases e
  have na : ∀ (z : Str) (xs : List V), H a = some (.lst (.str z :: xs)) → a ≠ pen := fun z xs e q => by
    rw [q, h1] at e
    cases e
  cases r with
  | read => obtain ⟨m, e, g⟩ := h; exact ⟨m, s _ _ e (na _ _ e), s _ _ g (nl _ _ g)⟩
  | write => obtain ⟨m, e, g⟩ := h; exact ⟨m, s _ _ e (na _ _ e), s _ _ g (nl _ _ g)⟩
  | serve => exact s _ _ h (na _ _ h)
  | pair => exact s _ _ h (na _ _ h)
/-- without the pen -/
def hidA (H : Hp) (D : Addr) : Hp := fun a => if a = D then none else H a
theorem hidA_get {H : Hp} {D a : Addr} {o : HO} (h : hidA H D a = some o) : H a = some o ∧ a ≠ D := by
  unfold hidA at h
  split at h
  · cases h
  · rename_i n; exact ⟨h, n⟩
theorem keep_hide {H : Hp} {p : Addr} : Keep p H (hidA H p) := fun b o e n => by
  unfold hidA
  rw [if_neg n]
  exact e
structure TxtR (K : PySem.W.Frag) (mg : Str → Option Value) (aL : Addr) (c : CA) : Prop extends TxtKd K mg aL c where
  z_set : mg "set" = none
theorem tabs_keep {T : List (Addr × Str)} {H H' : Hp} {q : Addr} {xs : List V} (t : LamX.Tabs T H) (k : Keep q H H') (hq : H q = some (.lst xs)) : LamX.Tabs T H' :=
  KL.tabs_to t fun b o e n => k b o e (fun z => by rw [z, hq] at e; exact n xs (Option.some.inj e).symm)
theorem pair_take {α : Type} {R : α → α → Prop} : ∀ {l : List α} {i : Nat} {x y : α}, l.Pairwise R → x ∈ l.take i → l[i]? = some y → R x y
  | [], _, _, _, _, m, _ => by simp at m
  | a :: l, 0, _, _, _, m, _ => by simp at m
  | a :: l, i + 1, x, y, p, m, e => by
    rw [List.take_succ_cons, List.mem_cons] at m
    rw [List.getElem?_cons_succ] at e
    rcases m with rfl | m
    · exact (List.pairwise_cons.mp p).1 y (List.mem_of_getElem? e)
    · exact pair_take (List.pairwise_cons.mp p).2 m e
def spRefused (T : List (Addr × Str)) : Sp := fun vs H Q _ => ∃ (pen pc a : Addr) (w k : Nat) (kv : V) (r : SRow), vs = [.ref pen, kv, .ref a, .int w] ∧ W3 w ∧ SRowAt H a r ∧ r.Ok w ∧ LamX.Tabs T H ∧ PenC H pen pc (k + 20) ∧ ∀ H', LamX.Tabs T H' → PenC H' pen pc k → Q (.bl true) H'
/-- the trees among the arguments -/
def treesOf : List ARow → List Tr
  | [] => []
  | e :: L => match e.b with
    | .tr t => t :: treesOf L
    | .bl .. => treesOf L
theorem trees_at {CB : Addr} {H : Hp} : ∀ {L : List ARow}, (∀ e ∈ L, BaAt CB H e.x e.b) → TrsAt H ((L.filter fun e => !e.b.isB).map (·.x)) (treesOf L)
  | [], _ => .nil
  | e :: L, h => by
    have h0 := h e List.mem_cons_self
    have ih := trees_at (L := L) fun u m => h u (List.mem_cons_of_mem _ m)
    rw [List.filter_cons]
    unfold treesOf
    cases eb : e.b with
    | bl w s k f => simpa [Ba.isB, eb] using ih
    | tr t =>
      rw [eb] at h0
      simpa [Ba.isB, eb] using TrsAt.cons h0 ih
theorem trees_len : ∀ L : List ARow, (treesOf L).length ≤ L.length
  | [] => Nat.le_refl _
  | e :: L => by
    unfold treesOf
    have ih := trees_len L
    cases e.b with
    | bl w s k f => simp only [List.length_cons]; omega
    | tr t => simp only [List.length_cons]; omega
theorem trees_mem : ∀ {L : List ARow} {t : Tr}, t ∈ treesOf L → ∃ (j : Nat) (e : ARow), L[j]? = some e ∧ e.b = .tr t
  | [], _, m => by cases m
  | e :: L, t, m => by
    unfold treesOf at m
    cases eb : e.b with
    | bl w s k f =>
      rw [eb] at m
      obtain ⟨j, u, hu, h⟩ := trees_mem m
      exact ⟨j + 1, u, hu, h⟩
    | tr t' =>
      rw [eb] at m
      rcases List.mem_cons.mp m with rfl | m
      · exact ⟨0, e, rfl, eb⟩
      · obtain ⟨j, u, hu, h⟩ := trees_mem m
        exact ⟨j + 1, u, hu, h⟩
theorem pos_ft {w : Nat} {r : SRow} {j : Nat} {t : Tr} (ok : r.Ok w) (h : Pos w r j (.tr t)) : FtT t := by
  rcases h with h | h
  · have fn : ∀ z : Str, NmS z → FtT (.sc (.str z)) := fun z h => ft_of (fit_str h.ok (nms_len h))
    have fv : ∀ z : Str, varB z = true → FtT (.sc (.str z)) := fun z h => ft_of (fit_str (varB_ok h) (varB_len h))
    have fl : ∀ z ∈ LNS, FtT (.sc (.str z)) := fun z h => ft_of (fit_str (lns_ok z h) (lns_len z h))
    have fm : ∀ ms, Msk ms → FtT (meansT ms) := fun ms h => ft_lst (fun t m => by
      obtain ⟨z, hz, rfl⟩ := List.mem_map.mp m
      exact fit_str (h.1 z hz).ok (nms_len (h.1 z hz))) (by rw [List.length_map]; exact Nat.le_trans h.2.2 (by decide))
    cases r with
    | read v p l ms =>
      obtain ⟨o1, o2, o3, o4⟩ := ok
      match j, h with
      | 0, h => cases h; exact fv _ o1
      | 1, h => cases h; exact fn _ o2
      | 2, h => cases h; exact fl _ o3
      | 3, h => cases h; exact fm _ o4
    | write p l v s k f ms =>
      obtain ⟨o1, o2, o3, o4, o5⟩ := ok
      match j, h with
      | 0, h => cases h; exact fn _ o1
      | 1, h => cases h; exact fl _ o2
      | 3, h => cases h; exact fm _ o3
      | 4, h =>
        cases h
        cases v with
        | none => exact ft_of (by decide +kernel)
        | some z => exact fv z (o4 z rfl)
    | serve v m =>
      match j, h with
      | 0, h => cases h; exact fv _ ok.1
      | 1, h =>
        cases h
        have sm : m.natAbs < 10 ^ 12 := by have := ok.2; omega
        refine ⟨?_, ?_, ?_⟩
        · show PyData.showable (.int m) = true
          simp only [PyData.showable]
          refine decide_eq_true ?_
          by_cases z : m.natAbs = 0
          · rw [z]; decide
          · exact (Nat.log2_lt z).mpr (Nat.lt_trans sm (by decide))
        · show PyData.depth (.int m) ≤ 20
          simp only [PyData.depth]
          decide
        · show (PyData.shown (.int m)).length ≤ 20000
          simp only [PyData.shown]
          exact Nat.le_trans (int_len sm) (by decide)
    | pair x y z =>
      obtain ⟨o1, o2, o3, o4⟩ := ok
      match j, h with
      | 0, h => cases h; exact fv _ o1
      | 1, h => cases h; exact fv _ o2
      | 2, h => cases h; exact fn _ o4
  · cases h with
    | wrong kd h nw wt => exact ft_of wt.fit
    | means h mo sm ln => exact ft_lst (fun t m => (sm t m).2.2) ln
    | second => exact ft_of (fit_str (varB_ok ok.1) (varB_len ok.1))
    | var bad sm st fit => exact ft_of fit
theorem pos0_tr {w : Nat} {r : SRow} {b : Ba} (h : Pos w r 0 b) : ∃ t, b = .tr t := by
  rcases h with h | h
  · cases r <;> (cases h; exact ⟨_, rfl⟩)
  · cases h <;> exact ⟨_, rfl⟩
theorem trees_ne {L : List ARow} {e : ARow} {t : Tr} (h : L[0]? = some e) (eb : e.b = .tr t) : treesOf L ≠ [] := by
  cases L with
  | nil => cases h
  | cons u L =>
    cases h
    unfold treesOf
    rw [eb]
    exact fun z => by cases z
theorem row_kd {H : Hp} {a : Addr} {r : SRow} (h : SRowAt H a r) : ∃ xs, H a = some (.lst (V.str r.kd :: xs)) := by
  cases r with
  | read => obtain ⟨m, e, _⟩ := h; exact ⟨_, e⟩
  | write => obtain ⟨m, e, _⟩ := h; exact ⟨_, e⟩
  | serve => exact ⟨_, h⟩
  | pair => exact ⟨_, h⟩
theorem PenC.noT {H : Hp} {pen pc : Addr} {k : Nat} (h : PenC H pen pc k) : PenC (noT H) pen pc k := by
  obtain ⟨ns, at_, left, h1, h2, h3⟩ := h
  exact ⟨ns, at_, left, noT_of h1 (fun _ z => by cases z), noT_of h2 (fun _ z => by cases z), h3⟩
theorem least2 : ∀ {ns : List Int}, ns ≠ [] → ns.length ≤ 2 → ∃ m ∈ ns, ∀ y ∈ ns, m ≤ y
  | [], h, _ => absurd rfl h
  | [x], _, _ => ⟨x, by simp, by simp⟩
  | [x, y], _, _ => by
    rcases Int.le_total x y with h | h
    · exact ⟨x, by simp, by simp [h]⟩
    · exact ⟨y, by simp, by simp [h]⟩
  | _ :: _ :: _ :: _, _, h => absurd h (by simp)


section
variable {P : Program} {w : World} {K : PySem.W.Frag} {mg : Str → Option Value} {base : Heap}
theorem ok_refused {f eS aL cL PR PP CB : Addr} {c : CA} {ce : Nat → Addr} {oc kV dc pm ct : Value} {od an : Option Addr} {sl : Array (Option Value)} (look : K.lookup f = some ⟨oc, od, .func (PySem.W.fnOf "_law_refused" "_law_refused" (defArgs s__law_refused) (defBody s__law_refused) (defScope s__law_refused) .none kV dc pm an (.ref cL) ct), sl⟩) (code : PySem.W.codeIn K (.ref cL) "_law_refused" = true)
    (T : TxtR K mg aL c) (TE : TxtE K mg CB eS ce) (HC : HeardC K mg) (TB : LamX.TabB base mg cL PR) (ap : PR ≠ PP) (SO : StpOps P w K mg base c)
    (c__law_arguments : KB.Callee P w K mg base CX0 8 "_law_arguments" ["_law_step", "_law_width"] (spArgs c)) (c__law_draw : KB.Callee P w K mg base CX0 1 "_law_draw" ["_law_pen_here", "_law_many"] spDraw)
    (c__law_spoil : KB.Callee P w K mg base CX0 4 "_law_spoil" ["_law_pen_here", "_law_step", "_law_told", "_law_at"] (spSpoil c)) (c__law_made : KB.Callee P w K mg base (L2.CX P w) 8 "_law_made" ["_law_kind", "_law_told"] (spMadeX eS c))
    (c__law_made_step : KB.Callee P w K mg base CX0 8 "_law_made_step" ["_law_width", "_law_step"] (spMadeS c)) :
    KG.FnG P w K mg base CX0 12 f (PySem.W.fnOf "_law_refused" "_law_refused" (defArgs s__law_refused) (defBody s__law_refused) (defScope s__law_refused) .none kV dc pm an (.ref cL) ct) ["_law_pen_here", "_law_kind", "_law_step", "_law_width"] (spRefused (TT2 PR PP)) := by
  refine KG.fnG_body look code sc__law_refused (fun vs H Q E h => ?_) (fun A outer s H vs Q E hr fr h => ?_)
  · obtain ⟨pen, pc, a, w, k, kv, r, rfl, _⟩ := h
    rfl
  · obtain ⟨pen, pc, a, w', k, kv, r, rfl, w3, ra, ok, tb, pn, q⟩ := h
    obtain ⟨g, oc, kV, doc, pm, cdg, ct, od, an, osl, hmg, hkp, hlk, hcg, hbd⟩ := HC.ex
    have uR := uniqR (PP := PP) ap
    obtain ⟨t, drv, rdg⟩ : ∃ t, PSs (cxOf CX0 P w K mg base ["_law_pen_here", "_law_kind", "_law_step", "_law_width", "_law_right", "_law_told", "_law_spots", "_law_at", "_law_values", "_law_one", "_law_kept"] "_law_refused" (defScope s__law_refused) f (.ref cL) A outer s H E).nox (defBody s__law_refused) t ∧ t { nx := fun _ H' => Q .non H', rt := Q } (start ["_law_pen_here", "_law_kind", "_law_step", "_law_width", "_law_right", "_law_told", "_law_spots", "_law_at", "_law_values", "_law_one", "_law_kept"] [.ref pen, kv, .ref a, .int w']) H := by
      refine ⟨_, (pss_cons (ps_par (i := 4) (j := 5) (by rfl) sc__law_refused.nd rfl rfl (by decide) rfl rfl (pa_cons (pe_callC c__law_arguments (hr.mono (by decide)) (by rfl) pass0 (pa_cons (pv 2) (pa_cons (pv 3) pa_nil))) (pa_cons (pe_callC c__law_arguments (hr.mono (by decide)) (by rfl) pass0 (pa_cons (pv 2) (pa_cons (pv 3) pa_nil))) pa_nil)) (by rfl))
 (pss_cons (ps_set (i := 6) sc__law_refused.nd rfl (by first | exact Or.inl rfl | exact Or.inr rfl) (pe_slice sl_list (pe_lst (pa_cons (pe_callC c__law_draw (hr.mono (by decide)) (by rfl) pass0 (pa_cons (pv 0) (pa_cons (pe_callB call_len_seq (by rfl) T.z_len (by decide +kernel) (pa_cons (pv 5) pa_nil)) pa_nil))) (pa_cons (pe_callC c__law_draw (hr.mono (by decide)) (by rfl) pass0 (pa_cons (pv 0) (pa_cons (pe_callB call_len_seq (by rfl) T.z_len (by decide +kernel) (pa_cons (pv 5) pa_nil)) pa_nil))) pa_nil))) po_none (po_some (pe_op op_add pe_int (pe_callC c__law_draw (hr.mono (by decide)) (by rfl) pass0 (pa_cons (pv 0) (pa_cons pe_int pa_nil)))))))
 (pss_cons (ps_for PassesOwn.never rfl (pi_list (pe_revL (pe_callB (cr_sortedSet rfl) (by rfl) T.z_sorted (by decide +kernel) (pa_cons (pe_callTy (KT.cr_setOfI rfl) (by rfl) T.z_set (by decide +kernel) (pa_cons (pv 6) pa_nil)) pa_nil)))) (pg_name (i := 7) sc__law_refused.nd rfl (by first | exact Or.inl rfl | exact Or.inr rfl))
 (pss_one (ps_expr (pe_callC c__law_spoil (hr.mono (by decide)) (by rfl) pass0 (pa_cons (pv 0) (pa_cons (pv 2) (pa_cons (pv 5) (pa_cons (pv 7) pa_nil))))))))
 (pss_cons (ps_set (i := 8) sc__law_refused.nd rfl (by first | exact Or.inl rfl | exact Or.inr rfl) (pe_lc (own := [("_law_one", 9)]) (g := gName 9) (tt := tYes) (by rfl) sc__law_refused.nd (pi_list (pv 5)) (blkOk_by (own := [("_law_one", 9)]) (N := ["_law_pen_here", "_law_kind", "_law_step", "_law_width", "_law_right", "_law_told", "_law_spots", "_law_at", "_law_values", "_law_one", "_law_kept"]) (sc := defScope s__law_refused) (by decide +kernel)) (fun _ _ _ _ _ => (pg_name (i := 9) sc__law_refused.nd rfl (by first | exact Or.inl rfl | exact Or.inr rfl))) (fun _ _ _ _ _ => pts_nil) (fun _ _ _ _ _ => (pe_ix (KIx.ix_listW K rfl) (pv 9) pe_int (fun _ _ => rfl)))))
 (pss_cons (ps_set (i := 10) sc__law_refused.nd rfl (by first | exact Or.inl rfl | exact Or.inr rfl) (pe_callB (KLm.call_reprA fr hr) (by rfl) T.z_repr (by decide +kernel) (pa_cons (pe_slice sl_list (pe_lc (own := [("_law_one", 9)]) (g := gName 9) (by rfl) sc__law_refused.nd (pi_list (pv 8)) (blkOk_by (own := [("_law_one", 9)]) (N := ["_law_pen_here", "_law_kind", "_law_step", "_law_width", "_law_right", "_law_told", "_law_spots", "_law_at", "_law_values", "_law_one", "_law_kept"]) (sc := defScope s__law_refused) (by decide +kernel)) (fun _ _ _ _ _ => (pg_name (i := 9) sc__law_refused.nd rfl (by first | exact Or.inl rfl | exact Or.inr rfl))) (fun _ _ _ _ _ => (pts_one (pt_not (pt_val (pe_callB (KIx.call_isiW K rfl) (by rfl) T.z_isinstance (by decide +kernel) (pa_cons (pv 9) (pa_cons (pe_glob (v := .ref _) (by rfl) T.mg_Blend rfl) pa_nil))))))) (fun _ _ _ _ _ => (pv 9))) po_none (po_some pe_int)) pa_nil)))
 (pss_cons (ps_if (pt_cmpR op_ne (LamX.pe_lamcall (T := TT2 PR PP) (TT := TH eS) (k := 9) (t := lamM K eS c) (by rfl) hmg hkp hlk hcg hbd sc__law_heard rfl (Or.inl rfl) (heard_gives (k := 9) TE (hr.mono (by decide))) TB rfl (List.mem_cons_self ..) uR (hr.mono (by decide)) (LamX.lamS_by (sc := defScope s__law_refused) (by decide +kernel)) rfl (fun _ _ _ _ _ => rfl) (fun A1 o1 s1 H1 E1 f1 c1 hr1 => (pe_callC c__law_made (hr1.mono (by decide)) (by rfl) KL.lam_pass (pa_cons (pe_ix ix_list (pv 2) pe_int (fun _ _ => rfl)) (pa_cons (pv 8) pa_nil))))) (pe_ix ix_list (pe_ix ix_list (pv 5) (pe_callB (cr_min rfl) (by rfl) T.z_min (by decide +kernel) (pa_cons (pv 6) pa_nil)) (fun _ _ => rfl)) pe_int (fun _ _ => rfl)) (nomark _)) (pss_one (ps_ret pe_bl))
 pss_nil)
 (pss_cons (ps_if (pt_cmpR op_ne (pe_callB (KLm.call_reprA fr hr) (by rfl) T.z_repr (by decide +kernel) (pa_cons (pe_slice sl_list (pe_lc (own := [("_law_one", 9)]) (g := gName 9) (by rfl) sc__law_refused.nd (pi_list (pv 8)) (blkOk_by (own := [("_law_one", 9)]) (N := ["_law_pen_here", "_law_kind", "_law_step", "_law_width", "_law_right", "_law_told", "_law_spots", "_law_at", "_law_values", "_law_one", "_law_kept"]) (sc := defScope s__law_refused) (by decide +kernel)) (fun _ _ _ _ _ => (pg_name (i := 9) sc__law_refused.nd rfl (by first | exact Or.inl rfl | exact Or.inr rfl))) (fun _ _ _ _ _ => (pts_one (pt_not (pt_val (pe_callB (KIx.call_isiW K rfl) (by rfl) T.z_isinstance (by decide +kernel) (pa_cons (pv 9) (pa_cons (pe_glob (v := .ref _) (by rfl) T.mg_Blend rfl) pa_nil))))))) (fun _ _ _ _ _ => (pv 9))) po_none (po_some pe_int)) pa_nil)) (pv 10) (nomark _)) (pss_one (ps_ret pe_bl))
 pss_nil)
 (pss_one (ps_ret (pe_cmpR (SO.oq_eq (hr.mono (by decide))) (pe_callC c__law_made (hr.mono (by decide)) (by rfl) passL (pa_cons (pe_ix ix_list (pv 2) pe_int (fun _ _ => rfl)) (pa_cons (pe_lc (own := [("_law_one", 9)]) (g := gName 9) (tt := tYes) (by rfl) sc__law_refused.nd (pi_list (pv 4)) (blkOk_by (own := [("_law_one", 9)]) (N := ["_law_pen_here", "_law_kind", "_law_step", "_law_width", "_law_right", "_law_told", "_law_spots", "_law_at", "_law_values", "_law_one", "_law_kept"]) (sc := defScope s__law_refused) (by decide +kernel)) (fun _ _ _ _ _ => (pg_name (i := 9) sc__law_refused.nd rfl (by first | exact Or.inl rfl | exact Or.inr rfl))) (fun _ _ _ _ _ => pts_nil) (fun _ _ _ _ _ => (pe_ix (KIx.ix_listW K rfl) (pv 9) pe_int (fun _ _ => rfl)))) pa_nil))) (pe_callC c__law_made_step (hr.mono (by decide)) (by rfl) pass0 (pa_cons (pv 3) (pa_cons (pv 2) pa_nil))) (nomark _))))))))))), at_start (σ := [some (.ref pen), some kv, some (.ref a), some (.int w'), none, none, none, none, none, none, none]) rfl ?_⟩
      try dsimp only [cx_K]
      obtain ⟨cns, cat, cleft, hpen0, hpc0, _⟩ := id pn
      walk_at "rd"
      refine ⟨a, w', r, rfl, w3, ra, ok, fun R LR H1 aR nR vR s1 fR frR => ?_⟩
      walk_at "rd"
      refine ⟨a, w', r, rfl, w3, ra.up s1, ok, fun D L0 H2 aD nD vD s2 fD frD => ?_⟩
      have lenL : L0.length = (argN r).length := by rw [← nD, List.length_map]
      have lenB : 0 < L0.length ∧ L0.length ≤ 5 := by rw [lenL]; cases r <;> simp [argN]
      have lenD : (L0.map fun e => V.ref e.a).length = L0.length := List.length_map _
      have pn1 := pn.up s1
      -- what stays for good
      have penR : PenOk pen R LR := ⟨fun z => (by rw [z, hpen0] at fR; cases fR), fun e m => ⟨fun z => (by have := (frR e m).1; rw [z, hpen0] at this; cases this), fun m' eq z => (by have := (frR e m).2 _ eq; rw [z, hpen0] at this; cases this)⟩⟩
      have penD : PenOk pen D L0 := ⟨fun z => (by rw [z, s1 _ _ hpen0] at fD; cases fD), fun e m => ⟨fun z => (by have := (frD e m).1; rw [z, s1 _ _ hpen0] at this; cases this), fun m' eq z => (by have := (frD e m).2 _ eq; rw [z, s1 _ _ hpen0] at this; cases this)⟩⟩
      have gR0 := (aR.keep (s1 _ _ hpen0) keep_hide penR.1 penR.2).noT
      have gA0 := ((ra.up s1).keep pn1 (keep_hide (p := pen))).noT
      have sG1 : Same (noT (hidA H1 pen)) H1 := fun b o e => (hidA_get (noT_get e).1).1
      have gP : ∀ b o, noT (hidA H1 pen) b = some o → b ≠ pen ∧ H1 b = some o := fun b o e => ⟨(hidA_get (noT_get e).1).2, (hidA_get (noT_get e).1).1⟩
      have gN : ∀ b o, noT (hidA H1 pen) b = some o → ∀ ps, o ≠ .tbl ps := fun b o e => (noT_get e).2
      generalize noT (hidA H1 pen) = G at gR0 gA0 sG1 gP gN
      have sG2 : Same G H2 := sG1.trans s2
      have gK : ∀ {Ha Hb : Hp}, Same G Ha → Keep pen Ha Hb → Same G Hb := fun s k b o e => k _ _ (s _ _ e) (gP _ _ e).1
      have tb2 := KL.tabs_same tb (s1.trans s2)
      have pn2 := pn1.up s2
      refine ⟨_, _, rfl, ?_⟩
      walk_at "rd"
      refine ⟨D, _, rfl, .inl (SqL.of aD.d), ?_⟩
      walk_at "rd"
      refine ⟨pen, pc, _, k + 19, rfl, by omega, by omega, pn2, fun x1 H3 a1 b1 pn3 kp3 => ?_⟩
      have aD3 := aD.keep (s2 _ _ (s1 _ _ hpen0)) kp3 penD.1 penD.2
      walk_at "rd"
      refine ⟨D, _, rfl, .inl (SqL.of aD3.d), ?_⟩
      walk_at "rd"
      refine ⟨pen, pc, _, k + 18, rfl, by omega, by omega, pn3, fun x2 H4 a2 b2 pn4 kp4 => ?_⟩
      walk_at "rd"
      refine ⟨by walk_at "sz", fun c1 n1 => ?_⟩
      have s5 := same_new (o := .lst [.int x1, .int x2]) n1
      have e5 : upd H4 c1 (.lst [.int x1, .int x2]) c1 = some (.lst [.int x1, .int x2]) := upd_same
      have pn5 := pn4.up s5
      have hpen5 := pn5
      generalize upd H4 c1 (.lst [.int x1, .int x2]) = H5 at s5 e5 pn5 ⊢
      walk_at "rd"
      refine ⟨pen, pc, 2, k + 17, rfl, by decide, by decide, pn5, fun x3 H6 a3 b3 pn6 kp6 => ?_⟩
      walk_at "rd"
      have sp : ∃ ns : List Int, cutV [V.int x1, V.int x2] none (some (1 + x3)) = ns.map V.int ∧ ns ≠ [] ∧ ns.length ≤ 2 ∧ ∀ x ∈ ns, 0 ≤ x ∧ x < (L0.length : Nat) := by
        rw [lenD] at b1 b2
        rcases (by omega : x3 = 0 ∨ x3 = 1) with rfl | rfl
        · exact ⟨[x1], rfl, by simp, by simp, fun x m => by rw [List.mem_singleton.mp m]; exact ⟨a1, b1⟩⟩
        · refine ⟨[x1, x2], rfl, by simp, by simp, fun x m => ?_⟩
          simp only [List.mem_cons, List.not_mem_nil, or_false] at m
          rcases m with rfl | rfl
          · exact ⟨a1, b1⟩
          · exact ⟨a2, b2⟩
      obtain ⟨ns, ens, nne, nl2, nrg⟩ := sp
      refine ⟨c1, _, rfl, SqL.of (kp6 _ _ e5 (pn4.ne n1)), fun S nS => ?_⟩
      rw [ens]
      have fS : ∀ u ∈ L0, u.a ≠ S := fun u m z => by
        have := ((aD.keep (s2 _ _ (s1 _ _ hpen0)) (((kp3.tr kp4).tr (Keep.same s5)).tr kp6) penD.1 penD.2).row u m).1
        rw [z, nS] at this
        cases this
      have pn7 := pn6.up (same_new (o := .lst (ns.map V.int)) nS)
      have eS : upd H6 S (.lst (ns.map V.int)) S = some (.lst (ns.map V.int)) := upd_same
      have kp7 : Keep pen H2 (upd H6 S (.lst (ns.map V.int))) := (((kp3.tr kp4).tr (Keep.same s5)).tr kp6).tr (Keep.same (same_new nS))
      have pS : S ≠ pen := pn6.ne nS
      generalize upd H6 S (.lst (ns.map V.int)) = H7 at pn7 eS kp7 ⊢
      have aD7 := aD.keep (s2 _ _ (s1 _ _ hpen0)) kp7 penD.1 penD.2
      have sG7 := gK sG2 kp7
      have tb7 := tabs_keep tb2 kp7 (s2 _ _ (s1 _ _ hpen0))
      clear pn6 kp6 s5 e5 pn5 hpen5 pn4 kp4 pn3 kp3 aD3
      walk_at "rd"
      unfold tRevL
      walk_at "rd"
      refine ⟨S, ns, rfl, .inl (SqL.of eS), by omega, fun p1 m1 np1 lm1 => ?_⟩
      generalize hG1 : upd H7 p1 (SetO _ p1 _ m1) = G1
      have s8 : Same H7 G1 := by rw [← hG1]; exact same_new np1
      have e8 : G1 p1 = some (SetO w p1 (fun j => decide (j ∈ ns)) m1) := by rw [← hG1]; exact upd_same
      clear hG1
      refine ⟨p1, _, m1, rfl, e8, by omega, fun zs p2 sz mz lz np2 => ?_⟩
      have s9 := s8.trans (same_new (o := .lst (zs.map V.int)) np2)
      have e9 : upd G1 p2 (.lst (zs.map V.int)) p2 = some (.lst (zs.map V.int)) := upd_same
      refine ⟨p2, _, rfl, SqL.of e9, fun q1 nq1 => ?_⟩
      have s10 := s9.trans (same_new (o := .lst (zs.map V.int).reverse) nq1)
      have e10 : upd (upd G1 p2 (.lst (zs.map V.int))) q1 (.lst (zs.map V.int).reverse) q1 = some (.lst (zs.map V.int).reverse) := upd_same
      have fq1 : H7 q1 = none := by
        cases e : H7 q1 with
        | none => rfl
        | some o => rw [s9 _ _ e] at nq1; cases nq1
      generalize upd (upd G1 p2 (.lst (zs.map V.int))) q1 (.lst (zs.map V.int).reverse) = H8 at s10 e10 ⊢
      clear s8 s9 e9 e8
      rw [← List.map_reverse] at e10
      have pn8 := pn7.up s10
      have aD8 := aD7.up s10
      have sG8 := sG7.trans s10
      have tb8 := KL.tabs_same tb7 s10
      have eS8 := s10 _ _ eS
      have dl : zs.reverse.length ≤ 2 := by
        rw [List.length_reverse, lz]
        omega
      have dp : zs.reverse.Pairwise (fun a b => b < a) := List.pairwise_reverse.mpr sz
      have dm : ∀ x, x ∈ zs.reverse ↔ x ∈ ns := fun x => by
        rw [List.mem_reverse, mz]
        exact decide_eq_true_iff
      generalize zs.reverse = ds at dl dp dm e10
      refine ⟨q1, rfl, ⟨_, SqL.of e10⟩, ?_⟩
      refine forW (walk_list (xs := ds.map V.int)) (fun i σ H' => ∃ (L : List ARow) (y7 : Option V), σ = [some (.ref pen), some kv, some (.ref a), some (.int w'), some (.ref R), some (.ref D), some (.ref S), y7, none, none, none] ∧
        ArgsAt c.B H' D L ∧ (L.map fun e => (e.nm, e.kn)) = argN r ∧ (L.map fun e => e.a) = (L0.map fun e => e.a) ∧ PenOk pen D L ∧ PenC H' pen pc (k + 6 * (2 - i)) ∧ Same G H' ∧ LamX.Tabs (TT2 PR PP) H' ∧ H' q1 = some (.lst (ds.map V.int)) ∧ H' S = some (.lst (ns.map V.int)) ∧
        (∀ j e, L[j]? = some e → ((∀ d ∈ ds.take i, d ≠ (j : Nat)) → (argV w' r)[j]? = some e.b) ∧ ((∃ d ∈ ds.take i, d = (j : Nat)) → BadA r j e.b))) ?_ (fun i σ H' _ h => by obtain ⟨L, y7, -, -, -, -, -, -, -, -, h, -⟩ := h; exact SqL.of h) ?_ ?_
      · refine ⟨L0, none, rfl, aD8, nD, rfl, penD, pn8.mono (by omega), sG8, tb8, e10, eS8, fun j e he => ⟨fun _ => ?_, fun ⟨d, m, _⟩ => by simp at m⟩⟩
        rw [← vD, List.getElem?_map, he]
        rfl
      · rintro i x σ' Hq H' hi ⟨L, y7, rfl, aL, nL, adL, penL, pnL, sGL, tbL, eqL, eSL, invL⟩ y
        obtain ⟨rfl, ex⟩ := y
        rw [List.getElem?_map] at ex
        obtain ⟨d, ed, rfl⟩ := Option.map_eq_some_iff.mp ex
        rw [List.length_map] at hi
        have dns : d ∈ ns := (dm d).mp (List.mem_of_getElem? ed)
        obtain ⟨dn, rfl⟩ : ∃ n : Nat, d = (n : Int) := ⟨d.toNat, by have := (nrg d dns).1; omega⟩
        have dlt : dn < L.length := by
          have e1 : L.length = L0.length := by rw [← List.length_map (f := fun e : ARow => e.a), adL, List.length_map]
          have := (nrg _ dns).2
          omega
        walk_at "rd"
        refine ⟨pen, pc, a, D, w', dn, k + 6 * (2 - (i + 1)), r, L, rfl, gA0.up sGL, ok, aL, nL, dlt, fun j hj => ?_, penL, pnL.mono (by omega), fun e x' b' H3 he aL' penL' bad pnL' frm => ?_⟩
        · have jl : j < L.length := Nat.lt_of_le_of_lt hj dlt
          have ej := List.getElem?_eq_getElem jl
          rw [List.getElem?_map, ej]
          refine ((invL j _ ej).1 fun d2 m e2 => ?_).symm
          have := pair_take dp m ed
          omega
        · walk_at "rd"
          have kq : ∀ b o, H' b = some o → b ≠ pen → b ∉ L0.map (fun e => e.a) → H3 b = some o := fun b o e np nm => frm b o e np fun u m z => nm (by rw [← adL]; exact List.mem_map.mpr ⟨u, m, z.symm⟩)
          have ad' : ((L.set dn { e with x := x', b := b' }).map fun e => e.a) = L0.map fun e => e.a := by rw [← adL]; exact map_set_same he rfl
          refine ⟨L.set dn { e with x := x', b := b' }, _, rfl, aL', ?_, ad', penL', pnL', fun b o eb => ?_, ?_, ?_, ?_, fun j u hu => ?_⟩
          · rw [← nL]; exact map_set_same he rfl
          · refine kq b o (sGL _ _ eb) (gP _ _ eb).1 fun m => ?_
            obtain ⟨u, hu, z⟩ := List.mem_map.mp m
            have := (frD u hu).1
            rw [z, (gP _ _ eb).2] at this
            cases this
          · refine KL.tabs_to tbL fun b o eb nl => frm b o eb (fun z => ?_) fun u m z => ?_
            · obtain ⟨_, _, _, hp, _⟩ := pnL
              rw [z, hp] at eb
              exact nl _ (Option.some.inj eb).symm
            · rw [z, (aL.row u m).1] at eb
              exact nl _ (Option.some.inj eb).symm
          · exact kq _ _ eqL (pn7.ne fq1) fun m => by
              obtain ⟨u, hu, z⟩ := List.mem_map.mp m
              have := (aD7.row u hu).1
              rw [z, fq1] at this
              cases this
          · exact kq _ _ eSL pS fun m => by
              obtain ⟨u, hu, z⟩ := List.mem_map.mp m
              exact fS u hu z
          · have t1 : ds.take (i + 1) = ds.take i ++ [(dn : Int)] := by
              rw [List.take_succ, ed]
              rfl
            rw [t1]
            rw [List.getElem?_set] at hu
            by_cases c : dn = j
            · subst c
              rw [if_pos rfl, if_pos dlt] at hu
              cases hu
              exact ⟨fun h => absurd rfl (h dn (List.mem_append_right _ (List.mem_singleton.mpr rfl))), fun _ => bad⟩
            · rw [if_neg c] at hu
              refine ⟨fun h => (invL j u hu).1 fun d2 m => h d2 (List.mem_append_left _ m), fun ⟨d2, m, e2⟩ => (invL j u hu).2 ?_⟩
              rcases List.mem_append.mp m with m | m
              · exact ⟨d2, m, e2⟩
              · rw [List.mem_singleton.mp m] at e2
                exact absurd (by omega) c
      · rintro σ' H' ⟨L, y7, rfl, aL, nL, adL, penL, pnL, sGL, tbL, eqL, eSL, invL⟩
        have it : ds.take (ds.map V.int).length = ds := by rw [List.length_map, List.take_length]
        rw [it] at invL
        have gT : ∀ b o, G b = some o → ∀ ps, o ≠ .tbl ps := gN
        have sGG : Same G (noT H') := fun b o e => noT_of (sGL _ _ e) (gT _ _ e)
        have aL := aL.noT
        have pnL := PenC.noT (pnL.mono (show k ≤ _ by omega))
        have eSL : noT H' S = some (.lst (ns.map V.int)) := noT_of eSL (fun _ z => by cases z)
        have aR := gR0.up sGG
        have rA := gA0.up sGG
        have sN : Same (noT H') H' := noT_same
        have sX : ∀ {Ha Hb : Hp}, Same (noT H') Ha → LamX.ExtN Ha Hb → Same (noT H') Hb := fun s x b o e => x _ _ (s _ _ e) (noT_get e).2
        generalize noT H' = N at aL pnL eSL aR rA sN sX sGG
        have lenLL : L.length = L0.length := by rw [← List.length_map (f := fun e : ARow => e.a), adL, List.length_map]
        obtain ⟨i0, m0, l0⟩ := least2 nne nl2
        obtain ⟨j0, rfl⟩ : ∃ n : Nat, i0 = (n : Int) := ⟨i0.toNat, by have := (nrg _ m0).1; omega⟩
        have j0l : j0 < L.length := by have := (nrg _ m0).2; omega
        have told : ∀ Hn, Same N Hn → Told c.B Hn w' r L j0 (L[j0]'j0l).nm := fun Hn sn => {
          ok := ok
          row := fun e m => ((aL.up sn).row e m).2.1
          nms := nL
          pos := fun j e he => by
            by_cases c : ∃ d ∈ ds, d = (j : Int)
            · exact .inr ((invL j e he).2 c)
            · exact .inl ((invL j e he).1 fun d m z => c ⟨d, m, z⟩)
          fst := fun j e hj he => (invL j e he).1 fun d m z => by
            have := l0 d ((dm d).mp m)
            omega
          bad := ⟨_, List.getElem?_eq_getElem j0l, (invL j0 _ (List.getElem?_eq_getElem j0l)).2 ⟨_, (dm _).mpr m0, rfl⟩, rfl⟩ }
        have T0 := told N (Same.refl _)
        have e0l : 0 < L.length := by omega
        obtain ⟨tz, etz⟩ := pos0_tr (T0.pos 0 _ (List.getElem?_eq_getElem e0l))
        have tne := trees_ne (List.getElem?_eq_getElem e0l) etz
        have fit : KLm.FitA (treesOf L) := fitA_of (fun t m => by
          obtain ⟨j, e, he, eb⟩ := trees_mem m
          have := T0.pos j e he
          rw [eb] at this
          exact pos_ft ok this) (Nat.le_trans (trees_len L) (by omega))
        have d0 : ARow := ⟨D, "", "", .non, .tr (.sc .non)⟩
        walk_at "rd"
        refine ⟨D, rfl, ⟨_, SqL.of (sN _ _ aL.d)⟩, lc_all (walk_list (xs := L.map fun e => V.ref e.a)) (j := 9) (fun i => V.ref (L.getD i d0).a) (fun _ => true) (fun i => (L.getD i d0).x) (by rw [List.length_map]; omega) (fun i H x H' hi y => YAt_get hi y) (fun H' s => SqL.of (s _ _ (sN _ _ aL.d))) (fun x => rfl) (fun i H' hi s QT qt => qt _ (Same.refl _)) (fun i H' hi _ s Q2 q2 => ?_) (fun D2 H3 nD2 s3 eD2 => ?_)⟩
        · rw [List.length_map] at hi
          have mb : L.getD i d0 ∈ L := by rw [List.getD_eq_getElem?_getD, List.getElem?_eq_getElem hi]; exact List.getElem_mem hi
          have hb := (aL.row _ mb).1
          walk_at "rd"
          exact r_ixL (SqL.of ((sN.trans s) _ _ hb)) (atI_nat (j := 2) rfl) (q2 _ (Same.refl _))
        rw [List.length_map, given_map L d0 (fun e => e.x)] at eD2
        walk_at "rd"
        have sN3 := sN.trans s3
        refine ⟨D2, rfl, ⟨_, SqL.of eD2⟩, lc_all (walk_list (xs := L.map fun e => e.x)) (j := 9) (fun i => (L.getD i d0).x) (fun i => !(L.getD i d0).b.isB) (fun i => (L.getD i d0).x) (by rw [List.length_map]; omega) (fun i H x H' hi y => YAt_get hi y) (fun H' s => SqL.of (s _ _ eD2)) (fun x => rfl) (fun i H' hi s QT qt => ?_) (fun i H' hi _ s Q2 q2 => ?_) (fun D3 H4 nD3 s4 eD3 => ?_)⟩
        · rw [List.length_map] at hi
          have mb : L.getD i d0 ∈ L := by rw [List.getD_eq_getElem?_getD, List.getElem?_eq_getElem hi]; exact List.getElem_mem hi
          walk_at "rd"
          refine r_isBa T.toTxtSt (((aL.up sN3).row _ mb).2.1.up s) ?_
          walk_at "rd"
          exact qt _ (Same.refl _)
        · walk_at "rd"
          exact q2 _ (Same.refl _)
        rw [List.length_map, given_filter L d0 (fun e => !e.b.isB) (fun e => e.x)] at eD3
        have fl : ((L.filter fun e => !e.b.isB).map fun e => e.x).length ≤ 5 := by
          rw [List.length_map]
          exact Nat.le_trans (List.length_filter_le _ _) (by omega)
        have tAt : ∀ Hn, Same N Hn → TrsAt Hn ((L.filter fun e => !e.b.isB).map fun e => e.x) (treesOf L) := fun Hn sn => trees_at fun e m => ((aL.up sn).row e m).2.1
        have sN4 := sN3.trans s4
        walk_at "rd"
        refine fun p4 np4 => ?_
        rw [show (some (5 : Int)) = some ((5 : Nat) : Int) from rfl, cutV_take, List.take_of_length_le fl]
        have s5 := same_new (o := .lst ((L.filter fun e => !e.b.isB).map fun e => e.x)) np4
        have e5 : upd H4 p4 (.lst ((L.filter fun e => !e.b.isB).map fun e => e.x)) p4 = some (.lst ((L.filter fun e => !e.b.isB).map fun e => e.x)) := upd_same
        have sN5 := sN4.trans s5
        have eV5 := s5 _ _ (s4 _ _ eD2)
        have tb5 := KL.tabs_same tbL ((s3.trans s4).trans s5)
        generalize upd H4 p4 (.lst ((L.filter fun e => !e.b.isB).map fun e => e.x)) = H5 at s5 e5 sN5 eV5 tb5 ⊢
        walk_at "rd"
        refine ⟨p4, _, treesOf L, rfl, e5, tAt _ sN5, tne, fit, ?_⟩
        walk_at "rd"
        refine ⟨tb5, fun H6 x6 tb6 => ?_⟩
        have sN6 := sX sN5 x6
        have eV6 := x6 _ _ eV5 (fun _ z => by cases z)
        have rA6 := rA.up sN6
        obtain ⟨rxs, hrk⟩ := row_kd rA6
        intro Z
        unfold lamM
        walk_at "rd"
        refine r_ixL (SqL.of hrk) (atI_nat (j := 0) rfl) ?_
        walk_at "rd"
        refine ⟨r.kd, D2, _, rfl, eV6, made_bad (told _ sN6) fun dd H7 s7 hd => ⟨dd, _, rfl, rfl, hd, fun H9 s9 => ?_⟩⟩
        have sN9 := sN6.trans (s7.trans s9)
        have eV9 := s9 _ _ (s7 _ _ eV6)
        have tb9 := KL.tabs_same tb6 (s7.trans s9)
        clear hd s7 s9 eV6 tb6 hrk rA6
        walk_at "rd"
        refine ⟨S, ns, rfl, SqL.of (sN9 _ _ eSL), List.length_pos_iff.mpr nne, fun m mm ml => ?_⟩
        obtain rfl : m = (j0 : Int) := by
          have := l0 m mm
          have := ml _ m0
          omega
        have gj := List.getElem?_eq_getElem j0l
        walk_at "rd"
        refine r_ixL (SqL.of (sN9 _ _ aL.d)) (atI_nat (j := j0) (by rw [List.getElem?_map, gj]; rfl)) ?_
        walk_at "rd"
        refine r_ixL (SqL.of (sN9 _ _ (aL.row _ (List.mem_of_getElem? gj)).1)) (atI_nat (j := 0) rfl) ?_
        walk_at "rd"
        rw [if_neg (by simp)]
        walk_at "rd"
        refine ⟨D2, rfl, ⟨_, SqL.of eV9⟩, lc_all (walk_list (xs := L.map fun e => e.x)) (j := 9) (fun i => (L.getD i d0).x) (fun i => !(L.getD i d0).b.isB) (fun i => (L.getD i d0).x) (by rw [List.length_map]; omega) (fun i H x H' hi y => YAt_get hi y) (fun H' s => SqL.of (s _ _ eV9)) (fun x => rfl) (fun i H' hi s QT qt => ?_) (fun i H' hi _ s Q2 q2 => ?_) (fun D4 Ha nD4 sa eD4 => ?_)⟩
        · rw [List.length_map] at hi
          have mb : L.getD i d0 ∈ L := by rw [List.getD_eq_getElem?_getD, List.getElem?_eq_getElem hi]; exact List.getElem_mem hi
          walk_at "rd"
          refine r_isBa T.toTxtSt (((aL.up sN9).row _ mb).2.1.up s) ?_
          walk_at "rd"
          exact qt _ (Same.refl _)
        · walk_at "rd"
          exact q2 _ (Same.refl _)
        rw [List.length_map, given_filter L d0 (fun e => !e.b.isB) (fun e => e.x)] at eD4
        have sNa := sN9.trans sa
        have tba := KL.tabs_same tb9 sa
        clear sa nD4 eV9 tb9
        walk_at "rd"
        refine fun p5 np5 => ?_
        rw [show (some (5 : Int)) = some ((5 : Nat) : Int) from rfl, cutV_take, List.take_of_length_le fl]
        have sb := same_new (o := .lst ((L.filter fun e => !e.b.isB).map fun e => e.x)) np5
        have eb : upd Ha p5 (.lst ((L.filter fun e => !e.b.isB).map fun e => e.x)) p5 = some (.lst ((L.filter fun e => !e.b.isB).map fun e => e.x)) := upd_same
        have sNb := sNa.trans sb
        have tbb := KL.tabs_same tba sb
        generalize upd Ha p5 (.lst ((L.filter fun e => !e.b.isB).map fun e => e.x)) = Hb at sb eb sNb tbb ⊢
        clear sb tba sNa
        walk_at "rd"
        refine ⟨p5, _, treesOf L, rfl, eb, tAt _ sNb, tne, fit, ?_⟩
        walk_at "rd"
        rw [if_neg (by simp)]
        walk_at "rd"
        obtain ⟨rxs, hrk⟩ := row_kd (rA.up sNb)
        refine r_ixL (SqL.of hrk) (atI_nat (j := 0) rfl) ?_
        walk_at "rd"
        have rl : LR.length ≤ 5 := by
          have : LR.length = (argN r).length := by rw [← nR, List.length_map]
          rw [this, ← lenL]
          exact lenB.2
        refine ⟨R, rfl, ⟨_, SqL.of (sNb _ _ aR.d)⟩, lc_all (walk_list (xs := LR.map fun e => V.ref e.a)) (j := 9) (fun i => V.ref (LR.getD i d0).a) (fun _ => true) (fun i => (LR.getD i d0).x) (by rw [List.length_map]; omega) (fun i H x H' hi y => YAt_get hi y) (fun H' s => SqL.of (s _ _ (sNb _ _ aR.d))) (fun x => rfl) (fun i H' hi s QT qt => qt _ (Same.refl _)) (fun i H' hi _ s Q2 q2 => ?_) (fun D5 Hc nD5 sc eD5 => ?_)⟩
        · rw [List.length_map] at hi
          have mb : LR.getD i d0 ∈ LR := by rw [List.getD_eq_getElem?_getD, List.getElem?_eq_getElem hi]; exact List.getElem_mem hi
          have hb := (aR.row _ mb).1
          walk_at "rd"
          exact r_ixL (SqL.of ((sNb.trans s) _ _ hb)) (atI_nat (j := 2) rfl) (q2 _ (Same.refl _))
        rw [List.length_map, given_map LR d0 (fun e => e.x)] at eD5
        have sNc := sNb.trans sc
        have tbc := KL.tabs_same tbb sc
        walk_at "rd"
        refine ⟨r.kd, D5, _, rfl, eD5, made_right ok (fun e m => ((aR.up sNc).row e m).2.1) vR fun x Hd hx sd => ?_⟩
        walk_at "rd"
        refine ⟨w', a, r, rfl, w3, rA.up (sNc.trans sd), ok, fun x2 He hx2 okx2 se => ?_⟩
        walk_at "rd"
        refine ⟨x, _, _, rfl, hx.up se, okx2, .stp hx2 okx2, ?_⟩
        walk_at "rd"
        rw [decide_eq_true rfl]
        exact q He (KL.tabs_same tbc (sd.trans se)) (pnL.up ((sNc.trans sd).trans se))
    exact ⟨t, drv.nox, rdg⟩



end
end K35


namespace K35
open PySem L2 KB KO KY KV KTr
/-! ### what the classes themselves refuse -/
inductive Six where
  | a0 | a1 | a2 | a3 | a4 | a5
def sel6 {α : Type} (a b c d e f : α) : Six → α
  | .a0 => a
  | .a1 => b
  | .a2 => c
  | .a3 => d
  | .a4 => e
  | .a5 => f
def lamOf : Stmt → Option (Arguments × Expr × Scope)
  | .Expr (.Call _ [.Tuple (.Lambda a b s _ :: _) _ _] _ _) _ => some (a, b, s)
  | .Assign _ (.List [.Tuple (.Lambda a b s _ :: _) _ _] _) _ => some (a, b, s)
  | _ => none
def lamB (n : Nat) : Arguments × Expr × Scope := (((defBody s__law_plain_refused)[n]?).bind lamOf).getD (defArgs s__law_plain_refused, .Constant .none 0 default, defScope s__law_plain_refused)
def lamI (j : Six) : Arguments × Expr × Scope := sel6 (lamB 2) (lamB 3) (lamB 4) (lamB 5) (lamB 6) (lamB 7) j
def dueS (j : Six) : Str := sel6 "variable" "means" "port" "lane" "blend" "variable" j
def spPlainR (T : List (Addr × Str)) : Sp := fun vs H Q _ => ∃ (pen pc : Addr) (k : Nat), vs = [.ref pen] ∧ LamX.Tabs T H ∧ PenC H pen pc (k + 100) ∧ ∀ H', LamX.Tabs T H' → PenC H' pen pc k → Q (.bl true) H'
def lamP (eS : Addr) (c : CA) (cW cS cR : Addr) : Six → XK → TE := sel6
  (fun E => KSt.tMakeRK c.R 0 (KSt.spStar (spReadB eS c) 4 gSt) E (tCons (tVar 4) (tCons (tVar 1) (tCons (tC (.str "w")) tNil))) tNil)
  (fun E => KSt.tMakeRK c.R 0 (KSt.spStar (spReadB eS c) 4 gSt) E (tCons (tVar 3) (tCons (tVar 1) (tCons (tC (.str "w")) (tCons (tVar 2) (tCons (tVar 2) tNil))))) tNil)
  (fun E => KSt.tMakeRK c.R 0 (KSt.spStar (spReadB eS c) 4 gSt) E (tCons (tVar 3) (tCons (tCall spWrong [] E0 (tCons (tVar 0) (tCons (tC (.str "name")) tNil))) (tCons (tC (.str "w")) tNil))) tNil)
  (fun E => KSt.tMakeRK c.W 0 (KSt.spStar (spWriteB eS c) 4 gWrD) E (tCons (tVar 1) (tCons (tCall spWrong [] E0 (tCons (tVar 0) (tCons (tC (.str "part")) tNil))) (tCons (ClX.tCMeth c.B (spConst c.B cW cR) E (tC (.ref c.B)) (tCons (tC (.int 8)) (tCons (tC (.int 1)) tNil))) tNil))) tNil)
  (fun E => KSt.tMakeRK c.W (["variable"] : List Str).length (KSt.spStar (spWriteB eS c) 4 gWr) E (tCons (tVar 1) (tCons (tC (.str "w")) (tCons (tCall spWrong [] E0 (tCons (tVar 0) (tCons (tC (.str "blend")) tNil))) tNil))) (tCons (tVar 3) tNil))
  (fun E => KSt.tMakeRK c.W 0 (KSt.spStar (spWriteB eS c) 4 gWrD) E (tCons (tVar 1) (tCons (tC (.str "w")) (tCons (tMake c.B (spBlend c.B cW cS cR) [.int 0, .non, .int 0] E (tCons (tC (.int 8)) tNil)) (tCons (tVar 2) tNil)))) tNil)
theorem lamI_ok : ∀ j, LamX.LamS (defScope s__law_plain_refused) (lamI j).2.2 := fun j => by
  cases j <;> exact LamX.lamS_by (by decide +kernel)
theorem lamI_bind : ∀ j (q : Str) (cl : List (Str × Addr)) (pm cv ctv : Value), bindArgs (PySem.W.kla_fn "<lambda>" q (lamI j).1 (lamI j).2.1 (lamI j).2.2 cl pm cv ctv) ⟨[], []⟩ = pure [] := fun j _ _ _ _ _ => by
  cases j <;> rfl
/-- all but lists and tables of code is kept -/
def Kp2 (H H' : Hp) : Prop := ∀ b o, H b = some o → (∀ xs, o ≠ .lst xs) → (∀ ps, o ≠ .tbl ps) → H' b = some o
theorem Kp2.same {H H' : Hp} (s : Same H H') : Kp2 H H' := fun b o e _ _ => s b o e
theorem Kp2.ext {H H' : Hp} (x : LamX.ExtN H H') : Kp2 H H' := fun b o e _ n => x b o e n
theorem Kp2.mut {H : Hp} {a : Addr} {xs : List V} {o : HO} (h : H a = some (.lst xs)) : Kp2 H (upd H a o) := fun b u e n _ => by
  rw [upd_ne (fun z => n xs (by rw [z, h] at e; exact (Option.some.inj e).symm))]
  exact e
structure AskAt (X : Cx) (H : Hp) (j : Six) (v : V) : Prop where
  ex : ∃ t f c', v = .ref t ∧ H t = some (.tup [.ref f, .str (dueS j)]) ∧ H f = some (KLm.LamO f (KLm.lf X (lamI j).1 (lamI j).2.1 (lamI j).2.2 c')) ∧ H c' = some (LamX.CodeO c' (X.env.qual ++ "<lambda>"))
theorem AskAt.kp {X : Cx} {H H' : Hp} {j : Six} {v : V} (h : AskAt X H j v) (k : Kp2 H H') : AskAt X H' j v := by
  obtain ⟨t, f, c', e, h1, h2, h3⟩ := h.ex
  exact ⟨t, f, c', e, k _ _ h1 (fun _ z => by cases z) (fun _ z => by cases z), k _ _ h2 (fun _ z => by cases z) (fun _ z => by cases z), k _ _ h3 (fun _ z => by unfold LamX.CodeO at z; cases z) (fun _ z => by unfold LamX.CodeO at z; cases z)⟩
theorem const_sure {C cW cR : Addr} {H : Hp} {w n : Nat} {Q : VK} {E : XK} (w3 : W3 w) (hn : n < 2 ^ w) (q : ∀ x H', BlendAt C H' x w 0 0 n → Same H H' → Q (.ref x) H') : spConst C cW cR [.ref C, .int w, .int n] H Q E := by
  refine ⟨.int w, .int n, .sc (.int w), .sc (.int n), rfl, rfl, rfl, fun z => ?_, fun w1 e1 w31 z => ?_, fun w1 n1 e1 e2 w31 hn H3 x3 B3 s3 => ?_⟩
  · rw [isW_nat w3] at z; cases z
  · obtain rfl : w = w1 := by cases e1; rfl
    rw [isWord_nat hn] at z; cases z
  · obtain rfl : w = w1 := by cases e1; rfl
    obtain rfl : n = n1 := by cases e2; rfl
    have k0 : KBL.keepN w 0 0 = 0 := by unfold KBL.keepN; exact Nat.and_zero _
    unfold MadeAt at B3
    rw [k0, show KBL.shiftN w 0 0 = 0 by unfold KBL.shiftN; rw [if_pos k0]] at B3
    exact q x3 H3 B3 s3
theorem made_w {C cW cS cR : Addr} {H : Hp} {Q : Hp → Prop} {E : XK} {x dx : Addr} (nx : H x = none) (ndx : H dx = none) (q : ∀ H', BlendAt C H' x 8 0 255 0 → Same H H' → Q H') :
    spBlend C cW cS cR [.ref x, .int 8, .int 0, .non, .int 0] (upd (upd H dx (.own x)) x (.ins C dx [])) (fun v H3 => v = .non ∧ Q H3) E := by
  refine ⟨x, dx, _, _, _, _, .sc (.int 8), .sc (.int 0), .sc .non, .sc (.int 0), rfl, upd_same, rfl, rfl, rfl, rfl, fun z => ?_, fun w' e w3 z => ?_, fun w' e w3 _ n z => ?_, fun w' e w3 _ _ z => ?_, fun w' s' f' e1 e2 e4 _ nm' H' B kp => ⟨rfl, ?_⟩⟩
  · rw [show isW (.sc (.int 8)) = true from isW_nat (w := 8) (.inl rfl)] at z; cases z
  · obtain rfl : 8 = w' := by cases e; rfl
    exact absurd z (by decide)
  · cases n
  · obtain rfl : 8 = w' := by cases e; rfl
    rw [show isWord 8 (.sc (.int 0)) = true from isWord_nat (w := 8) (n := 0) (by decide)] at z; cases z
  · obtain rfl : 8 = w' := by cases e1; rfl
    obtain rfl : 0 = s' := by cases e2; rfl
    obtain rfl : 0 = f' := by cases e4; rfl
    rw [show KBL.shiftN 8 0 (maskOf 8 (.sc .non)) = 0 by decide +kernel, show KBL.keepN 8 0 (maskOf 8 (.sc .non)) = 255 by decide +kernel] at B
    refine q H' B fun b o e => kp b o ?_ fun z => ?_
    · rw [upd_ne (ne_of_none e nx), upd_ne (ne_of_none e ndx)]
      exact e
    · rw [z, nx] at e
      cases e


section
variable {P : Program} {w : World} {K : PySem.W.Frag} {mg : Str → Option Value} {base : Heap}
abbrev plX (P : Program) (w : World) (K : PySem.W.Frag) (mg : Str → Option Value) (base : Heap) (f cL : Addr) (A : Around) (outer : List Env) (s : Shared) (H : Hp) (E : XK) : Cx := (cxOf CX0 P w K mg base ["_law_pen_here", "_law_one", "_law_two", "_law_letter", "_law_odd", "_law_asks", "_law_ask", "_law_due"] "_law_plain_refused" (defScope s__law_plain_refused) f (.ref cL) A outer s H E).nox
theorem lamP_body {f aL cW cS cR eS cL : Addr} {c : CA} {A : Around} {outer : List Env} {s : Shared} {H : Hp} {E : XK} (T : TxtKd K mg aL c) (c__law_wrong : KB.Callee P w K mg base CX0 2 "_law_wrong" ["_law_pen_here", "_law_kind"] spWrong)
    (r0_Read : KSt.CalleeIK P w K mg base (L2.CX P w) 5 c.R "Read" [] (KSt.spStar (spReadB eS c) 4 gSt)) (r0_Write : KSt.CalleeIK P w K mg base (L2.CX P w) 5 c.W "Write" [] (KSt.spStar (spWriteB eS c) 4 gWrD))
    (rk_Write_variable : KSt.CalleeIK P w K mg base (L2.CX P w) 5 c.W "Write" ["variable"] (KSt.spStar (spWriteB eS c) 4 gWr))
    (cm_Blend_constant : KP.CalleeC P w K mg base (L2.CX P w) 8 c.B "constant" (spConst c.B cW cR)) (d1_Blend : KC.CalleeID P w K mg base (L2.CX P w) 6 c.B "Blend" ["self", "width", "shift", "keep", "flip"] (spBlend c.B cW cS cR) [.int 0, .non, .int 0]) :
    ∀ (j : Six) (A1 : Around) (o1 : List Env) (s1 : Shared) (H1 : Hp) (E1 : XK) (f1 c1 : Addr), Room 9 (A1.deeper (LamX.lamEnv (plX P w K mg base f cL A outer s H E) (lamI j).2.2 s1.heap.objs.size f1 c1)) → PE (LamX.lamCx (plX P w K mg base f cL A outer s H E) A1 o1 s1 H1 E1 (lamI j).2.2 f1 c1) (lamI j).2.1 (lamP eS c cW cS cR j E1) := by
  intro j A1 o1 s1 H1 E1 f1 c1 hr1
  cases j <;> dsimp only [lamP, sel6]
  case a0 =>
    refine KSt.pe_makeR0 r0_Read (hr1.mono (by decide)) (by rfl) KL.lam_pass ?_
    exact pa_cons (pv 4) (pa_cons (pv 1) (pa_cons pe_str pa_nil))
  case a1 =>
    refine KSt.pe_makeR0 r0_Read (hr1.mono (by decide)) (by rfl) KL.lam_pass ?_
    exact pa_cons (pv 3) (pa_cons (pv 1) (pa_cons pe_str (pa_cons (pv 2) (pa_cons (pv 2) pa_nil))))
  case a2 =>
    refine KSt.pe_makeR0 r0_Read (hr1.mono (by decide)) (by rfl) KL.lam_pass ?_
    exact pa_cons (pv 3) (pa_cons (pe_callC c__law_wrong (hr1.mono (by decide)) (by rfl) pass0 (pa_cons (pv 0) (pa_cons pe_str pa_nil))) (pa_cons pe_str pa_nil))
  case a3 =>
    refine KSt.pe_makeR0 r0_Write (hr1.mono (by decide)) (by rfl) KL.lam_pass ?_
    exact pa_cons (pv 1) (pa_cons (pe_callC c__law_wrong (hr1.mono (by decide)) (by rfl) pass0 (pa_cons (pv 0) (pa_cons pe_str pa_nil))) (pa_cons (KP.pe_cmethC cm_Blend_constant (pe_glob (v := .ref _) (by rfl) T.mg_Blend rfl) (hr1.mono (by decide)) KL.lam_pass (pa_cons pe_int (pa_cons pe_int pa_nil))) pa_nil))
  case a4 =>
    refine KSt.pe_makeRK rk_Write_variable (hr1.mono (by decide)) (by rfl) KL.lam_pass ?_ ?_
    · exact pa_cons (pv 1) (pa_cons pe_str (pa_cons (pe_callC c__law_wrong (hr1.mono (by decide)) (by rfl) pass0 (pa_cons (pv 0) (pa_cons pe_str pa_nil))) pa_nil))
    · exact pk_cons (pv 3) pk_nil
  case a5 =>
    refine KSt.pe_makeR0 r0_Write (hr1.mono (by decide)) (by rfl) KL.lam_pass ?_
    exact pa_cons (pv 1) (pa_cons pe_str (pa_cons (KC.pe_makeD d1_Blend (hr1.mono (by decide)) (by rfl) KL.lam_pass (pa_cons pe_int pa_nil)) (pa_cons (pv 2) pa_nil)))
theorem lamP_says {eS cW cS cR pen pc A5 : Addr} {c : CA} {k : Nat} {z1 z2 a : Str} {ov : V} {ot : Tr} {y6 y7 : Option V} {H : Hp} {Q Z : VK} (o1 : NmS z1) (o2 : NmS z2) (va : varB a = true) (otv : TrAt H ov ot) (owt : WrongT .letter ot) (pn : PenC H pen pc (k + 1)) (j : Six)
    (q : ∀ H1 H2, Keep pen H H1 → PenC H1 pen pc k → Same H1 H2 → Q (.str (dueS j)) H2) :
    lamP eS c cW cS cR j (echo eS Q) [some (.ref pen), some (.str z1), some (.str z2), some (.str a), some ov, some (.ref A5), y6, y7] H Z := by
  have wl : ("w" : Str) ∈ LNS := by decide +kernel
  have rok : (SRow.read a z1 "w" []).Ok 8 := ⟨va, o1, wl, fun m h => (by cases h), .nil, by decide⟩
  have wok : (SRow.write z1 "w" (some a) 0 255 0 [z2]).Ok 8 := ⟨o1, wl, ⟨fun m h => by rw [List.mem_singleton.mp h]; exact o2, by simp, (show 1 ≤ 10 by decide)⟩, (fun z e => by cases e; exact va), ⟨(fun z => by cases z), fun z => by cases z⟩, ⟨.inl rfl, by decide, by decide, by decide, by decide⟩, by decide +kernel, by decide +kernel⟩
  have m2 : meansOk [Tr.sc (.str z2)] = true := by
    have := means_msk (ms := [z2]) wok.2.2.1
    unfold meansOk
    rw [show [Tr.sc (.str z2)] = [z2].map (fun z => Tr.sc (.str z)) from rfl, this]
    rfl
  have sa : Sm (.sc (.str a)) := sm_str (varB_len va)
  have s1 : Sm (.sc (.str z1)) := sm_str (nms_len o1)
  have sw : Sm (.sc (.str "w")) := sm_str (lns_len _ wl)
  have s2 : ∀ t ∈ [Tr.sc (.str z2)], Sm t := fun t m => by rw [List.mem_singleton.mp m]; exact sm_str (nms_len o2)
  have err : ∀ {Hx : Hp} (nm : Str), nm = dueS j → Keep pen H Hx → PenC Hx pen pc k → ErrS eS nm Hx (echo eS Q) := fun nm e kp pk d H' s hd => ⟨d, nm, rfl, rfl, hd, fun H2 s2 => by rw [e]; exact q _ _ kp pk (s.trans s2)⟩
  have kr : Keep pen H H := fun b o e _ => e
  have pk := pn.mono (show k ≤ k + 1 by omega)
  cases j with
  | a0 =>
    dsimp only [lamP, sel6]
    refine KSt.r_makeRK ?_
    walk_at "rd"
    refine ⟨rfl, fun x dx nx ndx ne => ⟨[V.ref x, ov, .str z1, .str "w"], [], rfl, rfl, (show 0 ≤ sizeLine by decide), fun q2 nq2 => ?_⟩⟩
    exact read_newB nx ndx ne nq2 otv (.sc (.str z1)) (.sc (.str "w")) (owt.sm (fun z => by cases z)) s1 sw .nil (fun t m => by cases m) (by simp) (readP_err ((read_bad rok).1 owt.bad) (err _ rfl kr pk))
  | a1 =>
    dsimp only [lamP, sel6]
    refine KSt.r_makeRK ?_
    walk_at "rd"
    refine ⟨rfl, fun x dx nx ndx ne => ⟨[V.ref x, .str a, .str z1, .str "w"], [.str z2, .str z2], rfl, rfl, (show 2 ≤ sizeLine by decide), fun q2 nq2 => ?_⟩⟩
    exact read_newB nx ndx ne nq2 (.sc (.str a)) (.sc (.str z1)) (.sc (.str "w")) sa s1 sw (.cons (.sc (.str z2)) (.cons (.sc (.str z2)) .nil)) (fun t m => s2 t (by simpa using m)) (by simp) (readP_err ((read_bad rok (t0 := .sc .non) (t1 := .sc .non) (t2 := .sc .non)).2.2.2 (means_twice (ms := [z2]) (n := 0) (by simp))) (err _ rfl kr pk))
  | a2 =>
    dsimp only [lamP, sel6]
    refine KSt.r_makeRK ?_
    walk_at "rd"
    refine ⟨pen, pc, .name, k, rfl, pn, fun v t H1 tv wt pn1 kp1 => ?_⟩
    walk_at "rd"
    refine ⟨rfl, fun x dx nx ndx ne => ⟨[V.ref x, .str a, v, .str "w"], [], rfl, rfl, (show 0 ≤ sizeLine by decide), fun q2 nq2 => ?_⟩⟩
    exact read_newB nx ndx ne nq2 (.sc (.str a)) tv (.sc (.str "w")) sa (wt.sm (fun z => by cases z)) sw .nil (fun t m => by cases m) (by simp) (readP_err ((read_bad rok (t0 := .sc .non)).2.1 wt.bad) (err _ rfl kp1 pn1))
  | a3 =>
    dsimp only [lamP, sel6]
    refine KSt.r_makeRK ?_
    walk_at "rd"
    refine ⟨pen, pc, .part, k, rfl, pn, fun v t H1 tv wt pn1 kp1 => ?_⟩
    walk_at "rd"
    refine KP.r_cmeth ?_
    walk_at "rd"
    refine ⟨rfl, ?_⟩
    walk_at "rd"
    refine const_sure (w := 8) (n := 1) (.inl rfl) (by decide) fun xb H3 hb s3 => ?_
    walk_at "rd"
    refine ⟨rfl, fun x dx nx ndx ne => ⟨[V.ref x, .str z1, v, .ref xb], [], rfl, rfl, (show 0 ≤ sizeLine by decide), fun q2 nq2 => ?_⟩⟩
    exact write_newB (tb := .bl 8 0 0 1) (t3 := .sc .non) nx ndx ne nq2 (.sc (.str z1)) (TrAt.up s3 _ _ tv) ⟨xb, rfl, hb⟩ (.sc .non) s1 (wt.sm (fun z => by cases z)) (.sc _ fun x e => by cases e) .nil (fun t m => by cases m) (by simp) (writeP_err ((write_bad wok (t0 := .sc .non) m2).2.1 wt.bad) (err _ rfl (kp1.tr (Keep.same s3)) (pn1.up s3)))
  | a4 =>
    dsimp only [lamP, sel6]
    refine KSt.r_makeRK ?_
    walk_at "rd"
    refine ⟨pen, pc, .blend, k, rfl, pn, fun v t H1 tv wt pn1 kp1 => ?_⟩
    walk_at "rd"
    refine ⟨rfl, fun x dx nx ndx ne => ⟨[V.ref x, .str z1, .str "w", v], [], rfl, rfl, (show 0 ≤ sizeLine by decide), fun q2 nq2 => ?_⟩⟩
    exact write_newB (tb := .tr t) (t3 := .sc (.str a)) nx ndx ne nq2 (.sc (.str z1)) (.sc (.str "w")) tv (.sc (.str a)) s1 sw sa .nil (fun t m => by cases m) (by simp) (writeP_err ((write_bad wok (t0 := .sc .non) (t1 := .sc .non) m2).2.2.1 rfl) (err _ rfl kp1 pn1))
  | a5 =>
    dsimp only [lamP, sel6]
    refine KSt.r_makeRK ?_
    walk_at "rd"
    refine fun xb dxb nxb ndxb nxd => made_w nxb ndxb fun H3 hb s3 => ?_
    walk_at "rd"
    refine ⟨rfl, fun x dx nx ndx ne => ⟨[V.ref x, .str z1, .str "w", .ref xb], [.str z2], rfl, rfl, (show 1 ≤ sizeLine by decide), fun q2 nq2 => ?_⟩⟩
    exact write_newB (tb := .bl 8 0 255 0) (t3 := .sc .non) nx ndx ne nq2 (.sc (.str z1)) (.sc (.str "w")) ⟨xb, rfl, hb⟩ (.sc .non) s1 sw (.sc _ fun x e => by cases e) (.cons (.sc (.str z2)) .nil) s2 (by simp) (writeP_err ((write_bad wok (t0 := .sc .non) (t1 := .sc .non) (tb := .tr (.sc .non)) (ts := []) m2).2.2.2.2 (.inr (show true ≠ false by decide))) (err _ rfl (Keep.same s3) (pk.up s3)))
theorem ok_plainr {f aL cW cS cR eS cL PR PP CB : Addr} {c : CA} {ce : Nat → Addr} {oc kV dc pm ct : Value} {od an : Option Addr} {sl : Array (Option Value)} (look : K.lookup f = some ⟨oc, od, .func (PySem.W.fnOf "_law_plain_refused" "_law_plain_refused" (defArgs s__law_plain_refused) (defBody s__law_plain_refused) (defScope s__law_plain_refused) .none kV dc pm an (.ref cL) ct), sl⟩) (code : PySem.W.codeIn K (.ref cL) "_law_plain_refused" = true)
    (T : TxtKd K mg aL c) (TE : TxtE K mg CB eS ce) (HC : HeardC K mg) (TB : LamX.TabB base mg cL PP) (ap : PR ≠ PP)
    (c__law_names : KB.Callee P w K mg base CX0 2 "_law_names" ["_law_pen_here", "_law_many"] spNames) (c__law_variables : KB.Callee P w K mg base CX0 2 "_law_variables" ["_law_pen_here"] spVars)
    (c__law_wrong : KB.Callee P w K mg base CX0 2 "_law_wrong" ["_law_pen_here", "_law_kind"] spWrong)
    (r0_Read : KSt.CalleeIK P w K mg base (L2.CX P w) 5 c.R "Read" [] (KSt.spStar (spReadB eS c) 4 gSt)) (r0_Write : KSt.CalleeIK P w K mg base (L2.CX P w) 5 c.W "Write" [] (KSt.spStar (spWriteB eS c) 4 gWrD))
    (rk_Write_variable : KSt.CalleeIK P w K mg base (L2.CX P w) 5 c.W "Write" ["variable"] (KSt.spStar (spWriteB eS c) 4 gWr))
    (cm_Blend_constant : KP.CalleeC P w K mg base (L2.CX P w) 8 c.B "constant" (spConst c.B cW cR)) (d1_Blend : KC.CalleeID P w K mg base (L2.CX P w) 6 c.B "Blend" ["self", "width", "shift", "keep", "flip"] (spBlend c.B cW cS cR) [.int 0, .non, .int 0]) :
    KG.FnG P w K mg base CX0 12 f (PySem.W.fnOf "_law_plain_refused" "_law_plain_refused" (defArgs s__law_plain_refused) (defBody s__law_plain_refused) (defScope s__law_plain_refused) .none kV dc pm an (.ref cL) ct) ["_law_pen_here"] (spPlainR (TT2 PR PP)) := by
  refine KG.fnG_body look code sc__law_plain_refused (fun vs H Q E h => ?_) (fun A outer s0 H0 vs Q E hr fr h => ?_)
  · obtain ⟨pen, pc, k, rfl, _⟩ := h
    rfl
  · obtain ⟨pen, pc, k, rfl, tb, pn, q⟩ := h
    obtain ⟨g, oc, kV, doc, pm, cdg, ct, od, an, osl, hmg, hkp, hlk, hcg, hbd⟩ := HC.ex
    have uP := uniqP (PR := PR) ap
    obtain ⟨t, drv, rdg⟩ : ∃ t, PSs (cxOf CX0 P w K mg base ["_law_pen_here", "_law_one", "_law_two", "_law_letter", "_law_odd", "_law_asks", "_law_ask", "_law_due"] "_law_plain_refused" (defScope s__law_plain_refused) f (.ref cL) A outer s0 H0 E).nox (defBody s__law_plain_refused) t ∧ t { nx := fun _ H' => Q .non H', rt := Q } (start ["_law_pen_here", "_law_one", "_law_two", "_law_letter", "_law_odd", "_law_asks", "_law_ask", "_law_due"] [.ref pen]) H0 := by
      refine ⟨_, (pss_cons (ps_asg (pe_callC c__law_names (hr.mono (by decide)) (by rfl) pass0 (pa_cons (pv 0) (pa_cons pe_int pa_nil))) (pg_unl rfl (pgs_cons (pg_name (i := 1) sc__law_plain_refused.nd rfl (by first | exact Or.inl rfl | exact Or.inr rfl)) (pgs_cons (pg_name (i := 2) sc__law_plain_refused.nd rfl (by first | exact Or.inl rfl | exact Or.inr rfl)) pgs_nil))))
 (pss_cons (ps_asg (pe_tup (pa_cons (pe_ix ix_list (pe_callC c__law_variables (hr.mono (by decide)) (by rfl) pass0 (pa_cons (pv 0) pa_nil)) pe_int (fun _ _ => rfl)) (pa_cons (pe_callC c__law_wrong (hr.mono (by decide)) (by rfl) pass0 (pa_cons (pv 0) (pa_cons pe_str pa_nil))) pa_nil))) (pg_tup rfl (pgs_cons (pg_name (i := 3) sc__law_plain_refused.nd rfl (by first | exact Or.inl rfl | exact Or.inr rfl)) (pgs_cons (pg_name (i := 4) sc__law_plain_refused.nd rfl (by first | exact Or.inl rfl | exact Or.inr rfl)) pgs_nil))))
 (pss_cons (ps_set (i := 5) sc__law_plain_refused.nd rfl (by first | exact Or.inl rfl | exact Or.inr rfl) (pe_lst (pa_cons (pe_tup (pa_cons (KLm.pe_lam (T := TT2 PR PP) TB rfl (List.mem_cons_of_mem _ (List.mem_cons_self ..)) uP rfl (LamX.lamS_by (sc := defScope s__law_plain_refused) (by decide +kernel))) (pa_cons pe_str pa_nil))) pa_nil)))
 (pss_cons (ps_expr (pe_bm PySem.F.plainAttrs_list PySem.F.slot_list_append PySem.F.type_list_append mt_append (pv 5) (pa_cons (pe_tup (pa_cons (KLm.pe_lam (T := TT2 PR PP) TB rfl (List.mem_cons_of_mem _ (List.mem_cons_self ..)) uP rfl (LamX.lamS_by (sc := defScope s__law_plain_refused) (by decide +kernel))) (pa_cons pe_str pa_nil))) pa_nil)))
 (pss_cons (ps_expr (pe_bm PySem.F.plainAttrs_list PySem.F.slot_list_append PySem.F.type_list_append mt_append (pv 5) (pa_cons (pe_tup (pa_cons (KLm.pe_lam (T := TT2 PR PP) TB rfl (List.mem_cons_of_mem _ (List.mem_cons_self ..)) uP rfl (LamX.lamS_by (sc := defScope s__law_plain_refused) (by decide +kernel))) (pa_cons pe_str pa_nil))) pa_nil)))
 (pss_cons (ps_expr (pe_bm PySem.F.plainAttrs_list PySem.F.slot_list_append PySem.F.type_list_append mt_append (pv 5) (pa_cons (pe_tup (pa_cons (KLm.pe_lam (T := TT2 PR PP) TB rfl (List.mem_cons_of_mem _ (List.mem_cons_self ..)) uP rfl (LamX.lamS_by (sc := defScope s__law_plain_refused) (by decide +kernel))) (pa_cons pe_str pa_nil))) pa_nil)))
 (pss_cons (ps_expr (pe_bm PySem.F.plainAttrs_list PySem.F.slot_list_append PySem.F.type_list_append mt_append (pv 5) (pa_cons (pe_tup (pa_cons (KLm.pe_lam (T := TT2 PR PP) TB rfl (List.mem_cons_of_mem _ (List.mem_cons_self ..)) uP rfl (LamX.lamS_by (sc := defScope s__law_plain_refused) (by decide +kernel))) (pa_cons pe_str pa_nil))) pa_nil)))
 (pss_cons (ps_expr (pe_bm PySem.F.plainAttrs_list PySem.F.slot_list_append PySem.F.type_list_append mt_append (pv 5) (pa_cons (pe_tup (pa_cons (KLm.pe_lam (T := TT2 PR PP) TB rfl (List.mem_cons_of_mem _ (List.mem_cons_self ..)) uP rfl (LamX.lamS_by (sc := defScope s__law_plain_refused) (by decide +kernel))) (pa_cons pe_str pa_nil))) pa_nil)))
 (pss_one (ps_ret (pe_cmpR (op_eqD hr.units) (KLm.pe_lcS (own := [("_law_ask", 6), ("_law_due", 7)]) (g := gTup K 2 (gCons (gName 6) (gCons (gName 7) gNil))) (by rfl) sc__law_plain_refused.nd (pi_list (pv 5)) (blkOk_by (own := [("_law_ask", 6), ("_law_due", 7)]) (N := ["_law_pen_here", "_law_one", "_law_two", "_law_letter", "_law_odd", "_law_asks", "_law_ask", "_law_due"]) (sc := defScope s__law_plain_refused) (by decide +kernel)) (fun _ _ _ _ _ => (pg_tup rfl (pgs_cons (pg_name (i := 6) sc__law_plain_refused.nd rfl (by first | exact Or.inl rfl | exact Or.inr rfl)) (pgs_cons (pg_name (i := 7) sc__law_plain_refused.nd rfl (by first | exact Or.inl rfl | exact Or.inr rfl)) pgs_nil)))) (fun pins σ s H C cl fp I hfp => (pts_one (pt_cmpR op_ne (KLm.pe_lamB (X := plX P w K mg base f cL A outer s0 H0 E) (ι := Six) (k := 9) (i := 6) (TT := TH eS) (params := fun j => (lamI j).1) (body := fun j => (lamI j).2.1) (lsc := fun j => (lamI j).2.2) (t := lamP eS c cW cS cR) I hfp (by rfl) hmg hkp hlk hcg hbd sc__law_heard rfl (Or.inl rfl) (heard_gives (k := 9) TE (hr.mono (by decide))) (hr.mono (by decide)) lamI_ok lamI_bind (lamP_body T c__law_wrong r0_Read r0_Write rk_Write_variable cm_Blend_constant d1_Blend) rfl (Or.inl rfl)) (pv 7) (nomark _)))) (fun _ _ _ _ _ => (pv 7))) (pe_lst pa_nil) (nomark _)))))))))))), at_start (σ := [some (.ref pen), none, none, none, none, none, none, none]) rfl ?_⟩
      try dsimp only [cx_K]
      have hpen0 : ∃ u v z : V, H0 pen = some (.lst [u, v, z]) := by
        obtain ⟨ns, at_, left, h1, _⟩ := pn
        exact ⟨_, _, _, h1⟩
      obtain ⟨pu, pv', pz, hpen⟩ := hpen0
      walk_at "rd"
      refine ⟨pen, pc, 2, k + 88, rfl, by decide, pn.mono (by omega), fun q1 zs H1 nq1 e1 lz hz nd pn1 kp1 => ?_⟩
      obtain ⟨z1, z2, rfl⟩ : ∃ z1 z2, zs = [z1, z2] := by
        match zs, lz with
        | [z1, z2], _ => exact ⟨_, _, rfl⟩
      have o1 := (hz z1 (by simp)).1
      have o2 := (hz z2 (by simp)).1
      walk_at "rd"
      refine ⟨q1, [.str z1, .str z2], rfl, SqL.of e1, rfl, ?_⟩
      walk_at "rd"
      refine ⟨pen, pc, k + 85, rfl, pn1.mono (by omega), fun q2 a b H2 nq2 e2 va vb nab pn2 kp2 => ?_⟩
      walk_at "rd"
      refine ⟨pen, pc, .letter, k + 84, rfl, pn2.mono (by omega), fun ov ot H3 otv owt pn3 kp3 => ?_⟩
      walk_at "rd"
      refine ⟨by walk_at "sz", fun q3 nq3 => ?_⟩
      have e4 : upd H3 q3 (.tup [.str a, ov]) q3 = some (.tup [.str a, ov]) := upd_same
      have s4 := same_new (o := .tup [.str a, ov]) nq3
      have pn4 := pn3.up s4
      have otv4 := TrAt.up s4 _ _ otv
      have tb4 : LamX.Tabs (TT2 PR PP) (upd H3 q3 (.tup [.str a, ov])) := KL.tabs_same (tabs_keep tb ((kp1.tr kp2).tr kp3) hpen) s4
      generalize upd H3 q3 (.tup [.str a, ov]) = H4 at e4 pn4 otv4 tb4 ⊢
      clear kp1 kp2 kp3 pn1 pn2 pn3 otv e1 e2 s4 nq1 nq2 nq3
      have sG : Same (noT H4) H4 := noT_same
      have pnG := PenC.noT pn4
      have otG := TrAt.noT _ _ otv4
      have gN : ∀ b o, noT H4 b = some o → ∀ ps, o ≠ .tbl ps := fun b o e => (noT_get e).2
      have gF : ∀ b, H4 b = none → noT H4 b = none := fun b e => by
        unfold noT
        rw [e]
      generalize noT H4 = G at sG pnG otG gN gF
      have sG4 := sG
      walk_at "rd"
      refine ⟨tb4, fun f0 c0' Hx xx nx tbx nfx hfx hcx => ?_⟩
      have sGx : Same G Hx := fun b o e => xx _ _ (sG4 _ _ e) (gN _ _ e)
      walk_at "rd"
      refine ⟨by walk_at "sz", fun t0 nt => ?_⟩
      have sT := same_new (o := .tup [.ref f0, .str "variable"]) nt
      have K0 : AskAt (plX P w K mg base f cL A outer s0 H0 E) (upd Hx t0 (.tup [.ref f0, .str "variable"])) .a0 (.ref t0) := ⟨t0, f0, c0', rfl, upd_same, sT _ _ hfx, sT _ _ hcx⟩
      have sGy := sGx.trans sT
      have tby := KL.tabs_same tbx sT
      generalize upd Hx t0 (.tup [.ref f0, .str "variable"]) = Hy at K0 sGy tby ⊢
      clear tb4 sG4 xx nx tbx nfx hfx hcx sGx sT nt
      walk_at "rd"
      refine ⟨by walk_at "sz", fun A5 nA => ?_⟩
      have sT := same_new (o := .lst [.ref t0]) nA
      have eA : upd Hy A5 (.lst [.ref t0]) A5 = some (.lst [.ref t0]) := upd_same
      replace K0 := K0.kp (.same sT)
      have gA : G A5 = none := by
        cases e : G A5 with
        | none => rfl
        | some o => rw [sGy _ _ e] at nA; cases nA
      have sG5 := sGy.trans sT
      have tb5 := KL.tabs_same tby sT
      generalize upd Hy A5 (.lst [.ref t0]) = H5 at eA K0 sG5 tb5 ⊢
      clear sGy tby nA sT
      walk_at "rd"
      refine ⟨tb5, fun f1 c1' Hx xx nx tbx nfx hfx hcx => ?_⟩
      have eAx := xx _ _ eA (fun _ z => by cases z)
      have sGx : Same G Hx := fun b o e => xx _ _ (sG5 _ _ e) (gN _ _ e)
      walk_at "rd"
      refine ⟨by walk_at "sz", fun t1 nt => ?_⟩
      have sT := same_new (o := .tup [.ref f1, .str "means"]) nt
      have K1 : AskAt (plX P w K mg base f cL A outer s0 H0 E) (upd Hx t1 (.tup [.ref f1, .str "means"])) .a1 (.ref t1) := ⟨t1, f1, c1', rfl, upd_same, sT _ _ hfx, sT _ _ hcx⟩
      replace K0 := (K0.kp (.ext xx)).kp (.same sT)
      have sGy := sGx.trans sT
      have tby := KL.tabs_same tbx sT
      have eAy := sT _ _ eAx
      generalize upd Hx t1 (.tup [.ref f1, .str "means"]) = Hy at K0 K1 sGy tby eAy ⊢
      clear tb5 sG5 xx nx tbx nfx hfx hcx sGx sT nt eA eAx
      walk_at "rd"
      refine r_append eAy (by walk_at "sz") ?_
      dsimp only [List.cons_append, List.nil_append]
      have eA : upd Hy A5 (.lst [.ref t0, .ref t1]) A5 = some (.lst [.ref t0, .ref t1]) := upd_same
      have sG6 : Same G (upd Hy A5 (.lst [.ref t0, .ref t1])) := fun b o e => by
        rw [upd_ne (fun z => by rw [z, gA] at e; cases e)]
        exact sGy _ _ e
      have tb6 := KL.tabs_to tby (H' := upd Hy A5 (.lst [.ref t0, .ref t1])) fun b o e n => by
        rw [upd_ne (fun z => n _ (by rw [z, eAy] at e; exact (Option.some.inj e).symm))]
        exact e
      replace K0 := K0.kp (.mut (o := .lst [.ref t0, .ref t1]) eAy)
      replace K1 := K1.kp (.mut (o := .lst [.ref t0, .ref t1]) eAy)
      generalize upd Hy A5 (.lst [.ref t0, .ref t1]) = H6 at eA K0 K1 sG6 tb6 ⊢
      clear sGy tby eAy
      walk_at "rd"
      refine ⟨tb6, fun f2 c2' Hx xx nx tbx nfx hfx hcx => ?_⟩
      have eAx := xx _ _ eA (fun _ z => by cases z)
      have sGx : Same G Hx := fun b o e => xx _ _ (sG6 _ _ e) (gN _ _ e)
      walk_at "rd"
      refine ⟨by walk_at "sz", fun t2 nt => ?_⟩
      have sT := same_new (o := .tup [.ref f2, .str "port"]) nt
      have K2 : AskAt (plX P w K mg base f cL A outer s0 H0 E) (upd Hx t2 (.tup [.ref f2, .str "port"])) .a2 (.ref t2) := ⟨t2, f2, c2', rfl, upd_same, sT _ _ hfx, sT _ _ hcx⟩
      replace K0 := (K0.kp (.ext xx)).kp (.same sT)
      replace K1 := (K1.kp (.ext xx)).kp (.same sT)
      have sGy := sGx.trans sT
      have tby := KL.tabs_same tbx sT
      have eAy := sT _ _ eAx
      generalize upd Hx t2 (.tup [.ref f2, .str "port"]) = Hy at K0 K1 K2 sGy tby eAy ⊢
      clear tb6 sG6 xx nx tbx nfx hfx hcx sGx sT nt eA eAx
      walk_at "rd"
      refine r_append eAy (by walk_at "sz") ?_
      dsimp only [List.cons_append, List.nil_append]
      have eA : upd Hy A5 (.lst [.ref t0, .ref t1, .ref t2]) A5 = some (.lst [.ref t0, .ref t1, .ref t2]) := upd_same
      have sG7 : Same G (upd Hy A5 (.lst [.ref t0, .ref t1, .ref t2])) := fun b o e => by
        rw [upd_ne (fun z => by rw [z, gA] at e; cases e)]
        exact sGy _ _ e
      have tb7 := KL.tabs_to tby (H' := upd Hy A5 (.lst [.ref t0, .ref t1, .ref t2])) fun b o e n => by
        rw [upd_ne (fun z => n _ (by rw [z, eAy] at e; exact (Option.some.inj e).symm))]
        exact e
      replace K0 := K0.kp (.mut (o := .lst [.ref t0, .ref t1, .ref t2]) eAy)
      replace K1 := K1.kp (.mut (o := .lst [.ref t0, .ref t1, .ref t2]) eAy)
      replace K2 := K2.kp (.mut (o := .lst [.ref t0, .ref t1, .ref t2]) eAy)
      generalize upd Hy A5 (.lst [.ref t0, .ref t1, .ref t2]) = H7 at eA K0 K1 K2 sG7 tb7 ⊢
      clear sGy tby eAy
      walk_at "rd"
      refine ⟨tb7, fun f3 c3' Hx xx nx tbx nfx hfx hcx => ?_⟩
      have eAx := xx _ _ eA (fun _ z => by cases z)
      have sGx : Same G Hx := fun b o e => xx _ _ (sG7 _ _ e) (gN _ _ e)
      walk_at "rd"
      refine ⟨by walk_at "sz", fun t3 nt => ?_⟩
      have sT := same_new (o := .tup [.ref f3, .str "lane"]) nt
      have K3 : AskAt (plX P w K mg base f cL A outer s0 H0 E) (upd Hx t3 (.tup [.ref f3, .str "lane"])) .a3 (.ref t3) := ⟨t3, f3, c3', rfl, upd_same, sT _ _ hfx, sT _ _ hcx⟩
      replace K0 := (K0.kp (.ext xx)).kp (.same sT)
      replace K1 := (K1.kp (.ext xx)).kp (.same sT)
      replace K2 := (K2.kp (.ext xx)).kp (.same sT)
      have sGy := sGx.trans sT
      have tby := KL.tabs_same tbx sT
      have eAy := sT _ _ eAx
      generalize upd Hx t3 (.tup [.ref f3, .str "lane"]) = Hy at K0 K1 K2 K3 sGy tby eAy ⊢
      clear tb7 sG7 xx nx tbx nfx hfx hcx sGx sT nt eA eAx
      walk_at "rd"
      refine r_append eAy (by walk_at "sz") ?_
      dsimp only [List.cons_append, List.nil_append]
      have eA : upd Hy A5 (.lst [.ref t0, .ref t1, .ref t2, .ref t3]) A5 = some (.lst [.ref t0, .ref t1, .ref t2, .ref t3]) := upd_same
      have sG8 : Same G (upd Hy A5 (.lst [.ref t0, .ref t1, .ref t2, .ref t3])) := fun b o e => by
        rw [upd_ne (fun z => by rw [z, gA] at e; cases e)]
        exact sGy _ _ e
      have tb8 := KL.tabs_to tby (H' := upd Hy A5 (.lst [.ref t0, .ref t1, .ref t2, .ref t3])) fun b o e n => by
        rw [upd_ne (fun z => n _ (by rw [z, eAy] at e; exact (Option.some.inj e).symm))]
        exact e
      replace K0 := K0.kp (.mut (o := .lst [.ref t0, .ref t1, .ref t2, .ref t3]) eAy)
      replace K1 := K1.kp (.mut (o := .lst [.ref t0, .ref t1, .ref t2, .ref t3]) eAy)
      replace K2 := K2.kp (.mut (o := .lst [.ref t0, .ref t1, .ref t2, .ref t3]) eAy)
      replace K3 := K3.kp (.mut (o := .lst [.ref t0, .ref t1, .ref t2, .ref t3]) eAy)
      generalize upd Hy A5 (.lst [.ref t0, .ref t1, .ref t2, .ref t3]) = H8 at eA K0 K1 K2 K3 sG8 tb8 ⊢
      clear sGy tby eAy
      walk_at "rd"
      refine ⟨tb8, fun f4 c4' Hx xx nx tbx nfx hfx hcx => ?_⟩
      have eAx := xx _ _ eA (fun _ z => by cases z)
      have sGx : Same G Hx := fun b o e => xx _ _ (sG8 _ _ e) (gN _ _ e)
      walk_at "rd"
      refine ⟨by walk_at "sz", fun t4 nt => ?_⟩
      have sT := same_new (o := .tup [.ref f4, .str "blend"]) nt
      have K4 : AskAt (plX P w K mg base f cL A outer s0 H0 E) (upd Hx t4 (.tup [.ref f4, .str "blend"])) .a4 (.ref t4) := ⟨t4, f4, c4', rfl, upd_same, sT _ _ hfx, sT _ _ hcx⟩
      replace K0 := (K0.kp (.ext xx)).kp (.same sT)
      replace K1 := (K1.kp (.ext xx)).kp (.same sT)
      replace K2 := (K2.kp (.ext xx)).kp (.same sT)
      replace K3 := (K3.kp (.ext xx)).kp (.same sT)
      have sGy := sGx.trans sT
      have tby := KL.tabs_same tbx sT
      have eAy := sT _ _ eAx
      generalize upd Hx t4 (.tup [.ref f4, .str "blend"]) = Hy at K0 K1 K2 K3 K4 sGy tby eAy ⊢
      clear tb8 sG8 xx nx tbx nfx hfx hcx sGx sT nt eA eAx
      walk_at "rd"
      refine r_append eAy (by walk_at "sz") ?_
      dsimp only [List.cons_append, List.nil_append]
      have eA : upd Hy A5 (.lst [.ref t0, .ref t1, .ref t2, .ref t3, .ref t4]) A5 = some (.lst [.ref t0, .ref t1, .ref t2, .ref t3, .ref t4]) := upd_same
      have sG9 : Same G (upd Hy A5 (.lst [.ref t0, .ref t1, .ref t2, .ref t3, .ref t4])) := fun b o e => by
        rw [upd_ne (fun z => by rw [z, gA] at e; cases e)]
        exact sGy _ _ e
      have tb9 := KL.tabs_to tby (H' := upd Hy A5 (.lst [.ref t0, .ref t1, .ref t2, .ref t3, .ref t4])) fun b o e n => by
        rw [upd_ne (fun z => n _ (by rw [z, eAy] at e; exact (Option.some.inj e).symm))]
        exact e
      replace K0 := K0.kp (.mut (o := .lst [.ref t0, .ref t1, .ref t2, .ref t3, .ref t4]) eAy)
      replace K1 := K1.kp (.mut (o := .lst [.ref t0, .ref t1, .ref t2, .ref t3, .ref t4]) eAy)
      replace K2 := K2.kp (.mut (o := .lst [.ref t0, .ref t1, .ref t2, .ref t3, .ref t4]) eAy)
      replace K3 := K3.kp (.mut (o := .lst [.ref t0, .ref t1, .ref t2, .ref t3, .ref t4]) eAy)
      replace K4 := K4.kp (.mut (o := .lst [.ref t0, .ref t1, .ref t2, .ref t3, .ref t4]) eAy)
      generalize upd Hy A5 (.lst [.ref t0, .ref t1, .ref t2, .ref t3, .ref t4]) = H9 at eA K0 K1 K2 K3 K4 sG9 tb9 ⊢
      clear sGy tby eAy
      walk_at "rd"
      refine ⟨tb9, fun f5 c5' Hx xx nx tbx nfx hfx hcx => ?_⟩
      have eAx := xx _ _ eA (fun _ z => by cases z)
      have sGx : Same G Hx := fun b o e => xx _ _ (sG9 _ _ e) (gN _ _ e)
      walk_at "rd"
      refine ⟨by walk_at "sz", fun t5 nt => ?_⟩
      have sT := same_new (o := .tup [.ref f5, .str "variable"]) nt
      have K5 : AskAt (plX P w K mg base f cL A outer s0 H0 E) (upd Hx t5 (.tup [.ref f5, .str "variable"])) .a5 (.ref t5) := ⟨t5, f5, c5', rfl, upd_same, sT _ _ hfx, sT _ _ hcx⟩
      replace K0 := (K0.kp (.ext xx)).kp (.same sT)
      replace K1 := (K1.kp (.ext xx)).kp (.same sT)
      replace K2 := (K2.kp (.ext xx)).kp (.same sT)
      replace K3 := (K3.kp (.ext xx)).kp (.same sT)
      replace K4 := (K4.kp (.ext xx)).kp (.same sT)
      have sGy := sGx.trans sT
      have tby := KL.tabs_same tbx sT
      have eAy := sT _ _ eAx
      generalize upd Hx t5 (.tup [.ref f5, .str "variable"]) = Hy at K0 K1 K2 K3 K4 K5 sGy tby eAy ⊢
      clear tb9 sG9 xx nx tbx nfx hfx hcx sGx sT nt eA eAx
      walk_at "rd"
      refine r_append eAy (by walk_at "sz") ?_
      dsimp only [List.cons_append, List.nil_append]
      have eA : upd Hy A5 (.lst [.ref t0, .ref t1, .ref t2, .ref t3, .ref t4, .ref t5]) A5 = some (.lst [.ref t0, .ref t1, .ref t2, .ref t3, .ref t4, .ref t5]) := upd_same
      have sG10 : Same G (upd Hy A5 (.lst [.ref t0, .ref t1, .ref t2, .ref t3, .ref t4, .ref t5])) := fun b o e => by
        rw [upd_ne (fun z => by rw [z, gA] at e; cases e)]
        exact sGy _ _ e
      have tb10 := KL.tabs_to tby (H' := upd Hy A5 (.lst [.ref t0, .ref t1, .ref t2, .ref t3, .ref t4, .ref t5])) fun b o e n => by
        rw [upd_ne (fun z => n _ (by rw [z, eAy] at e; exact (Option.some.inj e).symm))]
        exact e
      replace K0 := K0.kp (.mut (o := .lst [.ref t0, .ref t1, .ref t2, .ref t3, .ref t4, .ref t5]) eAy)
      replace K1 := K1.kp (.mut (o := .lst [.ref t0, .ref t1, .ref t2, .ref t3, .ref t4, .ref t5]) eAy)
      replace K2 := K2.kp (.mut (o := .lst [.ref t0, .ref t1, .ref t2, .ref t3, .ref t4, .ref t5]) eAy)
      replace K3 := K3.kp (.mut (o := .lst [.ref t0, .ref t1, .ref t2, .ref t3, .ref t4, .ref t5]) eAy)
      replace K4 := K4.kp (.mut (o := .lst [.ref t0, .ref t1, .ref t2, .ref t3, .ref t4, .ref t5]) eAy)
      replace K5 := K5.kp (.mut (o := .lst [.ref t0, .ref t1, .ref t2, .ref t3, .ref t4, .ref t5]) eAy)
      generalize upd Hy A5 (.lst [.ref t0, .ref t1, .ref t2, .ref t3, .ref t4, .ref t5]) = H10 at eA K0 K1 K2 K3 K4 K5 sG10 tb10 ⊢
      clear sGy tby eAy
      walk_at "rd"
      have pn10 := pnG.up sG10
      obtain ⟨hu, hv, hz', hpen10⟩ : ∃ u v z : V, H10 pen = some (.lst [u, v, z]) := by
        obtain ⟨ns, at_, left, h1, _⟩ := id pn10
        exact ⟨_, _, _, h1⟩
      have k2 : Kp2 H10 (hidA (noT H10) pen) := fun b o e nl nt => keep_hide b o (noT_of e nt) (fun z => nl _ (by rw [z, hpen10] at e; exact (Option.some.inj e).symm))
      replace K0 := K0.kp k2
      replace K1 := K1.kp k2
      replace K2 := K2.kp k2
      replace K3 := K3.kp k2
      replace K4 := K4.kp k2
      replace K5 := K5.kp k2
      have A5p : A5 ≠ pen := fun z => by
        obtain ⟨ns, at_, left, h1, _⟩ := id pnG
        rw [z, h1] at gA
        cases gA
      have eAG : hidA (noT H10) pen A5 = some (.lst [.ref t0, .ref t1, .ref t2, .ref t3, .ref t4, .ref t5]) := keep_hide _ _ (noT_of eA (fun _ z => by cases z)) A5p
      have otN : TrAt (hidA (noT H10) pen) ov ot := TrAt.fr3 (fr_keep keep_hide (PenC.noT pn10)) _ _ owt.s3 (TrAt.noT _ _ (TrAt.up sG10 _ _ otG))
      have sH : Same (hidA (noT H10) pen) H10 := fun b o e => (noT_get (hidA_get e).1).1
      have hP : ∀ b o, hidA (noT H10) pen b = some o → b ≠ pen := fun b o e => (hidA_get e).2
      generalize hidA (noT H10) pen = N at K0 K1 K2 K3 K4 K5 eAG otN sH hP
      refine ⟨A5, rfl, ⟨_, SqL.of eA⟩, fun D nD => ?_⟩
      have dp : D ≠ pen := pn10.ne nD
      have sD := same_new (o := .lst []) nD
      refine lc_it (walk_list (xs := [.ref t0, .ref t1, .ref t2, .ref t3, .ref t4, .ref t5])) (fun i H' => Same N H' ∧ LamX.Tabs (TT2 PR PP) H' ∧ PenC H' pen pc (k + 10 * (6 - i)) ∧ H' D = some (.lst [])) ⟨sH.trans sD, KL.tabs_same tb10 sD, (pn10.up sD).mono (by omega), upd_same⟩ (fun i H' _ h => SqL.of (h.1 _ _ eAG)) (fun i x Hq H' hi h y => ?_) (fun H' h => ?_)
      · obtain ⟨sN, tbN, pnN, hD⟩ := h
        obtain ⟨rfl, ex⟩ := y
        have hi6 : i < 6 := hi
        obtain ⟨j, K⟩ : ∃ j, AskAt (plX P w K mg base f cL A outer s0 H0 E) N j x := by
          match i, hi6 with
          | 0, _ => cases ex; exact ⟨_, K0⟩
          | 1, _ => cases ex; exact ⟨_, K1⟩
          | 2, _ => cases ex; exact ⟨_, K2⟩
          | 3, _ => cases ex; exact ⟨_, K3⟩
          | 4, _ => cases ex; exact ⟨_, K4⟩
          | 5, _ => cases ex; exact ⟨_, K5⟩
        obtain ⟨tj, fj, cj, rfl, h1, h2, h3⟩ := K.ex
        walk_at "rd"
        refine ⟨tj, _, rfl, SqT.of (sN _ _ h1), rfl, ?_⟩
        walk_at "rd"
        refine ⟨rfl, ?_⟩
        walk_at "rd"
        refine ⟨j, fj, cj, rfl, sN _ _ h2, sN _ _ h3, fun Z => ⟨sN _ _ h2, lamP_says (k := k + 10 * (6 - (i + 1))) o1 o2 va (TrAt.up sN _ _ otN) owt (pnN.mono (by omega)) j fun Ha Hb kpa pna sab => ?_⟩⟩
        walk_at "rd"
        rw [if_neg (by simp)]
        obtain ⟨pns, pat, pleft, hpp, _⟩ := id pnN
        exact ⟨fun b o e => sab _ _ (kpa _ _ (sN _ _ e) (hP _ _ e)), KL.tabs_same (tabs_keep tbN kpa hpp) sab, pna.up sab, sab _ _ (kpa _ _ hD dp)⟩
      · obtain ⟨sN, tbN, pnN, hD⟩ := h
        walk_at "rd"
        refine ⟨by walk_at "sz", fun q9 n9 => ?_⟩
        have s9 := same_new (o := .lst []) n9
        refine r_eqInts (ns := []) (ms := []) (SqL.of (s9 _ _ hD)) (SqL.of upd_same) ?_
        rw [decide_eq_true rfl]
        exact q _ (KL.tabs_same tbN s9) ((pnN.mono (by omega)).up s9)
    exact ⟨t, drv.nox, rdg⟩

end
end K35


namespace K35
open PySem L2 KB KO KY KV KTr

section
variable {P : Program} {w : World} {K : PySem.W.Frag} {mg : Str → Option Value} {base : Heap}
theorem ok_law {f cR PR cP PP : Addr} {fd : FuncData} (F : Fun K "law" "law" s_law f fd) (T : Txt mg) (c__law_pen : KB.Callee P w K mg base CX0 1 "_law_pen" ["_law_script"] (spPen K)) (c__law_draw : KB.Callee P w K mg base CX0 1 "_law_draw" ["_law_pen_here", "_law_many"] spDraw)
    (c__law_row : KB.Callee P w K mg base CX0 3 "_law_row" ["_law_pen_here", "_law_kind", "_law_width"] spRow) (c__law_refused : KG.CalleeG P w K mg base CX0 12 "_law_refused" ["_law_pen_here", "_law_kind", "_law_step", "_law_width"] (spRefused (TT2 PR PP))) (c__law_plain_refused : KG.CalleeG P w K mg base CX0 12 "_law_plain_refused" ["_law_pen_here"] (spPlainR (TT2 PR PP))) : KG.FnG P w K mg base CX0 13 f fd ["_law_script"] (spLaw K [(cR, PR), (cP, PP)]) := by
  refine KG.fun_okG F sc_law (fun vs H Q E h => ?_) (fun cdv A outer s H vs Q E hr fr h => ?_)
  · obtain ⟨a, ns, rfl, _⟩ := h
    rfl
  · obtain ⟨a, ns, rfl, hS, hl, htab, q⟩ := h
    have T0 : LamX.Tabs (TT2 PR PP) H := fun p hp => by
      rcases List.mem_cons.mp hp with rfl | hp
      · exact LamX.TabS.nil (htab (cR, PR) (List.mem_cons_self ..))
      · rw [List.mem_singleton.mp hp]
        exact LamX.TabS.nil (htab (cP, PP) (List.mem_cons_of_mem _ (List.mem_cons_self ..)))
    refine ⟨_, (pss_cons (ps_set (i := 1) sc_law.nd rfl (by first | exact Or.inl rfl | exact Or.inr rfl) (pe_callC c__law_pen (hr.mono (by decide)) (by rfl) pass0 (pa_cons (pv 0) pa_nil)))
 (pss_cons (ps_if (pt_not (pt_val (KG.pe_callG c__law_plain_refused fr (hr.mono (by decide)) (by rfl) pass0 (pa_cons (pv 1) pa_nil)))) (pss_one (ps_ret pe_bl))
 pss_nil)
 (pss_cons (ps_for PassesOwn.never rfl (pi_range1 rfl T.z_range (pa_cons pe_int pa_nil)) (pg_name (i := 2) sc_law.nd rfl (by first | exact Or.inl rfl | exact Or.inr rfl))
 (pss_one (ps_for PassesOwn.never rfl (pi_range1 rfl T.z_range (pa_cons pe_int pa_nil)) (pg_name (i := 3) sc_law.nd rfl (by first | exact Or.inl rfl | exact Or.inr rfl))
 (pss_cons (ps_set (i := 4) sc_law.nd rfl (by first | exact Or.inl rfl | exact Or.inr rfl) (pe_ix ix_list (pe_lst (pa_cons pe_int (pa_cons pe_int (pa_cons pe_int pa_nil)))) (pe_callC c__law_draw (hr.mono (by decide)) (by rfl) pass0 (pa_cons (pv 1) (pa_cons pe_int pa_nil))) (fun _ _ => rfl)))
 (pss_cons (ps_set (i := 5) sc_law.nd rfl (by first | exact Or.inl rfl | exact Or.inr rfl) (pe_callC c__law_row (hr.mono (by decide)) (by rfl) pass0 (pa_cons (pv 1) (pa_cons (pv 3) (pa_cons (pv 4) pa_nil)))))
 (pss_one (ps_if (pt_not (pt_val (KG.pe_callG c__law_refused fr (hr.mono (by decide)) (by rfl) pass0 (pa_cons (pv 1) (pa_cons (pv 3) (pa_cons (pv 5) (pa_cons (pv 4) pa_nil))))))) (pss_one (ps_ret pe_bl))
 pss_nil)))))))
 (pss_one (ps_ret pe_bl))))), at_start (σ := [some (.ref a), none, none, none, none, none]) rfl ?_⟩
    try dsimp only [cx_K]
    walk_at "rd"
    refine ⟨a, ns, rfl, hS, hl, fun H1 pen c s1 n1 n2 pn => ?_⟩
    walk_at "rd"
    refine ⟨pen, c, 2000, rfl, KL.tabs_same T0 s1, pn.mono (by omega), fun H2 tb2 pn2 => ?_⟩
    walk_at "rd"
    refine ⟨by omega, by omega, forW (walk_range (lo := 0) (n := 4)) (fun i σ' H' => ∃ y2 y3 y4 y5, σ' = [some (.ref a), some (.ref pen), y2, y3, y4, y5] ∧ LamX.Tabs (TT2 PR PP) H' ∧ PenC H' pen c (400 * (4 - i))) ⟨_, _, _, _, rfl, tb2, pn2.mono (by omega)⟩ (fun _ _ _ _ _ => trivial) ?_ ?_⟩
    · rintro i x σ' H' Hi hi ⟨y2, y3, y4, y5, rfl, tbi, pni⟩ ⟨rfl, rfl⟩
      walk_at "rd"
      refine ⟨by omega, by omega, forW (walk_range (lo := 0) (n := 4)) (fun j σ' H' => ∃ y3 y4 y5, σ' = [some (.ref a), some (.ref pen), some (.int (0 + (i : Nat))), y3, y4, y5] ∧ LamX.Tabs (TT2 PR PP) H' ∧ PenC H' pen c (400 * (4 - (i + 1)) + 100 * (4 - j))) ⟨_, _, _, rfl, tbi, pni.mono (by omega)⟩ (fun _ _ _ _ _ => trivial) ?_ ?_⟩
      · rintro j x σ' H' Hj hj ⟨y3, y4, y5, rfl, tbj, pnj⟩ ⟨rfl, rfl⟩
        walk_at "rd"
        refine ⟨by walk_at "sz", fun t nt => ?_⟩
        have st := same_new (o := .lst [.int 8, .int 16, .int 32]) nt
        have tbt := KL.tabs_same tbj st
        walk_at "rd"
        refine ⟨pen, c, 3, 400 * (4 - (i + 1)) + 100 * (4 - (j + 1)) + 80, rfl, by decide, by decide, (pnj.up st).mono (by omega), fun r H4 a4 b4 pn4 kp4 => ?_⟩
        obtain ⟨v, hv, at4⟩ := atI_mem (xs := ([8, 16, 32] : List Nat).map fun n => V.int (n : Nat)) a4 b4
        obtain ⟨w', hw, rfl⟩ := List.mem_map.mp hv
        have w3 : W3 w' := by
          simp only [List.mem_cons, List.not_mem_nil, or_false] at hw
          exact hw
        obtain ⟨_, _, _, hpp, _⟩ := id (pnj.up st)
        have tb4 := tabs_keep tbt kp4 hpp
        refine r_ixL (xs := ([8, 16, 32] : List Nat).map fun n => V.int (n : Nat)) (SqL.of (kp4 _ _ upd_same (pnj.ne nt))) at4 ?_
        walk_at "rd"
        refine ⟨pen, c, j, w', 400 * (4 - (i + 1)) + 100 * (4 - (j + 1)) + 40, by rw [Int.zero_add]; rfl, w3, pn4.mono (by omega), fun b rr H5 hb ok pz pn5 kp5 => ?_⟩
        obtain ⟨_, _, _, hp4, _⟩ := id pn4
        have tb5 := tabs_keep tb4 kp5 hp4
        walk_at "rd"
        refine ⟨pen, c, b, w', 400 * (4 - (i + 1)) + 100 * (4 - (j + 1)), _, rr, rfl, w3, hb, ok, tb5, pn5.mono (by omega), fun H6 tb6 pn6 => ?_⟩
        walk_at "rd"
        exact ⟨_, _, _, rfl, tb6, pn6⟩
      · rintro σ' H' ⟨y3, y4, y5, rfl, tbj, pnj⟩
        exact ⟨_, _, _, _, rfl, tbj, pnj.mono (by omega)⟩
    · rintro σ' H' ⟨y2, y3, y4, y5, rfl, tbi, pni⟩
      walk_at "rd"
      exact q _
end
end K35


namespace K35
open PySem L2 KB KO KY KV KTr
theorem fnR_of {P : Program} {w : World} {K : PySem.W.Frag} {mg : Str → Option Value} {base : Heap} {CX : CXT} {k : Nat} {f : Addr} {fd : FuncData} {ps : List Str} {sp : Sp} (F : FnOk P w K mg base CX k f fd ps sp) (b : Binds K fd ps []) : FnR P w K mg base CX k f sp := fun A outer s H us vs Q E hr e0 r h => by
  have z := b s us (e0.mod.kin.keeps fun b o e => (e0.bs b o e).1) (by rw [List.append_nil, ← r.length]; exact F.len _ _ _ _ h)
  rw [List.append_nil] at z
  exact F.run A outer s H ⟨us, []⟩ us vs Q E hr e0 z r h
theorem bstar_kw4 {K : PySem.W.Frag} {fd : FuncData} {ps : List Str} {pv x : Str} {D : Addr} {v : Value} (kw : PySem.W.nsIn K D x = some (some v))
    (e : ∀ (a b c d : Value) (rest : List Value), ∃ (β γ : Type) (k1 : Option Value → Sem β) (k2 : β → Sem γ) (k3 : γ → Sem (List (Str × Value))) (a' : β), bindArgs fd ⟨[a, b, c, d] ++ rest, []⟩ = ((nsGet D x >>= k1) >>= k2) >>= k3 ∧ k1 (some v) = pure a' ∧ (k2 a' >>= k3) = (newTuple rest >>= fun t => pure (ps.zip ([a, b, c, d] ++ [v]) ++ [(pv, t)]))) :
    KSt.BStar K fd ps pv 4 [] (fun us _ => us ++ [v]) := fun M A E Q s us rest ws X l1 l2 h => by
  match us, ws, l1, l2 with
  | [a, b, c, d], [], _, _ =>
    obtain ⟨β, γ, k1, k2, k3, a', e1, e2, e3⟩ := e a b c d rest
    show wpAny M A (bindArgs fd ⟨[a, b, c, d] ++ rest, []⟩) Q E s
    rw [e1, bind_assoc]
    refine wpAny_bind (((PySem.W.looks_nsIn (M := M) X kw).andThen (PySem.W.Looks.of_pure e2)).here ?_)
    rw [e3]
    exact h
theorem bstar_40 {K : PySem.W.Frag} {fd : FuncData} {ps : List Str} {pv : Str} (e : ∀ (a b c d : Value) (rest : List Value), bindArgs fd ⟨[a, b, c, d] ++ rest, []⟩ = (newTuple rest >>= fun t => pure (ps.zip [a, b, c, d] ++ [(pv, t)]))) : KSt.BStar K fd ps pv 4 [] (fun us _ => us) := fun M A E Q s us rest ws X l1 l2 h => by
  match us, ws, l1, l2 with
  | [a, b, c, d], [], _, _ =>
    show wpAny M A (bindArgs fd ⟨[a, b, c, d] ++ rest, []⟩) Q E s
    rw [e]
    exact h
theorem bstar_41 {K : PySem.W.Frag} {fd : FuncData} {ps : List Str} {pv x : Str} (e : ∀ (a b c d v : Value) (rest : List Value), bindArgs fd ⟨[a, b, c, d] ++ rest, [(x, v)]⟩ = (newTuple rest >>= fun t => pure (ps.zip ([a, b, c, d] ++ [v]) ++ [(pv, t)]))) : KSt.BStar K fd ps pv 4 [x] (fun us ws => us ++ ws) := fun M A E Q s us rest ws X l1 l2 h => by
  match us, ws, l1, l2 with
  | [a, b, c, d], [v], _, _ =>
    show wpAny M A (bindArgs fd ⟨[a, b, c, d] ++ rest, [(x, v)]⟩) Q E s
    rw [e]
    exact h
def gRdOf (us zs : List V) : List V := us ++ [zs.getD 3 .non, zs.getD 2 .non, zs.getD 1 .non, zs.getD 0 .non]
def gWrOf (us zs : List V) : List V := us ++ [zs.getD 1 .non, zs.getD 0 .non]
theorem vals_getD : ∀ {zs : List V} {ws : List Value}, Vals zs ws → ∀ n, RelV (zs.getD n .non) (ws.getD n .none)
  | _, _, .nil, n => by
    rw [List.getD_nil, List.getD_nil]
    rfl
  | _, _, .cons h t, 0 => h
  | _, _, .cons h t, n + 1 => by
    rw [List.getD_cons_succ, List.getD_cons_succ]
    exact vals_getD t n
theorem sqK {K : PySem.W.Frag} {a : Addr} {dd : Option Addr} {its : Array Value} {n : Nat} {sl : Array (Option Value)} {xs : List V} (h : K.lookup a = some ⟨.type "tuple", dd, .seq its n, sl⟩) (hz : its.size ≤ 100) (r : Vals xs its.toList) : ∀ H, SqT K H a xs :=
  fun _ => .inr ⟨_, its, n, h, rfl, rfl, Nat.le_trans hz (by decide), r⟩
theorem free_only {sc : Scope} {x : Str} (h : ∀ z ∈ sc.names, z.2 = .free → z.1 = x) : ∀ y, sc.names.lookup y = some .free → y = x := fun y e => h (y, .free) (PySem.mem_of_lookup e) rfl
theorem code_of {K : PySem.W.Frag} {x : Str} {f c Pt : Addr} {o : PySem.Obj} {fd : FuncData} (h : PySem.W.tabIn K x = some (c, Pt)) (h1 : PySem.W.nsIn K mainGlobals x = some (some (.ref f))) (h2 : K.lookup f = some o) (h3 : o.data = .func fd) : fd.code = .ref c := by
  obtain ⟨o1, o2, o3, o4⟩ := o
  simp only at h3
  subst h3
  unfold PySem.W.tabIn at h
  rw [h1] at h
  dsimp only at h
  rw [h2] at h
  dsimp only at h
  split at h
  · rename_i c' hc
    split at h
    · split at h
      · cases h
        exact hc
      · cases h
    · cases h
  · cases h
def errsOf (e0 e1 e2 e3 e4 e5 : Addr) : Nat → Addr
  | 0 => e0
  | 1 => e1
  | 2 => e2
  | 3 => e3
  | 4 => e4
  | _ => e5
section
variable {P : Program} {w : World} {K : PySem.W.Frag} {mg : Str → Option Value} {base : Heap}
end
def errs9 (x0 x1 x2 x3 x4 x5 x6 x7 x8 : Addr) : Nat → Addr
  | 0 => x0
  | 1 => x1
  | 2 => x2
  | 3 => x3
  | 4 => x4
  | 5 => x5
  | 6 => x6
  | 7 => x7
  | _ => x8
theorem all_mk {l : PySem.W.OpenLaw} {w : World} {K : PySem.W.Frag} {h : Heap} {mg : Str → Option Value} {fa C_Blend C_Read C_Write C_Serve C_Pair f_is_integer f_need_width f_ones f_is_word f_need_word f_shifted f_Blend___init__ DT_Blend___init__ f_Blend_constant p_Blend_constant f_Blend_is_constant p_Blend_is_constant f_Blend___eq__ f_is_made_of f_is_name f_is_variable f_is_number f_need f_is_lane f_need_access f_meant f_with_means f_Read___init__ f_Read_of p_Read_of DT_Read_of f_Read_line_words f_Read___eq__ f_Read___str__ f_Read___repr__ f_Write___init__ D_Write___init__ f_Write_of p_Write_of DT_Write_of f_Write_line_words f_Write___eq__ f_Write___str__ f_Write___repr__ f_Serve___init__ f_Serve_line_words f_Serve___eq__ f_Serve___str__ f_Serve___repr__ f_Pair___init__ f_Pair_line_words f_Pair___eq__ f_Pair___str__ f_Pair___repr__ f__law_pen f__law_draw f__law_word f__law_names f__law_variables f__law_normal f__law_made_step f__law_row f__law_wrong f__law_wrong_means f__law_arguments f__law_spoil f__law_made f__law_heard f__law_refused f__law_plain_refused f_law aW e0 e2 e3 cda0 ccell0 fI0 N_E0 cda2 ccell2 fI2 N_E2 cda3 ccell3 fI3 N_E3 e4 cda4 ccell4 fI4 N_E4 C_Step aL aZ0 aZ1 CB x0 x1 x2 x3 x4 x5 x7 x8 cR PR cP PP : Addr} (X : K.In h) (G : h.Ns mainGlobals mg) (hfa : mg "law" = some (.ref fa))
    {od_is_integer an_is_integer : Option Addr} {sl_is_integer : Array (Option Value)} {oc_is_integer kV_is_integer dc_is_integer pm_is_integer cd_is_integer ct_is_integer : Value}
    {od_need_width an_need_width : Option Addr} {sl_need_width : Array (Option Value)} {oc_need_width kV_need_width dc_need_width pm_need_width cd_need_width ct_need_width : Value}
    {od_ones an_ones : Option Addr} {sl_ones : Array (Option Value)} {oc_ones kV_ones dc_ones pm_ones cd_ones ct_ones : Value}
    {od_is_word an_is_word : Option Addr} {sl_is_word : Array (Option Value)} {oc_is_word kV_is_word dc_is_word pm_is_word cd_is_word ct_is_word : Value}
    {od_need_word an_need_word : Option Addr} {sl_need_word : Array (Option Value)} {oc_need_word kV_need_word dc_need_word pm_need_word cd_need_word ct_need_word : Value}
    {od_shifted an_shifted : Option Addr} {sl_shifted : Array (Option Value)} {oc_shifted kV_shifted dc_shifted pm_shifted cd_shifted ct_shifted : Value}
    {od_Blend___init__ an_Blend___init__ : Option Addr} {sl_Blend___init__ : Array (Option Value)} {oc_Blend___init__ kV_Blend___init__ dc_Blend___init__ pm_Blend___init__ cd_Blend___init__ ct_Blend___init__ : Value}
    {dd_DT_Blend___init__ : Option Addr} {n_DT_Blend___init__ : Nat} {sl_DT_Blend___init__ : Array (Option Value)} {tk_Blend___init___0 tk_Blend___init___2 : Tok}
    {od_Blend_constant an_Blend_constant : Option Addr} {sl_Blend_constant : Array (Option Value)} {oc_Blend_constant kV_Blend_constant dc_Blend_constant pm_Blend_constant cd_Blend_constant ct_Blend_constant : Value}
    {rs_Blend_constant : List Value}
    {od_Blend_is_constant an_Blend_is_constant : Option Addr} {sl_Blend_is_constant : Array (Option Value)} {oc_Blend_is_constant kV_Blend_is_constant dc_Blend_is_constant pm_Blend_is_constant cd_Blend_is_constant ct_Blend_is_constant : Value}
    {rs_Blend_is_constant : List Value}
    {od_Blend___eq__ an_Blend___eq__ : Option Addr} {sl_Blend___eq__ : Array (Option Value)} {oc_Blend___eq__ kV_Blend___eq__ dc_Blend___eq__ pm_Blend___eq__ cd_Blend___eq__ ct_Blend___eq__ : Value}
    {od_is_made_of an_is_made_of : Option Addr} {sl_is_made_of : Array (Option Value)} {oc_is_made_of kV_is_made_of dc_is_made_of pm_is_made_of cd_is_made_of ct_is_made_of : Value}
    {od_is_name an_is_name : Option Addr} {sl_is_name : Array (Option Value)} {oc_is_name kV_is_name dc_is_name pm_is_name cd_is_name ct_is_name : Value}
    {od_is_variable an_is_variable : Option Addr} {sl_is_variable : Array (Option Value)} {oc_is_variable kV_is_variable dc_is_variable pm_is_variable cd_is_variable ct_is_variable : Value}
    {od_is_number an_is_number : Option Addr} {sl_is_number : Array (Option Value)} {oc_is_number kV_is_number dc_is_number pm_is_number cd_is_number ct_is_number : Value}
    {od_need an_need : Option Addr} {sl_need : Array (Option Value)} {oc_need kV_need dc_need pm_need cd_need ct_need : Value}
    {od_is_lane an_is_lane : Option Addr} {sl_is_lane : Array (Option Value)} {oc_is_lane kV_is_lane dc_is_lane pm_is_lane cd_is_lane ct_is_lane : Value}
    {od_need_access an_need_access : Option Addr} {sl_need_access : Array (Option Value)} {oc_need_access kV_need_access dc_need_access pm_need_access cd_need_access ct_need_access : Value}
    {od_meant an_meant : Option Addr} {sl_meant : Array (Option Value)} {oc_meant kV_meant dc_meant pm_meant cd_meant ct_meant : Value}
    {od_with_means an_with_means : Option Addr} {sl_with_means : Array (Option Value)} {oc_with_means kV_with_means dc_with_means pm_with_means cd_with_means ct_with_means : Value}
    {od_Read___init__ an_Read___init__ : Option Addr} {sl_Read___init__ : Array (Option Value)} {oc_Read___init__ kV_Read___init__ dc_Read___init__ pm_Read___init__ cd_Read___init__ ct_Read___init__ : Value}
    {od_Read_of an_Read_of : Option Addr} {sl_Read_of : Array (Option Value)} {oc_Read_of kV_Read_of dc_Read_of pm_Read_of cd_Read_of ct_Read_of : Value}
    {rs_Read_of : List Value}
    {dd_DT_Read_of : Option Addr} {n_DT_Read_of : Nat} {sl_DT_Read_of : Array (Option Value)}
    {od_Read_line_words an_Read_line_words : Option Addr} {sl_Read_line_words : Array (Option Value)} {oc_Read_line_words kV_Read_line_words dc_Read_line_words pm_Read_line_words cd_Read_line_words ct_Read_line_words : Value}
    {od_Read___eq__ an_Read___eq__ : Option Addr} {sl_Read___eq__ : Array (Option Value)} {oc_Read___eq__ kV_Read___eq__ dc_Read___eq__ pm_Read___eq__ cd_Read___eq__ ct_Read___eq__ : Value}
    {od_Read___str__ an_Read___str__ : Option Addr} {sl_Read___str__ : Array (Option Value)} {oc_Read___str__ kV_Read___str__ dc_Read___str__ pm_Read___str__ cd_Read___str__ ct_Read___str__ : Value}
    {od_Read___repr__ an_Read___repr__ : Option Addr} {sl_Read___repr__ : Array (Option Value)} {oc_Read___repr__ kV_Read___repr__ dc_Read___repr__ pm_Read___repr__ cd_Read___repr__ ct_Read___repr__ : Value}
    {od_Write___init__ an_Write___init__ : Option Addr} {sl_Write___init__ : Array (Option Value)} {oc_Write___init__ dc_Write___init__ pm_Write___init__ cd_Write___init__ ct_Write___init__ : Value}
    {od_Write_of an_Write_of : Option Addr} {sl_Write_of : Array (Option Value)} {oc_Write_of kV_Write_of dc_Write_of pm_Write_of cd_Write_of ct_Write_of : Value}
    {rs_Write_of : List Value}
    {dd_DT_Write_of : Option Addr} {n_DT_Write_of : Nat} {sl_DT_Write_of : Array (Option Value)}
    {od_Write_line_words an_Write_line_words : Option Addr} {sl_Write_line_words : Array (Option Value)} {oc_Write_line_words kV_Write_line_words dc_Write_line_words pm_Write_line_words cd_Write_line_words ct_Write_line_words : Value}
    {od_Write___eq__ an_Write___eq__ : Option Addr} {sl_Write___eq__ : Array (Option Value)} {oc_Write___eq__ kV_Write___eq__ dc_Write___eq__ pm_Write___eq__ cd_Write___eq__ ct_Write___eq__ : Value}
    {od_Write___str__ an_Write___str__ : Option Addr} {sl_Write___str__ : Array (Option Value)} {oc_Write___str__ kV_Write___str__ dc_Write___str__ pm_Write___str__ cd_Write___str__ ct_Write___str__ : Value}
    {od_Write___repr__ an_Write___repr__ : Option Addr} {sl_Write___repr__ : Array (Option Value)} {oc_Write___repr__ kV_Write___repr__ dc_Write___repr__ pm_Write___repr__ cd_Write___repr__ ct_Write___repr__ : Value}
    {od_Serve___init__ an_Serve___init__ : Option Addr} {sl_Serve___init__ : Array (Option Value)} {oc_Serve___init__ kV_Serve___init__ dc_Serve___init__ pm_Serve___init__ cd_Serve___init__ ct_Serve___init__ : Value}
    {od_Serve_line_words an_Serve_line_words : Option Addr} {sl_Serve_line_words : Array (Option Value)} {oc_Serve_line_words kV_Serve_line_words dc_Serve_line_words pm_Serve_line_words cd_Serve_line_words ct_Serve_line_words : Value}
    {od_Serve___eq__ an_Serve___eq__ : Option Addr} {sl_Serve___eq__ : Array (Option Value)} {oc_Serve___eq__ kV_Serve___eq__ dc_Serve___eq__ pm_Serve___eq__ cd_Serve___eq__ ct_Serve___eq__ : Value}
    {od_Serve___str__ an_Serve___str__ : Option Addr} {sl_Serve___str__ : Array (Option Value)} {oc_Serve___str__ kV_Serve___str__ dc_Serve___str__ pm_Serve___str__ cd_Serve___str__ ct_Serve___str__ : Value}
    {od_Serve___repr__ an_Serve___repr__ : Option Addr} {sl_Serve___repr__ : Array (Option Value)} {oc_Serve___repr__ kV_Serve___repr__ dc_Serve___repr__ pm_Serve___repr__ cd_Serve___repr__ ct_Serve___repr__ : Value}
    {od_Pair___init__ an_Pair___init__ : Option Addr} {sl_Pair___init__ : Array (Option Value)} {oc_Pair___init__ kV_Pair___init__ dc_Pair___init__ pm_Pair___init__ cd_Pair___init__ ct_Pair___init__ : Value}
    {od_Pair_line_words an_Pair_line_words : Option Addr} {sl_Pair_line_words : Array (Option Value)} {oc_Pair_line_words kV_Pair_line_words dc_Pair_line_words pm_Pair_line_words cd_Pair_line_words ct_Pair_line_words : Value}
    {od_Pair___eq__ an_Pair___eq__ : Option Addr} {sl_Pair___eq__ : Array (Option Value)} {oc_Pair___eq__ kV_Pair___eq__ dc_Pair___eq__ pm_Pair___eq__ cd_Pair___eq__ ct_Pair___eq__ : Value}
    {od_Pair___str__ an_Pair___str__ : Option Addr} {sl_Pair___str__ : Array (Option Value)} {oc_Pair___str__ kV_Pair___str__ dc_Pair___str__ pm_Pair___str__ cd_Pair___str__ ct_Pair___str__ : Value}
    {od_Pair___repr__ an_Pair___repr__ : Option Addr} {sl_Pair___repr__ : Array (Option Value)} {oc_Pair___repr__ kV_Pair___repr__ dc_Pair___repr__ pm_Pair___repr__ cd_Pair___repr__ ct_Pair___repr__ : Value}
    {od__law_pen an__law_pen : Option Addr} {sl__law_pen : Array (Option Value)} {oc__law_pen kV__law_pen dc__law_pen pm__law_pen cd__law_pen ct__law_pen : Value}
    {od__law_draw an__law_draw : Option Addr} {sl__law_draw : Array (Option Value)} {oc__law_draw kV__law_draw dc__law_draw pm__law_draw cd__law_draw ct__law_draw : Value}
    {od__law_word an__law_word : Option Addr} {sl__law_word : Array (Option Value)} {oc__law_word kV__law_word dc__law_word pm__law_word cd__law_word ct__law_word : Value}
    {od__law_names an__law_names : Option Addr} {sl__law_names : Array (Option Value)} {oc__law_names kV__law_names dc__law_names pm__law_names cd__law_names ct__law_names : Value}
    {od__law_variables an__law_variables : Option Addr} {sl__law_variables : Array (Option Value)} {oc__law_variables kV__law_variables dc__law_variables pm__law_variables cd__law_variables ct__law_variables : Value}
    {od__law_normal an__law_normal : Option Addr} {sl__law_normal : Array (Option Value)} {oc__law_normal kV__law_normal dc__law_normal pm__law_normal cd__law_normal ct__law_normal : Value}
    {od__law_made_step an__law_made_step : Option Addr} {sl__law_made_step : Array (Option Value)} {oc__law_made_step kV__law_made_step dc__law_made_step pm__law_made_step cd__law_made_step ct__law_made_step : Value}
    {od__law_row an__law_row : Option Addr} {sl__law_row : Array (Option Value)} {oc__law_row kV__law_row dc__law_row pm__law_row cd__law_row ct__law_row : Value}
    {od__law_wrong an__law_wrong : Option Addr} {sl__law_wrong : Array (Option Value)} {oc__law_wrong kV__law_wrong dc__law_wrong pm__law_wrong cd__law_wrong ct__law_wrong : Value}
    {od__law_wrong_means an__law_wrong_means : Option Addr} {sl__law_wrong_means : Array (Option Value)} {oc__law_wrong_means kV__law_wrong_means dc__law_wrong_means pm__law_wrong_means cd__law_wrong_means ct__law_wrong_means : Value}
    {od__law_arguments an__law_arguments : Option Addr} {sl__law_arguments : Array (Option Value)} {oc__law_arguments kV__law_arguments dc__law_arguments pm__law_arguments cd__law_arguments ct__law_arguments : Value}
    {od__law_spoil an__law_spoil : Option Addr} {sl__law_spoil : Array (Option Value)} {oc__law_spoil kV__law_spoil dc__law_spoil pm__law_spoil cd__law_spoil ct__law_spoil : Value}
    {od__law_made an__law_made : Option Addr} {sl__law_made : Array (Option Value)} {oc__law_made kV__law_made dc__law_made pm__law_made cd__law_made ct__law_made : Value}
    {od__law_heard an__law_heard : Option Addr} {sl__law_heard : Array (Option Value)} {oc__law_heard kV__law_heard dc__law_heard pm__law_heard cd__law_heard ct__law_heard : Value}
    {od__law_refused an__law_refused : Option Addr} {sl__law_refused : Array (Option Value)} {oc__law_refused kV__law_refused dc__law_refused pm__law_refused cd__law_refused ct__law_refused : Value}
    {od__law_plain_refused an__law_plain_refused : Option Addr} {sl__law_plain_refused : Array (Option Value)} {oc__law_plain_refused kV__law_plain_refused dc__law_plain_refused pm__law_plain_refused cd__law_plain_refused ct__law_plain_refused : Value}
    {od_law an_law : Option Addr} {sl_law : Array (Option Value)} {oc_law kV_law dc_law pm_law cd_law ct_law : Value}
    {dd_W : Option Addr} {n_W : Nat} {sl_W : Array (Option Value)} {tw0 tw1 tw2 : Tok}
    {o_E0 : Obj} {nm_E0 qq_E0 : Str} {bs_E0 bm_E0 : List Value} {sn_E0 : List Str} {sub_E0 : List Value} {ab_E0 : Bool} {col_E0 : Option Bool} {dd_E0 : Option Addr} {k0_E0 k1_E0 k2_E0 k3_E0 k5_E0 : Option Value} {od_I0 an_I0 cdd_I0 cld_I0 : Option Addr} {sl_I0 ccs_I0 csl_I0 : Array (Option Value)} {oc_I0 kV_I0 dc_I0 pm_I0 ct_I0 ccl_I0 cl_I0 : Value} {vs_I0 : Array Value} {file_I0 : Str} {tf_I0 : Tok}
    {o_E2 : Obj} {nm_E2 qq_E2 : Str} {bs_E2 bm_E2 : List Value} {sn_E2 : List Str} {sub_E2 : List Value} {ab_E2 : Bool} {col_E2 : Option Bool} {dd_E2 : Option Addr} {k0_E2 k1_E2 k2_E2 k3_E2 k5_E2 : Option Value} {od_I2 an_I2 cdd_I2 cld_I2 : Option Addr} {sl_I2 ccs_I2 csl_I2 : Array (Option Value)} {oc_I2 kV_I2 dc_I2 pm_I2 ct_I2 ccl_I2 cl_I2 : Value} {vs_I2 : Array Value} {file_I2 : Str} {tf_I2 : Tok}
    {o_E3 : Obj} {nm_E3 qq_E3 : Str} {bs_E3 bm_E3 : List Value} {sn_E3 : List Str} {sub_E3 : List Value} {ab_E3 : Bool} {col_E3 : Option Bool} {dd_E3 : Option Addr} {k0_E3 k1_E3 k2_E3 k3_E3 k5_E3 : Option Value} {od_I3 an_I3 cdd_I3 cld_I3 : Option Addr} {sl_I3 ccs_I3 csl_I3 : Array (Option Value)} {oc_I3 kV_I3 dc_I3 pm_I3 ct_I3 ccl_I3 cl_I3 : Value} {vs_I3 : Array Value} {file_I3 : Str} {tf_I3 : Tok}
    {o_E4 : Obj} {nm_E4 qq_E4 : Str} {bs_E4 bm_E4 : List Value} {sn_E4 : List Str} {sub_E4 : List Value} {ab_E4 : Bool} {col_E4 : Option Bool} {dd_E4 : Option Addr} {k0_E4 k1_E4 k2_E4 k3_E4 k5_E4 : Option Value} {od_I4 an_I4 cdd_I4 cld_I4 : Option Addr} {sl_I4 ccs_I4 csl_I4 : Array (Option Value)} {oc_I4 kV_I4 dc_I4 pm_I4 ct_I4 ccl_I4 cl_I4 : Value} {vs_I4 : Array Value} {file_I4 : Str} {tf_I4 : Tok}
    {tkCA tkIN tkLO tkSM tkMM : Tok}
    {dd_L dd_Z0 : Option Addr} {n_L n_Z0 : Nat} {sl_L sl_Z0 : Array (Option Value)}
    {tl0 tl1 tl2 tl3 tl4 tl5 tl6 : Tok}
    (aC_Blend : PySem.W.nsIn K mainGlobals "Blend" = some (some (.ref C_Blend)))
    (pg_Blend : PySem.W.plainGet K C_Blend Str.empty = true)
    (hd_Blend : PySem.W.hasDictIn K C_Blend = true)
    (po_Blend : PySem.W.plainOver K C_Blend = true)
    (sa_Blend : PySem.W.findIn K (.ref C_Blend) "__setattr__" = some (some (.builtin "object.__setattr__")))
    (mk_Blend : PySem.W.makesIn K C_Blend = true)
    (kc_Blend : PySem.W.keepIn K (.ref C_Blend) = true)
    (n_Blend_width : PySem.W.findIn K (.ref C_Blend) "width" = some none)
    (n_Blend_shift : PySem.W.findIn K (.ref C_Blend) "shift" = some none)
    (n_Blend_keep : PySem.W.findIn K (.ref C_Blend) "keep" = some none)
    (n_Blend_flip : PySem.W.findIn K (.ref C_Blend) "flip" = some none)
    (aC_Read : PySem.W.nsIn K mainGlobals "Read" = some (some (.ref C_Read)))
    (pg_Read : PySem.W.plainGet K C_Read Str.empty = true)
    (hd_Read : PySem.W.hasDictIn K C_Read = true)
    (po_Read : PySem.W.plainOver K C_Read = true)
    (sa_Read : PySem.W.findIn K (.ref C_Read) "__setattr__" = some (some (.builtin "object.__setattr__")))
    (mk_Read : PySem.W.makesIn K C_Read = true)
    (kc_Read : PySem.W.keepIn K (.ref C_Read) = true)
    (n_Read_variable : PySem.W.findIn K (.ref C_Read) "variable" = some none)
    (n_Read_port : PySem.W.findIn K (.ref C_Read) "port" = some none)
    (n_Read_lane : PySem.W.findIn K (.ref C_Read) "lane" = some none)
    (n_Read_means : PySem.W.findIn K (.ref C_Read) "means" = some none)
    (aC_Write : PySem.W.nsIn K mainGlobals "Write" = some (some (.ref C_Write)))
    (pg_Write : PySem.W.plainGet K C_Write Str.empty = true)
    (hd_Write : PySem.W.hasDictIn K C_Write = true)
    (po_Write : PySem.W.plainOver K C_Write = true)
    (sa_Write : PySem.W.findIn K (.ref C_Write) "__setattr__" = some (some (.builtin "object.__setattr__")))
    (mk_Write : PySem.W.makesIn K C_Write = true)
    (kc_Write : PySem.W.keepIn K (.ref C_Write) = true)
    (n_Write_port : PySem.W.findIn K (.ref C_Write) "port" = some none)
    (n_Write_lane : PySem.W.findIn K (.ref C_Write) "lane" = some none)
    (n_Write_blend : PySem.W.findIn K (.ref C_Write) "blend" = some none)
    (n_Write_means : PySem.W.findIn K (.ref C_Write) "means" = some none)
    (n_Write_variable : PySem.W.findIn K (.ref C_Write) "variable" = some none)
    (aC_Serve : PySem.W.nsIn K mainGlobals "Serve" = some (some (.ref C_Serve)))
    (pg_Serve : PySem.W.plainGet K C_Serve Str.empty = true)
    (hd_Serve : PySem.W.hasDictIn K C_Serve = true)
    (po_Serve : PySem.W.plainOver K C_Serve = true)
    (sa_Serve : PySem.W.findIn K (.ref C_Serve) "__setattr__" = some (some (.builtin "object.__setattr__")))
    (mk_Serve : PySem.W.makesIn K C_Serve = true)
    (kc_Serve : PySem.W.keepIn K (.ref C_Serve) = true)
    (n_Serve_variable : PySem.W.findIn K (.ref C_Serve) "variable" = some none)
    (n_Serve_mask : PySem.W.findIn K (.ref C_Serve) "mask" = some none)
    (aC_Pair : PySem.W.nsIn K mainGlobals "Pair" = some (some (.ref C_Pair)))
    (pg_Pair : PySem.W.plainGet K C_Pair Str.empty = true)
    (hd_Pair : PySem.W.hasDictIn K C_Pair = true)
    (po_Pair : PySem.W.plainOver K C_Pair = true)
    (sa_Pair : PySem.W.findIn K (.ref C_Pair) "__setattr__" = some (some (.builtin "object.__setattr__")))
    (mk_Pair : PySem.W.makesIn K C_Pair = true)
    (kc_Pair : PySem.W.keepIn K (.ref C_Pair) = true)
    (n_Pair_first : PySem.W.findIn K (.ref C_Pair) "first" = some none)
    (n_Pair_second : PySem.W.findIn K (.ref C_Pair) "second" = some none)
    (n_Pair_field : PySem.W.findIn K (.ref C_Pair) "field" = some none)
    (a_is_integer : PySem.W.nsIn K mainGlobals "is_integer" = some (some (.ref f_is_integer)))
    (l_is_integer : K.lookup f_is_integer = some ⟨oc_is_integer, od_is_integer, .func (PySem.W.fnOf "is_integer" "is_integer" (defArgs s_is_integer) (defBody s_is_integer) (defScope s_is_integer) .none kV_is_integer dc_is_integer pm_is_integer an_is_integer cd_is_integer ct_is_integer), sl_is_integer⟩)
    (c_is_integer : PySem.W.codeIn K cd_is_integer "is_integer" = true)
    (k_is_integer : PySem.W.keepIn K (.ref f_is_integer) = true)
    (a_need_width : PySem.W.nsIn K mainGlobals "need_width" = some (some (.ref f_need_width)))
    (l_need_width : K.lookup f_need_width = some ⟨oc_need_width, od_need_width, .func (PySem.W.fnOf "need_width" "need_width" (defArgs s_need_width) (defBody s_need_width) (defScope s_need_width) .none kV_need_width dc_need_width pm_need_width an_need_width cd_need_width ct_need_width), sl_need_width⟩)
    (c_need_width : PySem.W.codeIn K cd_need_width "need_width" = true)
    (k_need_width : PySem.W.keepIn K (.ref f_need_width) = true)
    (a_ones : PySem.W.nsIn K mainGlobals "ones" = some (some (.ref f_ones)))
    (l_ones : K.lookup f_ones = some ⟨oc_ones, od_ones, .func (PySem.W.fnOf "ones" "ones" (defArgs s_ones) (defBody s_ones) (defScope s_ones) .none kV_ones dc_ones pm_ones an_ones cd_ones ct_ones), sl_ones⟩)
    (c_ones : PySem.W.codeIn K cd_ones "ones" = true)
    (k_ones : PySem.W.keepIn K (.ref f_ones) = true)
    (a_is_word : PySem.W.nsIn K mainGlobals "is_word" = some (some (.ref f_is_word)))
    (l_is_word : K.lookup f_is_word = some ⟨oc_is_word, od_is_word, .func (PySem.W.fnOf "is_word" "is_word" (defArgs s_is_word) (defBody s_is_word) (defScope s_is_word) .none kV_is_word dc_is_word pm_is_word an_is_word cd_is_word ct_is_word), sl_is_word⟩)
    (c_is_word : PySem.W.codeIn K cd_is_word "is_word" = true)
    (k_is_word : PySem.W.keepIn K (.ref f_is_word) = true)
    (a_need_word : PySem.W.nsIn K mainGlobals "need_word" = some (some (.ref f_need_word)))
    (l_need_word : K.lookup f_need_word = some ⟨oc_need_word, od_need_word, .func (PySem.W.fnOf "need_word" "need_word" (defArgs s_need_word) (defBody s_need_word) (defScope s_need_word) .none kV_need_word dc_need_word pm_need_word an_need_word cd_need_word ct_need_word), sl_need_word⟩)
    (c_need_word : PySem.W.codeIn K cd_need_word "need_word" = true)
    (k_need_word : PySem.W.keepIn K (.ref f_need_word) = true)
    (a_shifted : PySem.W.nsIn K mainGlobals "shifted" = some (some (.ref f_shifted)))
    (l_shifted : K.lookup f_shifted = some ⟨oc_shifted, od_shifted, .func (PySem.W.fnOf "shifted" "shifted" (defArgs s_shifted) (defBody s_shifted) (defScope s_shifted) .none kV_shifted dc_shifted pm_shifted an_shifted cd_shifted ct_shifted), sl_shifted⟩)
    (c_shifted : PySem.W.codeIn K cd_shifted "shifted" = true)
    (k_shifted : PySem.W.keepIn K (.ref f_shifted) = true)
    (a_Blend___init__ : PySem.W.findIn K (.ref C_Blend) "__init__" = some (some (.ref f_Blend___init__)))
    (i_Blend___init__ : PySem.W.isFn K (.ref f_Blend___init__) = true)
    (l_Blend___init__ : K.lookup f_Blend___init__ = some ⟨oc_Blend___init__, od_Blend___init__, .func (PySem.W.fnOf "__init__" "Blend.__init__" (defArgs s_Blend___init__) (defBody s_Blend___init__) (defScope s_Blend___init__) (.ref DT_Blend___init__) kV_Blend___init__ dc_Blend___init__ pm_Blend___init__ an_Blend___init__ cd_Blend___init__ ct_Blend___init__), sl_Blend___init__⟩)
    (dt_Blend___init__ : K.lookup DT_Blend___init__ = some ⟨.type "tuple", dd_DT_Blend___init__, .seq #[.int 0 tk_Blend___init___0, .none, .int 0 tk_Blend___init___2] n_DT_Blend___init__, sl_DT_Blend___init__⟩)
    (c_Blend___init__ : PySem.W.codeIn K cd_Blend___init__ "Blend.__init__" = true)
    (k_Blend___init__ : PySem.W.keepIn K (.ref f_Blend___init__) = true)
    (a_Blend_constant : PySem.W.findCls K (.ref C_Blend) (.type "type") "constant" = some (.get (.builtin "classmethod.__get__") (.ref p_Blend_constant) .none (.ref C_Blend)))
    (rc_Blend_constant : PySem.W.recIn K p_Blend_constant "classmethod" = some (.ref f_Blend_constant :: rs_Blend_constant))
    (fi_Blend_constant : PySem.W.fnIn K f_Blend_constant = true)
    (l_Blend_constant : K.lookup f_Blend_constant = some ⟨oc_Blend_constant, od_Blend_constant, .func (PySem.W.fnOf "constant" "Blend.constant" (defArgs s_Blend_constant) (defBody s_Blend_constant) (defScope s_Blend_constant) .none kV_Blend_constant dc_Blend_constant pm_Blend_constant an_Blend_constant cd_Blend_constant ct_Blend_constant), sl_Blend_constant⟩)
    (c_Blend_constant : PySem.W.codeIn K cd_Blend_constant "Blend.constant" = true)
    (k_Blend_constant : PySem.W.keepIn K (.ref f_Blend_constant) = true)
    (pa_Blend_is_constant : PySem.W.findIn K (.ref C_Blend) "is_constant" = some (some (.ref p_Blend_is_constant)))
    (pb_Blend_is_constant : PySem.W.specialIn K (.ref p_Blend_is_constant) "__get__" = some (some (.builtin "property.__get__")))
    (pc_Blend_is_constant : PySem.W.takesIn K (.ref p_Blend_is_constant) = some true)
    (pd_Blend_is_constant : PySem.W.recIn K p_Blend_is_constant "property" = some (.ref f_Blend_is_constant :: rs_Blend_is_constant))
    (l_Blend_is_constant : K.lookup f_Blend_is_constant = some ⟨oc_Blend_is_constant, od_Blend_is_constant, .func (PySem.W.fnOf "is_constant" "Blend.is_constant" (defArgs s_Blend_is_constant) (defBody s_Blend_is_constant) (defScope s_Blend_is_constant) .none kV_Blend_is_constant dc_Blend_is_constant pm_Blend_is_constant an_Blend_is_constant cd_Blend_is_constant ct_Blend_is_constant), sl_Blend_is_constant⟩)
    (c_Blend_is_constant : PySem.W.codeIn K cd_Blend_is_constant "Blend.is_constant" = true)
    (k_Blend_is_constant : PySem.W.keepIn K (.ref f_Blend_is_constant) = true)
    (a_Blend___eq__ : PySem.W.findIn K (.ref C_Blend) "__eq__" = some (some (.ref f_Blend___eq__)))
    (i_Blend___eq__ : PySem.W.isFn K (.ref f_Blend___eq__) = true)
    (l_Blend___eq__ : K.lookup f_Blend___eq__ = some ⟨oc_Blend___eq__, od_Blend___eq__, .func (PySem.W.fnOf "__eq__" "Blend.__eq__" (defArgs s_Blend___eq__) (defBody s_Blend___eq__) (defScope s_Blend___eq__) .none kV_Blend___eq__ dc_Blend___eq__ pm_Blend___eq__ an_Blend___eq__ cd_Blend___eq__ ct_Blend___eq__), sl_Blend___eq__⟩)
    (c_Blend___eq__ : PySem.W.codeIn K cd_Blend___eq__ "Blend.__eq__" = true)
    (k_Blend___eq__ : PySem.W.keepIn K (.ref f_Blend___eq__) = true)
    (a_is_made_of : PySem.W.nsIn K mainGlobals "is_made_of" = some (some (.ref f_is_made_of)))
    (l_is_made_of : K.lookup f_is_made_of = some ⟨oc_is_made_of, od_is_made_of, .func (PySem.W.fnOf "is_made_of" "is_made_of" (defArgs s_is_made_of) (defBody s_is_made_of) (defScope s_is_made_of) .none kV_is_made_of dc_is_made_of pm_is_made_of an_is_made_of cd_is_made_of ct_is_made_of), sl_is_made_of⟩)
    (c_is_made_of : PySem.W.codeIn K cd_is_made_of "is_made_of" = true)
    (k_is_made_of : PySem.W.keepIn K (.ref f_is_made_of) = true)
    (a_is_name : PySem.W.nsIn K mainGlobals "is_name" = some (some (.ref f_is_name)))
    (l_is_name : K.lookup f_is_name = some ⟨oc_is_name, od_is_name, .func (PySem.W.fnOf "is_name" "is_name" (defArgs s_is_name) (defBody s_is_name) (defScope s_is_name) .none kV_is_name dc_is_name pm_is_name an_is_name cd_is_name ct_is_name), sl_is_name⟩)
    (c_is_name : PySem.W.codeIn K cd_is_name "is_name" = true)
    (k_is_name : PySem.W.keepIn K (.ref f_is_name) = true)
    (a_is_variable : PySem.W.nsIn K mainGlobals "is_variable" = some (some (.ref f_is_variable)))
    (l_is_variable : K.lookup f_is_variable = some ⟨oc_is_variable, od_is_variable, .func (PySem.W.fnOf "is_variable" "is_variable" (defArgs s_is_variable) (defBody s_is_variable) (defScope s_is_variable) .none kV_is_variable dc_is_variable pm_is_variable an_is_variable cd_is_variable ct_is_variable), sl_is_variable⟩)
    (c_is_variable : PySem.W.codeIn K cd_is_variable "is_variable" = true)
    (k_is_variable : PySem.W.keepIn K (.ref f_is_variable) = true)
    (a_is_number : PySem.W.nsIn K mainGlobals "is_number" = some (some (.ref f_is_number)))
    (l_is_number : K.lookup f_is_number = some ⟨oc_is_number, od_is_number, .func (PySem.W.fnOf "is_number" "is_number" (defArgs s_is_number) (defBody s_is_number) (defScope s_is_number) .none kV_is_number dc_is_number pm_is_number an_is_number cd_is_number ct_is_number), sl_is_number⟩)
    (c_is_number : PySem.W.codeIn K cd_is_number "is_number" = true)
    (k_is_number : PySem.W.keepIn K (.ref f_is_number) = true)
    (a_need : PySem.W.nsIn K mainGlobals "need" = some (some (.ref f_need)))
    (l_need : K.lookup f_need = some ⟨oc_need, od_need, .func (PySem.W.fnOf "need" "need" (defArgs s_need) (defBody s_need) (defScope s_need) .none kV_need dc_need pm_need an_need cd_need ct_need), sl_need⟩)
    (c_need : PySem.W.codeIn K cd_need "need" = true)
    (k_need : PySem.W.keepIn K (.ref f_need) = true)
    (a_is_lane : PySem.W.nsIn K mainGlobals "is_lane" = some (some (.ref f_is_lane)))
    (l_is_lane : K.lookup f_is_lane = some ⟨oc_is_lane, od_is_lane, .func (PySem.W.fnOf "is_lane" "is_lane" (defArgs s_is_lane) (defBody s_is_lane) (defScope s_is_lane) .none kV_is_lane dc_is_lane pm_is_lane an_is_lane cd_is_lane ct_is_lane), sl_is_lane⟩)
    (c_is_lane : PySem.W.codeIn K cd_is_lane "is_lane" = true)
    (k_is_lane : PySem.W.keepIn K (.ref f_is_lane) = true)
    (a_need_access : PySem.W.nsIn K mainGlobals "need_access" = some (some (.ref f_need_access)))
    (l_need_access : K.lookup f_need_access = some ⟨oc_need_access, od_need_access, .func (PySem.W.fnOf "need_access" "need_access" (defArgs s_need_access) (defBody s_need_access) (defScope s_need_access) .none kV_need_access dc_need_access pm_need_access an_need_access cd_need_access ct_need_access), sl_need_access⟩)
    (c_need_access : PySem.W.codeIn K cd_need_access "need_access" = true)
    (k_need_access : PySem.W.keepIn K (.ref f_need_access) = true)
    (a_meant : PySem.W.nsIn K mainGlobals "meant" = some (some (.ref f_meant)))
    (l_meant : K.lookup f_meant = some ⟨oc_meant, od_meant, .func (PySem.W.fnOf "meant" "meant" (defArgs s_meant) (defBody s_meant) (defScope s_meant) .none kV_meant dc_meant pm_meant an_meant cd_meant ct_meant), sl_meant⟩)
    (c_meant : PySem.W.codeIn K cd_meant "meant" = true)
    (k_meant : PySem.W.keepIn K (.ref f_meant) = true)
    (a_with_means : PySem.W.nsIn K mainGlobals "with_means" = some (some (.ref f_with_means)))
    (l_with_means : K.lookup f_with_means = some ⟨oc_with_means, od_with_means, .func (PySem.W.fnOf "with_means" "with_means" (defArgs s_with_means) (defBody s_with_means) (defScope s_with_means) .none kV_with_means dc_with_means pm_with_means an_with_means cd_with_means ct_with_means), sl_with_means⟩)
    (c_with_means : PySem.W.codeIn K cd_with_means "with_means" = true)
    (k_with_means : PySem.W.keepIn K (.ref f_with_means) = true)
    (a_Read___init__ : PySem.W.findIn K (.ref C_Read) "__init__" = some (some (.ref f_Read___init__)))
    (i_Read___init__ : PySem.W.isFn K (.ref f_Read___init__) = true)
    (l_Read___init__ : K.lookup f_Read___init__ = some ⟨oc_Read___init__, od_Read___init__, .func (PySem.W.fnOf "__init__" "Read.__init__" (defArgs s_Read___init__) (defBody s_Read___init__) (defScope s_Read___init__) .none kV_Read___init__ dc_Read___init__ pm_Read___init__ an_Read___init__ cd_Read___init__ ct_Read___init__), sl_Read___init__⟩)
    (c_Read___init__ : PySem.W.codeIn K cd_Read___init__ "Read.__init__" = true)
    (k_Read___init__ : PySem.W.keepIn K (.ref f_Read___init__) = true)
    (a_Read_of : PySem.W.findCls K (.ref C_Read) (.type "type") "of" = some (.get (.builtin "classmethod.__get__") (.ref p_Read_of) .none (.ref C_Read)))
    (rc_Read_of : PySem.W.recIn K p_Read_of "classmethod" = some (.ref f_Read_of :: rs_Read_of))
    (fi_Read_of : PySem.W.fnIn K f_Read_of = true)
    (l_Read_of : K.lookup f_Read_of = some ⟨oc_Read_of, od_Read_of, .func (PySem.W.fnOf "of" "Read.of" (defArgs s_Read_of) (defBody s_Read_of) (defScope s_Read_of) (.ref DT_Read_of) kV_Read_of dc_Read_of pm_Read_of an_Read_of cd_Read_of ct_Read_of), sl_Read_of⟩)
    (dt_Read_of : K.lookup DT_Read_of = some ⟨.type "tuple", dd_DT_Read_of, .seq #[.ref aZ0] n_DT_Read_of, sl_DT_Read_of⟩)
    (c_Read_of : PySem.W.codeIn K cd_Read_of "Read.of" = true)
    (k_Read_of : PySem.W.keepIn K (.ref f_Read_of) = true)
    (a_Read_line_words : PySem.W.findIn K (.ref C_Read) "line_words" = some (some (.ref f_Read_line_words)))
    (i_Read_line_words : PySem.W.isFn K (.ref f_Read_line_words) = true)
    (l_Read_line_words : K.lookup f_Read_line_words = some ⟨oc_Read_line_words, od_Read_line_words, .func (PySem.W.fnOf "line_words" "Read.line_words" (defArgs s_Read_line_words) (defBody s_Read_line_words) (defScope s_Read_line_words) .none kV_Read_line_words dc_Read_line_words pm_Read_line_words an_Read_line_words cd_Read_line_words ct_Read_line_words), sl_Read_line_words⟩)
    (c_Read_line_words : PySem.W.codeIn K cd_Read_line_words "Read.line_words" = true)
    (k_Read_line_words : PySem.W.keepIn K (.ref f_Read_line_words) = true)
    (a_Read___eq__ : PySem.W.findIn K (.ref C_Read) "__eq__" = some (some (.ref f_Read___eq__)))
    (i_Read___eq__ : PySem.W.isFn K (.ref f_Read___eq__) = true)
    (l_Read___eq__ : K.lookup f_Read___eq__ = some ⟨oc_Read___eq__, od_Read___eq__, .func (PySem.W.fnOf "__eq__" "Read.__eq__" (defArgs s_Read___eq__) (defBody s_Read___eq__) (defScope s_Read___eq__) .none kV_Read___eq__ dc_Read___eq__ pm_Read___eq__ an_Read___eq__ cd_Read___eq__ ct_Read___eq__), sl_Read___eq__⟩)
    (c_Read___eq__ : PySem.W.codeIn K cd_Read___eq__ "Read.__eq__" = true)
    (k_Read___eq__ : PySem.W.keepIn K (.ref f_Read___eq__) = true)
    (a_Read___str__ : PySem.W.findIn K (.ref C_Read) "__str__" = some (some (.ref f_Read___str__)))
    (i_Read___str__ : PySem.W.isFn K (.ref f_Read___str__) = true)
    (l_Read___str__ : K.lookup f_Read___str__ = some ⟨oc_Read___str__, od_Read___str__, .func (PySem.W.fnOf "__str__" "Read.__str__" (defArgs s_Read___str__) (defBody s_Read___str__) (defScope s_Read___str__) .none kV_Read___str__ dc_Read___str__ pm_Read___str__ an_Read___str__ cd_Read___str__ ct_Read___str__), sl_Read___str__⟩)
    (c_Read___str__ : PySem.W.codeIn K cd_Read___str__ "Read.__str__" = true)
    (k_Read___str__ : PySem.W.keepIn K (.ref f_Read___str__) = true)
    (a_Read___repr__ : PySem.W.findIn K (.ref C_Read) "__repr__" = some (some (.ref f_Read___repr__)))
    (i_Read___repr__ : PySem.W.isFn K (.ref f_Read___repr__) = true)
    (l_Read___repr__ : K.lookup f_Read___repr__ = some ⟨oc_Read___repr__, od_Read___repr__, .func (PySem.W.fnOf "__repr__" "Read.__repr__" (defArgs s_Read___repr__) (defBody s_Read___repr__) (defScope s_Read___repr__) .none kV_Read___repr__ dc_Read___repr__ pm_Read___repr__ an_Read___repr__ cd_Read___repr__ ct_Read___repr__), sl_Read___repr__⟩)
    (c_Read___repr__ : PySem.W.codeIn K cd_Read___repr__ "Read.__repr__" = true)
    (k_Read___repr__ : PySem.W.keepIn K (.ref f_Read___repr__) = true)
    (a_Write___init__ : PySem.W.findIn K (.ref C_Write) "__init__" = some (some (.ref f_Write___init__)))
    (i_Write___init__ : PySem.W.isFn K (.ref f_Write___init__) = true)
    (l_Write___init__ : K.lookup f_Write___init__ = some ⟨oc_Write___init__, od_Write___init__, .func (PySem.W.fnOf "__init__" "Write.__init__" (defArgs s_Write___init__) (defBody s_Write___init__) (defScope s_Write___init__) .none (.ref D_Write___init__) dc_Write___init__ pm_Write___init__ an_Write___init__ cd_Write___init__ ct_Write___init__), sl_Write___init__⟩)
    (kw_Write___init___variable : PySem.W.nsIn K D_Write___init__ "variable" = some (some (.none)))
    (c_Write___init__ : PySem.W.codeIn K cd_Write___init__ "Write.__init__" = true)
    (k_Write___init__ : PySem.W.keepIn K (.ref f_Write___init__) = true)
    (a_Write_of : PySem.W.findCls K (.ref C_Write) (.type "type") "of" = some (.get (.builtin "classmethod.__get__") (.ref p_Write_of) .none (.ref C_Write)))
    (rc_Write_of : PySem.W.recIn K p_Write_of "classmethod" = some (.ref f_Write_of :: rs_Write_of))
    (fi_Write_of : PySem.W.fnIn K f_Write_of = true)
    (l_Write_of : K.lookup f_Write_of = some ⟨oc_Write_of, od_Write_of, .func (PySem.W.fnOf "of" "Write.of" (defArgs s_Write_of) (defBody s_Write_of) (defScope s_Write_of) (.ref DT_Write_of) kV_Write_of dc_Write_of pm_Write_of an_Write_of cd_Write_of ct_Write_of), sl_Write_of⟩)
    (dt_Write_of : K.lookup DT_Write_of = some ⟨.type "tuple", dd_DT_Write_of, .seq #[.ref aZ1, .none] n_DT_Write_of, sl_DT_Write_of⟩)
    (c_Write_of : PySem.W.codeIn K cd_Write_of "Write.of" = true)
    (k_Write_of : PySem.W.keepIn K (.ref f_Write_of) = true)
    (a_Write_line_words : PySem.W.findIn K (.ref C_Write) "line_words" = some (some (.ref f_Write_line_words)))
    (i_Write_line_words : PySem.W.isFn K (.ref f_Write_line_words) = true)
    (l_Write_line_words : K.lookup f_Write_line_words = some ⟨oc_Write_line_words, od_Write_line_words, .func (PySem.W.fnOf "line_words" "Write.line_words" (defArgs s_Write_line_words) (defBody s_Write_line_words) (defScope s_Write_line_words) .none kV_Write_line_words dc_Write_line_words pm_Write_line_words an_Write_line_words cd_Write_line_words ct_Write_line_words), sl_Write_line_words⟩)
    (c_Write_line_words : PySem.W.codeIn K cd_Write_line_words "Write.line_words" = true)
    (k_Write_line_words : PySem.W.keepIn K (.ref f_Write_line_words) = true)
    (a_Write___eq__ : PySem.W.findIn K (.ref C_Write) "__eq__" = some (some (.ref f_Write___eq__)))
    (i_Write___eq__ : PySem.W.isFn K (.ref f_Write___eq__) = true)
    (l_Write___eq__ : K.lookup f_Write___eq__ = some ⟨oc_Write___eq__, od_Write___eq__, .func (PySem.W.fnOf "__eq__" "Write.__eq__" (defArgs s_Write___eq__) (defBody s_Write___eq__) (defScope s_Write___eq__) .none kV_Write___eq__ dc_Write___eq__ pm_Write___eq__ an_Write___eq__ cd_Write___eq__ ct_Write___eq__), sl_Write___eq__⟩)
    (c_Write___eq__ : PySem.W.codeIn K cd_Write___eq__ "Write.__eq__" = true)
    (k_Write___eq__ : PySem.W.keepIn K (.ref f_Write___eq__) = true)
    (a_Write___str__ : PySem.W.findIn K (.ref C_Write) "__str__" = some (some (.ref f_Write___str__)))
    (i_Write___str__ : PySem.W.isFn K (.ref f_Write___str__) = true)
    (l_Write___str__ : K.lookup f_Write___str__ = some ⟨oc_Write___str__, od_Write___str__, .func (PySem.W.fnOf "__str__" "Write.__str__" (defArgs s_Write___str__) (defBody s_Write___str__) (defScope s_Write___str__) .none kV_Write___str__ dc_Write___str__ pm_Write___str__ an_Write___str__ cd_Write___str__ ct_Write___str__), sl_Write___str__⟩)
    (c_Write___str__ : PySem.W.codeIn K cd_Write___str__ "Write.__str__" = true)
    (k_Write___str__ : PySem.W.keepIn K (.ref f_Write___str__) = true)
    (a_Write___repr__ : PySem.W.findIn K (.ref C_Write) "__repr__" = some (some (.ref f_Write___repr__)))
    (i_Write___repr__ : PySem.W.isFn K (.ref f_Write___repr__) = true)
    (l_Write___repr__ : K.lookup f_Write___repr__ = some ⟨oc_Write___repr__, od_Write___repr__, .func (PySem.W.fnOf "__repr__" "Write.__repr__" (defArgs s_Write___repr__) (defBody s_Write___repr__) (defScope s_Write___repr__) .none kV_Write___repr__ dc_Write___repr__ pm_Write___repr__ an_Write___repr__ cd_Write___repr__ ct_Write___repr__), sl_Write___repr__⟩)
    (c_Write___repr__ : PySem.W.codeIn K cd_Write___repr__ "Write.__repr__" = true)
    (k_Write___repr__ : PySem.W.keepIn K (.ref f_Write___repr__) = true)
    (a_Serve___init__ : PySem.W.findIn K (.ref C_Serve) "__init__" = some (some (.ref f_Serve___init__)))
    (i_Serve___init__ : PySem.W.isFn K (.ref f_Serve___init__) = true)
    (l_Serve___init__ : K.lookup f_Serve___init__ = some ⟨oc_Serve___init__, od_Serve___init__, .func (PySem.W.fnOf "__init__" "Serve.__init__" (defArgs s_Serve___init__) (defBody s_Serve___init__) (defScope s_Serve___init__) .none kV_Serve___init__ dc_Serve___init__ pm_Serve___init__ an_Serve___init__ cd_Serve___init__ ct_Serve___init__), sl_Serve___init__⟩)
    (c_Serve___init__ : PySem.W.codeIn K cd_Serve___init__ "Serve.__init__" = true)
    (k_Serve___init__ : PySem.W.keepIn K (.ref f_Serve___init__) = true)
    (a_Serve_line_words : PySem.W.findIn K (.ref C_Serve) "line_words" = some (some (.ref f_Serve_line_words)))
    (i_Serve_line_words : PySem.W.isFn K (.ref f_Serve_line_words) = true)
    (l_Serve_line_words : K.lookup f_Serve_line_words = some ⟨oc_Serve_line_words, od_Serve_line_words, .func (PySem.W.fnOf "line_words" "Serve.line_words" (defArgs s_Serve_line_words) (defBody s_Serve_line_words) (defScope s_Serve_line_words) .none kV_Serve_line_words dc_Serve_line_words pm_Serve_line_words an_Serve_line_words cd_Serve_line_words ct_Serve_line_words), sl_Serve_line_words⟩)
    (c_Serve_line_words : PySem.W.codeIn K cd_Serve_line_words "Serve.line_words" = true)
    (k_Serve_line_words : PySem.W.keepIn K (.ref f_Serve_line_words) = true)
    (a_Serve___eq__ : PySem.W.findIn K (.ref C_Serve) "__eq__" = some (some (.ref f_Serve___eq__)))
    (i_Serve___eq__ : PySem.W.isFn K (.ref f_Serve___eq__) = true)
    (l_Serve___eq__ : K.lookup f_Serve___eq__ = some ⟨oc_Serve___eq__, od_Serve___eq__, .func (PySem.W.fnOf "__eq__" "Serve.__eq__" (defArgs s_Serve___eq__) (defBody s_Serve___eq__) (defScope s_Serve___eq__) .none kV_Serve___eq__ dc_Serve___eq__ pm_Serve___eq__ an_Serve___eq__ cd_Serve___eq__ ct_Serve___eq__), sl_Serve___eq__⟩)
    (c_Serve___eq__ : PySem.W.codeIn K cd_Serve___eq__ "Serve.__eq__" = true)
    (k_Serve___eq__ : PySem.W.keepIn K (.ref f_Serve___eq__) = true)
    (a_Serve___str__ : PySem.W.findIn K (.ref C_Serve) "__str__" = some (some (.ref f_Serve___str__)))
    (i_Serve___str__ : PySem.W.isFn K (.ref f_Serve___str__) = true)
    (l_Serve___str__ : K.lookup f_Serve___str__ = some ⟨oc_Serve___str__, od_Serve___str__, .func (PySem.W.fnOf "__str__" "Serve.__str__" (defArgs s_Serve___str__) (defBody s_Serve___str__) (defScope s_Serve___str__) .none kV_Serve___str__ dc_Serve___str__ pm_Serve___str__ an_Serve___str__ cd_Serve___str__ ct_Serve___str__), sl_Serve___str__⟩)
    (c_Serve___str__ : PySem.W.codeIn K cd_Serve___str__ "Serve.__str__" = true)
    (k_Serve___str__ : PySem.W.keepIn K (.ref f_Serve___str__) = true)
    (a_Serve___repr__ : PySem.W.findIn K (.ref C_Serve) "__repr__" = some (some (.ref f_Serve___repr__)))
    (i_Serve___repr__ : PySem.W.isFn K (.ref f_Serve___repr__) = true)
    (l_Serve___repr__ : K.lookup f_Serve___repr__ = some ⟨oc_Serve___repr__, od_Serve___repr__, .func (PySem.W.fnOf "__repr__" "Serve.__repr__" (defArgs s_Serve___repr__) (defBody s_Serve___repr__) (defScope s_Serve___repr__) .none kV_Serve___repr__ dc_Serve___repr__ pm_Serve___repr__ an_Serve___repr__ cd_Serve___repr__ ct_Serve___repr__), sl_Serve___repr__⟩)
    (c_Serve___repr__ : PySem.W.codeIn K cd_Serve___repr__ "Serve.__repr__" = true)
    (k_Serve___repr__ : PySem.W.keepIn K (.ref f_Serve___repr__) = true)
    (a_Pair___init__ : PySem.W.findIn K (.ref C_Pair) "__init__" = some (some (.ref f_Pair___init__)))
    (i_Pair___init__ : PySem.W.isFn K (.ref f_Pair___init__) = true)
    (l_Pair___init__ : K.lookup f_Pair___init__ = some ⟨oc_Pair___init__, od_Pair___init__, .func (PySem.W.fnOf "__init__" "Pair.__init__" (defArgs s_Pair___init__) (defBody s_Pair___init__) (defScope s_Pair___init__) .none kV_Pair___init__ dc_Pair___init__ pm_Pair___init__ an_Pair___init__ cd_Pair___init__ ct_Pair___init__), sl_Pair___init__⟩)
    (c_Pair___init__ : PySem.W.codeIn K cd_Pair___init__ "Pair.__init__" = true)
    (k_Pair___init__ : PySem.W.keepIn K (.ref f_Pair___init__) = true)
    (a_Pair_line_words : PySem.W.findIn K (.ref C_Pair) "line_words" = some (some (.ref f_Pair_line_words)))
    (i_Pair_line_words : PySem.W.isFn K (.ref f_Pair_line_words) = true)
    (l_Pair_line_words : K.lookup f_Pair_line_words = some ⟨oc_Pair_line_words, od_Pair_line_words, .func (PySem.W.fnOf "line_words" "Pair.line_words" (defArgs s_Pair_line_words) (defBody s_Pair_line_words) (defScope s_Pair_line_words) .none kV_Pair_line_words dc_Pair_line_words pm_Pair_line_words an_Pair_line_words cd_Pair_line_words ct_Pair_line_words), sl_Pair_line_words⟩)
    (c_Pair_line_words : PySem.W.codeIn K cd_Pair_line_words "Pair.line_words" = true)
    (k_Pair_line_words : PySem.W.keepIn K (.ref f_Pair_line_words) = true)
    (a_Pair___eq__ : PySem.W.findIn K (.ref C_Pair) "__eq__" = some (some (.ref f_Pair___eq__)))
    (i_Pair___eq__ : PySem.W.isFn K (.ref f_Pair___eq__) = true)
    (l_Pair___eq__ : K.lookup f_Pair___eq__ = some ⟨oc_Pair___eq__, od_Pair___eq__, .func (PySem.W.fnOf "__eq__" "Pair.__eq__" (defArgs s_Pair___eq__) (defBody s_Pair___eq__) (defScope s_Pair___eq__) .none kV_Pair___eq__ dc_Pair___eq__ pm_Pair___eq__ an_Pair___eq__ cd_Pair___eq__ ct_Pair___eq__), sl_Pair___eq__⟩)
    (c_Pair___eq__ : PySem.W.codeIn K cd_Pair___eq__ "Pair.__eq__" = true)
    (k_Pair___eq__ : PySem.W.keepIn K (.ref f_Pair___eq__) = true)
    (a_Pair___str__ : PySem.W.findIn K (.ref C_Pair) "__str__" = some (some (.ref f_Pair___str__)))
    (i_Pair___str__ : PySem.W.isFn K (.ref f_Pair___str__) = true)
    (l_Pair___str__ : K.lookup f_Pair___str__ = some ⟨oc_Pair___str__, od_Pair___str__, .func (PySem.W.fnOf "__str__" "Pair.__str__" (defArgs s_Pair___str__) (defBody s_Pair___str__) (defScope s_Pair___str__) .none kV_Pair___str__ dc_Pair___str__ pm_Pair___str__ an_Pair___str__ cd_Pair___str__ ct_Pair___str__), sl_Pair___str__⟩)
    (c_Pair___str__ : PySem.W.codeIn K cd_Pair___str__ "Pair.__str__" = true)
    (k_Pair___str__ : PySem.W.keepIn K (.ref f_Pair___str__) = true)
    (a_Pair___repr__ : PySem.W.findIn K (.ref C_Pair) "__repr__" = some (some (.ref f_Pair___repr__)))
    (i_Pair___repr__ : PySem.W.isFn K (.ref f_Pair___repr__) = true)
    (l_Pair___repr__ : K.lookup f_Pair___repr__ = some ⟨oc_Pair___repr__, od_Pair___repr__, .func (PySem.W.fnOf "__repr__" "Pair.__repr__" (defArgs s_Pair___repr__) (defBody s_Pair___repr__) (defScope s_Pair___repr__) .none kV_Pair___repr__ dc_Pair___repr__ pm_Pair___repr__ an_Pair___repr__ cd_Pair___repr__ ct_Pair___repr__), sl_Pair___repr__⟩)
    (c_Pair___repr__ : PySem.W.codeIn K cd_Pair___repr__ "Pair.__repr__" = true)
    (k_Pair___repr__ : PySem.W.keepIn K (.ref f_Pair___repr__) = true)
    (a__law_pen : PySem.W.nsIn K mainGlobals "_law_pen" = some (some (.ref f__law_pen)))
    (l__law_pen : K.lookup f__law_pen = some ⟨oc__law_pen, od__law_pen, .func (PySem.W.fnOf "_law_pen" "_law_pen" (defArgs s__law_pen) (defBody s__law_pen) (defScope s__law_pen) .none kV__law_pen dc__law_pen pm__law_pen an__law_pen cd__law_pen ct__law_pen), sl__law_pen⟩)
    (c__law_pen : PySem.W.codeIn K cd__law_pen "_law_pen" = true)
    (k__law_pen : PySem.W.keepIn K (.ref f__law_pen) = true)
    (a__law_draw : PySem.W.nsIn K mainGlobals "_law_draw" = some (some (.ref f__law_draw)))
    (l__law_draw : K.lookup f__law_draw = some ⟨oc__law_draw, od__law_draw, .func (PySem.W.fnOf "_law_draw" "_law_draw" (defArgs s__law_draw) (defBody s__law_draw) (defScope s__law_draw) .none kV__law_draw dc__law_draw pm__law_draw an__law_draw cd__law_draw ct__law_draw), sl__law_draw⟩)
    (c__law_draw : PySem.W.codeIn K cd__law_draw "_law_draw" = true)
    (k__law_draw : PySem.W.keepIn K (.ref f__law_draw) = true)
    (a__law_word : PySem.W.nsIn K mainGlobals "_law_word" = some (some (.ref f__law_word)))
    (l__law_word : K.lookup f__law_word = some ⟨oc__law_word, od__law_word, .func (PySem.W.fnOf "_law_word" "_law_word" (defArgs s__law_word) (defBody s__law_word) (defScope s__law_word) .none kV__law_word dc__law_word pm__law_word an__law_word cd__law_word ct__law_word), sl__law_word⟩)
    (c__law_word : PySem.W.codeIn K cd__law_word "_law_word" = true)
    (k__law_word : PySem.W.keepIn K (.ref f__law_word) = true)
    (a__law_names : PySem.W.nsIn K mainGlobals "_law_names" = some (some (.ref f__law_names)))
    (l__law_names : K.lookup f__law_names = some ⟨oc__law_names, od__law_names, .func (PySem.W.fnOf "_law_names" "_law_names" (defArgs s__law_names) (defBody s__law_names) (defScope s__law_names) .none kV__law_names dc__law_names pm__law_names an__law_names cd__law_names ct__law_names), sl__law_names⟩)
    (c__law_names : PySem.W.codeIn K cd__law_names "_law_names" = true)
    (k__law_names : PySem.W.keepIn K (.ref f__law_names) = true)
    (a__law_variables : PySem.W.nsIn K mainGlobals "_law_variables" = some (some (.ref f__law_variables)))
    (l__law_variables : K.lookup f__law_variables = some ⟨oc__law_variables, od__law_variables, .func (PySem.W.fnOf "_law_variables" "_law_variables" (defArgs s__law_variables) (defBody s__law_variables) (defScope s__law_variables) .none kV__law_variables dc__law_variables pm__law_variables an__law_variables cd__law_variables ct__law_variables), sl__law_variables⟩)
    (c__law_variables : PySem.W.codeIn K cd__law_variables "_law_variables" = true)
    (k__law_variables : PySem.W.keepIn K (.ref f__law_variables) = true)
    (a__law_normal : PySem.W.nsIn K mainGlobals "_law_normal" = some (some (.ref f__law_normal)))
    (l__law_normal : K.lookup f__law_normal = some ⟨oc__law_normal, od__law_normal, .func (PySem.W.fnOf "_law_normal" "_law_normal" (defArgs s__law_normal) (defBody s__law_normal) (defScope s__law_normal) .none kV__law_normal dc__law_normal pm__law_normal an__law_normal cd__law_normal ct__law_normal), sl__law_normal⟩)
    (c__law_normal : PySem.W.codeIn K cd__law_normal "_law_normal" = true)
    (k__law_normal : PySem.W.keepIn K (.ref f__law_normal) = true)
    (a__law_made_step : PySem.W.nsIn K mainGlobals "_law_made_step" = some (some (.ref f__law_made_step)))
    (l__law_made_step : K.lookup f__law_made_step = some ⟨oc__law_made_step, od__law_made_step, .func (PySem.W.fnOf "_law_made_step" "_law_made_step" (defArgs s__law_made_step) (defBody s__law_made_step) (defScope s__law_made_step) .none kV__law_made_step dc__law_made_step pm__law_made_step an__law_made_step cd__law_made_step ct__law_made_step), sl__law_made_step⟩)
    (c__law_made_step : PySem.W.codeIn K cd__law_made_step "_law_made_step" = true)
    (k__law_made_step : PySem.W.keepIn K (.ref f__law_made_step) = true)
    (a__law_row : PySem.W.nsIn K mainGlobals "_law_row" = some (some (.ref f__law_row)))
    (l__law_row : K.lookup f__law_row = some ⟨oc__law_row, od__law_row, .func (PySem.W.fnOf "_law_row" "_law_row" (defArgs s__law_row) (defBody s__law_row) (defScope s__law_row) .none kV__law_row dc__law_row pm__law_row an__law_row cd__law_row ct__law_row), sl__law_row⟩)
    (c__law_row : PySem.W.codeIn K cd__law_row "_law_row" = true)
    (k__law_row : PySem.W.keepIn K (.ref f__law_row) = true)
    (a__law_wrong : PySem.W.nsIn K mainGlobals "_law_wrong" = some (some (.ref f__law_wrong)))
    (l__law_wrong : K.lookup f__law_wrong = some ⟨oc__law_wrong, od__law_wrong, .func (PySem.W.fnOf "_law_wrong" "_law_wrong" (defArgs s__law_wrong) (defBody s__law_wrong) (defScope s__law_wrong) .none kV__law_wrong dc__law_wrong pm__law_wrong an__law_wrong cd__law_wrong ct__law_wrong), sl__law_wrong⟩)
    (c__law_wrong : PySem.W.codeIn K cd__law_wrong "_law_wrong" = true)
    (k__law_wrong : PySem.W.keepIn K (.ref f__law_wrong) = true)
    (a__law_wrong_means : PySem.W.nsIn K mainGlobals "_law_wrong_means" = some (some (.ref f__law_wrong_means)))
    (l__law_wrong_means : K.lookup f__law_wrong_means = some ⟨oc__law_wrong_means, od__law_wrong_means, .func (PySem.W.fnOf "_law_wrong_means" "_law_wrong_means" (defArgs s__law_wrong_means) (defBody s__law_wrong_means) (defScope s__law_wrong_means) .none kV__law_wrong_means dc__law_wrong_means pm__law_wrong_means an__law_wrong_means cd__law_wrong_means ct__law_wrong_means), sl__law_wrong_means⟩)
    (c__law_wrong_means : PySem.W.codeIn K cd__law_wrong_means "_law_wrong_means" = true)
    (k__law_wrong_means : PySem.W.keepIn K (.ref f__law_wrong_means) = true)
    (a__law_arguments : PySem.W.nsIn K mainGlobals "_law_arguments" = some (some (.ref f__law_arguments)))
    (l__law_arguments : K.lookup f__law_arguments = some ⟨oc__law_arguments, od__law_arguments, .func (PySem.W.fnOf "_law_arguments" "_law_arguments" (defArgs s__law_arguments) (defBody s__law_arguments) (defScope s__law_arguments) .none kV__law_arguments dc__law_arguments pm__law_arguments an__law_arguments cd__law_arguments ct__law_arguments), sl__law_arguments⟩)
    (c__law_arguments : PySem.W.codeIn K cd__law_arguments "_law_arguments" = true)
    (k__law_arguments : PySem.W.keepIn K (.ref f__law_arguments) = true)
    (a__law_spoil : PySem.W.nsIn K mainGlobals "_law_spoil" = some (some (.ref f__law_spoil)))
    (l__law_spoil : K.lookup f__law_spoil = some ⟨oc__law_spoil, od__law_spoil, .func (PySem.W.fnOf "_law_spoil" "_law_spoil" (defArgs s__law_spoil) (defBody s__law_spoil) (defScope s__law_spoil) .none kV__law_spoil dc__law_spoil pm__law_spoil an__law_spoil cd__law_spoil ct__law_spoil), sl__law_spoil⟩)
    (c__law_spoil : PySem.W.codeIn K cd__law_spoil "_law_spoil" = true)
    (k__law_spoil : PySem.W.keepIn K (.ref f__law_spoil) = true)
    (a__law_made : PySem.W.nsIn K mainGlobals "_law_made" = some (some (.ref f__law_made)))
    (l__law_made : K.lookup f__law_made = some ⟨oc__law_made, od__law_made, .func (PySem.W.fnOf "_law_made" "_law_made" (defArgs s__law_made) (defBody s__law_made) (defScope s__law_made) .none kV__law_made dc__law_made pm__law_made an__law_made cd__law_made ct__law_made), sl__law_made⟩)
    (c__law_made : PySem.W.codeIn K cd__law_made "_law_made" = true)
    (k__law_made : PySem.W.keepIn K (.ref f__law_made) = true)
    (a__law_heard : PySem.W.nsIn K mainGlobals "_law_heard" = some (some (.ref f__law_heard)))
    (l__law_heard : K.lookup f__law_heard = some ⟨oc__law_heard, od__law_heard, .func (PySem.W.fnOf "_law_heard" "_law_heard" (defArgs s__law_heard) (defBody s__law_heard) (defScope s__law_heard) .none kV__law_heard dc__law_heard pm__law_heard an__law_heard cd__law_heard ct__law_heard), sl__law_heard⟩)
    (c__law_heard : PySem.W.codeIn K cd__law_heard "_law_heard" = true)
    (k__law_heard : PySem.W.keepIn K (.ref f__law_heard) = true)
    (a__law_refused : PySem.W.nsIn K mainGlobals "_law_refused" = some (some (.ref f__law_refused)))
    (l__law_refused : K.lookup f__law_refused = some ⟨oc__law_refused, od__law_refused, .func (PySem.W.fnOf "_law_refused" "_law_refused" (defArgs s__law_refused) (defBody s__law_refused) (defScope s__law_refused) .none kV__law_refused dc__law_refused pm__law_refused an__law_refused cd__law_refused ct__law_refused), sl__law_refused⟩)
    (c__law_refused : PySem.W.codeIn K cd__law_refused "_law_refused" = true)
    (k__law_refused : PySem.W.keepIn K (.ref f__law_refused) = true)
    (a__law_plain_refused : PySem.W.nsIn K mainGlobals "_law_plain_refused" = some (some (.ref f__law_plain_refused)))
    (l__law_plain_refused : K.lookup f__law_plain_refused = some ⟨oc__law_plain_refused, od__law_plain_refused, .func (PySem.W.fnOf "_law_plain_refused" "_law_plain_refused" (defArgs s__law_plain_refused) (defBody s__law_plain_refused) (defScope s__law_plain_refused) .none kV__law_plain_refused dc__law_plain_refused pm__law_plain_refused an__law_plain_refused cd__law_plain_refused ct__law_plain_refused), sl__law_plain_refused⟩)
    (c__law_plain_refused : PySem.W.codeIn K cd__law_plain_refused "_law_plain_refused" = true)
    (k__law_plain_refused : PySem.W.keepIn K (.ref f__law_plain_refused) = true)
    (a_law : PySem.W.nsIn K mainGlobals "law" = some (some (.ref f_law)))
    (l_law : K.lookup f_law = some ⟨oc_law, od_law, .func (PySem.W.fnOf "law" "law" (defArgs s_law) (defBody s_law) (defScope s_law) .none kV_law dc_law pm_law an_law cd_law ct_law), sl_law⟩)
    (c_law : PySem.W.codeIn K cd_law "law" = true)
    (k_law : PySem.W.keepIn K (.ref f_law) = true)
    (tyg : PySem.W.specialIn K (.builtin "object.__class__") "__get__" = some (some (.builtin "getset_descriptor.__get__")))
    (tyt : PySem.W.takesIn K (.builtin "object.__class__") = some true)
    (aWd : PySem.W.nsIn K mainGlobals "WIDTHS" = some (some (.ref aW)))
    (lWd : K.lookup aW = some ⟨.type "tuple", dd_W, .seq #[.int 8 tw0, .int 16 tw1, .int 32 tw2] n_W, sl_W⟩)
    (aE0 : PySem.W.nsIn K mainGlobals "InvalidWidth" = some (some (.ref e0)))
    (xs0 : PySem.W.subIn K (.ref e0) (.type "BaseException") = some true)
    (xv0 : PySem.W.findIn K (.ref e0) "value" = some none)
    (lkE0 : K.lookup e0 = some o_E0)
    (lkF0 : o_E0 = (excClassObj nm_E0 qq_E0 e0 N_E0 bs_E0 bm_E0 true sn_E0 sub_E0 ab_E0 col_E0 dd_E0 k0_E0 k1_E0 k2_E0 k3_E0 k5_E0 "ValueError.__new__"))
    (rvE0 : PySem.HandSPX.refsVE bm_E0 = true)
    (saE0 : PySem.W.findIn K (.ref e0) "__setattr__" = some (some (.builtin "object.__setattr__")))
    (tyE0 : PySem.W.typeIn K (.ref e0) = some (.type "type"))
    (kpE0 : PySem.W.keepIn K (.ref e0) = true)
    (inE0 : PySem.W.findIn K (.ref e0) "__init__" = some (some (.ref fI0)))
    (tiE0 : PySem.W.typeIn K (.ref fI0) = some (.type "function"))
    (lIK0 : K.lookup fI0 = some ⟨oc_I0, od_I0, .func (PySem.W.ksFn "__init__" "InvalidWidth.__init__" (defArgs s_I0) (defBody s_I0) (defScope s_I0) .none kV_I0 dc_I0 pm_I0 an_I0 (.ref cda0) ct_I0 ccell0), sl_I0⟩)
    (cIK0 : PySem.W.codeIn K (.ref cda0) "InvalidWidth.__init__" = true)
    (lcd0 : K.lookup cda0 = some ⟨ccl_I0, cdd_I0, .fields vs_I0, ccs_I0⟩)
    (vsI0 : vs_I0[2]? = some (.str file_I0 tf_I0))
    (fiI0 : ((l.prog.main.file : Str) == file_I0) = true)
    (lcc0 : K.lookup ccell0 = some ⟨cl_I0, cld_I0, .cell (some (.ref e0)), csl_I0⟩)
    (sbI0 : PySem.W.mroIn K e0 (.ref e0) = some true)
    (veI0 : PySem.W.mroIn K e0 (.type "ValueError") = some true)
    (suI0 : PySem.W.ks_superIn K e0 e0 "__init__" = some (some (.builtin "ValueError.__init__")))
    (aE2 : PySem.W.nsIn K mainGlobals "InvalidWord" = some (some (.ref e2)))
    (xs2 : PySem.W.subIn K (.ref e2) (.type "BaseException") = some true)
    (xv2 : PySem.W.findIn K (.ref e2) "value" = some none)
    (lkE2 : K.lookup e2 = some o_E2)
    (lkF2 : o_E2 = (excClassObj nm_E2 qq_E2 e2 N_E2 bs_E2 bm_E2 true sn_E2 sub_E2 ab_E2 col_E2 dd_E2 k0_E2 k1_E2 k2_E2 k3_E2 k5_E2 "ValueError.__new__"))
    (rvE2 : PySem.HandSPX.refsVE bm_E2 = true)
    (saE2 : PySem.W.findIn K (.ref e2) "__setattr__" = some (some (.builtin "object.__setattr__")))
    (tyE2 : PySem.W.typeIn K (.ref e2) = some (.type "type"))
    (kpE2 : PySem.W.keepIn K (.ref e2) = true)
    (inE2 : PySem.W.findIn K (.ref e2) "__init__" = some (some (.ref fI2)))
    (tiE2 : PySem.W.typeIn K (.ref fI2) = some (.type "function"))
    (lIK2 : K.lookup fI2 = some ⟨oc_I2, od_I2, .func (PySem.W.ksFn "__init__" "InvalidWord.__init__" (defArgs s_I2) (defBody s_I2) (defScope s_I2) .none kV_I2 dc_I2 pm_I2 an_I2 (.ref cda2) ct_I2 ccell2), sl_I2⟩)
    (cIK2 : PySem.W.codeIn K (.ref cda2) "InvalidWord.__init__" = true)
    (lcd2 : K.lookup cda2 = some ⟨ccl_I2, cdd_I2, .fields vs_I2, ccs_I2⟩)
    (vsI2 : vs_I2[2]? = some (.str file_I2 tf_I2))
    (fiI2 : ((l.prog.main.file : Str) == file_I2) = true)
    (lcc2 : K.lookup ccell2 = some ⟨cl_I2, cld_I2, .cell (some (.ref e2)), csl_I2⟩)
    (sbI2 : PySem.W.mroIn K e2 (.ref e2) = some true)
    (veI2 : PySem.W.mroIn K e2 (.type "ValueError") = some true)
    (suI2 : PySem.W.ks_superIn K e2 e2 "__init__" = some (some (.builtin "ValueError.__init__")))
    (aE3 : PySem.W.nsIn K mainGlobals "InvalidShift" = some (some (.ref e3)))
    (xs3 : PySem.W.subIn K (.ref e3) (.type "BaseException") = some true)
    (xv3 : PySem.W.findIn K (.ref e3) "value" = some none)
    (lkE3 : K.lookup e3 = some o_E3)
    (lkF3 : o_E3 = (excClassObj nm_E3 qq_E3 e3 N_E3 bs_E3 bm_E3 true sn_E3 sub_E3 ab_E3 col_E3 dd_E3 k0_E3 k1_E3 k2_E3 k3_E3 k5_E3 "ValueError.__new__"))
    (rvE3 : PySem.HandSPX.refsVE bm_E3 = true)
    (saE3 : PySem.W.findIn K (.ref e3) "__setattr__" = some (some (.builtin "object.__setattr__")))
    (tyE3 : PySem.W.typeIn K (.ref e3) = some (.type "type"))
    (kpE3 : PySem.W.keepIn K (.ref e3) = true)
    (inE3 : PySem.W.findIn K (.ref e3) "__init__" = some (some (.ref fI3)))
    (tiE3 : PySem.W.typeIn K (.ref fI3) = some (.type "function"))
    (lIK3 : K.lookup fI3 = some ⟨oc_I3, od_I3, .func (PySem.W.ksFn "__init__" "InvalidShift.__init__" (defArgs s_I3) (defBody s_I3) (defScope s_I3) .none kV_I3 dc_I3 pm_I3 an_I3 (.ref cda3) ct_I3 ccell3), sl_I3⟩)
    (cIK3 : PySem.W.codeIn K (.ref cda3) "InvalidShift.__init__" = true)
    (lcd3 : K.lookup cda3 = some ⟨ccl_I3, cdd_I3, .fields vs_I3, ccs_I3⟩)
    (vsI3 : vs_I3[2]? = some (.str file_I3 tf_I3))
    (fiI3 : ((l.prog.main.file : Str) == file_I3) = true)
    (lcc3 : K.lookup ccell3 = some ⟨cl_I3, cld_I3, .cell (some (.ref e3)), csl_I3⟩)
    (sbI3 : PySem.W.mroIn K e3 (.ref e3) = some true)
    (veI3 : PySem.W.mroIn K e3 (.type "ValueError") = some true)
    (suI3 : PySem.W.ks_superIn K e3 e3 "__init__" = some (some (.builtin "ValueError.__init__")))
    (tpI : (l.prog.main.scope.names.lookup ("super" : Str)).isSome = false)
    (opI : PySem.W.nsIn K cStatics "thirdparty.any" = some none)
    (rdB : PySem.W.readsIn K C_Blend (.type "type") = true)
    (gaB : PySem.W.specialIn K (.ref C_Blend) "__getattribute__" = some (some (.builtin "type.__getattribute__")))
    (aE4 : PySem.W.nsIn K mainGlobals "InvalidStep" = some (some (.ref e4)))
    (xs4 : PySem.W.subIn K (.ref e4) (.type "BaseException") = some true)
    (xv4 : PySem.W.findIn K (.ref e4) "reason" = some none)
    (lkE4 : K.lookup e4 = some o_E4)
    (lkF4 : o_E4 = (excClassObj nm_E4 qq_E4 e4 N_E4 bs_E4 bm_E4 true sn_E4 sub_E4 ab_E4 col_E4 dd_E4 k0_E4 k1_E4 k2_E4 k3_E4 k5_E4 "ValueError.__new__"))
    (rvE4 : PySem.HandSPX.refsVE bm_E4 = true)
    (saE4 : PySem.W.findIn K (.ref e4) "__setattr__" = some (some (.builtin "object.__setattr__")))
    (tyE4 : PySem.W.typeIn K (.ref e4) = some (.type "type"))
    (kpE4 : PySem.W.keepIn K (.ref e4) = true)
    (inE4 : PySem.W.findIn K (.ref e4) "__init__" = some (some (.ref fI4)))
    (tiE4 : PySem.W.typeIn K (.ref fI4) = some (.type "function"))
    (lIK4 : K.lookup fI4 = some ⟨oc_I4, od_I4, .func (PySem.W.ksFn "__init__" "InvalidStep.__init__" (defArgs s_I4) (defBody s_I4) (defScope s_I4) .none kV_I4 dc_I4 pm_I4 an_I4 (.ref cda4) ct_I4 ccell4), sl_I4⟩)
    (cIK4 : PySem.W.codeIn K (.ref cda4) "InvalidStep.__init__" = true)
    (lcd4 : K.lookup cda4 = some ⟨ccl_I4, cdd_I4, .fields vs_I4, ccs_I4⟩)
    (vsI4 : vs_I4[2]? = some (.str file_I4 tf_I4))
    (fiI4 : ((l.prog.main.file : Str) == file_I4) = true)
    (lcc4 : K.lookup ccell4 = some ⟨cl_I4, cld_I4, .cell (some (.ref e4)), csl_I4⟩)
    (sbI4 : PySem.W.mroIn K e4 (.ref e4) = some true)
    (veI4 : PySem.W.mroIn K e4 (.type "ValueError") = some true)
    (suI4 : PySem.W.ks_superIn K e4 e4 "__init__" = some (some (.builtin "ValueError.__init__")))
    (aStep : PySem.W.nsIn K mainGlobals "Step" = some (some (.ref C_Step)))
    (gCA : PySem.W.nsIn K mainGlobals "CAPITALS" = some (some (.str "ABCDEFGHIJKLMNOPQRSTUVWXYZ" tkCA)))
    (gIN : PySem.W.nsIn K mainGlobals "INNER" = some (some (.str "ABCDEFGHIJKLMNOPQRSTUVWXYZ0123456789_" tkIN)))
    (gLO : PySem.W.nsIn K mainGlobals "LONGEST" = some (some (.int 8 tkLO)))
    (gSM : PySem.W.nsIn K mainGlobals "SMALL" = some (some (.str "abcdefghijklmnopqrstuvwxyz" tkSM)))
    (gMM : PySem.W.nsIn K mainGlobals "MOST_MASK" = some (some (.int 4294967295 tkMM)))
    (gLN : PySem.W.nsIn K mainGlobals "LANES" = some (some (.ref aL)))
    (lLN : K.lookup aL = some ⟨.type "tuple", dd_L, .seq #[.str "w" tl0, .str "b0" tl1, .str "b1" tl2, .str "b2" tl3, .str "b3" tl4, .str "h0" tl5, .str "h1" tl6] n_L, sl_L⟩)
    (lE0 : K.lookup aZ0 = some ⟨.type "tuple", dd_Z0, .seq #[] n_Z0, sl_Z0⟩)
    (tycB : PySem.W.findIn K (.ref C_Blend) "__class__" = some (some (.builtin "object.__class__")))
    (tymB : PySem.W.mroIn K C_Blend (.type "object") = some true)
    (isBB : PySem.W.kitOne K (.ref C_Blend) (.ref C_Blend) = some true)
    (nfB : PySem.W.notFirst K C_Blend (.ref C_Blend) = true)
    (kB_NoneType : PySem.W.kitOne K (.type "NoneType") (.ref C_Blend) = some false)
    (kB_bool : PySem.W.kitOne K (.type "bool") (.ref C_Blend) = some false)
    (kB_int : PySem.W.kitOne K (.type "int") (.ref C_Blend) = some false)
    (kB_str : PySem.W.kitOne K (.type "str") (.ref C_Blend) = some false)
    (kB_tuple : PySem.W.kitOne K (.type "tuple") (.ref C_Blend) = some false)
    (kB_list : PySem.W.kitOne K (.type "list") (.ref C_Blend) = some false)
    (kB_dict : PySem.W.kitOne K (.type "dict") (.ref C_Blend) = some false)
    (tycRead : PySem.W.findIn K (.ref C_Read) "__class__" = some (some (.builtin "object.__class__")))
    (tymRead : PySem.W.mroIn K C_Read (.type "object") = some true)
    (ne_Read : PySem.W.findIn K (.ref C_Read) "__ne__" = some (some (.builtin "object.__ne__")))
    (sb_Read : PySem.W.subIn K (.ref C_Read) (.type "object") = some true)
    (kp_Read : PySem.W.kitOne K (.ref C_Read) (.ref C_Step) = some true)
    (k_Read_Read : PySem.W.kitOne K (.ref C_Read) (.ref C_Read) = some true)
    (nf_Read_Read : PySem.W.notFirst K C_Read (.ref C_Read) = true)
    (k_Read_Write : PySem.W.kitOne K (.ref C_Read) (.ref C_Write) = some false)
    (nf_Read_Write : PySem.W.notFirst K C_Read (.ref C_Write) = true)
    (k_Read_Serve : PySem.W.kitOne K (.ref C_Read) (.ref C_Serve) = some false)
    (nf_Read_Serve : PySem.W.notFirst K C_Read (.ref C_Serve) = true)
    (k_Read_Pair : PySem.W.kitOne K (.ref C_Read) (.ref C_Pair) = some false)
    (nf_Read_Pair : PySem.W.notFirst K C_Read (.ref C_Pair) = true)
    (kRead_NoneType : PySem.W.kitOne K (.type "NoneType") (.ref C_Read) = some false)
    (ntRead_NoneType : PySem.W.notFirst K C_Read (.type "NoneType") = true)
    (kRead_bool : PySem.W.kitOne K (.type "bool") (.ref C_Read) = some false)
    (ntRead_bool : PySem.W.notFirst K C_Read (.type "bool") = true)
    (kRead_int : PySem.W.kitOne K (.type "int") (.ref C_Read) = some false)
    (ntRead_int : PySem.W.notFirst K C_Read (.type "int") = true)
    (kRead_str : PySem.W.kitOne K (.type "str") (.ref C_Read) = some false)
    (ntRead_str : PySem.W.notFirst K C_Read (.type "str") = true)
    (kRead_tuple : PySem.W.kitOne K (.type "tuple") (.ref C_Read) = some false)
    (ntRead_tuple : PySem.W.notFirst K C_Read (.type "tuple") = true)
    (kRead_list : PySem.W.kitOne K (.type "list") (.ref C_Read) = some false)
    (ntRead_list : PySem.W.notFirst K C_Read (.type "list") = true)
    (kRead_dict : PySem.W.kitOne K (.type "dict") (.ref C_Read) = some false)
    (ntRead_dict : PySem.W.notFirst K C_Read (.type "dict") = true)
    (tycWrite : PySem.W.findIn K (.ref C_Write) "__class__" = some (some (.builtin "object.__class__")))
    (tymWrite : PySem.W.mroIn K C_Write (.type "object") = some true)
    (ne_Write : PySem.W.findIn K (.ref C_Write) "__ne__" = some (some (.builtin "object.__ne__")))
    (sb_Write : PySem.W.subIn K (.ref C_Write) (.type "object") = some true)
    (kp_Write : PySem.W.kitOne K (.ref C_Write) (.ref C_Step) = some true)
    (k_Write_Read : PySem.W.kitOne K (.ref C_Write) (.ref C_Read) = some false)
    (nf_Write_Read : PySem.W.notFirst K C_Write (.ref C_Read) = true)
    (k_Write_Write : PySem.W.kitOne K (.ref C_Write) (.ref C_Write) = some true)
    (nf_Write_Write : PySem.W.notFirst K C_Write (.ref C_Write) = true)
    (k_Write_Serve : PySem.W.kitOne K (.ref C_Write) (.ref C_Serve) = some false)
    (nf_Write_Serve : PySem.W.notFirst K C_Write (.ref C_Serve) = true)
    (k_Write_Pair : PySem.W.kitOne K (.ref C_Write) (.ref C_Pair) = some false)
    (nf_Write_Pair : PySem.W.notFirst K C_Write (.ref C_Pair) = true)
    (kWrite_NoneType : PySem.W.kitOne K (.type "NoneType") (.ref C_Write) = some false)
    (ntWrite_NoneType : PySem.W.notFirst K C_Write (.type "NoneType") = true)
    (kWrite_bool : PySem.W.kitOne K (.type "bool") (.ref C_Write) = some false)
    (ntWrite_bool : PySem.W.notFirst K C_Write (.type "bool") = true)
    (kWrite_int : PySem.W.kitOne K (.type "int") (.ref C_Write) = some false)
    (ntWrite_int : PySem.W.notFirst K C_Write (.type "int") = true)
    (kWrite_str : PySem.W.kitOne K (.type "str") (.ref C_Write) = some false)
    (ntWrite_str : PySem.W.notFirst K C_Write (.type "str") = true)
    (kWrite_tuple : PySem.W.kitOne K (.type "tuple") (.ref C_Write) = some false)
    (ntWrite_tuple : PySem.W.notFirst K C_Write (.type "tuple") = true)
    (kWrite_list : PySem.W.kitOne K (.type "list") (.ref C_Write) = some false)
    (ntWrite_list : PySem.W.notFirst K C_Write (.type "list") = true)
    (kWrite_dict : PySem.W.kitOne K (.type "dict") (.ref C_Write) = some false)
    (ntWrite_dict : PySem.W.notFirst K C_Write (.type "dict") = true)
    (tycServe : PySem.W.findIn K (.ref C_Serve) "__class__" = some (some (.builtin "object.__class__")))
    (tymServe : PySem.W.mroIn K C_Serve (.type "object") = some true)
    (ne_Serve : PySem.W.findIn K (.ref C_Serve) "__ne__" = some (some (.builtin "object.__ne__")))
    (sb_Serve : PySem.W.subIn K (.ref C_Serve) (.type "object") = some true)
    (kp_Serve : PySem.W.kitOne K (.ref C_Serve) (.ref C_Step) = some true)
    (k_Serve_Read : PySem.W.kitOne K (.ref C_Serve) (.ref C_Read) = some false)
    (nf_Serve_Read : PySem.W.notFirst K C_Serve (.ref C_Read) = true)
    (k_Serve_Write : PySem.W.kitOne K (.ref C_Serve) (.ref C_Write) = some false)
    (nf_Serve_Write : PySem.W.notFirst K C_Serve (.ref C_Write) = true)
    (k_Serve_Serve : PySem.W.kitOne K (.ref C_Serve) (.ref C_Serve) = some true)
    (nf_Serve_Serve : PySem.W.notFirst K C_Serve (.ref C_Serve) = true)
    (k_Serve_Pair : PySem.W.kitOne K (.ref C_Serve) (.ref C_Pair) = some false)
    (nf_Serve_Pair : PySem.W.notFirst K C_Serve (.ref C_Pair) = true)
    (kServe_NoneType : PySem.W.kitOne K (.type "NoneType") (.ref C_Serve) = some false)
    (ntServe_NoneType : PySem.W.notFirst K C_Serve (.type "NoneType") = true)
    (kServe_bool : PySem.W.kitOne K (.type "bool") (.ref C_Serve) = some false)
    (ntServe_bool : PySem.W.notFirst K C_Serve (.type "bool") = true)
    (kServe_int : PySem.W.kitOne K (.type "int") (.ref C_Serve) = some false)
    (ntServe_int : PySem.W.notFirst K C_Serve (.type "int") = true)
    (kServe_str : PySem.W.kitOne K (.type "str") (.ref C_Serve) = some false)
    (ntServe_str : PySem.W.notFirst K C_Serve (.type "str") = true)
    (kServe_tuple : PySem.W.kitOne K (.type "tuple") (.ref C_Serve) = some false)
    (ntServe_tuple : PySem.W.notFirst K C_Serve (.type "tuple") = true)
    (kServe_list : PySem.W.kitOne K (.type "list") (.ref C_Serve) = some false)
    (ntServe_list : PySem.W.notFirst K C_Serve (.type "list") = true)
    (kServe_dict : PySem.W.kitOne K (.type "dict") (.ref C_Serve) = some false)
    (ntServe_dict : PySem.W.notFirst K C_Serve (.type "dict") = true)
    (tycPair : PySem.W.findIn K (.ref C_Pair) "__class__" = some (some (.builtin "object.__class__")))
    (tymPair : PySem.W.mroIn K C_Pair (.type "object") = some true)
    (ne_Pair : PySem.W.findIn K (.ref C_Pair) "__ne__" = some (some (.builtin "object.__ne__")))
    (sb_Pair : PySem.W.subIn K (.ref C_Pair) (.type "object") = some true)
    (kp_Pair : PySem.W.kitOne K (.ref C_Pair) (.ref C_Step) = some true)
    (k_Pair_Read : PySem.W.kitOne K (.ref C_Pair) (.ref C_Read) = some false)
    (nf_Pair_Read : PySem.W.notFirst K C_Pair (.ref C_Read) = true)
    (k_Pair_Write : PySem.W.kitOne K (.ref C_Pair) (.ref C_Write) = some false)
    (nf_Pair_Write : PySem.W.notFirst K C_Pair (.ref C_Write) = true)
    (k_Pair_Serve : PySem.W.kitOne K (.ref C_Pair) (.ref C_Serve) = some false)
    (nf_Pair_Serve : PySem.W.notFirst K C_Pair (.ref C_Serve) = true)
    (k_Pair_Pair : PySem.W.kitOne K (.ref C_Pair) (.ref C_Pair) = some true)
    (nf_Pair_Pair : PySem.W.notFirst K C_Pair (.ref C_Pair) = true)
    (kPair_NoneType : PySem.W.kitOne K (.type "NoneType") (.ref C_Pair) = some false)
    (ntPair_NoneType : PySem.W.notFirst K C_Pair (.type "NoneType") = true)
    (kPair_bool : PySem.W.kitOne K (.type "bool") (.ref C_Pair) = some false)
    (ntPair_bool : PySem.W.notFirst K C_Pair (.type "bool") = true)
    (kPair_int : PySem.W.kitOne K (.type "int") (.ref C_Pair) = some false)
    (ntPair_int : PySem.W.notFirst K C_Pair (.type "int") = true)
    (kPair_str : PySem.W.kitOne K (.type "str") (.ref C_Pair) = some false)
    (ntPair_str : PySem.W.notFirst K C_Pair (.type "str") = true)
    (kPair_tuple : PySem.W.kitOne K (.type "tuple") (.ref C_Pair) = some false)
    (ntPair_tuple : PySem.W.notFirst K C_Pair (.type "tuple") = true)
    (kPair_list : PySem.W.kitOne K (.type "list") (.ref C_Pair) = some false)
    (ntPair_list : PySem.W.notFirst K C_Pair (.type "list") = true)
    (kPair_dict : PySem.W.kitOne K (.type "dict") (.ref C_Pair) = some false)
    (ntPair_dict : PySem.W.notFirst K C_Pair (.type "dict") = true)
    (rd_Read : PySem.W.readsIn K C_Read (.type "type") = true)
    (ga_Read : PySem.W.specialIn K (.ref C_Read) "__getattribute__" = some (some (.builtin "type.__getattribute__")))
    (rd_Write : PySem.W.readsIn K C_Write (.type "type") = true)
    (ga_Write : PySem.W.specialIn K (.ref C_Write) "__getattribute__" = some (some (.builtin "type.__getattribute__")))
    (kS_Step : PySem.W.kitOne K (.type "str") (.ref C_Step) = some false)
    (aB : PySem.W.nsIn K mainGlobals "BitError" = some (some (.ref CB)))
    (ax0 : PySem.W.nsIn K mainGlobals "InvalidField" = some (some (.ref x0)))
    (kx_x0 : PySem.W.kitOne K (.ref e4) (.ref x0) = some false)
    (ax1 : PySem.W.nsIn K mainGlobals "InvalidLane" = some (some (.ref x1)))
    (kx_x1 : PySem.W.kitOne K (.ref e4) (.ref x1) = some false)
    (ax2 : PySem.W.nsIn K mainGlobals "InvalidMap" = some (some (.ref x2)))
    (kx_x2 : PySem.W.kitOne K (.ref e4) (.ref x2) = some false)
    (ax3 : PySem.W.nsIn K mainGlobals "InvalidSystem" = some (some (.ref x3)))
    (kx_x3 : PySem.W.kitOne K (.ref e4) (.ref x3) = some false)
    (ax4 : PySem.W.nsIn K mainGlobals "InvalidTask" = some (some (.ref x4)))
    (kx_x4 : PySem.W.kitOne K (.ref e4) (.ref x4) = some false)
    (ax5 : PySem.W.nsIn K mainGlobals "InvalidText" = some (some (.ref x5)))
    (kx_x5 : PySem.W.kitOne K (.ref e4) (.ref x5) = some false)
    (kx_e2 : PySem.W.kitOne K (.ref e4) (.ref e2) = some false)
    (ax7 : PySem.W.nsIn K mainGlobals "NoName" = some (some (.ref x7)))
    (kx_x7 : PySem.W.kitOne K (.ref e4) (.ref x7) = some false)
    (ax8 : PySem.W.nsIn K mainGlobals "TooLarge" = some (some (.ref x8)))
    (kx_x8 : PySem.W.kitOne K (.ref e4) (.ref x8) = some false)
    (kxo : PySem.W.kitOne K (.ref e4) (.ref e4) = some true)
    (ktv4 : PySem.W.kitOne K (.ref e4) (.type "ValueError") = some true)
    (exm4 : PySem.W.exmOne K (.ref e4) (.ref CB) = some true)
    (xg4 : PySem.W.findIn K (.ref e4) "__getattribute__" = some (some (.builtin "BaseException.__getattribute__")))
    (xk4 : PySem.W.findIn K (.ref e4) "__getattr__" = some none)
    (xd4 : PySem.W.hasDictIn K e4 = true)
    (xa4 : PySem.W.findIn K (.ref e4) "__class__" = some (some (.builtin "object.__class__")))
    (xm4 : PySem.W.mroIn K e4 (.type "object") = some true)
    (tabcR : PySem.W.tabIn K "_law_refused" = some (cR, PR))
    (ntbcR : K.lookup PR = none)
    (tabcP : PySem.W.tabIn K "_law_plain_refused" = some (cP, PP))
    (ntbcP : K.lookup PP = none)
    (nrp : PR ≠ PP)
    (z_int : PySem.W.nsIn K mainGlobals "int" = some none)
    (z_bool : PySem.W.nsIn K mainGlobals "bool" = some none)
    (z_str : PySem.W.nsIn K mainGlobals "str" = some none)
    (z_all : PySem.W.nsIn K mainGlobals "all" = some none)
    (z_abs : PySem.W.nsIn K mainGlobals "abs" = some none)
    (z_len : PySem.W.nsIn K mainGlobals "len" = some none)
    (z_list : PySem.W.nsIn K mainGlobals "list" = some none)
    (z_tuple : PySem.W.nsIn K mainGlobals "tuple" = some none)
    (z_range : PySem.W.nsIn K mainGlobals "range" = some none)
    (z_isinstance : PySem.W.nsIn K mainGlobals "isinstance" = some none)
    (z_min : PySem.W.nsIn K mainGlobals "min" = some none)
    (z_max : PySem.W.nsIn K mainGlobals "max" = some none)
    (z_sum : PySem.W.nsIn K mainGlobals "sum" = some none)
    (z_sorted : PySem.W.nsIn K mainGlobals "sorted" = some none)
    (z_enumerate : PySem.W.nsIn K mainGlobals "enumerate" = some none)
    (z_repr : PySem.W.nsIn K mainGlobals "repr" = some none)
    (z_ValueError : PySem.W.nsIn K mainGlobals "ValueError" = some none)
    (z_set : PySem.W.nsIn K mainGlobals "set" = some none)
    (z_super : PySem.W.nsIn K mainGlobals "super" = some none)
    : ∃ (fd : FuncData) (cs : List (Addr × Addr)), cs.length = (["_law_refused", "_law_plain_refused"] : List Str).length ∧ (∀ p ∈ (["_law_refused", "_law_plain_refused"] : List Str).zip cs, PySem.W.tabIn K p.1 = some p.2) ∧ (∀ p ∈ cs, K.lookup p.2 = none) ∧ (∀ (s : Shared) (v : Value), BindsTo s fd ⟨[v], []⟩ [("_law_script", v)]) ∧ ∀ base : Heap, K.In base → base.Ns mainGlobals mg → (∀ p ∈ cs, LamX.TabB base mg p.1 p.2) → KG.FnG l.prog w K mg base CX0 13 fa fd ["_law_script"] (spLaw K cs) := by
  have e := hfa.symm.trans (PySem.W.mg_of X G a_law)
  cases e
  have F_is_integer := fun_mk (st := s_is_integer) l_is_integer c_is_integer k_is_integer
  have b_is_integer := F_is_integer.binds (ps := ["value"]) fun _ _ _ _ _ _ us hl => match us, hl with | [_], _ => rfl
  have F_need_width := fun_mk (st := s_need_width) l_need_width c_need_width k_need_width
  have b_need_width := F_need_width.binds (ps := ["width"]) fun _ _ _ _ _ _ us hl => match us, hl with | [_], _ => rfl
  have F_ones := fun_mk (st := s_ones) l_ones c_ones k_ones
  have b_ones := F_ones.binds (ps := ["width"]) fun _ _ _ _ _ _ us hl => match us, hl with | [_], _ => rfl
  have F_is_word := fun_mk (st := s_is_word) l_is_word c_is_word k_is_word
  have b_is_word := F_is_word.binds (ps := ["width", "value"]) fun _ _ _ _ _ _ us hl => match us, hl with | [_, _], _ => rfl
  have F_need_word := fun_mk (st := s_need_word) l_need_word c_need_word k_need_word
  have b_need_word := F_need_word.binds (ps := ["width", "value"]) fun _ _ _ _ _ _ us hl => match us, hl with | [_, _], _ => rfl
  have F_shifted := fun_mk (st := s_shifted) l_shifted c_shifted k_shifted
  have b_shifted := F_shifted.binds (ps := ["value", "width", "shift"]) fun _ _ _ _ _ _ us hl => match us, hl with | [_, _, _], _ => rfl
  have F_Blend_constant := fun_mk (st := s_Blend_constant) l_Blend_constant c_Blend_constant k_Blend_constant
  have b_Blend_constant := F_Blend_constant.binds (ps := ["cls", "width", "value"]) fun _ _ _ _ _ _ us hl => match us, hl with | [_, _, _], _ => rfl
  have F_Blend_is_constant := fun_mk (st := s_Blend_is_constant) l_Blend_is_constant c_Blend_is_constant k_Blend_is_constant
  have b_Blend_is_constant := F_Blend_is_constant.binds (ps := ["self"]) fun _ _ _ _ _ _ us hl => match us, hl with | [_], _ => rfl
  have F_Blend___eq__ := fun_mk (st := s_Blend___eq__) l_Blend___eq__ c_Blend___eq__ k_Blend___eq__
  have b_Blend___eq__ := F_Blend___eq__.binds (ps := ["self", "other"]) fun _ _ _ _ _ _ us hl => match us, hl with | [_, _], _ => rfl
  have F_is_made_of := fun_mk (st := s_is_made_of) l_is_made_of c_is_made_of k_is_made_of
  have b_is_made_of := F_is_made_of.binds (ps := ["value", "first", "others"]) fun _ _ _ _ _ _ us hl => match us, hl with | [_, _, _], _ => rfl
  have F_is_name := fun_mk (st := s_is_name) l_is_name c_is_name k_is_name
  have b_is_name := F_is_name.binds (ps := ["value"]) fun _ _ _ _ _ _ us hl => match us, hl with | [_], _ => rfl
  have F_is_variable := fun_mk (st := s_is_variable) l_is_variable c_is_variable k_is_variable
  have b_is_variable := F_is_variable.binds (ps := ["value"]) fun _ _ _ _ _ _ us hl => match us, hl with | [_], _ => rfl
  have F_is_number := fun_mk (st := s_is_number) l_is_number c_is_number k_is_number
  have b_is_number := F_is_number.binds (ps := ["value", "least", "most"]) fun _ _ _ _ _ _ us hl => match us, hl with | [_, _, _], _ => rfl
  have F_need := fun_mk (st := s_need) l_need c_need k_need
  have b_need := F_need.binds (ps := ["test", "reason"]) fun _ _ _ _ _ _ us hl => match us, hl with | [_, _], _ => rfl
  have F_is_lane := fun_mk (st := s_is_lane) l_is_lane c_is_lane k_is_lane
  have b_is_lane := F_is_lane.binds (ps := ["value"]) fun _ _ _ _ _ _ us hl => match us, hl with | [_], _ => rfl
  have F_need_access := fun_mk (st := s_need_access) l_need_access c_need_access k_need_access
  have b_need_access := F_need_access.binds (ps := ["port", "lane"]) fun _ _ _ _ _ _ us hl => match us, hl with | [_, _], _ => rfl
  have F_meant := fun_mk (st := s_meant) l_meant c_meant k_meant
  have b_meant := F_meant.binds (ps := ["names"]) fun _ _ _ _ _ _ us hl => match us, hl with | [_], _ => rfl
  have F_with_means := fun_mk (st := s_with_means) l_with_means c_with_means k_with_means
  have b_with_means := F_with_means.binds (ps := ["words", "means"]) fun _ _ _ _ _ _ us hl => match us, hl with | [_, _], _ => rfl
  have F_Read_line_words := fun_mk (st := s_Read_line_words) l_Read_line_words c_Read_line_words k_Read_line_words
  have b_Read_line_words := F_Read_line_words.binds (ps := ["self"]) fun _ _ _ _ _ _ us hl => match us, hl with | [_], _ => rfl
  have F_Read___eq__ := fun_mk (st := s_Read___eq__) l_Read___eq__ c_Read___eq__ k_Read___eq__
  have b_Read___eq__ := F_Read___eq__.binds (ps := ["self", "other"]) fun _ _ _ _ _ _ us hl => match us, hl with | [_, _], _ => rfl
  have F_Read___str__ := fun_mk (st := s_Read___str__) l_Read___str__ c_Read___str__ k_Read___str__
  have b_Read___str__ := F_Read___str__.binds (ps := ["self"]) fun _ _ _ _ _ _ us hl => match us, hl with | [_], _ => rfl
  have F_Read___repr__ := fun_mk (st := s_Read___repr__) l_Read___repr__ c_Read___repr__ k_Read___repr__
  have b_Read___repr__ := F_Read___repr__.binds (ps := ["self"]) fun _ _ _ _ _ _ us hl => match us, hl with | [_], _ => rfl
  have F_Write_line_words := fun_mk (st := s_Write_line_words) l_Write_line_words c_Write_line_words k_Write_line_words
  have b_Write_line_words := F_Write_line_words.binds (ps := ["self"]) fun _ _ _ _ _ _ us hl => match us, hl with | [_], _ => rfl
  have F_Write___eq__ := fun_mk (st := s_Write___eq__) l_Write___eq__ c_Write___eq__ k_Write___eq__
  have b_Write___eq__ := F_Write___eq__.binds (ps := ["self", "other"]) fun _ _ _ _ _ _ us hl => match us, hl with | [_, _], _ => rfl
  have F_Write___str__ := fun_mk (st := s_Write___str__) l_Write___str__ c_Write___str__ k_Write___str__
  have b_Write___str__ := F_Write___str__.binds (ps := ["self"]) fun _ _ _ _ _ _ us hl => match us, hl with | [_], _ => rfl
  have F_Write___repr__ := fun_mk (st := s_Write___repr__) l_Write___repr__ c_Write___repr__ k_Write___repr__
  have b_Write___repr__ := F_Write___repr__.binds (ps := ["self"]) fun _ _ _ _ _ _ us hl => match us, hl with | [_], _ => rfl
  have F_Serve___init__ := fun_mk (st := s_Serve___init__) l_Serve___init__ c_Serve___init__ k_Serve___init__
  have b_Serve___init__ := F_Serve___init__.binds (ps := ["self", "variable", "mask"]) fun _ _ _ _ _ _ us hl => match us, hl with | [_, _, _], _ => rfl
  have F_Serve_line_words := fun_mk (st := s_Serve_line_words) l_Serve_line_words c_Serve_line_words k_Serve_line_words
  have b_Serve_line_words := F_Serve_line_words.binds (ps := ["self"]) fun _ _ _ _ _ _ us hl => match us, hl with | [_], _ => rfl
  have F_Serve___eq__ := fun_mk (st := s_Serve___eq__) l_Serve___eq__ c_Serve___eq__ k_Serve___eq__
  have b_Serve___eq__ := F_Serve___eq__.binds (ps := ["self", "other"]) fun _ _ _ _ _ _ us hl => match us, hl with | [_, _], _ => rfl
  have F_Serve___str__ := fun_mk (st := s_Serve___str__) l_Serve___str__ c_Serve___str__ k_Serve___str__
  have b_Serve___str__ := F_Serve___str__.binds (ps := ["self"]) fun _ _ _ _ _ _ us hl => match us, hl with | [_], _ => rfl
  have F_Serve___repr__ := fun_mk (st := s_Serve___repr__) l_Serve___repr__ c_Serve___repr__ k_Serve___repr__
  have b_Serve___repr__ := F_Serve___repr__.binds (ps := ["self"]) fun _ _ _ _ _ _ us hl => match us, hl with | [_], _ => rfl
  have F_Pair___init__ := fun_mk (st := s_Pair___init__) l_Pair___init__ c_Pair___init__ k_Pair___init__
  have b_Pair___init__ := F_Pair___init__.binds (ps := ["self", "first", "second", "field"]) fun _ _ _ _ _ _ us hl => match us, hl with | [_, _, _, _], _ => rfl
  have F_Pair_line_words := fun_mk (st := s_Pair_line_words) l_Pair_line_words c_Pair_line_words k_Pair_line_words
  have b_Pair_line_words := F_Pair_line_words.binds (ps := ["self"]) fun _ _ _ _ _ _ us hl => match us, hl with | [_], _ => rfl
  have F_Pair___eq__ := fun_mk (st := s_Pair___eq__) l_Pair___eq__ c_Pair___eq__ k_Pair___eq__
  have b_Pair___eq__ := F_Pair___eq__.binds (ps := ["self", "other"]) fun _ _ _ _ _ _ us hl => match us, hl with | [_, _], _ => rfl
  have F_Pair___str__ := fun_mk (st := s_Pair___str__) l_Pair___str__ c_Pair___str__ k_Pair___str__
  have b_Pair___str__ := F_Pair___str__.binds (ps := ["self"]) fun _ _ _ _ _ _ us hl => match us, hl with | [_], _ => rfl
  have F_Pair___repr__ := fun_mk (st := s_Pair___repr__) l_Pair___repr__ c_Pair___repr__ k_Pair___repr__
  have b_Pair___repr__ := F_Pair___repr__.binds (ps := ["self"]) fun _ _ _ _ _ _ us hl => match us, hl with | [_], _ => rfl
  have F__law_pen := fun_mk (st := s__law_pen) l__law_pen c__law_pen k__law_pen
  have b__law_pen := F__law_pen.binds (ps := ["_law_script"]) fun _ _ _ _ _ _ us hl => match us, hl with | [_], _ => rfl
  have F__law_draw := fun_mk (st := s__law_draw) l__law_draw c__law_draw k__law_draw
  have b__law_draw := F__law_draw.binds (ps := ["_law_pen_here", "_law_many"]) fun _ _ _ _ _ _ us hl => match us, hl with | [_, _], _ => rfl
  have F__law_word := fun_mk (st := s__law_word) l__law_word c__law_word k__law_word
  have b__law_word := F__law_word.binds (ps := ["_law_pen_here", "_law_bits"]) fun _ _ _ _ _ _ us hl => match us, hl with | [_, _], _ => rfl
  have F__law_names := fun_mk (st := s__law_names) l__law_names c__law_names k__law_names
  have b__law_names := F__law_names.binds (ps := ["_law_pen_here", "_law_many"]) fun _ _ _ _ _ _ us hl => match us, hl with | [_, _], _ => rfl
  have F__law_variables := fun_mk (st := s__law_variables) l__law_variables c__law_variables k__law_variables
  have b__law_variables := F__law_variables.binds (ps := ["_law_pen_here"]) fun _ _ _ _ _ _ us hl => match us, hl with | [_], _ => rfl
  have F__law_normal := fun_mk (st := s__law_normal) l__law_normal c__law_normal k__law_normal
  have b__law_normal := F__law_normal.binds (ps := ["_law_width", "_law_shift", "_law_keep"]) fun _ _ _ _ _ _ us hl => match us, hl with | [_, _, _], _ => rfl
  have F__law_made_step := fun_mk (st := s__law_made_step) l__law_made_step c__law_made_step k__law_made_step
  have b__law_made_step := F__law_made_step.binds (ps := ["_law_width", "_law_step"]) fun _ _ _ _ _ _ us hl => match us, hl with | [_, _], _ => rfl
  have F__law_row := fun_mk (st := s__law_row) l__law_row c__law_row k__law_row
  have b__law_row := F__law_row.binds (ps := ["_law_pen_here", "_law_kind", "_law_width"]) fun _ _ _ _ _ _ us hl => match us, hl with | [_, _, _], _ => rfl
  have F__law_wrong := fun_mk (st := s__law_wrong) l__law_wrong c__law_wrong k__law_wrong
  have b__law_wrong := F__law_wrong.binds (ps := ["_law_pen_here", "_law_kind"]) fun _ _ _ _ _ _ us hl => match us, hl with | [_, _], _ => rfl
  have F__law_wrong_means := fun_mk (st := s__law_wrong_means) l__law_wrong_means c__law_wrong_means k__law_wrong_means
  have b__law_wrong_means := F__law_wrong_means.binds (ps := ["_law_pen_here", "_law_aims"]) fun _ _ _ _ _ _ us hl => match us, hl with | [_, _], _ => rfl
  have F__law_arguments := fun_mk (st := s__law_arguments) l__law_arguments c__law_arguments k__law_arguments
  have b__law_arguments := F__law_arguments.binds (ps := ["_law_step", "_law_width"]) fun _ _ _ _ _ _ us hl => match us, hl with | [_, _], _ => rfl
  have F__law_spoil := fun_mk (st := s__law_spoil) l__law_spoil c__law_spoil k__law_spoil
  have b__law_spoil := F__law_spoil.binds (ps := ["_law_pen_here", "_law_step", "_law_told", "_law_at"]) fun _ _ _ _ _ _ us hl => match us, hl with | [_, _, _, _], _ => rfl
  have F__law_made := fun_mk (st := s__law_made) l__law_made c__law_made k__law_made
  have b__law_made := F__law_made.binds (ps := ["_law_kind", "_law_told"]) fun _ _ _ _ _ _ us hl => match us, hl with | [_, _], _ => rfl
  have F__law_heard := fun_mk (st := s__law_heard) l__law_heard c__law_heard k__law_heard
  have b__law_heard := F__law_heard.binds (ps := ["_law_ask"]) fun _ _ _ _ _ _ us hl => match us, hl with | [_], _ => rfl
  have F__law_refused := fun_mk (st := s__law_refused) l__law_refused c__law_refused k__law_refused
  have b__law_refused := F__law_refused.binds (ps := ["_law_pen_here", "_law_kind", "_law_step", "_law_width"]) fun _ _ _ _ _ _ us hl => match us, hl with | [_, _, _, _], _ => rfl
  have F__law_plain_refused := fun_mk (st := s__law_plain_refused) l__law_plain_refused c__law_plain_refused k__law_plain_refused
  have b__law_plain_refused := F__law_plain_refused.binds (ps := ["_law_pen_here"]) fun _ _ _ _ _ _ us hl => match us, hl with | [_], _ => rfl
  have F_law := fun_mk (st := s_law) l_law c_law k_law
  have b_law := F_law.binds (ps := ["_law_script"]) fun _ _ _ _ _ _ us hl => match us, hl with | [_], _ => rfl

  have cBlend : Cls K C_Blend := ⟨pg_Blend, hd_Blend, po_Blend, sa_Blend⟩
  have cRead : Cls K C_Read := ⟨pg_Read, hd_Read, po_Read, sa_Read⟩
  have cWrite : Cls K C_Write := ⟨pg_Write, hd_Write, po_Write, sa_Write⟩
  have cServe : Cls K C_Serve := ⟨pg_Serve, hd_Serve, po_Serve, sa_Serve⟩
  have cPair : Cls K C_Pair := ⟨pg_Pair, hd_Pair, po_Pair, sa_Pair⟩
  have T0 : Txt mg := {
    z_int := PySem.W.mg_none_of X G z_int, z_bool := PySem.W.mg_none_of X G z_bool, z_str := PySem.W.mg_none_of X G z_str, z_all := PySem.W.mg_none_of X G z_all, z_abs := PySem.W.mg_none_of X G z_abs, z_len := PySem.W.mg_none_of X G z_len, z_list := PySem.W.mg_none_of X G z_list, z_tuple := PySem.W.mg_none_of X G z_tuple, z_range := PySem.W.mg_none_of X G z_range, z_isinstance := PySem.W.mg_none_of X G z_isinstance, z_min := PySem.W.mg_none_of X G z_min, z_max := PySem.W.mg_none_of X G z_max, z_sum := PySem.W.mg_none_of X G z_sum, z_sorted := PySem.W.mg_none_of X G z_sorted, z_enumerate := PySem.W.mg_none_of X G z_enumerate, z_repr := PySem.W.mg_none_of X G z_repr, z_ValueError := PySem.W.mg_none_of X G z_ValueError }
  have TB : TxtB K mg C_Blend aW := {
    toTxt := T0, cl := cBlend, n_width := n_Blend_width, n_shift := n_Blend_shift, n_keep := n_Blend_keep, n_flip := n_Blend_flip, mg_Blend := PySem.W.mg_of X G aC_Blend, mg_WIDTHS := PySem.W.mg_of X G aWd
    widths := sqK lWd (by simp) (.cons ⟨_, rfl⟩ (.cons ⟨_, rfl⟩ (.cons ⟨_, rfl⟩ .nil))) }
  have TN : TxtN mg := { toTxt := T0, g_CAPITALS := ⟨_, PySem.W.mg_of X G gCA⟩, g_INNER := ⟨_, PySem.W.mg_of X G gIN⟩, g_LONGEST := ⟨_, PySem.W.mg_of X G gLO⟩ }
  have TS : TxtS K mg aL := { toTxtN := TN, g_SMALL := ⟨_, PySem.W.mg_of X G gSM⟩, g_MOST_MASK := ⟨_, PySem.W.mg_of X G gMM⟩, mg_LANES := PySem.W.mg_of X G gLN, lanes := sqK lLN (by simp) (.cons ⟨_, rfl⟩ (.cons ⟨_, rfl⟩ (.cons ⟨_, rfl⟩ (.cons ⟨_, rfl⟩ (.cons ⟨_, rfl⟩ (.cons ⟨_, rfl⟩ (.cons ⟨_, rfl⟩ .nil))))))) }
  have TSt : TxtSt K mg aL { R := C_Read, W := C_Write, S := C_Serve, P := C_Pair, B := C_Blend } := {
    toTxtS := TS, rc := cRead, r_variable := n_Read_variable, r_port := n_Read_port, r_lane := n_Read_lane, r_means := n_Read_means, wc := cWrite, w_port := n_Write_port, w_lane := n_Write_lane, w_blend := n_Write_blend, w_means := n_Write_means, w_variable := n_Write_variable, sc := cServe, s_variable := n_Serve_variable, s_mask := n_Serve_mask, pc := cPair, p_first := n_Pair_first, p_second := n_Pair_second, p_field := n_Pair_field
    kitB := fun A hA => by
      simp only [BT, List.mem_cons, List.not_mem_nil, or_false] at hA
      rcases hA with rfl | rfl | rfl | rfl | rfl | rfl | rfl
      · exact kB_NoneType
      · exact kB_bool
      · exact kB_int
      · exact kB_str
      · exact kB_tuple
      · exact kB_list
      · exact kB_dict
    tyB := fun e => .base (.ins e cBlend tycB tyg tyt tymB), isBB := isBB, mg_Blend := PySem.W.mg_of X G aC_Blend }
  have TKd : TxtKd K mg aL { R := C_Read, W := C_Write, S := C_Serve, P := C_Pair, B := C_Blend } := {
    toTxtSt := TSt
    kit := fun i j => by
      match i, j with
      | .R, .R => exact k_Read_Read
      | .R, .W => exact k_Read_Write
      | .R, .S => exact k_Read_Serve
      | .R, .P => exact k_Read_Pair
      | .W, .R => exact k_Write_Read
      | .W, .W => exact k_Write_Write
      | .W, .S => exact k_Write_Serve
      | .W, .P => exact k_Write_Pair
      | .S, .R => exact k_Serve_Read
      | .S, .W => exact k_Serve_Write
      | .S, .S => exact k_Serve_Serve
      | .S, .P => exact k_Serve_Pair
      | .P, .R => exact k_Pair_Read
      | .P, .W => exact k_Pair_Write
      | .P, .S => exact k_Pair_Serve
      | .P, .P => exact k_Pair_Pair
    kitT := fun j A hA => by
      simp only [BT, List.mem_cons, List.not_mem_nil, or_false] at hA
      match j with
      | .R =>
        rcases hA with rfl | rfl | rfl | rfl | rfl | rfl | rfl
        · exact kRead_NoneType
        · exact kRead_bool
        · exact kRead_int
        · exact kRead_str
        · exact kRead_tuple
        · exact kRead_list
        · exact kRead_dict
      | .W =>
        rcases hA with rfl | rfl | rfl | rfl | rfl | rfl | rfl
        · exact kWrite_NoneType
        · exact kWrite_bool
        · exact kWrite_int
        · exact kWrite_str
        · exact kWrite_tuple
        · exact kWrite_list
        · exact kWrite_dict
      | .S =>
        rcases hA with rfl | rfl | rfl | rfl | rfl | rfl | rfl
        · exact kServe_NoneType
        · exact kServe_bool
        · exact kServe_int
        · exact kServe_str
        · exact kServe_tuple
        · exact kServe_list
        · exact kServe_dict
      | .P =>
        rcases hA with rfl | rfl | rfl | rfl | rfl | rfl | rfl
        · exact kPair_NoneType
        · exact kPair_bool
        · exact kPair_int
        · exact kPair_str
        · exact kPair_tuple
        · exact kPair_list
        · exact kPair_dict
    ty := fun i e => by
      match i with
      | .R => exact .base (.ins e cRead tycRead tyg tyt tymRead)
      | .W => exact .base (.ins e cWrite tycWrite tyg tyt tymWrite)
      | .S => exact .base (.ins e cServe tycServe tyg tyt tymServe)
      | .P => exact .base (.ins e cPair tycPair tyg tyt tymPair)
    nfB := nfB, mg_Read := PySem.W.mg_of X G aC_Read, mg_Write := PySem.W.mg_of X G aC_Write, mg_Serve := PySem.W.mg_of X G aC_Serve, mg_Pair := PySem.W.mg_of X G aC_Pair }
  have TIs : StpIs K mg aL { R := C_Read, W := C_Write, S := C_Serve, P := C_Pair, B := C_Blend } C_Step := {
    toTxtKd := TKd, mg_Step := PySem.W.mg_of X G aStep
    kitP := fun i => by
      match i with
      | .R => exact kp_Read
      | .W => exact kp_Write
      | .S => exact kp_Serve
      | .P => exact kp_Pair
    kitS := kS_Step }
  have TBC : BlCls K C_Blend := ⟨cBlend, n_Blend_width, n_Blend_shift, n_Blend_keep, n_Blend_flip⟩
  have OX0 : OexC K e0 := ⟨⟨nm_E0, qq_E0, N_E0, bs_E0, bm_E0, sn_E0, sub_E0, ab_E0, col_E0, dd_E0, k0_E0, k1_E0, k2_E0, k3_E0, k5_E0, lkE0.trans (congrArg some lkF0), rvE0⟩, saE0, xs0, tyE0, kpE0⟩
  have SF0 : KX.SupFn K l.prog fI0 (PySem.W.ksFn "__init__" "InvalidWidth.__init__" (defArgs s_I0) (defBody s_I0) (defScope s_I0) .none kV_I0 dc_I0 pm_I0 an_I0 (.ref cda0) ct_I0 ccell0) e0 "value" "value" := {
    ex := ⟨"InvalidWidth.__init__", defArgs s_I0, defScope s_I0, .none, kV_I0, dc_I0, pm_I0, ct_I0, oc_I0, ccl_I0, cl_I0, an_I0, od_I0, cdd_I0, cld_I0, sl_I0, ccs_I0, csl_I0, cda0, ccell0, vs_I0, file_I0, tf_I0, _, _, _, _, _, _, _, _, _, _, _, _, _, _, rfl, lIK0, cIK0, lcd0, vsI0, fiI0, lcc0, rfl, rfl, rfl, rfl, rfl, by decide +kernel, free_only (by decide +kernel), rfl, rfl, rfl, rfl, fun en => rfl⟩
    top := tpI, nv := ⟨by decide, by decide, by decide⟩, opq := opI, sub := sbI0, ve := veI0, sup := suI0, nof := xv0 }
  have OX2 : OexC K e2 := ⟨⟨nm_E2, qq_E2, N_E2, bs_E2, bm_E2, sn_E2, sub_E2, ab_E2, col_E2, dd_E2, k0_E2, k1_E2, k2_E2, k3_E2, k5_E2, lkE2.trans (congrArg some lkF2), rvE2⟩, saE2, xs2, tyE2, kpE2⟩
  have SF2 : KX.SupFn K l.prog fI2 (PySem.W.ksFn "__init__" "InvalidWord.__init__" (defArgs s_I2) (defBody s_I2) (defScope s_I2) .none kV_I2 dc_I2 pm_I2 an_I2 (.ref cda2) ct_I2 ccell2) e2 "value" "value" := {
    ex := ⟨"InvalidWord.__init__", defArgs s_I2, defScope s_I2, .none, kV_I2, dc_I2, pm_I2, ct_I2, oc_I2, ccl_I2, cl_I2, an_I2, od_I2, cdd_I2, cld_I2, sl_I2, ccs_I2, csl_I2, cda2, ccell2, vs_I2, file_I2, tf_I2, _, _, _, _, _, _, _, _, _, _, _, _, _, _, rfl, lIK2, cIK2, lcd2, vsI2, fiI2, lcc2, rfl, rfl, rfl, rfl, rfl, by decide +kernel, free_only (by decide +kernel), rfl, rfl, rfl, rfl, fun en => rfl⟩
    top := tpI, nv := ⟨by decide, by decide, by decide⟩, opq := opI, sub := sbI2, ve := veI2, sup := suI2, nof := xv2 }
  have OX3 : OexC K e3 := ⟨⟨nm_E3, qq_E3, N_E3, bs_E3, bm_E3, sn_E3, sub_E3, ab_E3, col_E3, dd_E3, k0_E3, k1_E3, k2_E3, k3_E3, k5_E3, lkE3.trans (congrArg some lkF3), rvE3⟩, saE3, xs3, tyE3, kpE3⟩
  have SF3 : KX.SupFn K l.prog fI3 (PySem.W.ksFn "__init__" "InvalidShift.__init__" (defArgs s_I3) (defBody s_I3) (defScope s_I3) .none kV_I3 dc_I3 pm_I3 an_I3 (.ref cda3) ct_I3 ccell3) e3 "value" "value" := {
    ex := ⟨"InvalidShift.__init__", defArgs s_I3, defScope s_I3, .none, kV_I3, dc_I3, pm_I3, ct_I3, oc_I3, ccl_I3, cl_I3, an_I3, od_I3, cdd_I3, cld_I3, sl_I3, ccs_I3, csl_I3, cda3, ccell3, vs_I3, file_I3, tf_I3, _, _, _, _, _, _, _, _, _, _, _, _, _, _, rfl, lIK3, cIK3, lcd3, vsI3, fiI3, lcc3, rfl, rfl, rfl, rfl, rfl, by decide +kernel, free_only (by decide +kernel), rfl, rfl, rfl, rfl, fun en => rfl⟩
    top := tpI, nv := ⟨by decide, by decide, by decide⟩, opq := opI, sub := sbI3, ve := veI3, sup := suI3, nof := xv3 }
  have OX4 : OexC K e4 := ⟨⟨nm_E4, qq_E4, N_E4, bs_E4, bm_E4, sn_E4, sub_E4, ab_E4, col_E4, dd_E4, k0_E4, k1_E4, k2_E4, k3_E4, k5_E4, lkE4.trans (congrArg some lkF4), rvE4⟩, saE4, xs4, tyE4, kpE4⟩
  have SF4 : KX.SupFn K l.prog fI4 (PySem.W.ksFn "__init__" "InvalidStep.__init__" (defArgs s_I4) (defBody s_I4) (defScope s_I4) .none kV_I4 dc_I4 pm_I4 an_I4 (.ref cda4) ct_I4 ccell4) e4 "reason" "reason" := {
    ex := ⟨"InvalidStep.__init__", defArgs s_I4, defScope s_I4, .none, kV_I4, dc_I4, pm_I4, ct_I4, oc_I4, ccl_I4, cl_I4, an_I4, od_I4, cdd_I4, cld_I4, sl_I4, ccs_I4, csl_I4, cda4, ccell4, vs_I4, file_I4, tf_I4, _, _, _, _, _, _, _, _, _, _, _, _, _, _, rfl, lIK4, cIK4, lcd4, vsI4, fiI4, lcc4, rfl, rfl, rfl, rfl, rfl, by decide +kernel, free_only (by decide +kernel), rfl, rfl, rfl, rfl, fun en => rfl⟩
    top := tpI, nv := ⟨by decide, by decide, by decide⟩, opq := opI, sub := sbI4, ve := veI4, sup := suI4, nof := xv4 }
  have TRf : TxtR K mg aL { R := C_Read, W := C_Write, S := C_Serve, P := C_Pair, B := C_Blend } := { toTxtKd := TKd, z_set := PySem.W.mg_none_of X G z_set }
  have TE : TxtE K mg CB e4 (errs9 x0 x1 x2 x3 x4 x5 e2 x7 x8) := {
    toTxt := T0, mg_BitError := PySem.W.mg_of X G aB, mg_InvalidStep := PySem.W.mg_of X G aE4, mg_InvalidField := PySem.W.mg_of X G ax0, mg_InvalidLane := PySem.W.mg_of X G ax1, mg_InvalidMap := PySem.W.mg_of X G ax2, mg_InvalidSystem := PySem.W.mg_of X G ax3, mg_InvalidTask := PySem.W.mg_of X G ax4, mg_InvalidText := PySem.W.mg_of X G ax5, mg_InvalidWord := PySem.W.mg_of X G aE2, mg_NoName := PySem.W.mg_of X G ax7, mg_TooLarge := PySem.W.mg_of X G ax8
    bit := exm4, exc := ⟨xg4, xk4, xs4, xd4, xa4, tyg, tyt, xm4⟩, xf := ⟨xg4, xk4, xs4, xd4⟩, nof := xv4, own := kxo, ve := ktv4
    kit := fun j hj => by
      match j, hj with
      | 0, _ => exact kx_x0
      | 1, _ => exact kx_x1
      | 2, _ => exact kx_x2
      | 3, _ => exact kx_x3
      | 4, _ => exact kx_x4
      | 5, _ => exact kx_x5
      | 6, _ => exact kx_e2
      | 7, _ => exact kx_x7
      | 8, _ => exact kx_x8
      | j + 9, h => exact absurd h (by omega) }
  have eq_cR : cd__law_refused = .ref cR := code_of tabcR a__law_refused l__law_refused rfl
  subst eq_cR
  have eq_cP : cd__law_plain_refused = .ref cP := code_of tabcP a__law_plain_refused l__law_plain_refused rfl
  subst eq_cP
  refine ⟨PySem.W.fnOf "law" "law" (defArgs s_law) (defBody s_law) (defScope s_law) .none kV_law dc_law pm_law an_law cd_law ct_law, [(cR, PR), (cP, PP)], rfl, fun p hp => ?_, fun p hp => ?_, fun s v => .of_eq rfl, fun base _ _ tb => ?_⟩
  · rcases List.mem_cons.mp (show p ∈ [(("_law_refused" : Str), (cR, PR)), ("_law_plain_refused", (cP, PP))] from hp) with rfl | hp
    · exact tabcR
    · rw [List.mem_singleton.mp hp]
      exact tabcP
  · rcases List.mem_cons.mp hp with rfl | hp
    · exact ntbcR
    · rw [List.mem_singleton.mp hp]
      exact ntbcP
  have em0 : KX.ErrMk l.prog w K mg base e0 "InvalidWidth" "value" := ⟨fI0, _, "value", OX0, inE0, tiE0, KX.sup_ok SF0 OX0 (PySem.W.mg_none_of X G z_super) (by decide +kernel), .all fun us hl => (match us, hl with | [_, _], _ => rfl), PySem.W.mg_of X G aE0⟩
  have em2 : KX.ErrMk l.prog w K mg base e2 "InvalidWord" "value" := ⟨fI2, _, "value", OX2, inE2, tiE2, KX.sup_ok SF2 OX2 (PySem.W.mg_none_of X G z_super) (by decide +kernel), .all fun us hl => (match us, hl with | [_, _], _ => rfl), PySem.W.mg_of X G aE2⟩
  have em3 : KX.ErrMk l.prog w K mg base e3 "InvalidShift" "value" := ⟨fI3, _, "value", OX3, inE3, tiE3, KX.sup_ok SF3 OX3 (PySem.W.mg_none_of X G z_super) (by decide +kernel), .all fun us hl => (match us, hl with | [_, _], _ => rfl), PySem.W.mg_of X G aE3⟩
  have FD : FunD K "__init__" "Blend.__init__" (defArgs s_Blend___init__) (defBody s_Blend___init__) (defScope s_Blend___init__) [.int 0, .non, .int 0] [] f_Blend___init__ _ := ⟨⟨_, _, _, _, _, _, _, _, _, _, rfl, l_Blend___init__, c_Blend___init__, .inr ⟨by simp, DT_Blend___init__, _, [.int 0 tk_Blend___init___0, .none, .int 0 tk_Blend___init___2], _, rfl, dt_Blend___init__, rfl, .cons ⟨_, rfl⟩ (.cons rfl (.cons ⟨_, rfl⟩ .nil))⟩, .inl rfl⟩, k_Blend___init__⟩
  obtain ⟨ds5, vd5, bd5⟩ := FD.binds1 (ps := ["self", "width", "shift", "keep", "flip"]) 5 3 (by simp) rfl fun T kV doc pm an cdv ct us its hu hi => match us, its, hu, hi with
    | [_, _, _, _, _], [_, _, _], _, _ => ⟨_, rfl, rfl⟩
  obtain rfl : ds5 = [] := by
    cases vd5
    rfl
  obtain ⟨ds4, vd4, bd4⟩ := FD.binds1 (ps := ["self", "width", "shift", "keep", "flip"]) 4 2 (by simp) rfl fun T kV doc pm an cdv ct us its hu hi => match us, its, hu, hi with
    | [_, _, _, _], [_, _, _], _, _ => ⟨_, rfl, rfl⟩
  have cI : KB.Callee l.prog w K mg base CX0 1 "is_integer" ["value"] (spInt) := ⟨⟨_, _, ok_int F_is_integer T0, PySem.W.mg_of X G a_is_integer, k_is_integer, b_is_integer⟩⟩
  have cN1 : KB.Callee l.prog w K mg base (L2.CX l.prog w) 3 "need_width" ["width"] (spNW e0) := ⟨⟨_, _, ok_nw F_need_width TB em0 cI, PySem.W.mg_of X G a_need_width, k_need_width, b_need_width⟩⟩
  have cO1 : KB.Callee l.prog w K mg base CX0 1 "ones" ["width"] (spOnes) := ⟨⟨_, _, ok_ones F_ones, PySem.W.mg_of X G a_ones, k_ones, b_ones⟩⟩
  have cS : KB.Callee l.prog w K mg base CX0 2 "shifted" ["value", "width", "shift"] (spSh) := ⟨⟨_, _, ok_sh F_shifted cO1, PySem.W.mg_of X G a_shifted, k_shifted, b_shifted⟩⟩
  have cW : KB.Callee l.prog w K mg base CX0 4 "is_word" ["width", "value"] (spIsWord) := ⟨⟨_, _, ok_isword (C := C_Blend) (aW := aW) F_is_word cN1 cI cO1, PySem.W.mg_of X G a_is_word, k_is_word, b_is_word⟩⟩
  have cD : KB.Callee l.prog w K mg base (L2.CX l.prog w) 5 "need_word" ["width", "value"] (spNeed e2) := ⟨⟨_, _, ok_need F_need_word em2 cW, PySem.W.mg_of X G a_need_word, k_need_word, b_need_word⟩⟩
  have okb : FnOk l.prog w K mg base (L2.CX l.prog w) 6 f_Blend___init__ _ ["self", "width", "shift", "keep", "flip"] (spBlend C_Blend e0 e3 e2) := ok_blend FD TB em3 cN1 cI cD cO1 cS
  have mkB : Mk K C_Blend f_Blend___init__ := ⟨mk_Blend, a_Blend___init__, i_Blend___init__, kc_Blend⟩
  have ci : CalleeI l.prog w K mg base (L2.CX l.prog w) 6 C_Blend "Blend" ["self", "width", "shift", "keep", "flip"] (spBlend C_Blend e0 e3 e2) := ⟨⟨_, _, okb, mkB, TB.mg_Blend, bd5⟩⟩
  have pI : KW.OwnP l.prog w K mg base 1 C_Blend "is_constant" ["self"] (spIsC C_Blend) := ⟨⟨p_Blend_is_constant, f_Blend_is_constant, _, ⟨pa_Blend_is_constant, pb_Blend_is_constant, pc_Blend_is_constant, ⟨_, pd_Blend_is_constant⟩⟩, ok_isc F_Blend_is_constant TB, b_Blend_is_constant⟩, cBlend⟩
  have okK : FnOk l.prog w K mg base (L2.CX l.prog w) 8 f_Blend_constant _ ["cls", "width", "value"] (spConst C_Blend e0 e2) := ok_const F_Blend_constant TB cN1 cD ci
  have cmC : KP.CalleeC l.prog w K mg base (L2.CX l.prog w) 8 C_Blend "constant" (spConst C_Blend e0 e2) := ⟨⟨_, p_Blend_constant, f_Blend_constant, ⟨rdB, gaB⟩, ⟨a_Blend_constant, ⟨_, rc_Blend_constant⟩, fi_Blend_constant⟩, fnR_of okK b_Blend_constant⟩⟩
  have d3B : KC.CalleeID l.prog w K mg base (L2.CX l.prog w) 6 C_Blend "Blend" ["self", "width", "shift", "keep", "flip"] (spBlend C_Blend e0 e3 e2) [.int 0] := ⟨⟨_, _, ds4, okb, mkB, TB.mg_Blend, bd4, vd4⟩⟩
  have oeB : KO.OwnM l.prog w K mg base 1 C_Blend "__eq__" ["self", "other"] (spBEq K C_Blend) := ⟨⟨_, _, a_Blend___eq__, i_Blend___eq__, ok_beq F_Blend___eq__ TB TSt.tyB isBB, b_Blend___eq__⟩⟩
  have em4 : KX.ErrMk l.prog w K mg base e4 "InvalidStep" "reason" := ⟨fI4, _, "reason", OX4, inE4, tiE4, KX.sup_ok SF4 OX4 (PySem.W.mg_none_of X G z_super) (by decide +kernel), .all fun us hl => (match us, hl with | [_, _], _ => rfl), PySem.W.mg_of X G aE4⟩
  have cmade : KB.Callee l.prog w K mg base CX0 1 "is_made_of" ["value", "first", "others"] (spMade) := ⟨⟨_, _, ok_made F_is_made_of TN, PySem.W.mg_of X G a_is_made_of, k_is_made_of, b_is_made_of⟩⟩
  have cname : KB.Callee l.prog w K mg base CX0 2 "is_name" ["value"] (spIsName) := ⟨⟨_, _, ok_name F_is_name TN cmade, PySem.W.mg_of X G a_is_name, k_is_name, b_is_name⟩⟩
  have cnum : KB.Callee l.prog w K mg base CX0 1 "is_number" ["value", "least", "most"] (spIsNum) := ⟨⟨_, _, ok_number F_is_number TN, PySem.W.mg_of X G a_is_number, k_is_number, b_is_number⟩⟩
  have cvar : KB.Callee l.prog w K mg base CX0 1 "is_variable" ["value"] (spIsVar) := ⟨⟨_, _, ok_isvar F_is_variable TS, PySem.W.mg_of X G a_is_variable, k_is_variable, b_is_variable⟩⟩
  have clane : KB.Callee l.prog w K mg base CX0 1 "is_lane" ["value"] (spIsLane) := ⟨⟨_, _, ok_islane F_is_lane TS, PySem.W.mg_of X G a_is_lane, k_is_lane, b_is_lane⟩⟩
  have cneed : KB.Callee l.prog w K mg base (L2.CX l.prog w) 3 "need" ["test", "reason"] (spNeedT e4) := ⟨⟨_, _, ok_needT F_need em4, PySem.W.mg_of X G a_need, k_need, b_need⟩⟩
  have cacc : KB.Callee l.prog w K mg base (L2.CX l.prog w) 4 "need_access" ["port", "lane"] (spAcc e4) := ⟨⟨_, _, ok_acc F_need_access cneed cname clane, PySem.W.mg_of X G a_need_access, k_need_access, b_need_access⟩⟩
  have cmeant : KB.Callee l.prog w K mg base (L2.CX l.prog w) 4 "meant" ["names"] (spMeant K e4) := ⟨⟨_, _, ok_meant F_meant T0 cneed cname, PySem.W.mg_of X G a_meant, k_meant, b_meant⟩⟩
  have cwm : KB.Callee l.prog w K mg base CX0 1 "with_means" ["words", "means"] (spWithM K) := ⟨⟨_, _, ok_withm F_with_means, PySem.W.mg_of X G a_with_means, k_with_means, b_with_means⟩⟩
  have bsR : KSt.BStar K (PySem.W.fnOf "__init__" "Read.__init__" (defArgs s_Read___init__) (defBody s_Read___init__) (defScope s_Read___init__) .none kV_Read___init__ dc_Read___init__ pm_Read___init__ an_Read___init__ cd_Read___init__ ct_Read___init__) ["self", "variable", "port", "lane"] "means" 4 [] (fun us _ => us) := bstar_40 fun a b c d rest => (match rest with | [] => rfl | _ :: _ => rfl)
  have bsW : KSt.BStar K (PySem.W.fnOf "__init__" "Write.__init__" (defArgs s_Write___init__) (defBody s_Write___init__) (defScope s_Write___init__) .none (.ref D_Write___init__) dc_Write___init__ pm_Write___init__ an_Write___init__ cd_Write___init__ ct_Write___init__) ["self", "port", "lane", "blend", "variable"] "means" 4 ["variable"] (fun us ws => us ++ ws) := bstar_41 fun a b c d v rest => (match rest with | [] => rfl | _ :: _ => rfl)
  have bsWD : KSt.BStar K (PySem.W.fnOf "__init__" "Write.__init__" (defArgs s_Write___init__) (defBody s_Write___init__) (defScope s_Write___init__) .none (.ref D_Write___init__) dc_Write___init__ pm_Write___init__ an_Write___init__ cd_Write___init__ ct_Write___init__) ["self", "port", "lane", "blend", "variable"] "means" 4 [] (fun us _ => us ++ [.none]) := bstar_kw4 (D := D_Write___init__) kw_Write___init___variable fun a b c d rest => (match rest with | [] => ⟨_, _, _, _, _, _, rfl, rfl, rfl⟩ | _ :: _ => ⟨_, _, _, _, _, _, rfl, rfl, rfl⟩)
  have fkR : KSt.FnK l.prog w K mg base (L2.CX l.prog w) 5 f_Read___init__ [] (KSt.spStar (spReadB e4 { R := C_Read, W := C_Write, S := C_Serve, P := C_Pair, B := C_Blend }) 4 gSt) := ok_readB l_Read___init__ c_Read___init__ bsR (fun r1 _ => r1) (fun vs zs h1 _ => h1) TSt cneed cvar cacc cmeant
  have fkW : KSt.FnK l.prog w K mg base (L2.CX l.prog w) 5 f_Write___init__ ["variable"] (KSt.spStar (spWriteB e4 { R := C_Read, W := C_Write, S := C_Serve, P := C_Pair, B := C_Blend }) 4 gWr) := ok_writeB l_Write___init__ c_Write___init__ bsW (fun r1 r2 => r1.append r2) (fun vs zs h1 h2 => by show (vs ++ zs).length = 5; rw [List.length_append, h1, h2]; rfl) TSt cneed cvar cacc cmeant pI
  have fkWD : KSt.FnK l.prog w K mg base (L2.CX l.prog w) 5 f_Write___init__ [] (KSt.spStar (spWriteB e4 { R := C_Read, W := C_Write, S := C_Serve, P := C_Pair, B := C_Blend }) 4 gWrD) := ok_writeB l_Write___init__ c_Write___init__ bsWD (fun r1 _ => r1.append (.cons rfl .nil)) (fun vs zs h1 _ => by show (vs ++ [_]).length = 5; rw [List.length_append, h1]; rfl) TSt cneed cvar cacc cmeant pI
  have mkR : Mk K C_Read f_Read___init__ := ⟨mk_Read, a_Read___init__, i_Read___init__, kc_Read⟩
  have mkW : Mk K C_Write f_Write___init__ := ⟨mk_Write, a_Write___init__, i_Write___init__, kc_Write⟩
  have mkS : Mk K C_Serve f_Serve___init__ := ⟨mk_Serve, a_Serve___init__, i_Serve___init__, kc_Serve⟩
  have mkP : Mk K C_Pair f_Pair___init__ := ⟨mk_Pair, a_Pair___init__, i_Pair___init__, kc_Pair⟩
  have r0R : KSt.CalleeIK l.prog w K mg base (L2.CX l.prog w) 5 C_Read "Read" [] (KSt.spStar (spReadB e4 { R := C_Read, W := C_Write, S := C_Serve, P := C_Pair, B := C_Blend }) 4 gSt) := ⟨⟨_, fkR, mkR, PySem.W.mg_of X G aC_Read⟩⟩
  have rkW : KSt.CalleeIK l.prog w K mg base (L2.CX l.prog w) 5 C_Write "Write" ["variable"] (KSt.spStar (spWriteB e4 { R := C_Read, W := C_Write, S := C_Serve, P := C_Pair, B := C_Blend }) 4 gWr) := ⟨⟨_, fkW, mkW, PySem.W.mg_of X G aC_Write⟩⟩
  have r0W : KSt.CalleeIK l.prog w K mg base (L2.CX l.prog w) 5 C_Write "Write" [] (KSt.spStar (spWriteB e4 { R := C_Read, W := C_Write, S := C_Serve, P := C_Pair, B := C_Blend }) 4 gWrD) := ⟨⟨_, fkWD, mkW, PySem.W.mg_of X G aC_Write⟩⟩
  have okS : FnOk l.prog w K mg base (L2.CX l.prog w) 4 f_Serve___init__ _ ["self", "variable", "mask"] (spServe e4 { R := C_Read, W := C_Write, S := C_Serve, P := C_Pair, B := C_Blend }) := ok_serveB F_Serve___init__ TSt cneed cvar cnum
  have okP : FnOk l.prog w K mg base (L2.CX l.prog w) 4 f_Pair___init__ _ ["self", "first", "second", "field"] (spPair e4 { R := C_Read, W := C_Write, S := C_Serve, P := C_Pair, B := C_Blend }) := ok_pairB F_Pair___init__ TSt cneed cvar cname
  have ciS : CalleeI l.prog w K mg base (L2.CX l.prog w) 4 C_Serve "Serve" ["self", "variable", "mask"] (spServe e4 { R := C_Read, W := C_Write, S := C_Serve, P := C_Pair, B := C_Blend }) := ⟨⟨_, _, okS, mkS, PySem.W.mg_of X G aC_Serve, b_Serve___init__⟩⟩
  have ciP : CalleeI l.prog w K mg base (L2.CX l.prog w) 4 C_Pair "Pair" ["self", "first", "second", "field"] (spPair e4 { R := C_Read, W := C_Write, S := C_Serve, P := C_Pair, B := C_Blend }) := ⟨⟨_, _, okP, mkP, PySem.W.mg_of X G aC_Pair, b_Pair___init__⟩⟩
  have FRO : FunD K "of" "Read.of" (defArgs s_Read_of) (defBody s_Read_of) (defScope s_Read_of) [.ref aZ0] [] f_Read_of (PySem.W.fnOf "of" "Read.of" (defArgs s_Read_of) (defBody s_Read_of) (defScope s_Read_of) (.ref DT_Read_of) kV_Read_of dc_Read_of pm_Read_of an_Read_of cd_Read_of ct_Read_of) := ⟨⟨_, _, _, _, _, _, _, _, _, _, rfl, l_Read_of, c_Read_of, .inr ⟨by simp, DT_Read_of, _, [.ref aZ0], _, rfl, dt_Read_of, rfl, .cons rfl .nil⟩, .inl rfl⟩, k_Read_of⟩
  have FWO : FunD K "of" "Write.of" (defArgs s_Write_of) (defBody s_Write_of) (defScope s_Write_of) [.ref aZ1, .non] [] f_Write_of (PySem.W.fnOf "of" "Write.of" (defArgs s_Write_of) (defBody s_Write_of) (defScope s_Write_of) (.ref DT_Write_of) kV_Write_of dc_Write_of pm_Write_of an_Write_of cd_Write_of ct_Write_of) := ⟨⟨_, _, _, _, _, _, _, _, _, _, rfl, l_Write_of, c_Write_of, .inr ⟨by simp, DT_Write_of, _, [.ref aZ1, .none], _, rfl, dt_Write_of, rfl, .cons rfl (.cons rfl .nil)⟩, .inl rfl⟩, k_Write_of⟩
  have bRO : Binds K (PySem.W.fnOf "of" "Read.of" (defArgs s_Read_of) (defBody s_Read_of) (defScope s_Read_of) (.ref DT_Read_of) kV_Read_of dc_Read_of pm_Read_of an_Read_of cd_Read_of ct_Read_of) ["cls", "variable", "port", "lane", "means"] [] := fun s us hX hl => match us, (show us.length = 5 by simpa using hl) with
    | [u1, u2, u3, u4, u5], _ => by
      obtain ⟨k, e1, e2⟩ : ∃ k, bindArgs (PySem.W.fnOf "of" "Read.of" (defArgs s_Read_of) (defBody s_Read_of) (defScope s_Read_of) (.ref DT_Read_of) kV_Read_of dc_Read_of pm_Read_of an_Read_of cd_Read_of ct_Read_of) ⟨[u1, u2, u3, u4, u5], []⟩ = seqItems? (.ref DT_Read_of) >>= k ∧ k (some #[.ref aZ0]) = pure ((["cls", "variable", "port", "lane", "means"] : List Str).zip [u1, u2, u3, u4, u5]) := ⟨_, rfl, rfl⟩
      refine BindsTo.of_looks fun M => ?_
      show PySem.W.Looks M s.heap (bindArgs _ ⟨[u1, u2, u3, u4, u5], []⟩) _
      rw [e1]
      exact looks_items hX dt_Read_of rfl (.of_pure e2)
  have bWO : Binds K (PySem.W.fnOf "of" "Write.of" (defArgs s_Write_of) (defBody s_Write_of) (defScope s_Write_of) (.ref DT_Write_of) kV_Write_of dc_Write_of pm_Write_of an_Write_of cd_Write_of ct_Write_of) ["cls", "port", "lane", "blend", "means", "variable"] [] := fun s us hX hl => match us, (show us.length = 6 by simpa using hl) with
    | [u1, u2, u3, u4, u5, u6], _ => by
      obtain ⟨k, e1, e2⟩ : ∃ k, bindArgs (PySem.W.fnOf "of" "Write.of" (defArgs s_Write_of) (defBody s_Write_of) (defScope s_Write_of) (.ref DT_Write_of) kV_Write_of dc_Write_of pm_Write_of an_Write_of cd_Write_of ct_Write_of) ⟨[u1, u2, u3, u4, u5, u6], []⟩ = seqItems? (.ref DT_Write_of) >>= k ∧ k (some #[.ref aZ1, .none]) = pure ((["cls", "port", "lane", "blend", "means", "variable"] : List Str).zip [u1, u2, u3, u4, u5, u6]) := ⟨_, rfl, rfl⟩
      refine BindsTo.of_looks fun M => ?_
      show PySem.W.Looks M s.heap (bindArgs _ ⟨[u1, u2, u3, u4, u5, u6], []⟩) _
      rw [e1]
      exact looks_items hX dt_Write_of rfl (.of_pure e2)
  have kR4 : KBn K (PySem.W.fnOf "of" "Read.of" (defArgs s_Read_of) (defBody s_Read_of) (defScope s_Read_of) (.ref DT_Read_of) kV_Read_of dc_Read_of pm_Read_of an_Read_of cd_Read_of ct_Read_of) ["cls", "variable", "port", "lane", "means"] 1 ["means", "lane", "port", "variable"] (fun us ws => us ++ [ws.getD 3 .none, ws.getD 2 .none, ws.getD 1 .none, ws.getD 0 .none]) gRdOf := ⟨fun s us ws hX l1 l2 => (match us, ws, l1, l2 with
    | [u1], [w1, w2, w3, w4], _, _ => by
      obtain ⟨k, e1, e2⟩ : ∃ k, bindArgs (PySem.W.fnOf "of" "Read.of" (defArgs s_Read_of) (defBody s_Read_of) (defScope s_Read_of) (.ref DT_Read_of) kV_Read_of dc_Read_of pm_Read_of an_Read_of cd_Read_of ct_Read_of) ⟨[u1], [("means", w1), ("lane", w2), ("port", w3), ("variable", w4)]⟩ = seqItems? (.ref DT_Read_of) >>= k ∧ k (some #[.ref aZ0]) = pure ((["cls", "variable", "port", "lane", "means"] : List Str).zip [u1, w4, w3, w2, w1]) := ⟨_, rfl, rfl⟩
      refine BindsTo.of_looks fun M => ?_
      show PySem.W.Looks M s.heap (bindArgs _ ⟨[u1], [("means", w1), ("lane", w2), ("port", w3), ("variable", w4)]⟩) _
      rw [e1]
      exact looks_items hX dt_Read_of rfl (.of_pure e2)), fun r1 r2 => r1.append (.cons (vals_getD r2 3) (.cons (vals_getD r2 2) (.cons (vals_getD r2 1) (.cons (vals_getD r2 0) .nil))))⟩
  have kR0 : KBn K (PySem.W.fnOf "of" "Read.of" (defArgs s_Read_of) (defBody s_Read_of) (defScope s_Read_of) (.ref DT_Read_of) kV_Read_of dc_Read_of pm_Read_of an_Read_of cd_Read_of ct_Read_of) ["cls", "variable", "port", "lane", "means"] 4 [] (fun us _ => us ++ [.ref aZ0]) (fun us _ => us ++ [.ref aZ0]) := ⟨fun s us ws hX l1 l2 => (match us, ws, l1, l2 with
    | [u1, u2, u3, u4], [], _, _ => by
      obtain ⟨k, e1, e2⟩ : ∃ k, bindArgs (PySem.W.fnOf "of" "Read.of" (defArgs s_Read_of) (defBody s_Read_of) (defScope s_Read_of) (.ref DT_Read_of) kV_Read_of dc_Read_of pm_Read_of an_Read_of cd_Read_of ct_Read_of) ⟨[u1, u2, u3, u4], []⟩ = seqItems? (.ref DT_Read_of) >>= k ∧ k (some #[.ref aZ0]) = pure ((["cls", "variable", "port", "lane", "means"] : List Str).zip [u1, u2, u3, u4, .ref aZ0]) := ⟨_, rfl, rfl⟩
      refine BindsTo.of_looks fun M => ?_
      show PySem.W.Looks M s.heap (bindArgs _ ⟨[u1, u2, u3, u4], []⟩) _
      rw [e1]
      exact looks_items hX dt_Read_of rfl (.of_pure e2)), fun r1 _ => r1.append (.cons rfl .nil)⟩
  have kW2 : KBn K (PySem.W.fnOf "of" "Write.of" (defArgs s_Write_of) (defBody s_Write_of) (defScope s_Write_of) (.ref DT_Write_of) kV_Write_of dc_Write_of pm_Write_of an_Write_of cd_Write_of ct_Write_of) ["cls", "port", "lane", "blend", "means", "variable"] 4 ["variable", "means"] (fun us ws => us ++ [ws.getD 1 .none, ws.getD 0 .none]) gWrOf := ⟨fun s us ws hX l1 l2 => (match us, ws, l1, l2 with
    | [u1, u2, u3, u4], [w1, w2], _, _ => by
      obtain ⟨k, e1, e2⟩ : ∃ k, bindArgs (PySem.W.fnOf "of" "Write.of" (defArgs s_Write_of) (defBody s_Write_of) (defScope s_Write_of) (.ref DT_Write_of) kV_Write_of dc_Write_of pm_Write_of an_Write_of cd_Write_of ct_Write_of) ⟨[u1, u2, u3, u4], [("variable", w1), ("means", w2)]⟩ = seqItems? (.ref DT_Write_of) >>= k ∧ k (some #[.ref aZ1, .none]) = pure ((["cls", "port", "lane", "blend", "means", "variable"] : List Str).zip [u1, u2, u3, u4, w2, w1]) := ⟨_, rfl, rfl⟩
      refine BindsTo.of_looks fun M => ?_
      show PySem.W.Looks M s.heap (bindArgs _ ⟨[u1, u2, u3, u4], [("variable", w1), ("means", w2)]⟩) _
      rw [e1]
      exact looks_items hX dt_Write_of rfl (.of_pure e2)), fun r1 r2 => r1.append (.cons (vals_getD r2 1) (.cons (vals_getD r2 0) .nil))⟩
  have okRO : FnOk l.prog w K mg base (L2.CX l.prog w) 7 f_Read_of (PySem.W.fnOf "of" "Read.of" (defArgs s_Read_of) (defBody s_Read_of) (defScope s_Read_of) (.ref DT_Read_of) kV_Read_of dc_Read_of pm_Read_of an_Read_of cd_Read_of ct_Read_of) ["cls", "variable", "port", "lane", "means"] (spReadOf K e4 { R := C_Read, W := C_Write, S := C_Serve, P := C_Pair, B := C_Blend }) := ok_readof (aL := aL) FRO r0R
  have okWO : FnOk l.prog w K mg base (L2.CX l.prog w) 7 f_Write_of (PySem.W.fnOf "of" "Write.of" (defArgs s_Write_of) (defBody s_Write_of) (defScope s_Write_of) (.ref DT_Write_of) kV_Write_of dc_Write_of pm_Write_of an_Write_of cd_Write_of ct_Write_of) ["cls", "port", "lane", "blend", "means", "variable"] (spWriteOf K e4 { R := C_Read, W := C_Write, S := C_Serve, P := C_Pair, B := C_Blend }) := ok_writeof (aL := aL) FWO rkW
  have crR : ClX.CRead K C_Read (.type "type") := ⟨rd_Read, ga_Read⟩
  have crW : ClX.CRead K C_Write (.type "type") := ⟨rd_Write, ga_Write⟩
  have cmR : ClX.CMet K C_Read (.type "type") "of" p_Read_of f_Read_of := ⟨a_Read_of, ⟨_, rc_Read_of⟩, fi_Read_of⟩
  have cmW : ClX.CMet K C_Write (.type "type") "of" p_Write_of f_Write_of := ⟨a_Write_of, ⟨_, rc_Write_of⟩, fi_Write_of⟩
  have cRO : KP.CalleeC l.prog w K mg base (L2.CX l.prog w) 7 C_Read "of" (spReadOf K e4 { R := C_Read, W := C_Write, S := C_Serve, P := C_Pair, B := C_Blend }) := ⟨⟨_, p_Read_of, f_Read_of, crR, cmR, fnR_of okRO bRO⟩⟩
  have cWO : KP.CalleeC l.prog w K mg base (L2.CX l.prog w) 7 C_Write "of" (spWriteOf K e4 { R := C_Read, W := C_Write, S := C_Serve, P := C_Pair, B := C_Blend }) := ⟨⟨_, p_Write_of, f_Write_of, crW, cmW, fnR_of okWO bWO⟩⟩
  have ckR4 : KU.CalleeCK l.prog w K mg base (L2.CX l.prog w) 7 C_Read "of" ["cls", "variable", "port", "lane", "means"] (spReadOf K e4 { R := C_Read, W := C_Write, S := C_Serve, P := C_Pair, B := C_Blend }) 1 ["means", "lane", "port", "variable"] gRdOf := ⟨⟨_, p_Read_of, f_Read_of, _, _, crR, cmR, okRO, kR4⟩⟩
  have ckR0 : KU.CalleeCK l.prog w K mg base (L2.CX l.prog w) 7 C_Read "of" ["cls", "variable", "port", "lane", "means"] (spReadOf K e4 { R := C_Read, W := C_Write, S := C_Serve, P := C_Pair, B := C_Blend }) 4 [] (fun us _ => us ++ [.ref aZ0]) := ⟨⟨_, p_Read_of, f_Read_of, _, _, crR, cmR, okRO, kR0⟩⟩
  have ckW2 : KU.CalleeCK l.prog w K mg base (L2.CX l.prog w) 7 C_Write "of" ["cls", "port", "lane", "blend", "means", "variable"] (spWriteOf K e4 { R := C_Read, W := C_Write, S := C_Serve, P := C_Pair, B := C_Blend }) 4 ["variable", "means"] gWrOf := ⟨⟨_, p_Write_of, f_Write_of, _, _, crW, cmW, okWO, kW2⟩⟩
  have ha0 : ∀ H, SqT K H aZ0 [] := sqK lE0 (by simp) .nil
  have mlR : CalleeM l.prog w K mg base CX0 2 C_Read "line_words" ["self"] (spLine { R := C_Read, W := C_Write, S := C_Serve, P := C_Pair, B := C_Blend } .R) := ⟨⟨_, _, ok_lineR F_Read_line_words TSt cwm, ⟨a_Read_line_words, i_Read_line_words, k_Read_line_words⟩, b_Read_line_words⟩, cRead⟩
  have ostrR : KO.OwnM l.prog w K mg base 3 C_Read "__str__" ["self"] (spText { R := C_Read, W := C_Write, S := C_Serve, P := C_Pair, B := C_Blend } .R) := ⟨⟨_, _, a_Read___str__, i_Read___str__, ok_strR (aL := aL) F_Read___str__ mlR, b_Read___str__⟩⟩
  have oreprR : KO.OwnM l.prog w K mg base 3 C_Read "__repr__" ["self"] (spText { R := C_Read, W := C_Write, S := C_Serve, P := C_Pair, B := C_Blend } .R) := ⟨⟨_, _, a_Read___repr__, i_Read___repr__, ok_reprR (aL := aL) F_Read___repr__ mlR, b_Read___repr__⟩⟩
  have oeqR : KO.OwnM l.prog w K mg base 3 C_Read "__eq__" ["self", "other"] (spEqS K { R := C_Read, W := C_Write, S := C_Serve, P := C_Pair, B := C_Blend } .R) := ⟨⟨_, _, a_Read___eq__, i_Read___eq__, ok_eqR F_Read___eq__ TKd, b_Read___eq__⟩⟩
  have mlW : CalleeM l.prog w K mg base CX0 2 C_Write "line_words" ["self"] (spLine { R := C_Read, W := C_Write, S := C_Serve, P := C_Pair, B := C_Blend } .W) := ⟨⟨_, _, ok_lineW F_Write_line_words TSt TBC cwm, ⟨a_Write_line_words, i_Write_line_words, k_Write_line_words⟩, b_Write_line_words⟩, cWrite⟩
  have ostrW : KO.OwnM l.prog w K mg base 3 C_Write "__str__" ["self"] (spText { R := C_Read, W := C_Write, S := C_Serve, P := C_Pair, B := C_Blend } .W) := ⟨⟨_, _, a_Write___str__, i_Write___str__, ok_strW (aL := aL) F_Write___str__ mlW, b_Write___str__⟩⟩
  have oreprW : KO.OwnM l.prog w K mg base 3 C_Write "__repr__" ["self"] (spText { R := C_Read, W := C_Write, S := C_Serve, P := C_Pair, B := C_Blend } .W) := ⟨⟨_, _, a_Write___repr__, i_Write___repr__, ok_reprW (aL := aL) F_Write___repr__ mlW, b_Write___repr__⟩⟩
  have oeqW : KO.OwnM l.prog w K mg base 3 C_Write "__eq__" ["self", "other"] (spEqS K { R := C_Read, W := C_Write, S := C_Serve, P := C_Pair, B := C_Blend } .W) := ⟨⟨_, _, a_Write___eq__, i_Write___eq__, ok_eqW F_Write___eq__ TKd oeB, b_Write___eq__⟩⟩
  have mlS : CalleeM l.prog w K mg base CX0 2 C_Serve "line_words" ["self"] (spLine { R := C_Read, W := C_Write, S := C_Serve, P := C_Pair, B := C_Blend } .S) := ⟨⟨_, _, ok_lineS F_Serve_line_words TSt, ⟨a_Serve_line_words, i_Serve_line_words, k_Serve_line_words⟩, b_Serve_line_words⟩, cServe⟩
  have ostrS : KO.OwnM l.prog w K mg base 3 C_Serve "__str__" ["self"] (spText { R := C_Read, W := C_Write, S := C_Serve, P := C_Pair, B := C_Blend } .S) := ⟨⟨_, _, a_Serve___str__, i_Serve___str__, ok_strS (aL := aL) F_Serve___str__ mlS, b_Serve___str__⟩⟩
  have oreprS : KO.OwnM l.prog w K mg base 3 C_Serve "__repr__" ["self"] (spText { R := C_Read, W := C_Write, S := C_Serve, P := C_Pair, B := C_Blend } .S) := ⟨⟨_, _, a_Serve___repr__, i_Serve___repr__, ok_reprS (aL := aL) F_Serve___repr__ mlS, b_Serve___repr__⟩⟩
  have oeqS : KO.OwnM l.prog w K mg base 3 C_Serve "__eq__" ["self", "other"] (spEqS K { R := C_Read, W := C_Write, S := C_Serve, P := C_Pair, B := C_Blend } .S) := ⟨⟨_, _, a_Serve___eq__, i_Serve___eq__, ok_eqS F_Serve___eq__ TKd, b_Serve___eq__⟩⟩
  have mlP : CalleeM l.prog w K mg base CX0 2 C_Pair "line_words" ["self"] (spLine { R := C_Read, W := C_Write, S := C_Serve, P := C_Pair, B := C_Blend } .P) := ⟨⟨_, _, ok_lineP F_Pair_line_words TSt, ⟨a_Pair_line_words, i_Pair_line_words, k_Pair_line_words⟩, b_Pair_line_words⟩, cPair⟩
  have ostrP : KO.OwnM l.prog w K mg base 3 C_Pair "__str__" ["self"] (spText { R := C_Read, W := C_Write, S := C_Serve, P := C_Pair, B := C_Blend } .P) := ⟨⟨_, _, a_Pair___str__, i_Pair___str__, ok_strP (aL := aL) F_Pair___str__ mlP, b_Pair___str__⟩⟩
  have oreprP : KO.OwnM l.prog w K mg base 3 C_Pair "__repr__" ["self"] (spText { R := C_Read, W := C_Write, S := C_Serve, P := C_Pair, B := C_Blend } .P) := ⟨⟨_, _, a_Pair___repr__, i_Pair___repr__, ok_reprP (aL := aL) F_Pair___repr__ mlP, b_Pair___repr__⟩⟩
  have oeqP : KO.OwnM l.prog w K mg base 3 C_Pair "__eq__" ["self", "other"] (spEqS K { R := C_Read, W := C_Write, S := C_Serve, P := C_Pair, B := C_Blend } .P) := ⟨⟨_, _, a_Pair___eq__, i_Pair___eq__, ok_eqP F_Pair___eq__ TKd, b_Pair___eq__⟩⟩
  have SO : StpOps l.prog w K mg base { R := C_Read, W := C_Write, S := C_Serve, P := C_Pair, B := C_Blend } := {
    eq := fun i => by
      match i with
      | .R => exact oeqR
      | .W => exact oeqW
      | .S => exact oeqS
      | .P => exact oeqP
    ne := fun i => by
      match i with
      | .R => exact ⟨oeqR, ne_Read, sb_Read⟩
      | .W => exact ⟨oeqW, ne_Write, sb_Write⟩
      | .S => exact ⟨oeqS, ne_Serve, sb_Serve⟩
      | .P => exact ⟨oeqP, ne_Pair, sb_Pair⟩
    str := fun i => by
      match i with
      | .R => exact ostrR
      | .W => exact ostrW
      | .S => exact ostrS
      | .P => exact ostrP
    repr := fun i => by
      match i with
      | .R => exact oreprR
      | .W => exact oreprW
      | .S => exact oreprS
      | .P => exact oreprP
    nf := fun i j => by
      match i, j with
      | .R, .R => exact nf_Read_Read
      | .R, .W => exact nf_Read_Write
      | .R, .S => exact nf_Read_Serve
      | .R, .P => exact nf_Read_Pair
      | .W, .R => exact nf_Write_Read
      | .W, .W => exact nf_Write_Write
      | .W, .S => exact nf_Write_Serve
      | .W, .P => exact nf_Write_Pair
      | .S, .R => exact nf_Serve_Read
      | .S, .W => exact nf_Serve_Write
      | .S, .S => exact nf_Serve_Serve
      | .S, .P => exact nf_Serve_Pair
      | .P, .R => exact nf_Pair_Read
      | .P, .W => exact nf_Pair_Write
      | .P, .S => exact nf_Pair_Serve
      | .P, .P => exact nf_Pair_Pair
    nfT := fun i A hA => by
      simp only [BT, List.mem_cons, List.not_mem_nil, or_false] at hA
      match i with
      | .R =>
        rcases hA with rfl | rfl | rfl | rfl | rfl | rfl | rfl
        · exact ntRead_NoneType
        · exact ntRead_bool
        · exact ntRead_int
        · exact ntRead_str
        · exact ntRead_tuple
        · exact ntRead_list
        · exact ntRead_dict
      | .W =>
        rcases hA with rfl | rfl | rfl | rfl | rfl | rfl | rfl
        · exact ntWrite_NoneType
        · exact ntWrite_bool
        · exact ntWrite_int
        · exact ntWrite_str
        · exact ntWrite_tuple
        · exact ntWrite_list
        · exact ntWrite_dict
      | .S =>
        rcases hA with rfl | rfl | rfl | rfl | rfl | rfl | rfl
        · exact ntServe_NoneType
        · exact ntServe_bool
        · exact ntServe_int
        · exact ntServe_str
        · exact ntServe_tuple
        · exact ntServe_list
        · exact ntServe_dict
      | .P =>
        rcases hA with rfl | rfl | rfl | rfl | rfl | rfl | rfl
        · exact ntPair_NoneType
        · exact ntPair_bool
        · exact ntPair_int
        · exact ntPair_str
        · exact ntPair_tuple
        · exact ntPair_list
        · exact ntPair_dict }
  obtain ⟨ds2, vd2, bd2⟩ := FD.binds1 (ps := ["self", "width", "shift", "keep", "flip"]) 2 0 (by simp) rfl fun T kV doc pm an cdv ct us its hu hi => match us, its, hu, hi with
    | [_, _], [_, _, _], _, _ => ⟨_, rfl, rfl⟩
  have d1B : KC.CalleeID l.prog w K mg base (L2.CX l.prog w) 6 C_Blend "Blend" ["self", "width", "shift", "keep", "flip"] (spBlend C_Blend e0 e3 e2) [.int 0, .non, .int 0] := ⟨⟨_, _, ds2, okb, mkB, TB.mg_Blend, bd2, vd2⟩⟩
  have cd : KB.Callee l.prog w K mg base CX0 1 "_law_draw" ["_law_pen_here", "_law_many"] (spDraw) := ⟨⟨_, _, ok_draw F__law_draw T0, PySem.W.mg_of X G a__law_draw, k__law_draw, b__law_draw⟩⟩
  have cp : KB.Callee l.prog w K mg base CX0 1 "_law_pen" ["_law_script"] (spPen K) := ⟨⟨_, _, ok_pen F__law_pen T0, PySem.W.mg_of X G a__law_pen, k__law_pen, b__law_pen⟩⟩
  have hc : HeardC K mg := ⟨⟨f__law_heard, _, _, _, _, _, _, _, _, _, PySem.W.mg_of X G a__law_heard, k__law_heard, l__law_heard, c__law_heard, b__law_heard⟩⟩
  have cwd : KB.Callee l.prog w K mg base CX0 2 "_law_word" ["_law_pen_here", "_law_bits"] (spWordB) := ⟨⟨_, _, ok_wordb F__law_word T0 cd, PySem.W.mg_of X G a__law_word, k__law_word, b__law_word⟩⟩
  have cnm : KB.Callee l.prog w K mg base CX0 2 "_law_names" ["_law_pen_here", "_law_many"] (spNames) := ⟨⟨_, _, ok_names F__law_names T0 cd, PySem.W.mg_of X G a__law_names, k__law_names, b__law_names⟩⟩
  have cvs : KB.Callee l.prog w K mg base CX0 2 "_law_variables" ["_law_pen_here"] (spVars) := ⟨⟨_, _, ok_vars F__law_variables T0 cd, PySem.W.mg_of X G a__law_variables, k__law_variables, b__law_variables⟩⟩
  have cno : KB.Callee l.prog w K mg base CX0 1 "_law_normal" ["_law_width", "_law_shift", "_law_keep"] (spNormal) := ⟨⟨_, _, ok_normal F__law_normal T0, PySem.W.mg_of X G a__law_normal, k__law_normal, b__law_normal⟩⟩
  have crw : KB.Callee l.prog w K mg base CX0 3 "_law_row" ["_law_pen_here", "_law_kind", "_law_width"] (spRow) := ⟨⟨_, _, ok_row F__law_row T0 cd cwd cnm cvs cno, PySem.W.mg_of X G a__law_row, k__law_row, b__law_row⟩⟩
  have cms : KB.Callee l.prog w K mg base CX0 8 "_law_made_step" ["_law_width", "_law_step"] (spMadeS { R := C_Read, W := C_Write, S := C_Serve, P := C_Pair, B := C_Blend }) := ⟨⟨_, _, ok_mades F__law_made_step TKd cRO cWO ciS ciP ci, PySem.W.mg_of X G a__law_made_step, k__law_made_step, b__law_made_step⟩⟩
  have cwr : KB.Callee l.prog w K mg base CX0 2 "_law_wrong" ["_law_pen_here", "_law_kind"] (spWrong) := ⟨⟨_, _, ok_wrong F__law_wrong T0 cd, PySem.W.mg_of X G a__law_wrong, k__law_wrong, b__law_wrong⟩⟩
  have cwm2 : KB.Callee l.prog w K mg base CX0 3 "_law_wrong_means" ["_law_pen_here", "_law_aims"] (spWrongM) := ⟨⟨_, _, ok_wrongm F__law_wrong_means T0 cd cwr, PySem.W.mg_of X G a__law_wrong_means, k__law_wrong_means, b__law_wrong_means⟩⟩
  have car : KB.Callee l.prog w K mg base CX0 8 "_law_arguments" ["_law_step", "_law_width"] (spArgs { R := C_Read, W := C_Write, S := C_Serve, P := C_Pair, B := C_Blend }) := ⟨⟨_, _, ok_args F__law_arguments TSt ci, PySem.W.mg_of X G a__law_arguments, k__law_arguments, b__law_arguments⟩⟩
  have csp : KB.Callee l.prog w K mg base CX0 4 "_law_spoil" ["_law_pen_here", "_law_step", "_law_told", "_law_at"] (spSpoil { R := C_Read, W := C_Write, S := C_Serve, P := C_Pair, B := C_Blend }) := ⟨⟨_, _, ok_spoil F__law_spoil T0 cd cwr cwm2, PySem.W.mg_of X G a__law_spoil, k__law_spoil, b__law_spoil⟩⟩
  have cmd : KB.Callee l.prog w K mg base (L2.CX l.prog w) 8 "_law_made" ["_law_kind", "_law_told"] (spMadeX e4 { R := C_Read, W := C_Write, S := C_Serve, P := C_Pair, B := C_Blend }) := ⟨⟨_, _, ok_lmade F__law_made TKd cRO cWO ciS ciP, PySem.W.mg_of X G a__law_made, k__law_made, b__law_made⟩⟩
  have crf : KG.CalleeG l.prog w K mg base CX0 12 "_law_refused" ["_law_pen_here", "_law_kind", "_law_step", "_law_width"] (spRefused (TT2 PR PP)) := ⟨⟨_, _, ok_refused (PP := PP) l__law_refused c__law_refused TRf TE hc (tb (cR, PR) (List.mem_cons_self ..)) nrp SO car cd csp cmd cms, PySem.W.mg_of X G a__law_refused, k__law_refused, b__law_refused⟩⟩
  have cpr : KG.CalleeG l.prog w K mg base CX0 12 "_law_plain_refused" ["_law_pen_here"] (spPlainR (TT2 PR PP)) := ⟨⟨_, _, ok_plainr (PR := PR) l__law_plain_refused c__law_plain_refused TKd TE hc (tb (cP, PP) (List.mem_cons_of_mem _ (List.mem_cons_self ..))) nrp cnm cvs cwr r0R r0W rkW cmC d1B, PySem.W.mg_of X G a__law_plain_refused, k__law_plain_refused, b__law_plain_refused⟩⟩
  exact ok_law F_law T0 cp cd crw crf cpr
end K35


theorem PySem.Challenge.cw_keptbits_k35_steps_refused_holds : PySem.Challenge.rw_keptbits_k35_steps_refused.Holds :=
  K35.headT ⟨@K35.all_mk⟩
