import PyProof.Rows.All
import Wide.All
import OpenK.AllK
import Wide.FinOn
import KE.SortData
import KE.DataMinMax
import KE.SortKeyHeap
import PyProof.ReprRoads
import PyProof.Rows.ReprShort
import KE.KExcInit
import KE.KDictPairs
import HandS.RaiseMore
import HandS.TryOnly
import HandS.EndTab
import HandS.Walk
import HandS.ForMost
import HandS.ForExc
import HandS.Flow
import HandS.Property
import HandS.Defaults
import HandS.MakeKwOnly
import HandS.CallLocal
import HandS.ClsMeth
import HandS.DictComp
import HandS.DictTup
import HandS.Deep
import HandS.SortKw
import HandS.SortRule
import HandS.Lambda
import HandS.IsInst
import HandS.ExcInit
import HandS.ExcField
import HandS.SetBool
import HandS.SetKeys
import HandS.ListItems
import HandS.TupSets
import HandS.Codes
import HandS.Conv
import HandS.NoneIn
import HandS.HeadHook2
import HandS.HeadHook3
import HandS.HeadHook4
import HandS.HeadWalk
import HandS.Head2
import PySem.Challenge.RW_letdays_k72_whole_slacks_beside_all_date
set_option Elab.async false
set_option linter.all false
set_option maxRecDepth 100000
set_option maxHeartbeats 4000000
section
open PySem PySem.W PySem.Calls PyProof.Rows
/-! two looks at the row that take much memory: they stand first, each by itself -/
theorem Ld.saidL : (OpenLaw.row PySem.Challenge.rw_letdays_k72_whole_slacks_beside_all_date).wellSaid = true := by decide +kernel
theorem Ld.chainsL : (chainsOk (view (OpenLaw.row PySem.Challenge.rw_letdays_k72_whole_slacks_beside_all_date).prog [107]) && opensWell (OpenLaw.row PySem.Challenge.rw_letdays_k72_whole_slacks_beside_all_date).prog && (frees (OpenLaw.row PySem.Challenge.rw_letdays_k72_whole_slacks_beside_all_date).toRowW && (OpenLaw.row PySem.Challenge.rw_letdays_k72_whole_slacks_beside_all_date).within.isEmpty)) = true := by decide +kernel
end
namespace Ld
open PySem PySem.Spec PyProof.Rows L2

abbrev St := L2.St
/-! ### the text -/
abbrev pw : Program := PySem.Challenge.pw_letdays_k72_whole_slacks_beside_all_date
def top (i : Nat) : Stmt := pw.main.body.getD i (.Pass ⟨0, 0, 0, 0⟩)
abbrev DefAt (K : PySem.W.Frag) (x qual : Str) (st : Stmt) (f : Addr) (fd : FuncData) : Prop := FunD K x qual (defArgs st) (defBody st) (defScope st) [] [] f fd
def cSums (K : PySem.W.Frag) : Addr := He.ga K "Sums"
def cDays (K : PySem.W.Frag) : Addr := He.ga K "Days"
def cClosed (K : PySem.W.Frag) : Addr := He.ga K "Closed"
def cCalendar (K : PySem.W.Frag) : Addr := He.ga K "Calendar"
def cDeal (K : PySem.W.Frag) : Addr := He.ga K "Deal"
def cBook (K : PySem.W.Frag) : Addr := He.ga K "Book"
def cNotSafe (K : PySem.W.Frag) : Addr := He.ga K "NotSafe"

/-! ### heaps -/
theorem same_get {H H' : Hp} {a : Addr} {o : HO} (e : Same H H') (h : H a = some o) : H' a = some o := e a o h
theorem same_new {H : Hp} {p : Addr} {o : HO} (h : H p = none) : Same H (upd H p o) := fun b u e => by
  rw [upd_ne (ne_of_none e h)]
  exact e
theorem same_upd {H H' : Hp} {p : Addr} {o : HO} (e : Same H H') (h : H p = none) : Same H (upd H' p o) := fun b u q => by
  rw [upd_ne (ne_of_none q h)]
  exact e b u q
theorem up_old {H : Hp} {p a : Addr} {o u : HO} (h : H p = none) (q : H a = some o) : upd H p u a = some o := by
  rw [upd_ne (ne_of_none q h)]
  exact q
theorem up_ne {H : Hp} {p a : Addr} {o u : HO} (h : a ≠ p) (q : H a = some o) : upd H p u a = some o := by
  rw [upd_ne h]
  exact q
theorem up_none {H : Hp} {p a : Addr} {u : HO} (h : a ≠ p) (q : H a = none) : upd H p u a = none := by
  rw [upd_ne h]
  exact q
/-- the heap without one place -/
theorem sq {K : PySem.W.Frag} {H : Hp} {a : Addr} {xs : List V} (h : H a = some (.lst xs)) : SqL K H a xs := SqL.of h
theorem sqt {K : PySem.W.Frag} {H : Hp} {a : Addr} {xs : List V} (h : H a = some (.tup xs)) : SqT K H a xs := SqT.of h
theorem sz {n : Nat} (h : n ≤ 100000) : n ≤ sizeLine := Nat.le_trans h (by decide)
theorem szl {n : Nat} (h : n ≤ 100000) : n < sizeLine := Nat.lt_of_le_of_lt h (by decide)
theorem hu65 {A : Around} {k : Nat} (hr : Room k A) : A.units + 65 < cLine := by have := hr.un; omega

/-! ### rules by their callee's promise, nothing raised -/
theorem pe_conv {X : Cx} {e : Expr} {t t' : TE} (h : PE X e t) (c : ∀ σ H Q, t' σ H Q → t σ H Q) : PE X e t' := ⟨fun pins s σ H Q I q => h.run pins s σ H Q I (c σ H Q q)⟩
def tF (sp : Sp) (t : TA) : TE := fun σ H Q => t σ H fun vs H1 => sp vs H1 Q E0
def tM (C : Addr) (m : Str) (sp : Sp) (ta : TE) (t : TA) : TE := fun σ H Q => ta σ H fun x H1 => ∃ a dx fs, x = .ref a ∧ H1 a = some (.ins C dx fs) ∧ fs.lookup m = none ∧ t σ H1 fun vs H2 => sp (x :: vs) H2 Q E0
def tN (C : Addr) (sp : Sp) (t : TA) : TE := fun σ H Q => t σ H fun vs H1 => ∀ x dx, H1 x = none → H1 dx = none → dx ≠ x → sp (.ref x :: vs) (upd (upd H1 dx (.own x)) x (.ins C dx [])) (fun v H2 => v = .non ∧ Q (.ref x) H2) E0
/-- a def by its name; a method; a class's making -/
abbrev Cf (P : Program) (w : World) (K : PySem.W.Frag) (mg : Str → Option Value) (base : Heap) (k : Nat) (x : Str) (sp : Sp) : Prop := C8.Cal P w K mg base k x sp []
abbrev Cm (P : Program) (w : World) (K : PySem.W.Frag) (mg : Str → Option Value) (base : Heap) (k : Nat) (C : Addr) (m : Str) (sp : Sp) : Prop := C8.Met P w K mg base k C m sp []
abbrev Cn (P : Program) (w : World) (K : PySem.W.Frag) (mg : Str → Option Value) (base : Heap) (k : Nat) (x : Str) (C : Addr) (sp : Sp) : Prop := C8.Mak P w K mg base k x C sp []
section
variable {X : Cx} {k j : Nat} {C : Addr} {x m : Str} {sp : Sp} {p pos apos : Pos} {e o : Expr} {es : List Expr} {ta : TE} {t : TA}
theorem ta_conv {t : TA} {sp : Sp} {σ : St} {H : Hp} {Q : VK} {E : XK} (h : t σ H fun vs H1 => sp vs H1 Q E) : t σ H fun vs H1 => sp (vs ++ []) H1 Q E := by
  simp only [List.append_nil]
  exact h
theorem pe_f (c : Cf X.prog X.w X.K X.mg X.base k x sp) (hr : Room j X.A) (hk : k ≤ j) (hg : Gl X x) (ha : PA X (e :: es) t)
    (hdb : (x == ("__debug__" : Str)) = false := by decide) (he : starEach (e :: es) X.env = (false, eval e X.env) :: starEach es X.env := by rfl) (hpl : (backTo pos (starEach es X.env)).any (·.1) = false := by rfl) :
    PE X (.Call (.Name x p) (e :: es) [] pos) (tF sp t) := pe_conv (C8.pe_c c hr hk hg ha hdb he hpl) fun _ _ _ q => ta_conv q
theorem pe_mk0 (c : Cn X.prog X.w X.K X.mg X.base k x C sp) (hr : Room j X.A) (hk : k + 1 ≤ j) (hg : Gl X x) (ha : PA X (e :: es) t)
    (hdb : (x == ("__debug__" : Str)) = false := by decide) (he : starEach (e :: es) X.env = (false, eval e X.env) :: starEach es X.env := by rfl) (hpl : (backTo pos (starEach es X.env)).any (·.1) = false := by rfl) :
    PE X (.Call (.Name x p) (e :: es) [] pos) (tN C sp t) := pe_conv (C8.pe_mk c hr hk hg ha hdb he hpl) fun σ H Q q => by
  unfold tN at q
  unfold tMake
  simp only [List.append_nil]
  exact q
theorem pe_m {pl : Sem Bool} (c : Cm X.prog X.w X.K X.mg X.base k C m sp) (hr : Room j X.A) (hk : k ≤ j) (he : PE X o ta) (ha : PA X (e :: es) t)
    (hst : starEach (e :: es) X.env = (false, eval e X.env) :: starEach es X.env := by rfl) (hpl : (backTo pos (starEach es X.env)).any (·.1) = false := by rfl)
    (ht : eval (.Call (.Attribute o m apos) (e :: es) [] pos) X.env = (do
      let ov ← eval o X.env
      standAt apos.atName
      let (f, first) ← holding [ov] (getMethod ov m pl)
      callWith pos f first (backTo pos (starEach (e :: es) X.env)) (backToKw pos (keywordEach [] X.env))) := by rfl) :
    PE X (.Call (.Attribute o m apos) (e :: es) [] pos) (tM C m sp ta t) := pe_conv (C8.pe_mt (pl := pl) c hr hk he ha hst hpl ht) fun σ H Q q => by
  unfold tM at q
  unfold tMeth
  simp only [List.append_nil]
  exact q
theorem pe_m0 {pl : Sem Bool} (c : Cm X.prog X.w X.K X.mg X.base k C m sp) (hr : Room j X.A) (hk : k ≤ j) (he : PE X o ta)
    (ht : eval (.Call (.Attribute o m apos) [] [] pos) X.env = (do
      let ov ← eval o X.env
      standAt apos.atName
      let (f, first) ← holding [ov] (getMethod ov m pl)
      callWith pos f first (backTo pos (starEach [] X.env)) (backToKw pos (keywordEach [] X.env))) := by rfl) :
    PE X (.Call (.Attribute o m apos) [] [] pos) (tM C m sp ta tNil) := pe_conv (C8.pe_mt0 (pl := pl) c hr hk he ht) fun σ H Q q => by
  unfold tM at q
  unfold tMeth
  simp only [List.append_nil]
  exact q
end
section
variable {P : Program} {w : World} {K : PySem.W.Frag} {mg : Str → Option Value} {base : Heap}
/-- a def of the module keeps its promise -/
theorem cal_mk {x : Str} {st : Stmt} {f : Addr} {fd : FuncData} {N ps : List Str} {k : Nat} {sp : Sp} (F : DefAt K x x st f fd) (hm : mg x = some (.ref f)) (S : FnScope N ps (defScope st)) (len : ∀ vs H Q E, sp vs H Q E → vs.length = ps.length)
    (hb : ∀ (kV doc pm : Value) (an : Option Addr) (cdv ct : Value) (us : List Value), us.length = ps.length → bindArgs (PySem.W.fnOf x x (defArgs st) (defBody st) (defScope st) .none kV doc pm an cdv ct) ⟨us, []⟩ = pure (ps.zip us))
    (hbody : ∀ (cdv : Value) (A : Around) (outer : List Env) (s : Shared) (H : Hp) (vs : List V) (Q : VK) (E : XK), Room k (A.deeper (envOfC x (defScope st) s.heap.objs.size f cdv)) → sp vs H Q E →
      ∃ t, PSs (cxOf CX0 P w K mg base N x (defScope st) f cdv A outer s H E).nox (defBody st) t ∧ t { nx := fun _ H' => Q .non H', rt := Q } (start N vs) H) : Cf P w K mg base (k + 1) x sp := by
  refine ⟨f, fd, ps, [], F.ok S len fun cdv A outer s H vs Q E hr h => ?_, hm, F.kp, F.bindsN hb, .nil⟩
  obtain ⟨t, h1, h2⟩ := hbody cdv A outer s H vs Q E hr h
  exact ⟨t, h1.nox, h2⟩
/-- a method -/
theorem met_mk {m qual : Str} {C : Addr} {st : Stmt} {f : Addr} {fd : FuncData} {N ps : List Str} {k : Nat} {sp : Sp} (F : DefAt K m qual st f fd) (c : Cls K C) (me : Meth K C m f) (S : FnScope N ps (defScope st)) (len : ∀ vs H Q E, sp vs H Q E → vs.length = ps.length)
    (hb : ∀ (kV doc pm : Value) (an : Option Addr) (cdv ct : Value) (us : List Value), us.length = ps.length → bindArgs (PySem.W.fnOf m qual (defArgs st) (defBody st) (defScope st) .none kV doc pm an cdv ct) ⟨us, []⟩ = pure (ps.zip us))
    (hbody : ∀ (cdv : Value) (A : Around) (outer : List Env) (s : Shared) (H : Hp) (vs : List V) (Q : VK) (E : XK), Room k (A.deeper (envOfC qual (defScope st) s.heap.objs.size f cdv)) → sp vs H Q E →
      ∃ t, PSs (cxOf CX0 P w K mg base N qual (defScope st) f cdv A outer s H E).nox (defBody st) t ∧ t { nx := fun _ H' => Q .non H', rt := Q } (start N vs) H) : Cm P w K mg base (k + 1) C m sp := by
  refine ⟨f, fd, ps, [], c, me, F.ok S len fun cdv A outer s H vs Q E hr h => ?_, F.bindsN hb, .nil⟩
  obtain ⟨t, h1, h2⟩ := hbody cdv A outer s H vs Q E hr h
  exact ⟨t, h1.nox, h2⟩
/-- a class's making -/
theorem mak_mk {x qual : Str} {C : Addr} {st : Stmt} {f : Addr} {fd : FuncData} {N ps : List Str} {k : Nat} {sp : Sp} (F : DefAt K "__init__" qual st f fd) (M : Mk K C f) (hm : mg x = some (.ref C)) (S : FnScope N ps (defScope st)) (len : ∀ vs H Q E, sp vs H Q E → vs.length = ps.length)
    (hb : ∀ (kV doc pm : Value) (an : Option Addr) (cdv ct : Value) (us : List Value), us.length = ps.length → bindArgs (PySem.W.fnOf "__init__" qual (defArgs st) (defBody st) (defScope st) .none kV doc pm an cdv ct) ⟨us, []⟩ = pure (ps.zip us))
    (hbody : ∀ (cdv : Value) (A : Around) (outer : List Env) (s : Shared) (H : Hp) (vs : List V) (Q : VK) (E : XK), Room k (A.deeper (envOfC qual (defScope st) s.heap.objs.size f cdv)) → sp vs H Q E →
      ∃ t, PSs (cxOf CX0 P w K mg base N qual (defScope st) f cdv A outer s H E).nox (defBody st) t ∧ t { nx := fun _ H' => Q .non H', rt := Q } (start N vs) H) : Cn P w K mg base (k + 1) x C sp := by
  refine ⟨f, fd, ps, [], M, F.ok S len fun cdv A outer s H vs Q E hr h => ?_, hm, F.bindsN hb, .nil⟩
  obtain ⟨t, h1, h2⟩ := hbody cdv A outer s H vs Q E hr h
  exact ⟨t, h1.nox, h2⟩
end
end Ld
namespace Ld
open PySem PySem.Spec PyProof.Rows L2
/-! ### a reading, step by step: each rule turns the head of the goal -/
section
variable {K : PySem.W.Frag} {σ : St} {H : Hp} {Q : VK} {x y v : V} {ta tb te : TE} {tA tB' : TT} {b : Bool} {D : Ends} {A B : Prop}
theorem go_var {i : Nat} (h : σ[i]? = some (some v)) (q : Q v H) : tVar i σ H Q := ⟨v, h, q⟩
theorem go_c (q : Q v H) : tC v σ H Q := q
theorem go_op {r : R2} (q : ta σ H fun x H1 => tb σ H1 fun y H2 => r x y H2 Q) : tOp r ta tb σ H Q := q
theorem go_un {r : V → Hp → VK → Prop} (q : ta σ H fun x H1 => r x H1 Q) : tUn r ta σ H Q := q
theorem go_I0 {g : Int → Int → V} {i j : Int} (q : Q (g i j) H) : rI0 g (.int i) (.int j) H Q := ⟨i, j, rfl, rfl, q⟩
theorem go_I {C : Int → Int → Prop} {g : Int → Int → V} {i j : Int} (h : C i j) (q : Q (g i j) H) : rI C g (.int i) (.int j) H Q := ⟨i, j, rfl, rfl, h, q⟩
theorem go_U {g : Int → V} {i : Int} (q : Q (g i) H) : rU g (.int i) H Q := ⟨i, rfl, q⟩
theorem go_eq (h : scal x y = true) (q : Q (.bl (decide (x = y))) H) : rEq x y H Q := ⟨h, q⟩
theorem go_ne (h : scal x y = true) (q : Q (.bl (!decide (x = y))) H) : rNe x y H Q := ⟨h, q⟩
/-- is None, told by the value's form -/
def isNon : V → Bool
  | .non => true
  | _ => false
theorem isNon_eq (x : V) : decide (x = .non) = isNon x := by cases x <;> simp [isNon]
def rIsN : R2 := fun x y H Q => y = .non ∧ Q (.bl (isNon x)) H
def rNotN : R2 := fun x y H Q => y = .non ∧ Q (.bl (!isNon x)) H
theorem op_isNo {X : Cx} : OpR X (compareOp .Is) rIsN := fun pins s σ H x y v u Q I rx ry h => op_isN pins s σ H x y v u Q I rx ry ⟨h.1, by rw [isNon_eq]; exact h.2⟩
theorem op_notNo {X : Cx} : OpR X (compareOp .IsNot) rNotN := fun pins s σ H x y v u Q I rx ry h => op_notN pins s σ H x y v u Q I rx ry ⟨h.1, by rw [isNon_eq]; exact h.2⟩
theorem go_isN (q : Q (.bl (isNon x)) H) : rIsN x .non H Q := ⟨rfl, q⟩
theorem go_notN (q : Q (.bl (!isNon x)) H) : rNotN x .non H Q := ⟨rfl, q⟩

/-! tests -/
theorem go_test {t : TE} {Q : Bool → Hp → Prop} (q : t σ H fun x H1 => ∃ k, x = .bl k ∧ Q k H1) : tTest t σ H Q := q
theorem go_B {t : TE} {Q : Bool → Hp → Prop} (q : t σ H fun x H1 => ∃ c, x = .bl c ∧ Q c H1) : tB t σ H Q := q
theorem go_exbl {Q : Bool → Prop} (q : Q b) : ∃ k, V.bl b = .bl k ∧ Q k := ⟨b, rfl, q⟩
theorem go_and {t u : TT} {Q : Bool → Hp → Prop} (q : t σ H fun c H1 => if c = true then u σ H1 Q else Q false H1) : tAnd t u σ H Q := q
theorem go_or {t u : TT} {Q : Bool → Hp → Prop} (q : t σ H fun c H1 => if c = true then Q true H1 else u σ H1 Q) : tOr t u σ H Q := q
theorem go_not {t : TT} {Q : Bool → Hp → Prop} (q : t σ H fun c H1 => Q (!c) H1) : tNot t σ H Q := q
theorem go_andV (q : ta σ H fun x H1 => ∃ c, x = .bl c ∧ if c = true then tb σ H1 Q else Q (.bl false) H1) : tAndV ta tb σ H Q := q
theorem go_orV (q : ta σ H fun x H1 => ∃ c, x = .bl c ∧ if c = true then Q (.bl true) H1 else tb σ H1 Q) : tOrV ta tb σ H Q := q
theorem go_notV (q : ta σ H fun x H1 => ∃ c, x = .bl c ∧ Q (.bl (!c)) H1) : tNotV ta σ H Q := q
theorem go_if {t : TT} (q : t σ H fun c H1 => if c = true then ta σ H1 Q else tb σ H1 Q) : tIf t ta tb σ H Q := q
theorem go_ifT {c : Bool} (h : c = true) (q : A) : if c = true then A else B := by rw [if_pos h]; exact q
theorem go_ifF {c : Bool} (h : c = false) (q : B) : if c = true then A else B := by rw [if_neg (by rw [h]; exact Bool.false_ne_true)]; exact q
theorem go_if2 {c : Bool} (h1 : c = true → A) (h2 : c = false → B) : if c = true then A else B := by
  cases c with
  | true => exact h1 rfl
  | false => exact h2 rfl
theorem go_yes {Q : Bool → Hp → Prop} (q : Q true H) : tYes σ H Q := q
theorem go_chain {r r' : R2} {tc : TE} (q : ta σ H fun x H1 => tb σ H1 fun y H2 => r x y H2 fun z H3 => ∃ k, z = .bl k ∧ (if k = true then tc σ H3 fun w' H4 => r' y w' H4 Q else Q (.bl false) H3)) : tChain r r' ta tb tc σ H Q := q

/-! displays, arguments, calls -/
theorem go_nil {Q : List V → Hp → Prop} (q : Q [] H) : tNil σ H Q := q
theorem go_cons {t : TA} {Q : List V → Hp → Prop} (q : te σ H fun x H1 => t σ H1 fun xs H2 => Q (x :: xs) H2) : tCons te t σ H Q := q
theorem go_tup {t : TA} (q : t σ H fun xs H1 => xs.length ≤ sizeLine ∧ ∀ p, H1 p = none → Q (.ref p) (upd H1 p (.tup xs))) : tTup t σ H Q := q
theorem go_lst {t : TA} (q : t σ H fun xs H1 => xs.length ≤ sizeLine ∧ ∀ p, H1 p = none → Q (.ref p) (upd H1 p (.lst xs))) : tLst t σ H Q := q
theorem go_small {n : Nat} (h : Nat.ble n 100 = true) (q : A) : n ≤ sizeLine ∧ A := ⟨Nat.le_trans (Nat.le_of_ble_eq_true h) (by decide), q⟩
theorem go_CB {r : List V → Hp → VK → Prop} {t : TA} (q : t σ H fun vs H1 => r vs H1 Q) : tCB r t σ H Q := q
theorem go_F {sp : Sp} {t : TA} (q : t σ H fun vs H1 => sp vs H1 Q E0) : tF sp t σ H Q := q
theorem go_M {C : Addr} {m : Str} {sp : Sp} {t : TA} (q : ta σ H fun x H1 => ∃ a dx fs, x = .ref a ∧ H1 a = some (.ins C dx fs) ∧ fs.lookup m = none ∧ t σ H1 fun vs H2 => sp (x :: vs) H2 Q E0) : tM C m sp ta t σ H Q := q
theorem go_Mx {C a dx : Addr} {fs : List (Str × V)} {m : Str} {A : Prop} (h : H a = some (.ins C dx fs)) (hm : fs.lookup m = none) (q : A) : ∃ a' dx' fs', V.ref a = .ref a' ∧ H a' = some (.ins C dx' fs') ∧ fs'.lookup m = none ∧ A := ⟨a, dx, fs, rfl, h, hm, q⟩
theorem go_N {C : Addr} {sp : Sp} {t : TA} (q : t σ H fun vs H1 => ∀ x dx, H1 x = none → H1 dx = none → dx ≠ x → sp (.ref x :: vs) (upd (upd H1 dx (.own x)) x (.ins C dx [])) (fun v H2 => v = .non ∧ Q (.ref x) H2) E0) : tN C sp t σ H Q := q
theorem go_rt (q : D.rt v H) : Ends.rt D v H := q
theorem go_nx (q : D.nx σ H) : Ends.nx D σ H := q
theorem go_ct (q : D.ct σ H) : Ends.ct D σ H := q
theorem go_bk (q : D.bk σ H) : Ends.bk D σ H := q

/-! fields -/
theorem go_fld {f : Str} (q : ta σ H fun x H1 => ∃ a C dx fs v, x = .ref a ∧ H1 a = some (.ins C dx fs) ∧ Cls K C ∧ NoAttr K C f ∧ fs.lookup f = some v ∧ Q v H1) : tFld K ta f σ H Q := q
theorem go_fldx {f : Str} {a C dx : Addr} {fs : List (Str × V)} {Qv : V → Prop} (h : H a = some (.ins C dx fs)) (c : Cls K C) (n : NoAttr K C f) (l : fs.lookup f = some v) (q : Qv v) :
    ∃ a' C' dx' fs' v', V.ref a = .ref a' ∧ H a' = some (.ins C' dx' fs') ∧ Cls K C' ∧ NoAttr K C' f ∧ fs'.lookup f = some v' ∧ Qv v' := ⟨a, C, dx, fs, v, rfl, h, c, n, l, q⟩

/-! statements -/
theorem go_seq {t u : TS} (q : t { D with nx := u D } σ H) : tSeq t u D σ H := q
theorem go_next (q : D.nx σ H) : tNext D σ H := q
theorem go_drop (q : te σ H fun _ H1 => D.nx σ H1) : tDrop te D σ H := q
theorem go_ret (q : te σ H D.rt) : tRet te D σ H := q
theorem go_retN (q : D.rt .non H) : tRetN D σ H := q
theorem go_ifS {c : TT} {t u : TS} (q : c σ H fun b H1 => if b = true then t D σ H1 else u D σ H1) : tIfS c t u D σ H := q
theorem go_asgN {i : Nat} (q : te σ H fun x H1 => D.nx (σ.set i (some x)) H1) : tAsg te (gName i) D σ H := q
theorem go_asg {g : TG} (q : te σ H fun x H1 => g x σ H1 D.nx) : tAsg te g D σ H := q
theorem go_gN {i : Nat} {R : St → Hp → Prop} (q : R (σ.set i (some v)) H) : gName i v σ H R := q
theorem go_gT {a : Addr} {xs : List V} {n : Nat} {t : TGs} {R : St → Hp → Prop} (h : H a = some (.tup xs)) (hn : xs.length = n) (q : t xs σ H R) : gTup K n t (.ref a) σ H R := ⟨a, xs, rfl, SqT.of h, hn, q⟩
theorem go_gL {a : Addr} {xs : List V} {n : Nat} {t : TGs} {R : St → Hp → Prop} (h : H a = some (.lst xs)) (hn : xs.length = n) (q : t xs σ H R) : gUnl K n t (.ref a) σ H R := ⟨a, xs, rfl, SqL.of h, hn, q⟩
theorem go_gC {t : TG} {u : TGs} {xs : List V} {R : St → Hp → Prop} (q : t v σ H fun σ' H' => u xs σ' H' R) : gCons t u (v :: xs) σ H R := ⟨v, xs, rfl, q⟩
theorem go_gZ {R : St → Hp → Prop} (q : R σ H) : gNil [] σ H R := ⟨rfl, q⟩
theorem go_par {i j : Nat} {t : TA} (q : t σ H fun vs H1 => ∃ v w, vs = [v, w] ∧ D.nx ((σ.set i (some v)).set j (some w)) H1) : tPar i j t D σ H := q
theorem go_par2 {w : V} {Qv : V → V → Prop} (q : Qv v w) : ∃ v' w', [v, w] = [v', w'] ∧ Qv v' w' := ⟨v, w, rfl, q⟩
theorem go_sfld {f : Str} {tv : TE} (q : tv σ H fun y H1 => ta σ H1 fun x H2 => ∃ a C dx fs, x = .ref a ∧ H2 a = some (.ins C dx fs) ∧ Cls K C ∧ NoAttr K C f ∧ fs.length < 1000 ∧ D.nx σ (upd H2 a (.ins C dx (putF f y fs)))) : sFld K ta tv f D σ H := q
theorem go_sfldx {f : Str} {a C dx : Addr} {fs : List (Str × V)} {R : Hp → Prop} (h : H a = some (.ins C dx fs)) (c : Cls K C) (n : NoAttr K C f) (l : fs.length < 1000) (q : R (upd H a (.ins C dx (putF f y fs)))) :
    ∃ a' C' dx' fs', V.ref a = .ref a' ∧ H a' = some (.ins C' dx' fs') ∧ Cls K C' ∧ NoAttr K C' f ∧ fs'.length < 1000 ∧ R (upd H a' (.ins C' dx' (putF f y fs'))) := ⟨a, C, dx, fs, rfl, h, c, n, l, q⟩

/-! sequences -/
theorem go_ixL {p : Addr} {xs : List V} {i : Int} (h : H p = some (.lst xs)) (ha : atI xs i = some v) (q : Q v H) : rIxL K (.ref p) (.int i) H Q := ⟨p, xs, i, v, rfl, rfl, sq h, ha, q⟩
theorem go_ixT {p : Addr} {xs : List V} {i : Int} (h : H p = some (.tup xs)) (ha : atI xs i = some v) (q : Q v H) : rIxT K (.ref p) (.int i) H Q := ⟨p, xs, i, v, rfl, rfl, sqt h, ha, q⟩
/-- len -/
def rLn (K : PySem.W.Frag) : List V → Hp → VK → Prop := fun xs H Q => ∃ p ys, xs = [.ref p] ∧ (SqL K H p ys ∨ SqT K H p ys) ∧ Q (.int ys.length) H
theorem cr_len {X : Cx} : CallR X (.builtin "len") (rLn X.K) := call_len_seq
theorem go_lenL {p : Addr} {xs : List V} (h : H p = some (.lst xs)) (q : Q (.int xs.length) H) : rLn K [.ref p] H Q := ⟨p, xs, rfl, .inl (sq h), q⟩
theorem go_lenT {p : Addr} {xs : List V} (h : H p = some (.tup xs)) (q : Q (.int xs.length) H) : rLn K [.ref p] H Q := ⟨p, xs, rfl, .inr (sqt h), q⟩
def rLnS : List V → Hp → VK → Prop := fun xs H Q => ∃ z, xs = [.str z] ∧ z.length ≤ sizeLine ∧ Q (.int z.length) H
theorem cr_lenS {X : Cx} : CallR X (.builtin "len") rLnS := call_len_str
theorem go_lenS {z : Str} (h : z.length ≤ sizeLine) (q : Q (.int z.length) H) : rLnS [.str z] H Q := ⟨z, rfl, h, q⟩
def rLnD : List V → Hp → VK → Prop := fun xs H Q => ∃ a kvs, xs = [V.ref a] ∧ H a = some (.dK kvs) ∧ Q (.int kvs.length) H
theorem cr_lenD {X : Cx} : CallR X (.builtin "len") rLnD := call_lenD
theorem go_lenD {a : Addr} {kvs : List (Key × V)} (h : H a = some (.dK kvs)) (q : Q (.int kvs.length) H) : rLnD [.ref a] H Q := ⟨a, kvs, rfl, h, q⟩
def rLof (K : PySem.W.Frag) : List V → Hp → VK → Prop := fun xs H Q => ∃ p ys, xs = [.ref p] ∧ (SqL K H p ys ∨ SqT K H p ys) ∧ ∀ l, H l = none → Q (.ref l) (upd H l (.lst ys))
theorem cr_list {X : Cx} : CallR X (.type "list") (rLof X.K) := call_list_of
theorem go_list {p : Addr} {xs : List V} (h : H p = some (.lst xs)) (q : ∀ l, H l = none → Q (.ref l) (upd H l (.lst xs))) : rLof K [.ref p] H Q := ⟨p, xs, rfl, .inl (sq h), q⟩
def rTof (K : PySem.W.Frag) : List V → Hp → VK → Prop := fun xs H Q => ∃ p ys, xs = [.ref p] ∧ ((SqL K H p ys ∧ ∀ l, H l = none → Q (.ref l) (upd H l (.tup ys))) ∨ (SqT K H p ys ∧ Q (.ref p) H))
theorem cr_tuple {X : Cx} : CallR X (.type "tuple") (rTof X.K) := call_tuple_of
theorem go_tuple {p : Addr} {xs : List V} (h : H p = some (.lst xs)) (q : ∀ l, H l = none → Q (.ref l) (upd H l (.tup xs))) : rTof K [.ref p] H Q := ⟨p, xs, rfl, .inl ⟨sq h, q⟩⟩
theorem go_all {p : Addr} {bs : List Bool} (h : H p = some (.lst (bs.map V.bl))) (q : Q (.bl (bs.all id)) H) : rAll K [.ref p] H Q := ⟨p, bs, rfl, sq h, q⟩
theorem go_any {p : Addr} {bs : List Bool} (h : H p = some (.lst (bs.map V.bl))) (q : Q (.bl (bs.any id)) H) : rAny K [.ref p] H Q := ⟨p, bs, rfl, sq h, q⟩
/-- x in xs, scalars -/
theorem go_inL {p : Addr} {xs : List V} (h : H p = some (.lst xs)) (hx : flatV x = true) (ha : xs.all flatV = true) (q : Q (.bl (inV x xs)) H) : rIn K false x (.ref p) H Q := ⟨p, xs, rfl, .inl (sq h), hx, ha, q⟩
theorem go_niL {p : Addr} {xs : List V} (h : H p = some (.lst xs)) (hx : flatV x = true) (ha : xs.all flatV = true) (q : Q (.bl (!inV x xs)) H) : rIn K true x (.ref p) H Q := ⟨p, xs, rfl, .inl (sq h), hx, ha, q⟩
def rSign : R2 := fun x y H Q => ∃ (c : Nat) (z : Str), x = .str ⟨#[c]⟩ ∧ y = .str z ∧ Q (.bl (decide (c ∈ z.cps.toList))) H
theorem op_sign {X : Cx} : OpR X (compareOp .In) rSign := op_in_sign
theorem go_sign {c : Nat} {z : Str} (q : Q (.bl (decide (c ∈ z.cps.toList))) H) : rSign (.str ⟨#[c]⟩) (.str z) H Q := ⟨c, z, rfl, rfl, q⟩
theorem go_sl {r : V → Option Int → Option Int → Hp → VK → Prop} {tl th : TO} (q : te σ H fun x H1 => tl σ H1 fun l H2 => th σ H2 fun u H3 => r x l u H3 Q) : tSl r te tl th σ H Q := q
theorem go_slN {Q : Option Int → Hp → Prop} (q : Q none H) : tNoPart σ H Q := q
theorem go_slP {Q : Option Int → Hp → Prop} (q : te σ H fun x H1 => ∃ i, x = .int i ∧ Q (some i) H1) : tPart te σ H Q := q
theorem go_exint {i : Int} {Q : Int → Prop} (q : Q i) : ∃ k, V.int i = .int k ∧ Q k := ⟨i, rfl, q⟩
theorem go_slL {a : Addr} {xs : List V} {lo hi : Option Int} (h : H a = some (.lst xs)) (q : ∀ p, H p = none → Q (.ref p) (upd H p (.lst (cutV xs lo hi)))) : rSlL K (.ref a) lo hi H Q := ⟨a, xs, rfl, sq h, q⟩
/-- methods of lists -/
theorem go_BM {T : String} {r : V → List V → Hp → VK → Prop} {t : TA} (q : te σ H fun x H1 => tyV K T x H1 ∧ t σ H1 fun xs H2 => r x xs H2 Q) : tBM K T r te t σ H Q := q
theorem go_tyL {l : Addr} {xs : List V} (h : H l = some (.lst xs)) (q : A) : tyV K "list" (.ref l) H ∧ A := ⟨.inl ⟨rfl, _, sq h⟩, q⟩
theorem go_app {l : Addr} {xs : List V} (h : H l = some (.lst xs)) (hz : xs.length < sizeLine) (q : Q .non (upd H l (.lst (xs ++ [v])))) : rAppend (.ref l) [v] H Q := ⟨l, xs, v, rfl, rfl, h, hz, q⟩
theorem go_ext {l c : Addr} {xs zs : List V} (h : H l = some (.lst xs)) (h2 : H c = some (.lst zs)) (hz : xs.length + zs.length ≤ sizeLine) (q : Q .non (upd H l (.lst (xs ++ zs)))) : rExtend (.ref l) [.ref c] H Q := ⟨l, c, xs, zs, rfl, rfl, h, h2, hz, q⟩
theorem go_cat {l c : Addr} {xs zs : List V} (h : H l = some (.lst xs)) (h2 : H c = some (.lst zs)) (hz : xs.length + zs.length ≤ sizeLine) (q : ∀ p, H p = none → Q (.ref p) (upd H p (.lst (xs ++ zs)))) : rCat (.ref l) (.ref c) H Q := ⟨l, c, xs, zs, rfl, rfl, h, h2, hz, q⟩

/-! dicts with text keys -/
theorem go_dget {td ty : TE} (q : td σ H fun x H1 => ty σ H1 fun y H2 => ∃ a v, x = .ref a ∧ DGet H2 a y (some v) ∧ Q v H2) : tDGet td ty σ H Q := q
theorem go_dgetx {a : Addr} {k : Str} {kvs : List (Key × V)} {Qv : V → Prop} (h : H a = some (.dK kvs)) (l : valV kvs (.inr k) = some v) (q : Qv v) : ∃ a' v', V.ref a = .ref a' ∧ DGet H a' (.str k) (some v') ∧ Qv v' :=
  ⟨a, v, rfl, by have := DGet.k (k := Sum.inr k) h; rw [l] at this; exact this, q⟩
theorem go_din {td ty : TE} (q : ty σ H fun y H1 => td σ H1 fun x H2 => ∃ a o, x = .ref a ∧ DGet H2 a y o ∧ Q (.bl o.isSome) H2) : tDIn ty td σ H Q := q
theorem go_dnin {td ty : TE} (q : ty σ H fun y H1 => td σ H1 fun x H2 => ∃ a o, x = .ref a ∧ DGet H2 a y o ∧ Q (.bl (!o.isSome)) H2) : tDNotIn ty td σ H Q := q
theorem go_dinx {a : Addr} {k : Str} {kvs : List (Key × V)} {Qv : Bool → Prop} (h : H a = some (.dK kvs)) (q : Qv (valV kvs (.inr k)).isSome) : ∃ a' o, V.ref a = .ref a' ∧ DGet H a' (.str k) o ∧ Qv o.isSome :=
  ⟨a, _, rfl, DGet.k (k := Sum.inr k) h, q⟩
theorem go_dput {td ty tv : TE} (q : tv σ H fun v H1 => td σ H1 fun x H2 => ty σ H2 fun y H3 => ∃ a H4, x = .ref a ∧ DPut H3 a y v H4 ∧ D.nx σ H4) : sDPut td ty tv D σ H := q
theorem go_dputx {a : Addr} {k : Str} {kvs : List (Key × V)} {R : Hp → Prop} (h : H a = some (.dK kvs)) (hz : kvs.length < sizeLine) (q : R (upd H a (.dK (putK kvs (.inr k) v)))) : ∃ a' H4, V.ref a = .ref a' ∧ DPut H a' (.str k) v H4 ∧ R H4 :=
  ⟨a, _, rfl, DPut.k (k := Sum.inr k) h hz, q⟩
/-- o[i] = v at a target, a dict -/
def rSetD : TSet := fun o i v H Q => ∃ a H', o = .ref a ∧ DPut H a i v H' ∧ Q H'
theorem set_dict {X : Cx} (hu : X.A.units + 1 < cLine) : PSet X rSetD := by
  intro pins s σ H o i v ov iv u Q I ro ri rv h
  obtain ⟨a, H', rfl, hp, q⟩ := h
  cases ro
  exact d_setItem hu I hp ri rv fun s' I' => ⟨H', I', q⟩
theorem go_setD {a : Addr} {k : Str} {kvs : List (Key × V)} {R : Hp → Prop} (h : H a = some (.dK kvs)) (hz : kvs.length < sizeLine) (q : R (upd H a (.dK (putK kvs (.inr k) v)))) : rSetD (.ref a) (.str k) v H R :=
  ⟨a, _, rfl, DPut.k (k := Sum.inr k) h hz, q⟩
theorem go_gsub {to ti : TE} {t : TSet} {R : St → Hp → Prop} (q : to σ H fun o H1 => ti σ H1 fun i H2 => t o i v H2 fun H3 => R σ H3) : gSub to ti t v σ H R := q
/-! isinstance -/
theorem go_isInt {i : Int} (q : Q (.bl true) H) : rIsi K [.int i, .ty "int"] H Q := ⟨_, _, _, _, true, rfl, .ty _, .base (.int i), kit_ty (by decide +kernel), q⟩
theorem go_isBool {i : Int} (q : Q (.bl false) H) : rIsi K [.int i, .ty "bool"] H Q := ⟨_, _, _, _, false, rfl, .ty _, .base (.int i), kit_ty (by decide +kernel), q⟩
theorem go_isStr {z : Str} (q : Q (.bl true) H) : rIsi K [.str z, .ty "str"] H Q := ⟨_, _, _, _, true, rfl, .ty _, .base (.str z), kit_ty (by decide +kernel), q⟩
theorem go_isTup {a : Addr} {xs : List V} (h : H a = some (.tup xs)) (q : Q (.bl true) H) : rIsi K [.ref a, .ty "tuple"] H Q := ⟨_, _, _, _, true, rfl, .ty _, .base (.tup h), kit_ty (by decide +kernel), q⟩
theorem go_isLT {a p : Addr} {xs : List V} (h : H a = some (.lst xs)) (hp : H p = some (.tup [.ty "list", .ty "tuple"])) (q : Q (.bl true) H) : rIsiT K [.ref a, .ref p] H Q :=
  ⟨_, p, _, _, _, true, rfl, hp, .cons (.ty _) (.cons (.ty _) .nil), .base (.lst h), kitAny_cons (b := true) (kit_ty (by decide +kernel)) (fun z => by cases z) (fun _ => rfl), q⟩
def rIsC (K : PySem.W.Frag) (C : Addr) : List V → Hp → VK → Prop := fun xs H Q => ∃ a dx fs, xs = [.ref a, .ref C] ∧ H a = some (.ins C dx fs) ∧ Q (.bl true) H
theorem cr_isC {X : Cx} {C : Addr} (c : C8.InsC X.K C) : CallR X (.builtin "isinstance") (rIsC X.K C) := C8.call_isC c
theorem go_isC {a C dx : Addr} {fs : List (Str × V)} (h : H a = some (.ins C dx fs)) (q : Q (.bl true) H) : rIsC K C [.ref a, .ref C] H Q := ⟨a, dx, fs, rfl, h, q⟩
theorem go_con {f : Str} (q : ta σ H fun x H1 => ∃ a C dx fs v u, x = .ref a ∧ H1 a = some (.ins C dx fs) ∧ Cls K C ∧ Con K C f v u ∧ fs.lookup f = none ∧ Q v H1) : tCon K ta f σ H Q := q
theorem go_conx {f : Str} {a C dx : Addr} {fs : List (Str × V)} {Qv : V → Prop} (h : H a = some (.ins C dx fs)) (c : Cls K C) (n : ∃ u, Con K C f v u) (l : fs.lookup f = none) (q : Qv v) :
    ∃ a' C' dx' fs' v' u', V.ref a = .ref a' ∧ H a' = some (.ins C' dx' fs') ∧ Cls K C' ∧ Con K C' f v' u' ∧ fs'.lookup f = none ∧ Qv v' := by
  obtain ⟨u, n⟩ := n
  exact ⟨a, C, dx, fs, v, u, rfl, h, c, n, l, q⟩
end
end Ld
namespace Ld
open PySem PySem.Spec PyProof.Rows L2
def LETS : Str := "abcdefghijklmnopqrstuvwxyz"
def dayS : Str := "day"
/-- what the walk asks of the text as the top has made it -/
/- fIsName -/
structure Tx (K : PySem.W.Frag) (mg : Str → Option Value) : Prop where
  f_isinstance : mg "isinstance" = none
  f_int : mg "int" = none
  f_bool : mg "bool" = none
  f_str : mg "str" = none
  f_list : mg "list" = none
  f_tuple : mg "tuple" = none
  f_dict : mg "dict" = none
  f_len : mg "len" = none
  f_all : mg "all" = none
  f_any : mg "any" = none
  f_enumerate : mg "enumerate" = none
  f_range : mg "range" = none
  f_sorted : mg "sorted" = none
  f_min : mg "min" = none
  f_max : mg "max" = none
  f_abs : mg "abs" = none
  f_divmod : mg "divmod" = none
  f_repr : mg "repr" = none
  g_LETTERS : ∃ u, mg "LETTERS" = some u ∧ RelV (.str LETS) u
  g_ZERO : ∃ u, mg "ZERO" = some u ∧ RelV (.str dayS) u
  g_NEVER : ∃ u, mg "NEVER" = some u ∧ RelV (.str "never") u
  g_PERHAPS : ∃ u, mg "PERHAPS" = some u ∧ RelV (.str "perhaps") u
  g_SURELY : ∃ u, mg "SURELY" = some u ∧ RelV (.str "surely") u
  g_MOST_LETTERS : ∃ u, mg "MOST_LETTERS" = some u ∧ RelV (.int 6) u
  g_MOST_FILMS : ∃ u, mg "MOST_FILMS" = some u ∧ RelV (.int 4) u
  g_MOST_LANDS : ∃ u, mg "MOST_LANDS" = some u ∧ RelV (.int 4) u
  g_MOST_WAYS : ∃ u, mg "MOST_WAYS" = some u ∧ RelV (.int 3) u
  g_MOST_DEALS : ∃ u, mg "MOST_DEALS" = some u ∧ RelV (.int 10) u
  cl_Sums : Cls K (cSums K)
  cl_Days : Cls K (cDays K)
  cl_Closed : Cls K (cClosed K)
  cl_Calendar : Cls K (cCalendar K)
  cl_Deal : Cls K (cDeal K)
  cl_Book : Cls K (cBook K)
  g_Sums : ∃ u, mg "Sums" = some u ∧ RelV (.ref (cSums K)) u
  g_Days : ∃ u, mg "Days" = some u ∧ RelV (.ref (cDays K)) u
  g_Closed : ∃ u, mg "Closed" = some u ∧ RelV (.ref (cClosed K)) u
  g_Calendar : ∃ u, mg "Calendar" = some u ∧ RelV (.ref (cCalendar K)) u
  g_Deal : ∃ u, mg "Deal" = some u ∧ RelV (.ref (cDeal K)) u
  g_Book : ∃ u, mg "Book" = some u ∧ RelV (.ref (cBook K)) u
  g_NotSafe : ∃ u, mg "NotSafe" = some u ∧ RelV (.ref (cNotSafe K)) u
  na_Sums_own_sums : NoAttr K (cSums K) "own_sums"
  na_Sums_own_lasts : NoAttr K (cSums K) "own_lasts"
  na_Days_own_days : NoAttr K (cDays K) "own_days"
  na_Days_own_last : NoAttr K (cDays K) "own_last"
  na_Days_own_ring : NoAttr K (cDays K) "own_ring"
  na_Closed_own_moments : NoAttr K (cClosed K) "own_moments"
  na_Closed_own_clauses : NoAttr K (cClosed K) "own_clauses"
  na_Closed_own_days : NoAttr K (cClosed K) "own_days"
  na_Closed_own_rows : NoAttr K (cClosed K) "own_rows"
  na_Calendar_own_moments : NoAttr K (cCalendar K) "own_moments"
  na_Calendar_own_clauses : NoAttr K (cCalendar K) "own_clauses"
  na_Deal_own_name : NoAttr K (cDeal K) "own_name"
  na_Deal_own_house : NoAttr K (cDeal K) "own_house"
  na_Deal_own_films : NoAttr K (cDeal K) "own_films"
  na_Deal_own_lands : NoAttr K (cDeal K) "own_lands"
  na_Deal_own_ways : NoAttr K (cDeal K) "own_ways"
  na_Deal_own_begin : NoAttr K (cDeal K) "own_begin"
  na_Deal_own_end : NoAttr K (cDeal K) "own_end"
  na_Deal_is_alone : NoAttr K (cDeal K) "is_alone"
  na_Deal_own_price : NoAttr K (cDeal K) "own_price"
  na_Book_own_calendar : NoAttr K (cBook K) "own_calendar"
  na_Book_own_deals : NoAttr K (cBook K) "own_deals"
  na_Book_own_clauses : NoAttr K (cBook K) "own_clauses"
  is_Calendar : C8.InsC K (cCalendar K)
  is_Deal : C8.InsC K (cDeal K)
  con_Calendar_ZERO : ∃ u, Con K (cCalendar K) "ZERO" (.str dayS) u
  con_Calendar_MOST_MOMENTS : ∃ u, Con K (cCalendar K) "MOST_MOMENTS" (.int 8) u
  con_Calendar_MOST_CLAUSES : ∃ u, Con K (cCalendar K) "MOST_CLAUSES" (.int 40) u
  kc_Calendar_MOST_CLAUSES : ∃ mc u, ClX.CRead K (cCalendar K) mc ∧ ClX.CVal K (cCalendar K) mc "MOST_CLAUSES" (.int 40) u
  sf_Deal : PySem.W.selfFirst K (cDeal K) = true
  gi_Book : ∀ {f}, Meth K (cBook K) "__getitem__" f → PySem.W.fnIn K f = true
  g_is_name : ∃ u, mg "is_name" = some u ∧ RelV (.ref (He.ga K "is_name")) u
  m_is_name : mg "is_name" = some (.ref (He.ga K "is_name"))
end Ld
namespace Ld
open PySem PySem.Spec PyProof.Rows L2
theorem Same.refl' (H : Hp) : Same H H := fun _ _ h => h
theorem Same.trans' {A B C : Hp} (x : Same A B) (y : Same B C) : Same A C := fun b o h => y b o (x b o h)
theorem none_back {H H' : Hp} {p : Addr} (s : Same H H') (h : H' p = none) : H p = none := by
  cases e : H p with
  | none => rfl
  | some u => rw [s _ _ e] at h; cases h
theorem fm_filter {α : Type} (q : α → Prop) [DecidablePred q] : ∀ cs : List α, (cs.filterMap fun c => if q c then some c else none) = cs.filter fun c => decide (q c)
  | [] => rfl
  | c :: cs => by
    rw [List.filterMap_cons, List.filter_cons, fm_filter q cs]
    by_cases h : q c
    · simp [h]
    · simp [h]
theorem flat_len {α β : Type} {f : α → List β} {k : Nat} : ∀ {xs : List α}, (∀ x ∈ xs, (f x).length ≤ k) → (xs.flatMap f).length ≤ k * xs.length
  | [], _ => Nat.zero_le _
  | x :: xs, h => by
    have := h x List.mem_cons_self
    have ih := flat_len (xs := xs) fun y hy => h y (List.mem_cons_of_mem _ hy)
    rw [List.flatMap_cons, List.length_append, List.length_cons, Nat.mul_succ]
    omega
/-- two rows, item by item -/
inductive All2 {α β : Type} (R : α → β → Prop) : List α → List β → Prop
  | nil : All2 R [] []
  | cons {a : α} {b : β} {as : List α} {bs : List β} : R a b → All2 R as bs → All2 R (a :: as) (b :: bs)
def isLst : HO → Bool
  | .lst _ => true
  | _ => false
/-- what is no list stays -/
def SameN (H H' : Hp) : Prop := ∀ b o, isLst o = false → H b = some o → H' b = some o
theorem SameN.of {H H' : Hp} (h : Same H H') : SameN H H' := fun b o _ e => h b o e
theorem SameN.lst {H : Hp} {a : Addr} {xs ys : List V} (h : H a = some (.lst xs)) : SameN H (upd H a (.lst ys)) := fun b o n e => by
  have : b ≠ a := by
    rintro rfl
    rw [h] at e
    cases e
    cases n
  rw [upd_ne this]
  exact e
namespace All2
variable {α β γ : Type} {R S : α → β → Prop}
theorem len {as : List α} {bs : List β} (h : All2 R as bs) : as.length = bs.length := by
  induction h with
  | nil => rfl
  | cons _ _ ih => simp [ih]
theorem mono {as : List α} {bs : List β} (h : All2 R as bs) (f : ∀ a b, R a b → S a b) : All2 S as bs := by
  induction h with
  | nil => exact .nil
  | cons h _ ih => exact .cons (f _ _ h) ih
theorem append {as as' : List α} {bs bs' : List β} (h : All2 R as bs) (h' : All2 R as' bs') : All2 R (as ++ as') (bs ++ bs') := by
  induction h with
  | nil => exact h'
  | cons h _ ih => exact .cons h ih
theorem one {a : α} {b : β} (h : R a b) : All2 R [a] [b] := .cons h .nil
theorem snoc {as : List α} {bs : List β} {a : α} {b : β} (h : All2 R as bs) (h' : R a b) : All2 R (as ++ [a]) (bs ++ [b]) := h.append (one h')
/-- the item at the end of a first part -/
theorem at_pre {vs : List α} {d r : List β} {c : β} (h : All2 R vs (d ++ c :: r)) : ∃ x, vs[d.length]? = some x ∧ R x c := by
  induction d generalizing vs with
  | nil =>
    cases h with
    | cons h _ => exact ⟨_, rfl, h⟩
  | cons y d ih =>
    cases h with
    | cons _ h => exact ih h
theorem get {vs : List α} {cs : List β} (h : All2 R vs cs) : ∀ {i : Nat} {c : β}, cs[i]? = some c → ∃ x, vs[i]? = some x ∧ R x c := by
  induction h with
  | nil => intro i c e; simp at e
  | cons h _ ih =>
    intro i c e
    cases i with
    | zero => cases e; exact ⟨_, rfl, h⟩
    | succ i => exact ih e
theorem of_map {f : β → α} (h : ∀ b, R (f b) b) : ∀ bs : List β, All2 R (bs.map f) bs
  | [] => .nil
  | b :: bs => .cons (h b) (of_map h bs)
theorem drop {vs : List α} {cs : List β} (h : All2 R vs cs) : ∀ n, All2 R (vs.drop n) (cs.drop n) := by
  induction h with
  | nil => intro n; simp only [List.drop_nil]; exact .nil
  | cons h t ih =>
    intro n
    cases n with
    | zero => exact .cons h t
    | succ n => exact ih n
theorem take {vs : List α} {cs : List β} (h : All2 R vs cs) : ∀ n, All2 R (vs.take n) (cs.take n) := by
  induction h with
  | nil => intro n; simp only [List.take_nil]; exact .nil
  | cons h t ih =>
    intro n
    cases n with
    | zero => exact .nil
    | succ n => exact .cons h (ih n)
theorem with_mem {as : List α} {bs : List β} (h : All2 R as bs) : All2 (fun a b => R a b ∧ b ∈ bs) as bs := by
  induction h with
  | nil => exact .nil
  | cons h _ ih => exact .cons ⟨h, List.mem_cons_self⟩ (ih.mono fun a b k => ⟨k.1, List.mem_cons_of_mem _ k.2⟩)
theorem of_mapR {f : γ → β} {as : List α} : ∀ {cs : List γ}, All2 R as (cs.map f) → All2 (fun a c => R a (f c)) as cs := by
  intro cs
  induction cs generalizing as with
  | nil => intro h; cases h; exact .nil
  | cons c cs ih =>
    intro h
    cases h with
    | cons h t => exact .cons h (ih t)
theorem mapR {f : γ → β} {as : List α} {cs : List γ} (h : All2 (fun a c => R a (f c)) as cs) : All2 R as (cs.map f) := by
  induction h with
  | nil => exact .nil
  | cons h _ ih => exact .cons h ih
theorem eq_map {f : β → α} {as : List α} {bs : List β} (h : All2 (fun a b => a = f b) as bs) : as = bs.map f := by
  induction h with
  | nil => rfl
  | cons h _ ih => rw [h, ih, List.map_cons]
theorem mem_l {as : List α} {bs : List β} (h : All2 R as bs) {a : α} (m : a ∈ as) : ∃ b, b ∈ bs ∧ R a b := by
  induction h with
  | nil => cases m
  | cons h _ ih =>
    cases m with
    | head => exact ⟨_, List.mem_cons_self, h⟩
    | tail _ m => obtain ⟨b, mb, q⟩ := ih m; exact ⟨b, List.mem_cons_of_mem _ mb, q⟩
theorem mem_r {as : List α} {bs : List β} (h : All2 R as bs) {b : β} (m : b ∈ bs) : ∃ a, a ∈ as ∧ R a b := by
  induction h with
  | nil => cases m
  | cons h _ ih =>
    cases m with
    | head => exact ⟨_, List.mem_cons_self, h⟩
    | tail _ m => obtain ⟨a, ma, q⟩ := ih m; exact ⟨a, List.mem_cons_of_mem _ ma, q⟩
end All2
section
variable {β : Type} {K : PySem.W.Frag} {a : Addr} {vs : List V} {cs : List β} {R : V → β → Prop} {g : TG} {tb : TS} {D : Ends} {σ : St} {H : Hp}
theorem go_for {wi : TI} (q : wi σ H fun J H1 => ∃ W : Nat → Nat → St → Hp → Prop, (∃ m, W 0 m σ H1) ∧ ∀ i m σ H, W i m σ H →
  (J.stop i H ∧ D.nx σ H) ∨ (J.go i H ∧ ∃ N : St → Hp → Prop, (∀ σ' H', N σ' H' → ∃ m', m' < m ∧ W (i + 1) m' σ' H') ∧ ∀ x H', J.yld i H x H' → g x σ H' fun σ2 H2 => tb { D with nx := N, ct := N, bk := D.nx } σ2 H2)) : tFor wi g tb D σ H := q
theorem go_iL {tl : TE} {R : It → Hp → Prop} (q : tl σ H fun x H1 => ∃ a, x = .ref a ∧ (∃ xs, SqL K H1 a xs) ∧ R (Itl K a) H1) : iList K tl σ H R := q
theorem go_iT {tl : TE} {R : It → Hp → Prop} (q : tl σ H fun x H1 => ∃ a, x = .ref a ∧ (∃ xs, SqT K H1 a xs) ∧ R (Itt K a) H1) : iTup K tl σ H R := q
theorem go_iE {ta : TA} {R : It → Hp → Prop} (q : ta σ H fun vs H1 => ∃ a xs, vs = [.ref a] ∧ SqL K H1 a xs ∧ R (Ite K a) H1) : iEnum K ta σ H R := q
theorem go_iR1 {ta : TA} {R : It → Hp → Prop} (q : ta σ H fun vs H1 => ∃ j : Int, vs = [.int j] ∧ -(2 ^ 62) ≤ j ∧ j < 2 ^ 62 ∧ R (Itr 0 j.toNat) H1) : iRng1 ta σ H R := q
theorem go_iR2 {ta : TA} {R : It → Hp → Prop} (q : ta σ H fun vs H1 => ∃ i j : Int, vs = [.int i, .int j] ∧ (-(2 ^ 62) ≤ i ∧ i < 2 ^ 62 ∧ -(2 ^ 62) ≤ j ∧ j < 2 ^ 62) ∧ R (Itr i (j - i).toNat) H1) : iRng2 ta σ H R := q
theorem go_iS {te : TE} {R : It → Hp → Prop} (q : te σ H fun v H1 => ∃ x, v = .str x ∧ R (Its x) H1) : iStr te σ H R := q
/-- for over a list: the invariant by the part that is done -/
theorem for_L (hp : All2 R vs cs) (Pv : List β → St → Hp → Prop) (h0 : Pv [] σ H) (hl : ∀ d σ H, Pv d σ H → H a = some (.lst vs))
    (hs : ∀ d c r x σ H, cs = d ++ c :: r → R x c → Pv d σ H → g x σ H fun σ2 H2 => tb { D with nx := Pv (d ++ [c]), ct := Pv (d ++ [c]), bk := D.nx } σ2 H2) (hd : ∀ σ H, Pv cs σ H → D.nx σ H) :
    ∃ a', V.ref a = .ref a' ∧ (∃ xs, SqL K H a' xs) ∧ ∃ W : Nat → Nat → St → Hp → Prop, (∃ m, W 0 m σ H) ∧ ∀ i m σ H, W i m σ H →
      ((Itl K a').stop i H ∧ D.nx σ H) ∨ ((Itl K a').go i H ∧ ∃ N : St → Hp → Prop, (∀ σ' H', N σ' H' → ∃ m', m' < m ∧ W (i + 1) m' σ' H') ∧ ∀ x H', (Itl K a').yld i H x H' → g x σ H' fun σ2 H2 => tb { D with nx := N, ct := N, bk := D.nx } σ2 H2) := by
  refine ⟨a, rfl, ⟨vs, SqL.of (hl _ _ _ h0)⟩, for_it walk_list (fun i σ H => Pv (cs.take i) σ H) (by simpa using h0) (fun i σ H _ p => SqL.of (hl _ _ _ p)) (fun i x σ H H' hi p y => ?_) (fun σ H p => hd σ H (by rw [hp.len, List.take_length] at p; exact p))⟩
  obtain ⟨rfl, e⟩ := y
  have hi' : i < cs.length := by rw [← hp.len]; exact hi
  have ec : cs = cs.take i ++ cs[i] :: cs.drop (i + 1) := by simp
  have hl2 : (cs.take i).length = i := by rw [List.length_take]; omega
  obtain ⟨x', e', r⟩ := All2.at_pre (R := R) (vs := vs) (by rw [← ec]; exact hp)
  rw [hl2] at e'
  rw [e'] at e
  cases e
  have := hs _ _ _ x σ _ ec r p
  rw [show cs.take i ++ [cs[i]] = cs.take (i + 1) from by simp] at this
  exact this
theorem for_T (hp : All2 R vs cs) (Pv : List β → St → Hp → Prop) (h0 : Pv [] σ H) (hl : ∀ d σ H, Pv d σ H → H a = some (.tup vs))
    (hs : ∀ d c r x σ H, cs = d ++ c :: r → R x c → Pv d σ H → g x σ H fun σ2 H2 => tb { D with nx := Pv (d ++ [c]), ct := Pv (d ++ [c]), bk := D.nx } σ2 H2) (hd : ∀ σ H, Pv cs σ H → D.nx σ H) :
    ∃ a', V.ref a = .ref a' ∧ (∃ xs, SqT K H a' xs) ∧ ∃ W : Nat → Nat → St → Hp → Prop, (∃ m, W 0 m σ H) ∧ ∀ i m σ H, W i m σ H →
      ((Itt K a').stop i H ∧ D.nx σ H) ∨ ((Itt K a').go i H ∧ ∃ N : St → Hp → Prop, (∀ σ' H', N σ' H' → ∃ m', m' < m ∧ W (i + 1) m' σ' H') ∧ ∀ x H', (Itt K a').yld i H x H' → g x σ H' fun σ2 H2 => tb { D with nx := N, ct := N, bk := D.nx } σ2 H2) := by
  refine ⟨a, rfl, ⟨vs, SqT.of (hl _ _ _ h0)⟩, for_it walk_tup (fun i σ H => Pv (cs.take i) σ H) (by simpa using h0) (fun i σ H _ p => SqT.of (hl _ _ _ p)) (fun i x σ H H' hi p y => ?_) (fun σ H p => hd σ H (by rw [hp.len, List.take_length] at p; exact p))⟩
  obtain ⟨rfl, e⟩ := y
  have hi' : i < cs.length := by rw [← hp.len]; exact hi
  have ec : cs = cs.take i ++ cs[i] :: cs.drop (i + 1) := by simp
  have hl2 : (cs.take i).length = i := by rw [List.length_take]; omega
  obtain ⟨x', e', r⟩ := All2.at_pre (R := R) (vs := vs) (by rw [← ec]; exact hp)
  rw [hl2] at e'
  rw [e'] at e
  cases e
  have := hs _ _ _ x σ _ ec r p
  rw [show cs.take i ++ [cs[i]] = cs.take (i + 1) from by simp] at this
  exact this
/-- for over enumerate(a list) -/
theorem for_E (hp : All2 R vs cs) (Pv : List β → St → Hp → Prop) (h0 : Pv [] σ H) (hl : ∀ d σ H, Pv d σ H → H a = some (.lst vs))
    (hs : ∀ d c r x σ H T, cs = d ++ c :: r → R x c → vs[d.length]? = some x → Pv d σ H → H T = none → g (.ref T) σ (upd H T (.tup [.int (d.length : Nat), x])) fun σ2 H2 => tb { D with nx := Pv (d ++ [c]), ct := Pv (d ++ [c]), bk := D.nx } σ2 H2) (hd : ∀ σ H, Pv cs σ H → D.nx σ H) :
    ∃ a' xs, [V.ref a] = [.ref a'] ∧ SqL K H a' xs ∧ ∃ W : Nat → Nat → St → Hp → Prop, (∃ m, W 0 m σ H) ∧ ∀ i m σ H, W i m σ H →
      ((Ite K a').stop i H ∧ D.nx σ H) ∨ ((Ite K a').go i H ∧ ∃ N : St → Hp → Prop, (∀ σ' H', N σ' H' → ∃ m', m' < m ∧ W (i + 1) m' σ' H') ∧ ∀ x H', (Ite K a').yld i H x H' → g x σ H' fun σ2 H2 => tb { D with nx := N, ct := N, bk := D.nx } σ2 H2) := by
  refine ⟨a, vs, rfl, SqL.of (hl _ _ _ h0), for_it walk_enum (fun i σ H => Pv (cs.take i) σ H) (by simpa using h0) (fun i σ H _ p => SqL.of (hl _ _ _ p)) (fun i x σ H H' hi p y => ?_) (fun σ H p => hd σ H (by rw [hp.len, List.take_length] at p; exact p))⟩
  obtain ⟨T, x', y', rfl, hT, rfl, e1, e⟩ := y
  cases e1
  have hi' : i < cs.length := by rw [← hp.len]; exact hi
  have ec : cs = cs.take i ++ cs[i] :: cs.drop (i + 1) := by simp
  have hl2 : (cs.take i).length = i := by rw [List.length_take]; omega
  obtain ⟨z, e', r⟩ := All2.at_pre (R := R) (vs := vs) (by rw [← ec]; exact hp)
  rw [hl2] at e'
  have e : vs[i]? = some y' := e
  rw [e'] at e
  cases e
  have := hs _ _ _ _ σ _ T ec r (by rw [hl2]; exact e') p hT
  rw [hl2] at this
  rw [show cs.take i ++ [cs[i]] = cs.take (i + 1) from by simp] at this
  exact this
/-- for over range(n) -/
theorem for_R {n : Nat} {j : Int} (ej : j = (n : Nat)) (hn : n ≤ 100000) (Pv : Nat → St → Hp → Prop) (h0 : Pv 0 σ H)
    (hs : ∀ i σ H, i < n → Pv i σ H → g (.int (0 + (i : Nat))) σ H fun σ2 H2 => tb { D with nx := Pv (i + 1), ct := Pv (i + 1), bk := D.nx } σ2 H2) (hd : ∀ σ H, Pv n σ H → D.nx σ H) :
    ∃ j' : Int, [V.int j] = [.int j'] ∧ -(2 ^ 62) ≤ j' ∧ j' < 2 ^ 62 ∧ ∃ W : Nat → Nat → St → Hp → Prop, (∃ m, W 0 m σ H) ∧ ∀ i m σ H, W i m σ H →
      ((Itr 0 j'.toNat).stop i H ∧ D.nx σ H) ∨ ((Itr 0 j'.toNat).go i H ∧ ∃ N : St → Hp → Prop, (∀ σ' H', N σ' H' → ∃ m', m' < m ∧ W (i + 1) m' σ' H') ∧ ∀ x H', (Itr 0 j'.toNat).yld i H x H' → g x σ H' fun σ2 H2 => tb { D with nx := N, ct := N, bk := D.nx } σ2 H2) := by
  subst ej
  refine ⟨_, rfl, by omega, by omega, ?_⟩
  rw [Int.toNat_natCast]
  refine for_it walk_range Pv h0 (fun _ _ _ _ _ => trivial) (fun i x σ H H' hi p y => ?_) hd
  obtain ⟨rfl, rfl⟩ := y
  exact hs i σ _ hi p

/-! list comprehensions: each item's value by out -/
theorem go_wipe {σ2 σ1 : St} {A : Prop} (h : σ2 = σ1) (q : A) : σ2 = σ1 ∧ A := ⟨h, q⟩
theorem go_lc {wi : TI} {tt : TT} {te : TE} {own : List Nat} {Q : VK} (q : wi σ H fun J H1 => ∀ D, H1 D = none → ∃ W : Nat → Nat → Hp → Prop, (∃ m, W 0 m (upd H1 D (.lst []))) ∧ ∀ i m H, W i m H →
  (J.stop i H ∧ Q (.ref D) H) ∨ (J.go i H ∧ ∃ Nx : Hp → Prop, (∀ H', Nx H' → ∃ m', m' < m ∧ W (i + 1) m' H') ∧ ∀ x H', J.yld i H x H' → g x (wipe σ own) H' fun σ2 H2 => wipe σ2 own = wipe σ own ∧ tt σ2 H2 fun b H3 =>
    if b = true then te σ2 H3 fun y H4 => ∃ acc, H4 D = some (.lst acc) ∧ acc.length < sizeLine ∧ Nx (upd H4 D (.lst (acc ++ [y]))) else Nx H3)) : tLc wi g tt te own σ H Q := q
/-- what a turn of a comprehension is to show -/
abbrev LcTurn (g : TG) (tt : TT) (te : TE) (own : List Nat) (σ : St) (H H' : Hp) (x : V) (o : Option γ) (S : Hp → V → γ → Prop) : Prop :=
  ∀ (Qo : VK) (Qn : Hp → Prop), (∀ c y H2, o = some c → Same H H2 → S H2 y c → Qo y H2) → (o = none → ∀ H2, Same H H2 → Qn H2) →
    g x (wipe σ own) H' fun σ2 H2 => wipe σ2 own = wipe σ own ∧ tt σ2 H2 fun b H3 => if b = true then te σ2 H3 fun y H4 => Qo y H4 else Qn H3
theorem lc_core' {γ : Type} {J : It} {n : Nat} {G : Hp → Prop} {Y : Nat → Hp → V → Hp → Prop} {tt : TT} {te : TE} {own : List Nat} {Q : VK} {D : Addr} (wk : Walk J n G Y) (out : Nat → Option γ) (S : Hp → V → γ → Prop) (pers : ∀ H H' v c, SameN H H' → S H v c → S H' v c) (hn : n < sizeLine)
    (hD : H D = none) (hG : ∀ H', Same H H' → G H') (hY : ∀ i H' x H2, Y i H' x H2 → Same H' H2)
    (hs : ∀ i x H' H2, i < n → Same H H' → Y i H' x H2 → LcTurn g tt te own σ H' H2 x (out i) S)
    (hd : ∀ H' ys, Same H H' → H' D = some (.lst ys) → All2 (S H') ys ((List.range n).filterMap out) → Q (.ref D) H') :
    ∃ W : Nat → Nat → Hp → Prop, (∃ m, W 0 m (upd H D (.lst []))) ∧ ∀ i m H, W i m H →
      (J.stop i H ∧ Q (.ref D) H) ∨ (J.go i H ∧ ∃ Nx : Hp → Prop, (∀ H', Nx H' → ∃ m', m' < m ∧ W (i + 1) m' H') ∧ ∀ x H', J.yld i H x H' → g x (wipe σ own) H' fun σ2 H2 => wipe σ2 own = wipe σ own ∧ tt σ2 H2 fun b H3 =>
        if b = true then te σ2 H3 fun y H4 => ∃ acc, H4 D = some (.lst acc) ∧ acc.length < sizeLine ∧ Nx (upd H4 D (.lst (acc ++ [y]))) else Nx H3) := by
  have lf : ∀ i, ((List.range i).filterMap out).length ≤ i := fun i => by
    have := List.length_filterMap_le out (List.range i)
    rw [List.length_range] at this
    exact this
  refine lc_it wk (fun i H' => Same H H' ∧ ∃ ys, H' D = some (.lst ys) ∧ All2 (S H') ys ((List.range i).filterMap out)) ?_ (fun i H' _ p => hG _ p.1) (fun i x H' H2 hi p y => ?_) (fun H' p => ?_)
  · exact ⟨same_new hD, [], upd_same, .nil⟩
  · obtain ⟨sm, ys, eD, al⟩ := p
    have ly := al.len
    have := lf i
    refine hs i x H' H2 hi sm y _ _ (fun c v H3 ho sm3 hS => ?_) (fun ho H3 sm3 => ?_)
    · have e3 := sm3 _ _ eD
      have sn : SameN H3 (upd H3 D (.lst (ys ++ [v]))) := SameN.lst e3
      refine ⟨ys, e3, by omega, fun b u e => ?_, ys ++ [v], upd_same, ?_⟩
      · rw [upd_ne (ne_of_none e hD)]
        exact sm3 _ _ (sm _ _ e)
      · rw [List.range_succ, List.filterMap_append]
        simp only [List.filterMap_cons, ho, List.filterMap_nil]
        exact (al.mono fun v c h => pers _ _ _ _ sn (pers _ _ _ _ (SameN.of sm3) h)).snoc (pers _ _ _ _ sn hS)
    · refine ⟨Same.trans' sm sm3, ys, sm3 _ _ eD, ?_⟩
      rw [List.range_succ, List.filterMap_append]
      simp only [List.filterMap_cons, ho, List.filterMap_nil, List.append_nil]
      exact al.mono fun v c h => pers _ _ _ _ (SameN.of sm3) h
  · obtain ⟨sm, ys, eD, al⟩ := p
    exact hd H' ys sm eD al
variable {γ : Type} {tt : TT} {te : TE} {own : List Nat} {Q : VK}
theorem range_get {β : Type} : ∀ cs : List β, (List.range cs.length).filterMap (fun i => cs[i]?) = cs := by
  intro cs
  induction cs with
  | nil => rfl
  | cons c cs ih =>
    rw [List.length_cons, List.range_succ_eq_map, List.filterMap_cons]
    simp only [List.getElem?_cons_zero, List.filterMap_map]
    congr 1
theorem range_out {β γ : Type} (cs : List β) (out : β → Option γ) : (List.range cs.length).filterMap (fun i => cs[i]?.bind out) = cs.filterMap out := by
  conv => rhs; rw [← range_get cs]
  rw [List.filterMap_filterMap]
theorem lc_L (hp : All2 R vs cs) (out : β → Option γ) (S : Hp → V → γ → Prop) (pers : ∀ H H' v c, SameN H H' → S H v c → S H' v c) (hn : cs.length < sizeLine) (ha : H a = some (.lst vs))
    (hs : ∀ x c H', c ∈ cs → R x c → Same H H' → LcTurn g tt te own σ H' H' x (out c) S)
    (hd : ∀ D H' ys, H D = none → Same H H' → H' D = some (.lst ys) → All2 (S H') ys (cs.filterMap out) → Q (.ref D) H') :
    ∃ a', V.ref a = .ref a' ∧ (∃ xs, SqL K H a' xs) ∧ ∀ D, H D = none → ∃ W : Nat → Nat → Hp → Prop, (∃ m, W 0 m (upd H D (.lst []))) ∧ ∀ i m H, W i m H →
      ((Itl K a').stop i H ∧ Q (.ref D) H) ∨ ((Itl K a').go i H ∧ ∃ Nx : Hp → Prop, (∀ H', Nx H' → ∃ m', m' < m ∧ W (i + 1) m' H') ∧ ∀ x H', (Itl K a').yld i H x H' → g x (wipe σ own) H' fun σ2 H2 => wipe σ2 own = wipe σ own ∧ tt σ2 H2 fun b H3 =>
        if b = true then te σ2 H3 fun y H4 => ∃ acc, H4 D = some (.lst acc) ∧ acc.length < sizeLine ∧ Nx (upd H4 D (.lst (acc ++ [y]))) else Nx H3) := by
  refine ⟨a, rfl, ⟨vs, SqL.of ha⟩, fun D hD => lc_core' walk_list (fun i => cs[i]?.bind out) S pers (by rw [hp.len]; exact hn) hD (fun H' sm => SqL.of (sm _ _ ha)) (fun i H' x H2 y => by obtain ⟨rfl, _⟩ := y; exact Same.refl' _) (fun i x H' H2 hi sm y => ?_) (fun H' ys sm eD al => hd D H' ys hD sm eD (by rw [hp.len, range_out] at al; exact al))⟩
  obtain ⟨rfl, e⟩ := y
  have hi' : i < cs.length := by rw [← hp.len]; exact hi
  have ec : cs[i]? = some cs[i] := by simp [hi']
  obtain ⟨x', e', r⟩ := hp.get ec
  rw [e'] at e
  cases e
  have := hs x cs[i] _ (by simp) r sm
  rw [show (cs[i]?.bind out) = out cs[i] from by rw [ec]; rfl]
  exact this
theorem lc_T (hp : All2 R vs cs) (out : β → Option γ) (S : Hp → V → γ → Prop) (pers : ∀ H H' v c, SameN H H' → S H v c → S H' v c) (hn : cs.length < sizeLine) (ha : H a = some (.tup vs))
    (hs : ∀ x c H', c ∈ cs → R x c → Same H H' → LcTurn g tt te own σ H' H' x (out c) S)
    (hd : ∀ D H' ys, H D = none → Same H H' → H' D = some (.lst ys) → All2 (S H') ys (cs.filterMap out) → Q (.ref D) H') :
    ∃ a', V.ref a = .ref a' ∧ (∃ xs, SqT K H a' xs) ∧ ∀ D, H D = none → ∃ W : Nat → Nat → Hp → Prop, (∃ m, W 0 m (upd H D (.lst []))) ∧ ∀ i m H, W i m H →
      ((Itt K a').stop i H ∧ Q (.ref D) H) ∨ ((Itt K a').go i H ∧ ∃ Nx : Hp → Prop, (∀ H', Nx H' → ∃ m', m' < m ∧ W (i + 1) m' H') ∧ ∀ x H', (Itt K a').yld i H x H' → g x (wipe σ own) H' fun σ2 H2 => wipe σ2 own = wipe σ own ∧ tt σ2 H2 fun b H3 =>
        if b = true then te σ2 H3 fun y H4 => ∃ acc, H4 D = some (.lst acc) ∧ acc.length < sizeLine ∧ Nx (upd H4 D (.lst (acc ++ [y]))) else Nx H3) := by
  refine ⟨a, rfl, ⟨vs, SqT.of ha⟩, fun D hD => lc_core' walk_tup (fun i => cs[i]?.bind out) S pers (by rw [hp.len]; exact hn) hD (fun H' sm => SqT.of (sm _ _ ha)) (fun i H' x H2 y => by obtain ⟨rfl, _⟩ := y; exact Same.refl' _) (fun i x H' H2 hi sm y => ?_) (fun H' ys sm eD al => hd D H' ys hD sm eD (by rw [hp.len, range_out] at al; exact al))⟩
  obtain ⟨rfl, e⟩ := y
  have hi' : i < cs.length := by rw [← hp.len]; exact hi
  have ec : cs[i]? = some cs[i] := by simp [hi']
  obtain ⟨x', e', r⟩ := hp.get ec
  rw [e'] at e
  cases e
  have := hs x cs[i] _ (by simp) r sm
  rw [show (cs[i]?.bind out) = out cs[i] from by rw [ec]; rfl]
  exact this
/-- over the signs of a text -/
theorem lc_S {z : Str} (out : Nat → Option γ) (S : Hp → V → γ → Prop) (pers : ∀ H H' v c, SameN H H' → S H v c → S H' v c) (hn : z.cps.size < sizeLine)
    (hs : ∀ c H', c ∈ z.cps.toList → Same H H' → LcTurn g tt te own σ H' H' (.str ⟨#[c]⟩) (out c) S)
    (hd : ∀ D H' ys, H D = none → Same H H' → H' D = some (.lst ys) → All2 (S H') ys (z.cps.toList.filterMap out) → Q (.ref D) H') :
    ∃ z', V.str z = .str z' ∧ ∀ D, H D = none → ∃ W : Nat → Nat → Hp → Prop, (∃ m, W 0 m (upd H D (.lst []))) ∧ ∀ i m H, W i m H →
      ((Its z').stop i H ∧ Q (.ref D) H) ∨ ((Its z').go i H ∧ ∃ Nx : Hp → Prop, (∀ H', Nx H' → ∃ m', m' < m ∧ W (i + 1) m' H') ∧ ∀ x H', (Its z').yld i H x H' → g x (wipe σ own) H' fun σ2 H2 => wipe σ2 own = wipe σ own ∧ tt σ2 H2 fun b H3 =>
        if b = true then te σ2 H3 fun y H4 => ∃ acc, H4 D = some (.lst acc) ∧ acc.length < sizeLine ∧ Nx (upd H4 D (.lst (acc ++ [y]))) else Nx H3) := by
  refine ⟨z, rfl, fun D hD => lc_core' walk_str (fun i => z.cps.toList[i]?.bind out) S pers hn hD (fun H' sm => trivial) (fun i H' x H2 y => by obtain ⟨rfl, _⟩ := y; exact Same.refl' _) (fun i x H' H2 hi sm y => ?_) (fun H' ys sm eD al => hd D H' ys hD sm eD (by rw [← Array.length_toList, range_out] at al; exact al))⟩
  obtain ⟨rfl, c, e, rfl⟩ := y
  have ec : z.cps.toList[i]? = some c := by rw [Array.getElem?_toList]; exact e
  have := hs c _ (List.mem_of_getElem? ec) sm
  rw [show (z.cps.toList[i]?.bind out) = out c from by rw [ec]; rfl]
  exact this
/-- over range(lo, hi) -/
theorem lc_R {lo hi : Int} {n : Nat} (hl : 0 ≤ lo) (hl2 : lo ≤ 100000) (hh : hi = lo + n) (out : Nat → Option γ) (S : Hp → V → γ → Prop) (pers : ∀ H H' v c, SameN H H' → S H v c → S H' v c) (hn : n < 100000)
    (hs : ∀ i H', i < n → Same H H' → LcTurn g tt te own σ H' H' (.int (lo + (i : Nat))) (out i) S)
    (hd : ∀ D H' ys, H D = none → Same H H' → H' D = some (.lst ys) → All2 (S H') ys ((List.range n).filterMap out) → Q (.ref D) H') :
    ∃ i j : Int, [V.int lo, V.int hi] = [.int i, .int j] ∧ (-(2 ^ 62) ≤ i ∧ i < 2 ^ 62 ∧ -(2 ^ 62) ≤ j ∧ j < 2 ^ 62) ∧ ∀ D, H D = none → ∃ W : Nat → Nat → Hp → Prop, (∃ m, W 0 m (upd H D (.lst []))) ∧ ∀ k m H, W k m H →
      ((Itr i (j - i).toNat).stop k H ∧ Q (.ref D) H) ∨ ((Itr i (j - i).toNat).go k H ∧ ∃ Nx : Hp → Prop, (∀ H', Nx H' → ∃ m', m' < m ∧ W (k + 1) m' H') ∧ ∀ x H', (Itr i (j - i).toNat).yld k H x H' → g x (wipe σ own) H' fun σ2 H2 => wipe σ2 own = wipe σ own ∧ tt σ2 H2 fun b H3 =>
        if b = true then te σ2 H3 fun y H4 => ∃ acc, H4 D = some (.lst acc) ∧ acc.length < sizeLine ∧ Nx (upd H4 D (.lst (acc ++ [y]))) else Nx H3) := by
  refine ⟨lo, hi, rfl, ⟨by omega, by omega, by omega, by omega⟩, ?_⟩
  rw [show (hi - lo).toNat = n by omega]
  refine fun D hD => lc_core' walk_range out S pers (Nat.lt_trans hn (by decide)) hD (fun H' sm => trivial) (fun i H' x H2 y => by obtain ⟨rfl, _⟩ := y; exact Same.refl' _) (fun i x H' H2 hi sm y => ?_) (fun H' ys sm eD al => hd D H' ys hD sm eD al)
  obtain ⟨rfl, rfl⟩ := y
  exact hs i _ hi sm
end
section
variable {β γ : Type} {K : PySem.W.Frag} {a : Addr} {vs : List V} {cs : List β} {R : V → β → Prop} {g : TG} {tb : TS} {D : Ends} {σ : St} {H : Hp} {tt : TT} {te : TE} {own : List Nat} {Q : VK} {tl : TE} {ta : TA}
/-- what a loop wants of the thing it walks: for a list, a tuple, an enumerated list, a range -/
def forK (J : It) (g : TG) (tb : TS) (D : Ends) (σ : St) (H1 : Hp) : Prop := ∃ W : Nat → Nat → St → Hp → Prop, (∃ m, W 0 m σ H1) ∧ ∀ i m σ H, W i m σ H →
  (J.stop i H ∧ D.nx σ H) ∨ (J.go i H ∧ ∃ N : St → Hp → Prop, (∀ σ' H', N σ' H' → ∃ m', m' < m ∧ W (i + 1) m' σ' H') ∧ ∀ x H', J.yld i H x H' → g x σ H' fun σ2 H2 => tb { D with nx := N, ct := N, bk := D.nx } σ2 H2)
def FL (K : PySem.W.Frag) (g : TG) (tb : TS) (D : Ends) (σ : St) : VK := fun x H1 => ∃ a, x = .ref a ∧ (∃ xs, SqL K H1 a xs) ∧ forK (Itl K a) g tb D σ H1
def FT (K : PySem.W.Frag) (g : TG) (tb : TS) (D : Ends) (σ : St) : VK := fun x H1 => ∃ a, x = .ref a ∧ (∃ xs, SqT K H1 a xs) ∧ forK (Itt K a) g tb D σ H1
def FE (K : PySem.W.Frag) (g : TG) (tb : TS) (D : Ends) (σ : St) : List V → Hp → Prop := fun vs H1 => ∃ a xs, vs = [.ref a] ∧ SqL K H1 a xs ∧ forK (Ite K a) g tb D σ H1
def FR (g : TG) (tb : TS) (D : Ends) (σ : St) : List V → Hp → Prop := fun vs H1 => ∃ j : Int, vs = [.int j] ∧ -(2 ^ 62) ≤ j ∧ j < 2 ^ 62 ∧ forK (Itr 0 j.toNat) g tb D σ H1
def lcK (J : It) (g : TG) (tt : TT) (te : TE) (own : List Nat) (σ : St) (Q : VK) (H1 : Hp) : Prop := ∀ D, H1 D = none → ∃ W : Nat → Nat → Hp → Prop, (∃ m, W 0 m (upd H1 D (.lst []))) ∧ ∀ i m H, W i m H →
  (J.stop i H ∧ Q (.ref D) H) ∨ (J.go i H ∧ ∃ Nx : Hp → Prop, (∀ H', Nx H' → ∃ m', m' < m ∧ W (i + 1) m' H') ∧ ∀ x H', J.yld i H x H' → g x (wipe σ own) H' fun σ2 H2 => wipe σ2 own = wipe σ own ∧ tt σ2 H2 fun b H3 =>
    if b = true then te σ2 H3 fun y H4 => ∃ acc, H4 D = some (.lst acc) ∧ acc.length < sizeLine ∧ Nx (upd H4 D (.lst (acc ++ [y]))) else Nx H3)
def CL (K : PySem.W.Frag) (g : TG) (tt : TT) (te : TE) (own : List Nat) (σ : St) (Q : VK) : VK := fun x H1 => ∃ a, x = .ref a ∧ (∃ xs, SqL K H1 a xs) ∧ lcK (Itl K a) g tt te own σ Q H1
def CT (K : PySem.W.Frag) (g : TG) (tt : TT) (te : TE) (own : List Nat) (σ : St) (Q : VK) : VK := fun x H1 => ∃ a, x = .ref a ∧ (∃ xs, SqT K H1 a xs) ∧ lcK (Itt K a) g tt te own σ Q H1
def CS (g : TG) (tt : TT) (te : TE) (own : List Nat) (σ : St) (Q : VK) : VK := fun x H1 => ∃ z, x = .str z ∧ lcK (Its z) g tt te own σ Q H1
def CR2 (g : TG) (tt : TT) (te : TE) (own : List Nat) (σ : St) (Q : VK) : List V → Hp → Prop := fun vs H1 => ∃ i j : Int, vs = [.int i, .int j] ∧ (-(2 ^ 62) ≤ i ∧ i < 2 ^ 62 ∧ -(2 ^ 62) ≤ j ∧ j < 2 ^ 62) ∧ lcK (Itr i (j - i).toNat) g tt te own σ Q H1
def CR1 (g : TG) (tt : TT) (te : TE) (own : List Nat) (σ : St) (Q : VK) : List V → Hp → Prop := fun vs H1 => ∃ j : Int, vs = [.int j] ∧ -(2 ^ 62) ≤ j ∧ j < 2 ^ 62 ∧ lcK (Itr 0 j.toNat) g tt te own σ Q H1
theorem go_forL (q : tl σ H (FL K g tb D σ)) : tFor (iList K tl) g tb D σ H := q
theorem go_forT (q : tl σ H (FT K g tb D σ)) : tFor (iTup K tl) g tb D σ H := q
theorem go_forE (q : ta σ H (FE K g tb D σ)) : tFor (iEnum K ta) g tb D σ H := q
theorem go_forR (q : ta σ H (FR g tb D σ)) : tFor (iRng1 ta) g tb D σ H := q
theorem go_lcL (q : tl σ H (CL K g tt te own σ Q)) : tLc (iList K tl) g tt te own σ H Q := q
theorem go_lcT (q : tl σ H (CT K g tt te own σ Q)) : tLc (iTup K tl) g tt te own σ H Q := q
theorem go_lcS (q : tl σ H (CS g tt te own σ Q)) : tLc (iStr tl) g tt te own σ H Q := q
theorem go_lcR2 (q : ta σ H (CR2 g tt te own σ Q)) : tLc (iRng2 ta) g tt te own σ H Q := q
theorem go_lcR1 (q : ta σ H (CR1 g tt te own σ Q)) : tLc (iRng1 ta) g tt te own σ H Q := q
theorem forL (hp : All2 R vs cs) (Pv : List β → St → Hp → Prop) (h0 : Pv [] σ H) (hl : ∀ d σ H, Pv d σ H → H a = some (.lst vs))
    (hs : ∀ d c r x σ H, cs = d ++ c :: r → R x c → Pv d σ H → g x σ H fun σ2 H2 => tb { D with nx := Pv (d ++ [c]), ct := Pv (d ++ [c]), bk := D.nx } σ2 H2) (hd : ∀ σ H, Pv cs σ H → D.nx σ H) : FL K g tb D σ (.ref a) H := for_L hp Pv h0 hl hs hd
theorem forT (hp : All2 R vs cs) (Pv : List β → St → Hp → Prop) (h0 : Pv [] σ H) (hl : ∀ d σ H, Pv d σ H → H a = some (.tup vs))
    (hs : ∀ d c r x σ H, cs = d ++ c :: r → R x c → Pv d σ H → g x σ H fun σ2 H2 => tb { D with nx := Pv (d ++ [c]), ct := Pv (d ++ [c]), bk := D.nx } σ2 H2) (hd : ∀ σ H, Pv cs σ H → D.nx σ H) : FT K g tb D σ (.ref a) H := for_T hp Pv h0 hl hs hd
theorem forE (hp : All2 R vs cs) (Pv : List β → St → Hp → Prop) (h0 : Pv [] σ H) (hl : ∀ d σ H, Pv d σ H → H a = some (.lst vs))
    (hs : ∀ d c r x σ H T, cs = d ++ c :: r → R x c → vs[d.length]? = some x → Pv d σ H → H T = none → g (.ref T) σ (upd H T (.tup [.int (d.length : Nat), x])) fun σ2 H2 => tb { D with nx := Pv (d ++ [c]), ct := Pv (d ++ [c]), bk := D.nx } σ2 H2) (hd : ∀ σ H, Pv cs σ H → D.nx σ H) : FE K g tb D σ [.ref a] H := for_E hp Pv h0 hl hs hd
theorem forR {n : Nat} {j : Int} (ej : j = (n : Nat)) (hn : n ≤ 100000) (Pv : Nat → St → Hp → Prop) (h0 : Pv 0 σ H)
    (hs : ∀ i σ H, i < n → Pv i σ H → g (.int (0 + (i : Nat))) σ H fun σ2 H2 => tb { D with nx := Pv (i + 1), ct := Pv (i + 1), bk := D.nx } σ2 H2) (hd : ∀ σ H, Pv n σ H → D.nx σ H) : FR g tb D σ [.int j] H := for_R ej hn Pv h0 hs hd
theorem lcL (ha : H a = some (.lst vs)) (hp : All2 R vs cs) (out : β → Option γ) (S : Hp → V → γ → Prop) (pers : ∀ H H' v c, SameN H H' → S H v c → S H' v c) (hn : cs.length < sizeLine)
    (hs : ∀ x c H', c ∈ cs → R x c → Same H H' → LcTurn g tt te own σ H' H' x (out c) S)
    (hd : ∀ D H' ys, H D = none → Same H H' → H' D = some (.lst ys) → All2 (S H') ys (cs.filterMap out) → Q (.ref D) H') : CL K g tt te own σ Q (.ref a) H := lc_L hp out S pers hn ha hs hd
theorem lcT (ha : H a = some (.tup vs)) (hp : All2 R vs cs) (out : β → Option γ) (S : Hp → V → γ → Prop) (pers : ∀ H H' v c, SameN H H' → S H v c → S H' v c) (hn : cs.length < sizeLine)
    (hs : ∀ x c H', c ∈ cs → R x c → Same H H' → LcTurn g tt te own σ H' H' x (out c) S)
    (hd : ∀ D H' ys, H D = none → Same H H' → H' D = some (.lst ys) → All2 (S H') ys (cs.filterMap out) → Q (.ref D) H') : CT K g tt te own σ Q (.ref a) H := lc_T hp out S pers hn ha hs hd
theorem lcS {z : Str} (out : Nat → Option γ) (S : Hp → V → γ → Prop) (pers : ∀ H H' v c, SameN H H' → S H v c → S H' v c) (hn : z.cps.size < sizeLine)
    (hs : ∀ c H', c ∈ z.cps.toList → Same H H' → LcTurn g tt te own σ H' H' (.str ⟨#[c]⟩) (out c) S)
    (hd : ∀ D H' ys, H D = none → Same H H' → H' D = some (.lst ys) → All2 (S H') ys (z.cps.toList.filterMap out) → Q (.ref D) H') : CS g tt te own σ Q (.str z) H := lc_S out S pers hn hs hd
theorem lcR2 {lo hi : Int} {n : Nat} (hl : 0 ≤ lo) (hl2 : lo ≤ 100000) (hh : hi = lo + n) (out : Nat → Option γ) (S : Hp → V → γ → Prop) (pers : ∀ H H' v c, SameN H H' → S H v c → S H' v c) (hn : n < 100000)
    (hs : ∀ i H', i < n → Same H H' → LcTurn g tt te own σ H' H' (.int (lo + (i : Nat))) (out i) S)
    (hd : ∀ D H' ys, H D = none → Same H H' → H' D = some (.lst ys) → All2 (S H') ys ((List.range n).filterMap out) → Q (.ref D) H') : CR2 g tt te own σ Q [.int lo, .int hi] H := lc_R hl hl2 hh out S pers hn hs hd
end
end Ld
namespace Ld
open PySem PySem.Spec PyProof.Rows L2
/-! ### data -/
abbrev Clause := Str × Str × Int
abbrev Point := Str × Int
abbrev Cell := Str × Str × Str
abbrev Pair := Str × Str
abbrev Ok (s : Str) : Prop := PyData.strOk s = true
def ClV (H : Hp) (v : V) (c : Clause) : Prop := ∃ p, v = .ref p ∧ H p = some (.tup [.str c.1, .str c.2.1, .int c.2.2]) ∧ Ok c.1 ∧ Ok c.2.1
def PtV (H : Hp) (v : V) (c : Point) : Prop := ∃ p, v = .ref p ∧ H p = some (.tup [.str c.1, .int c.2]) ∧ Ok c.1
def CellV (H : Hp) (v : V) (c : Cell) : Prop := ∃ p, v = .ref p ∧ H p = some (.tup [.str c.1, .str c.2.1, .str c.2.2]) ∧ Ok c.1 ∧ Ok c.2.1 ∧ Ok c.2.2
def PairV (H : Hp) (v : V) (c : Pair) : Prop := ∃ p, v = .ref p ∧ H p = some (.tup [.str c.1, .str c.2]) ∧ Ok c.1 ∧ Ok c.2
def StrV (_ : Hp) (v : V) (s : Str) : Prop := v = .str s ∧ Ok s
def IntV (_ : Hp) (v : V) (i : Int) : Prop := v = .int i
def Pers {γ : Type} (S : Hp → V → γ → Prop) : Prop := ∀ H H' v c, SameN H H' → S H v c → S H' v c
theorem ClV.pers : Pers ClV := fun _ _ _ _ s ⟨p, e, h, k⟩ => ⟨p, e, s _ _ rfl h, k⟩
theorem PtV.pers : Pers PtV := fun _ _ _ _ s ⟨p, e, h, k⟩ => ⟨p, e, s _ _ rfl h, k⟩
theorem CellV.pers : Pers CellV := fun _ _ _ _ s ⟨p, e, h, k⟩ => ⟨p, e, s _ _ rfl h, k⟩
theorem PairV.pers : Pers PairV := fun _ _ _ _ s ⟨p, e, h, k⟩ => ⟨p, e, s _ _ rfl h, k⟩
theorem StrV.pers : Pers StrV := fun _ _ _ _ _ h => h
theorem IntV.pers : Pers IntV := fun _ _ _ _ _ h => h
/-- a list of such, at a -/
def LAt {γ : Type} (S : Hp → V → γ → Prop) (H : Hp) (a : Addr) (cs : List γ) : Prop := ∃ vs, H a = some (.lst vs) ∧ All2 (S H) vs cs
theorem LAt.same {γ : Type} {S : Hp → V → γ → Prop} {H H' : Hp} {a : Addr} {cs : List γ} (pe : Pers S) (h : LAt S H a cs) (s : Same H H') : LAt S H' a cs := by
  obtain ⟨vs, e, al⟩ := h
  exact ⟨vs, s _ _ e, al.mono fun v c q => pe _ _ _ _ (SameN.of s) q⟩
theorem All2.raw {α : Type} (f : α → V) (ss : List α) : All2 (fun v s => v = f s) (ss.map f) ss := All2.of_map (R := fun v s => v = f s) (fun _ => rfl) ss

/-- all but the place b stays -/
def Off (b : Addr) (H H' : Hp) : Prop := ∀ x o, x ≠ b → H x = some o → H' x = some o
theorem LAt.off {H H' : Hp} {a b : Addr} {cs : List Clause} {C cx : Addr} {fs : List (Str × V)} (h : LAt ClV H a cs) (hb : H b = some (.ins C cx fs)) (k : ∀ x o, x ≠ b → H x = some o → H' x = some o) : LAt ClV H' a cs := by
  obtain ⟨vs, e, al⟩ := h
  refine ⟨vs, k _ _ (fun z => by rw [z, hb] at e; cases e) e, al.mono fun v c q => ?_⟩
  obtain ⟨p, e1, e2, e3⟩ := q
  exact ⟨p, e1, k _ _ (fun z => by rw [z, hb] at e2; cases e2) e2, e3⟩
/-! ### deep data -/
structure Enc {γ : Type} (S : Hp → V → γ → Prop) where
  d : γ → PyData
  lay : ∀ {H : Hp} {v : V} {c : γ}, S H v c → (d c).canLay0 = true
  dep : ∀ c, (d c).depth ≤ 9
  inj : ∀ x y, PyData.eqv (d x) (d y) = true ↔ x = y
  dp : ∀ {K : PySem.W.Frag} {H : Hp} {v : V} {c : γ}, S H v c → Dp K H v (d c)
namespace Enc
variable {γ : Type} {S : Hp → V → γ → Prop} (E : Enc S)
theorem lays {H : Hp} {vs : List V} {cs : List γ} (h : All2 (S H) vs cs) : PyData.canLayAll0 (cs.map E.d) = true := by
  induction h with
  | nil => rfl
  | cons h _ ih => simp [PyData.canLayAll0, E.lay h, ih]
theorem deps : ∀ cs : List γ, PyData.depthAll (cs.map E.d) ≤ 9
  | [] => Nat.zero_le _
  | c :: cs => by
    have := E.dep c
    have := deps cs
    simp only [List.map_cons, PyData.depthAll]
    omega
theorem shaped1 {H : Hp} {v : V} {c : γ} (h : S H v c) : SeqAt.shaped (E.d c) = true := by
  unfold SeqAt.shaped
  rw [E.lay h, Bool.true_and]
  exact decide_eq_true (Nat.le_trans (E.dep c) (by decide))
theorem shapedL {H : Hp} {vs : List V} {cs : List γ} (h : All2 (S H) vs cs) : SeqAt.shaped (.list (cs.map E.d)) = true := by
  have := E.deps cs
  unfold SeqAt.shaped
  simp only [PyData.canLay0, PyData.depth, E.lays h, Bool.true_and]
  exact decide_eq_true (by omega)
theorem dps {K : PySem.W.Frag} {H : Hp} {vs : List V} {cs : List γ} (h : All2 (S H) vs cs) : DpAll K H vs (cs.map E.d) := by
  induction h with
  | nil => exact .nil
  | cons h _ ih => exact .cons (E.dp h) ih
theorem dpl {K : PySem.W.Frag} {H : Hp} {a : Addr} {vs : List V} {cs : List γ} (e : H a = some (.lst vs)) (h : All2 (S H) vs cs) : Dp K H (.ref a) (.list (cs.map E.d)) := .lst (SqL.of e) (E.dps h)
theorem eqv_dec [DecidableEq γ] (x y : γ) : PyData.eqv (E.d x) (E.d y) = decide (x = y) := by
  rw [Bool.eq_iff_iff, E.inj]
  simp
theorem any_dec [DecidableEq γ] (c : γ) (cs : List γ) : ((cs.map E.d).any fun z => PyData.eqv z (E.d c)) = decide (c ∈ cs) := by
  induction cs with
  | nil => simp
  | cons x cs ih =>
    rw [List.map_cons, List.any_cons, ih, E.eqv_dec]
    by_cases h : x = c
    · simp [h]
    · have : ¬ c = x := fun z => h z.symm
      simp [h, this]
theorem eqvs_dec [DecidableEq γ] : ∀ xs ys : List γ, PyData.eqvAll (xs.map E.d) (ys.map E.d) = decide (xs = ys)
  | [], [] => by simp [PyData.eqvAll]
  | [], y :: ys => by simp [PyData.eqvAll]
  | x :: xs, [] => by simp [PyData.eqvAll]
  | x :: xs, y :: ys => by
    simp only [List.map_cons, PyData.eqvAll, E.eqv_dec, eqvs_dec xs ys]
    simp
end Enc
theorem eqv_str (a b : Str) : PyData.eqv (.str a) (.str b) = true ↔ a = b := by simp [PyData.eqv]
theorem eqv_int (a b : Int) : PyData.eqv (.int a) (.int b) = true ↔ a = b := by simp [PyData.eqv]
def encStr : Enc StrV where
  d s := .str s
  lay h := by simpa [PyData.canLay0] using h.2
  dep _ := by simp [PyData.depth]
  inj := eqv_str
  dp h := by obtain ⟨rfl, _⟩ := h; exact .str _
def encCl : Enc ClV where
  d c := .tuple [.str c.1, .str c.2.1, .int c.2.2]
  lay h := by obtain ⟨_, _, _, k⟩ := h; simpa [PyData.canLay0, PyData.canLayAll0] using k
  dep _ := by simp [PyData.depth, PyData.depthAll]
  inj x y := by
    obtain ⟨a, b, c⟩ := x
    obtain ⟨a', b', c'⟩ := y
    simp [PyData.eqv, PyData.eqvAll]
  dp h := by
    obtain ⟨p, rfl, h, _⟩ := h
    exact .tup (SqT.of h) (.cons (.str _) (.cons (.str _) (.cons (.int _) .nil)))
def encCell : Enc CellV where
  d c := .tuple [.str c.1, .str c.2.1, .str c.2.2]
  lay h := by obtain ⟨_, _, _, k⟩ := h; simpa [PyData.canLay0, PyData.canLayAll0] using k
  dep _ := by simp [PyData.depth, PyData.depthAll]
  inj x y := by
    obtain ⟨a, b, c⟩ := x
    obtain ⟨a', b', c'⟩ := y
    simp [PyData.eqv, PyData.eqvAll]
  dp h := by
    obtain ⟨p, rfl, h, _⟩ := h
    exact .tup (SqT.of h) (.cons (.str _) (.cons (.str _) (.cons (.str _) .nil)))
def encPair : Enc PairV where
  d c := .tuple [.str c.1, .str c.2]
  lay h := by obtain ⟨_, _, _, k⟩ := h; simpa [PyData.canLay0, PyData.canLayAll0] using k
  dep _ := by simp [PyData.depth, PyData.depthAll]
  inj x y := by
    obtain ⟨a, b⟩ := x
    obtain ⟨a', b'⟩ := y
    simp [PyData.eqv, PyData.eqvAll]
  dp h := by
    obtain ⟨p, rfl, h, _⟩ := h
    exact .tup (SqT.of h) (.cons (.str _) (.cons (.str _) .nil))
section
variable {K : PySem.W.Frag} {H : Hp} {Q : VK} {v : V} {a : Addr} {γ : Type} {S : Hp → V → γ → Prop} [DecidableEq γ] {vs : List V} {c : γ} {cs : List γ}
theorem go_inD (E : Enc S) (hv : S H v c) (h : LAt S H a cs) (q : Q (.bl (decide (c ∈ cs))) H) : rInD K v (.ref a) H Q := by
  obtain ⟨vs, e, al⟩ := h
  exact ⟨_, _, E.dp hv, E.dpl e al, E.shaped1 hv, E.shapedL al, by rw [E.any_dec]; exact q⟩
theorem go_niD (E : Enc S) (hv : S H v c) (h : LAt S H a cs) (q : Q (.bl (!decide (c ∈ cs))) H) : rNotInD K v (.ref a) H Q := by
  obtain ⟨vs, e, al⟩ := h
  exact ⟨_, _, E.dp hv, E.dpl e al, E.shaped1 hv, E.shapedL al, by rw [E.any_dec]; exact q⟩
theorem go_neL (E : Enc S) {b : Addr} {ds : List γ} (h : LAt S H a cs) (h2 : LAt S H b ds) (q : Q (.bl (!decide (cs = ds))) H) : rNeD K (.ref a) (.ref b) H Q := by
  obtain ⟨vs, e, al⟩ := h
  obtain ⟨ws, e2, al2⟩ := h2
  exact ⟨_, _, E.dpl e al, E.dpl e2 al2, E.shapedL al, E.shapedL al2, by simp only [PyData.eqv]; rw [E.eqvs_dec]; exact q⟩
end
/-! flat texts in a list -/
theorem inV_str (s : Str) (ss : List Str) : inV (.str s) (ss.map V.str) = decide (s ∈ ss) := by
  induction ss with
  | nil => rfl
  | cons x ss ih =>
    show (eqV (.str x) (.str s) || inV (.str s) (ss.map V.str)) = _
    rw [ih]
    by_cases h : x = s
    · subst h; simp [eqV]
    · have : ¬ s = x := fun z => h z.symm
      simp [eqV, h, this]
theorem flat_strs : ∀ ss : List Str, (ss.map V.str).all flatV = true
  | [] => rfl
  | _ :: ss => flat_strs ss
theorem go_inS {K : PySem.W.Frag} {H : Hp} {Q : VK} {a : Addr} {s : Str} {ss : List Str} (h : H a = some (.lst (ss.map V.str))) (q : Q (.bl (decide (s ∈ ss))) H) : rIn K false (.str s) (.ref a) H Q :=
  ⟨a, _, rfl, .inl (SqL.of h), rfl, flat_strs ss, by rw [inV_str]; exact q⟩
theorem go_niS {K : PySem.W.Frag} {H : Hp} {Q : VK} {a : Addr} {s : Str} {ss : List Str} (h : H a = some (.lst (ss.map V.str))) (q : Q (.bl (!decide (s ∈ ss))) H) : rIn K true (.str s) (.ref a) H Q :=
  ⟨a, _, rfl, .inl (SqL.of h), rfl, flat_strs ss, by rw [inV_str]; exact q⟩
theorem cutV_take (xs : List V) (i : Nat) : cutV xs none (some (i : Int)) = xs.take i := by
  unfold cutV
  rw [HT.sIx_none, HT.sIx_nat, List.drop_zero, Nat.sub_zero, List.take_eq_take_iff]
  omega
theorem cutV_drop (xs : List V) (i : Nat) : cutV xs (some (i : Int)) none = xs.drop i := by
  unfold cutV
  rw [HT.sIx_none, HT.sIx_nat]
  by_cases h : i ≤ xs.length
  · rw [Nat.min_eq_left h, List.take_of_length_le (by simp)]
  · rw [Nat.min_eq_right (by omega), List.drop_eq_nil_of_le (Nat.le_refl _), List.drop_eq_nil_of_le (by omega), List.take_nil]
theorem cutV_drop1 (xs : List V) (i : Nat) : cutV xs (some ((i : Int) + 1)) none = xs.drop (i + 1) := cutV_drop xs (i + 1)
end Ld
namespace Ld
open PySem PySem.Spec PyProof.Rows L2
section
variable {X : Cx} {k j : Nat} {C : Addr} {x m : Str} {sp : Sp} {p pos apos : Pos} {e o : Expr} {es : List Expr} {ta tb : TE} {t : TA}
/-- a local name that holds a def of the module, called -/
def tLoc (mg : Str → Option Value) (i : Nat) (x : Str) (sp : Sp) (t : TA) : TE := fun σ H Q => (∃ f, mg x = some (.ref f) ∧ σ[i]? = some (some (.ref f))) ∧ t σ H fun vs H1 => sp vs H1 Q E0
theorem pe_loc {y : Str} {i : Nat} (c : Cf X.prog X.w X.K X.mg X.base k y sp) (hr : Room j X.A) (hk : k ≤ j) (hN : X.N[i]? = some x) (hv : Vis X.env.scope x) (ha : PA X (e :: es) t)
    (hdb : (x == ("__debug__" : Str)) = false := by decide) (hcd : (x == ("__classdict__" : Str)) = false := by decide)
    (he : starEach (e :: es) X.env = (false, eval e X.env) :: starEach es X.env := by rfl) (hpl : (backTo pos (starEach es X.env)).any (·.1) = false := by rfl) :
    PE X (.Call (.Name x p) (e :: es) [] pos) (tLoc X.mg i y sp t) := by
  obtain ⟨f, fd, ps, ds, F, hm, kp, b, d⟩ := c.ex
  refine pe_conv (pe_callL F (hr.mono hk) hN hv kp b d pass0 ha hdb hcd he hpl) fun σ H Q q => ?_
  obtain ⟨⟨f', hm', hs⟩, q⟩ := q
  rw [hm] at hm'
  cases hm'
  exact ⟨hs, ta_conv q⟩
theorem go_loc {mg : Str → Option Value} {i : Nat} {f : Addr} {σ : St} {H : Hp} {Q : VK} (hm : mg x = some (.ref f)) (hs : σ[i]? = some (some (.ref f))) (q : t σ H fun vs H1 => sp vs H1 Q E0) : tLoc mg i x sp t σ H Q := ⟨⟨f, hm, hs⟩, q⟩

theorem ln_ex {α : Sort _} {p : α → Prop} {q : Prop} (h : ∀ x, p x → q) : (∃ x, p x) → q := fun ⟨x, k⟩ => h x k
theorem ln_and {a b q : Prop} (h : a → b → q) : a ∧ b → q := fun ⟨x, k⟩ => h x k
/-! own special methods -/
def rOwnIn (C : Addr) (sp : Sp) : R2 := fun x y H Q => ∃ a dx fs, y = .ref a ∧ H a = some (.ins C dx fs) ∧ sp [y, x] H (fun v H1 => ∃ b, v = .bl b ∧ Q (.bl b) H1) E0
def rOwnNi (C : Addr) (sp : Sp) : R2 := fun x y H Q => ∃ a dx fs, y = .ref a ∧ H a = some (.ins C dx fs) ∧ sp [y, x] H (fun v H1 => ∃ b, v = .bl b ∧ Q (.bl (!b)) H1) E0
theorem truthy_of {X : Cx} {b : Bool} {Q : Bool → Shared → Prop} {E : Value → Shared → Prop} {s : Shared} (h : Q b s) : wpAny (model X.prog X.w) X.A (truthy (.bool b)) Q E s := by
  cases b <;> exact wpAny_pure h
theorem op_ownIn (c : Cm X.prog X.w X.K X.mg X.base k C "__contains__" sp) (hr : Room j X.A) (hk : k ≤ j) : OpR X (compareOp .In) (rOwnIn C sp) := by
  intro pins s σ H x y v u Q I rx ry h
  obtain ⟨f, fd, ps, ds, hc, hm, F, b, d⟩ := c.ex
  obtain ⟨a, dx, fs, rfl, ea, h⟩ := h
  obtain rfl : u = Value.ref a := ry
  obtain ⟨mA, O, _⟩ := ins_get I.hok ea
  obtain ⟨od, J, _⟩ := O.look
  obtain ⟨m0, fr⟩ := I.fr
  refine PySem.W.in_K fr I.ok.mod.kin J hm.at_ hm.fn ?_
  refine thn (run_fn (us := [.ref a, v]) (vs := [.ref a, x]) F (hr.mono hk) b d pass0 I (.cons rfl (.cons rx .nil)) (Q := fun v H1 => ∃ b, v = .bl b ∧ Q (.bl b) H1) (by simp only [List.append_nil]; exact h)) fun r s1 ⟨z, H1, I1, rz, b', ez, q⟩ => ?_
  subst ez
  obtain rfl : r = Value.bool b' := rz
  exact truthy_of ⟨.bl _, H1, I1, rfl, q⟩
theorem op_ownNotIn (c : Cm X.prog X.w X.K X.mg X.base k C "__contains__" sp) (hr : Room j X.A) (hk : k ≤ j) : OpR X (compareOp .NotIn) (rOwnNi C sp) := by
  intro pins s σ H x y v u Q I rx ry h
  obtain ⟨f, fd, ps, ds, hc, hm, F, b, d⟩ := c.ex
  obtain ⟨a, dx, fs, rfl, ea, h⟩ := h
  obtain rfl : u = Value.ref a := ry
  obtain ⟨mA, O, _⟩ := ins_get I.hok ea
  obtain ⟨od, J, _⟩ := O.look
  obtain ⟨m0, fr⟩ := I.fr
  refine PySem.W.notIn_K fr I.ok.mod.kin J hm.at_ hm.fn ?_
  refine thn (run_fn (us := [.ref a, v]) (vs := [.ref a, x]) F (hr.mono hk) b d pass0 I (.cons rfl (.cons rx .nil)) (Q := fun v H1 => ∃ b, v = .bl b ∧ Q (.bl (!b)) H1) (by simp only [List.append_nil]; exact h)) fun r s1 ⟨z, H1, I1, rz, b', ez, q⟩ => ?_
  subst ez
  obtain rfl : r = Value.bool b' := rz
  exact truthy_of ⟨.bl _, H1, I1, rfl, q⟩
def rOwnAnd (C : Addr) (sp : Sp) : R2 := fun x y H Q => ∃ a dx fs b dy gs, x = .ref a ∧ H a = some (.ins C dx fs) ∧ y = .ref b ∧ H b = some (.ins C dy gs) ∧ sp [x, y] H (fun v H1 => ∃ r, v = .ref r ∧ Q (.ref r) H1) E0
theorem op_andOwn (c : Cm X.prog X.w X.K X.mg X.base k C "__and__" sp) (hf : PySem.W.selfFirst X.K C = true) (hr : Room j X.A) (hk : k ≤ j) : OpR X (binaryOp .BitAnd) (rOwnAnd C sp) := by
  intro pins s σ H x y v u Q I rx ry h
  obtain ⟨f, fd, ps, ds, hc, hm, F, bi, d⟩ := c.ex
  obtain ⟨a, dx, fs, b, dy, gs, rfl, ea, rfl, eb, h⟩ := h
  obtain rfl : v = Value.ref a := rx
  obtain rfl : u = Value.ref b := ry
  obtain ⟨mA, O, _⟩ := ins_get I.hok ea
  obtain ⟨od, J, _⟩ := O.look
  obtain ⟨mB, O2, _⟩ := ins_get I.hok eb
  obtain ⟨od2, J2, _⟩ := O2.look
  obtain ⟨m0, fr⟩ := I.fr
  refine PySem.W.binop_K fr I.ok.mod.kin J (fun A Q E s h z => (PySem.W.InstAt.mk (od := some od2) (h _ _ J2.at_) J2.cls J2.no (h _ _ J2.dict)).type.here z) hf hm.at_ hm.fn ?_
  refine thn (run_fn (us := [.ref a, .ref b]) (vs := [.ref a, .ref b]) F (hr.mono hk) bi d pass0 I (.cons rfl (.cons rfl .nil)) (Q := fun v H1 => ∃ r, v = .ref r ∧ Q (.ref r) H1) (by simp only [List.append_nil]; exact h)) fun r s1 ⟨z, H1, I1, rz, r', ez, q⟩ => ?_
  subst ez
  obtain rfl : r = Value.ref r' := rz
  exact ⟨.ref _, H1, I1, rfl, q⟩
def tGi (C : Addr) (sp : Sp) (ta tb : TE) : TE := fun σ H Q => ta σ H fun x H1 => tb σ H1 fun y H2 => ∃ a dx fs, x = .ref a ∧ H2 a = some (.ins C dx fs) ∧ sp [x, y] H2 Q E0
theorem pe_gi {i : Expr} (c : Cm X.prog X.w X.K X.mg X.base k C "__getitem__" sp) (hr : Room (j + 1) X.A) (hk : k ≤ j) (he : PE X o ta) (hi : PE X i tb) (hf : ∀ {f}, Meth X.K C "__getitem__" f → PySem.W.fnIn X.K f = true)
    (hsl : ∀ v u : Value, subscripted i true v u = runValue (.builtin "lifetime.subscript" ⟨[v, u], []⟩)) : PE X (.Subscript o i pos) (tGi C sp ta tb) := by
  refine ⟨fun pins s σ H Q I h => ?_⟩
  obtain ⟨f, fd, ps, ds, hc, hm, F, b, d⟩ := c.ex
  refine Subscript_ (binT he hi I (R := fun x y H2 => ∃ a dx fs, x = .ref a ∧ H2 a = some (.ins C dx fs) ∧ sp [x, y] H2 Q E0) h fun v u s2 x y H2 I2 rx ry q => ?_)
  obtain ⟨a, dx, fs, rfl, ea, q⟩ := q
  obtain rfl : v = Value.ref a := rx
  obtain ⟨mA, O, _⟩ := ins_get I2.hok ea
  obtain ⟨od, J, _⟩ := O.look
  obtain ⟨m0, fr⟩ := I2.fr
  refine PySem.W.sub_K fr I.ok.mod.kin J hm.at_ (hf hm) hm.fn ?_ (hsl _ _)
  have r1 : Vals [.ref a, y] [.ref a, u] := .cons rfl (.cons ry .nil)
  have r2 : Vals ([.ref a, y] ++ []) ([.ref a, u] ++ ds) := r1.append d
  have hl : ([Value.ref a, u] ++ ds).length = ps.length := by rw [← r2.length]; exact F.len _ _ _ _ q
  refine wpAny_call (codeAny_mono (F.run X.A.in1 X.stack s2 H2 ⟨[.ref a, u], []⟩ ([.ref a, u] ++ ds) ([.ref a, y] ++ []) Q E0 (hr.in1.mono hk) I2.env0.in1 (b s2 [.ref a, u] I2.kIn hl) r2 q) fun r s' hq => ?_)
  cases r with
  | error e => exact hq.elim
  | ok fl =>
    cases fl with
    | ret u => exact I2.after hq
    | next => exact False.elim hq
    | brk => exact False.elim hq
    | cont => exact False.elim hq
end
theorem pe_clsCon {X : Cx} {C : Addr} {x f : Str} {v : V} {p pos : Pos} (k : ∃ mc u, ClX.CRead X.K C mc ∧ ClX.CVal X.K C mc f v u) (g : ∃ u, X.mg x = some u ∧ RelV (.ref C) u) (hg : Gl X x) (hd : (x == ("__debug__" : Str)) = false := by decide)
    (hb : attributeBase (.Name x p) f X.env (eval (.Name x p) X.env) = eval (.Name x p) X.env := by rfl) : PE X (.Attribute (.Name x p) f pos) (tC v) := by
  obtain ⟨mc, u, r, c⟩ := k
  exact pe_conv (ClX.pe_cval (C8.pe_gc hg g hd) hb) fun σ H Q q => ⟨C, mc, v, u, rfl, r, c, q⟩
/-! properties -/
structure Prp (P : Program) (w : World) (K : PySem.W.Frag) (mg : Str → Option Value) (base : Heap) (k : Nat) (C : Addr) (f : Str) (sp : Sp) : Prop where
  ex : ∃ (p g : Addr) (fd : FuncData) (ps : List Str) (ds : List Value), Cls K C ∧ PropOf K C f p g ∧ FnOk P w K mg base CX0 k g fd ps sp ∧ Binds K fd ps ds ∧ Vals [] ds
def tPr (C : Addr) (sp : Sp) (ta : TE) : TE := fun σ H Q => ta σ H fun x H1 => ∃ a dx fs, x = .ref a ∧ H1 a = some (.ins C dx fs) ∧ sp [.ref a] H1 Q E0
theorem pe_pr {X : Cx} {k j : Nat} {C : Addr} {f : Str} {sp : Sp} {e : Expr} {ta : TE} {pos : Pos} (c : Prp X.prog X.w X.K X.mg X.base k C f sp) (hr : Room (j + 1) X.A) (hk : k ≤ j) (he : PE X e ta)
    (hab : attributeBase e f X.env (eval e X.env) = eval e X.env) : PE X (.Attribute e f pos) (tPr C sp ta) := by
  obtain ⟨p, g, fd, ps, ds, hc, hp, F, b, d⟩ := c.ex
  exact pe_prop he hc hp F (hr.mono (Nat.succ_le_succ hk)) b d pass0 hab
end Ld
namespace Ld
open PySem PySem.Spec PyProof.Rows L2
section
variable {P : Program} {w : World} {K : PySem.W.Frag} {mg : Str → Option Value} {base : Heap}
theorem prp_mk {m qual : Str} {C p : Addr} {st : Stmt} {f : Addr} {fd : FuncData} {N ps : List Str} {k : Nat} {sp : Sp} (F : DefAt K m qual st f fd) (c : Cls K C) (pr : PropOf K C m p f) (S : FnScope N ps (defScope st)) (len : ∀ vs H Q E, sp vs H Q E → vs.length = ps.length)
    (hb : ∀ (kV doc pm : Value) (an : Option Addr) (cdv ct : Value) (us : List Value), us.length = ps.length → bindArgs (PySem.W.fnOf m qual (defArgs st) (defBody st) (defScope st) .none kV doc pm an cdv ct) ⟨us, []⟩ = pure (ps.zip us))
    (hbody : ∀ (cdv : Value) (A : Around) (outer : List Env) (s : Shared) (H : Hp) (vs : List V) (Q : VK) (E : XK), Room k (A.deeper (envOfC qual (defScope st) s.heap.objs.size f cdv)) → sp vs H Q E →
      ∃ t, PSs (cxOf CX0 P w K mg base N qual (defScope st) f cdv A outer s H E).nox (defBody st) t ∧ t { nx := fun _ H' => Q .non H', rt := Q } (start N vs) H) : Prp P w K mg base (k + 1) C m sp := by
  refine ⟨p, f, fd, ps, [], c, pr, F.ok S len fun cdv A outer s H vs Q E hr h => ?_, F.bindsN hb, .nil⟩
  obtain ⟨t, h1, h2⟩ := hbody cdv A outer s H vs Q E hr h
  exact ⟨t, h1.nox, h2⟩
end
end Ld
namespace Ld
open PySem PySem.Spec PyProof.Rows L2
section
variable {K : PySem.W.Frag} {σ : St} {H : Hp} {Q : VK} {ta tb : TE} {C a dx : Addr} {fs : List (Str × V)} {sp : Sp} {x y v : V}
theorem go_pr (q : ta σ H fun x H1 => ∃ a dx fs, x = .ref a ∧ H1 a = some (.ins C dx fs) ∧ sp [.ref a] H1 Q E0) : tPr C sp ta σ H Q := q
theorem go_prx {A : Addr → Prop} (h : H a = some (.ins C dx fs)) (q : A a) : ∃ a' dx' fs', V.ref a = .ref a' ∧ H a' = some (.ins C dx' fs') ∧ A a' := ⟨a, dx, fs, rfl, h, q⟩
theorem go_gi (q : ta σ H fun x H1 => tb σ H1 fun y H2 => ∃ a dx fs, x = .ref a ∧ H2 a = some (.ins C dx fs) ∧ sp [x, y] H2 Q E0) : tGi C sp ta tb σ H Q := q
theorem go_gix {A : Prop} (h : H a = some (.ins C dx fs)) (q : A) : ∃ a' dx' fs', V.ref a = .ref a' ∧ H a' = some (.ins C dx' fs') ∧ A := ⟨a, dx, fs, rfl, h, q⟩
theorem go_rin (h : H a = some (.ins C dx fs)) (q : sp [.ref a, x] H (fun v H1 => ∃ b, v = .bl b ∧ Q (.bl b) H1) E0) : rOwnIn C sp x (.ref a) H Q := ⟨a, dx, fs, rfl, h, q⟩
theorem go_rni (h : H a = some (.ins C dx fs)) (q : sp [.ref a, x] H (fun v H1 => ∃ b, v = .bl b ∧ Q (.bl (!b)) H1) E0) : rOwnNi C sp x (.ref a) H Q := ⟨a, dx, fs, rfl, h, q⟩
theorem go_rand {b dy : Addr} {gs : List (Str × V)} (h : H a = some (.ins C dx fs)) (h2 : H b = some (.ins C dy gs)) (q : sp [.ref a, .ref b] H (fun v H1 => ∃ r, v = .ref r ∧ Q (.ref r) H1) E0) : rOwnAnd C sp (.ref a) (.ref b) H Q := ⟨a, dx, fs, b, dy, gs, rfl, h, rfl, h2, q⟩
theorem go_exref {A : Addr → Prop} (q : A a) : ∃ r, V.ref a = .ref r ∧ A r := ⟨a, rfl, q⟩
end
end Ld
namespace Ld
open PySem PySem.Spec PyProof.Rows L2
theorem pe_no {X : Cx} {e : Expr} : PE X e (fun _ _ _ => False) := ⟨fun _ _ _ _ _ _ h => h.elim⟩
/-! dicts of ints -/
def dI (m : List (Str × Int)) : List (Key × V) := m.map fun p => (Sum.inr p.1, V.int p.2)
theorem valV_dI (m : List (Str × Int)) (k : Str) : valV (dI m) (.inr k) = (m.lookup k).map V.int := by
  induction m with
  | nil => rfl
  | cons p m ih =>
    obtain ⟨j, v⟩ := p
    show valV ((Sum.inr j, V.int v) :: dI m) (.inr k) = _
    by_cases h : j = k
    · subst h
      rw [valV_pos rfl, List.lookup_cons_self]
      rfl
    · have h2 : (k == j) = false := by
        rw [beq_eq_false_iff_ne]
        exact fun z => h z.symm
      rw [valV_neg (fun z => h (Sum.inr.inj z)), ih, List.lookup_cons, h2]
def put (m : List (Str × Int)) (k : Str) (v : Int) : List (Str × Int) := if (m.any fun p => decide (p.1 = k)) = true then m.map (fun p => if p.1 = k then (p.1, v) else p) else m ++ [(k, v)]
theorem putK_dI (m : List (Str × Int)) (k : Str) (v : Int) : putK (dI m) (.inr k) (.int v) = dI (put m k v) := by
  unfold putK put
  have e : ((dI m).any fun kv => decide (kv.1 = Sum.inr k)) = m.any fun p => decide (p.1 = k) := by
    unfold dI
    rw [List.any_map]
    congr 1
    funext p
    simp
  rw [e]
  split
  · unfold dI
    rw [List.map_map, List.map_map]
    congr 1
    funext p
    by_cases h : p.1 = k
    · simp [h]
    · simp [h]
  · unfold dI
    rw [List.map_append]
    rfl
theorem length_dI (m : List (Str × Int)) : (dI m).length = m.length := by simp [dI]
theorem lookup_put (m : List (Str × Int)) (k : Str) (v : Int) (j : Str) : (put m k v).lookup j = if j = k then some v else m.lookup j := by
  have h := valV_dI (put m k v) j
  rw [← putK_dI, valV_put] at h
  have inj : ∀ {x y : Option Int}, x.map V.int = y.map V.int → x = y := fun {x y} e => by
    cases x <;> cases y <;> simp_all
  by_cases e : j = k
  · subst e
    rw [if_pos rfl] at h ⊢
    exact inj (h.symm)
  · rw [if_neg e]
    rw [if_neg (fun z => e (Sum.inr.inj z)), valV_dI] at h
    exact inj h.symm
section
variable {σ : St} {H : Hp} {Q : VK} {a : Addr} {k : Str} {m : List (Str × Int)} {v i : Int}
theorem go_dgetI {Qv : V → Prop} (h : H a = some (.dK (dI m))) (l : m.lookup k = some i) (q : Qv (.int i)) : ∃ a' v', V.ref a = .ref a' ∧ DGet H a' (.str k) (some v') ∧ Qv v' := go_dgetx h (by rw [valV_dI, l]; rfl) q
theorem go_oI {A : Option V → Prop} {o : Option Int} (h : H a = some (.dK (dI m))) (l : m.lookup k = o) (q : A (o.map V.int)) : ∃ a' o, V.ref a = .ref a' ∧ DGet H a' (.str k) o ∧ A o := ⟨a, _, rfl, DGet.k (k := Sum.inr k) h, by rw [valV_dI, l]; exact q⟩
theorem go_oK {A : Option V → Prop} {o : Option V} {kvs : List (Key × V)} (h : H a = some (.dK kvs)) (l : valV kvs (.inr k) = o) (q : A o) : ∃ a' o, V.ref a = .ref a' ∧ DGet H a' (.str k) o ∧ A o := ⟨a, _, rfl, DGet.k (k := Sum.inr k) h, by rw [l]; exact q⟩
theorem go_dputI {R : Hp → Prop} (h : H a = some (.dK (dI m))) (hz : m.length < sizeLine) (q : R (upd H a (.dK (dI (put m k v))))) : ∃ a' H4, V.ref a = .ref a' ∧ DPut H a' (.str k) (.int v) H4 ∧ R H4 := go_dputx h (by rw [length_dI]; exact hz) (by rw [putK_dI]; exact q)
end
/-! bounded keys -/
structure KIn (kvs : List (Key × V)) (ms : List Str) : Prop where
  nd : (kvs.map (·.1)).Nodup
  sub : ∀ p ∈ kvs, ∃ k ∈ ms, p.1 = Sum.inr k
theorem nodup_len {α : Type} [DecidableEq α] : ∀ {xs ys : List α}, xs.Nodup → (∀ x ∈ xs, x ∈ ys) → xs.length ≤ ys.length
  | [], ys, _, _ => Nat.zero_le _
  | x :: xs, ys, h, s => by
    rw [List.nodup_cons] at h
    have := nodup_len (xs := xs) (ys := ys.erase x) h.2 fun z hz => by
      have ne : z ≠ x := fun e => h.1 (e ▸ hz)
      exact (List.mem_erase_of_ne ne).mpr (s z (List.mem_cons_of_mem _ hz))
    rw [List.length_erase_of_mem (s x List.mem_cons_self)] at this
    have p : 0 < ys.length := List.length_pos_of_mem (s x List.mem_cons_self)
    simp only [List.length_cons]
    omega
theorem KIn.len {kvs : List (Key × V)} {ms : List Str} (h : KIn kvs ms) : kvs.length ≤ ms.length := by
  have := nodup_len (ys := ms.map Sum.inr) h.nd fun x hx => by
    obtain ⟨p, hp, rfl⟩ := List.mem_map.mp hx
    obtain ⟨k, hk, e⟩ := h.sub p hp
    rw [e]
    exact List.mem_map.mpr ⟨k, hk, rfl⟩
  simpa using this
theorem KIn.nil {ms : List Str} : KIn [] ms := ⟨List.nodup_nil, fun p h => by cases h⟩
theorem keys_putK (kvs : List (Key × V)) (k : Key) (v : V) : (k ∈ kvs.map (·.1) ∧ (putK kvs k v).map (·.1) = kvs.map (·.1)) ∨ (¬ k ∈ kvs.map (·.1) ∧ (putK kvs k v).map (·.1) = kvs.map (·.1) ++ [k]) := by
  unfold putK
  have e : (kvs.any fun kv => decide (kv.1 = k)) = true ↔ k ∈ kvs.map (·.1) := by simp
  by_cases h : k ∈ kvs.map (·.1)
  · refine .inl ⟨h, ?_⟩
    rw [if_pos (e.mpr h), List.map_map]
    apply List.map_congr_left
    intro p hp
    simp only [Function.comp]
    split <;> rfl
  · refine .inr ⟨h, ?_⟩
    rw [if_neg (fun z => h (e.mp z)), List.map_append]
    rfl
theorem KIn.put {kvs : List (Key × V)} {ms : List Str} (h : KIn kvs ms) {k : Str} (hk : k ∈ ms) (v : V) : KIn (putK kvs (.inr k) v) ms := by
  have old : ∀ x, x ∈ kvs.map (·.1) → ∃ k ∈ ms, x = Sum.inr k := fun x hx => by
    obtain ⟨q, hq, rfl⟩ := List.mem_map.mp hx
    exact h.sub q hq
  rcases keys_putK kvs (.inr k) v with ⟨hn, e⟩ | ⟨hn, e⟩
  · refine ⟨by rw [e]; exact h.nd, fun p hp => old _ ?_⟩
    rw [← e]
    exact List.mem_map.mpr ⟨p, hp, rfl⟩
  · refine ⟨?_, fun p hp => ?_⟩
    · rw [e, List.nodup_append]
      exact ⟨h.nd, by simp, fun a ha b hb => by rintro rfl; rw [List.mem_singleton] at hb; exact hn (hb ▸ ha)⟩
    · have : p.1 ∈ (putK kvs (.inr k) v).map (·.1) := List.mem_map.mpr ⟨p, hp, rfl⟩
      rw [e] at this
      rcases List.mem_append.mp this with z | z
      · exact old _ z
      · rw [List.mem_singleton] at z
        exact ⟨k, hk, z⟩
end Ld
namespace Ld
open PySem PySem.Spec PyProof.Rows L2
section
variable {σ : St} {H : Hp} {Q : VK} {a : Addr} {k : Str} {m : List (Str × Int)} {v i : Int} {td ty tx tk tv : TE}
theorem go_dnewK (q : ∀ p, H p = none → Q (.ref p) (upd H p (.dK []))) : tDNewK σ H Q := q
theorem go_dnewT (q : ∀ p, H p = none → Q (.ref p) (upd H p (.dT []))) : tDNewT σ H Q := q
theorem go_disp {trs : List (TE × TE)} (q : ∀ p, H p = none → tPairs trs σ (upd H p (.dK [])) fun ps H2 => H2 p = some (.dK []) ∧ ∃ kvs : List (Key × V), ps = kvs.map (fun kv => (kV kv.1, kv.2)) ∧ kvs.length ≤ 15 ∧ Q (.ref p) (upd H2 p (.dK (mergeK [] kvs)))) : tDisp trs σ H Q := q
theorem go_prn {Q : List (V × V) → Hp → Prop} (q : Q [] H) : tPairs [] σ H Q := q
theorem go_prc {trs : List (TE × TE)} {Q : List (V × V) → Hp → Prop} (q : tk σ H fun x H1 => tv σ H1 fun y H2 => tPairs trs σ H2 fun ps H3 => Q ((x, y) :: ps) H3) : tPairs ((tk, tv) :: trs) σ H Q := q
theorem go_dget2 (q : td σ H fun x H1 => ∃ a, x = .ref a ∧ IsD H1 a ∧ ty σ H1 fun y H2 => tx σ H2 fun z H3 => ∃ o, DGet H3 a y o ∧ Q (o.getD z) H3) : tDGet2 td ty tx σ H Q := q
theorem go_isD {kvs : List (Key × V)} {A : Addr → Prop} (h : H a = some (.dK kvs)) (q : A a) : ∃ a', V.ref a = .ref a' ∧ IsD H a' ∧ A a' := ⟨a, rfl, .inl ⟨kvs, .inl h⟩, q⟩
theorem go_getO {A : Option V → Prop} {o : Option Int} (h : H a = some (.dK (dI m))) (l : m.lookup k = o) (q : A (o.map V.int)) : ∃ o, DGet H a (.str k) o ∧ A o := ⟨_, DGet.k (k := Sum.inr k) h, by rw [valV_dI, l]; exact q⟩
end
end Ld
namespace Ld
open PySem PySem.Spec PyProof.Rows L2
section
variable {CX : CXT} {P : Program} {w : World} {K : PySem.W.Frag} {mg : Str → Option Value} {base : Heap} {N : List Str} {qual : Str} {sc : Scope} {f : Addr} {cdv : Value} {A : Around} {outer : List Env} {s : Shared} {H : Hp} {E : XK}
theorem nK : (cxOf CX P w K mg base N qual sc f cdv A outer s H E).nox.K = K := rfl
theorem nMg : (cxOf CX P w K mg base N qual sc f cdv A outer s H E).nox.mg = mg := rfl
theorem nK2 : (cxOf CX P w K mg base N qual sc f cdv A outer s H E).K = K := rfl
theorem nMg2 : (cxOf CX P w K mg base N qual sc f cdv A outer s H E).mg = mg := rfl
end
end Ld
namespace Ld
open PySem PySem.Spec PyProof.Rows L2
theorem none_up {H : Hp} {p q : Addr} {o : HO} (h : upd H p o q = none) : q ≠ p ∧ H q = none := by
  by_cases e : q = p
  · subst e; rw [upd_same] at h; cases h
  · rw [upd_ne e] at h; exact ⟨e, h⟩
section
variable {c : TT} {tb : TS} {D : Ends} {σ : St} {H : Hp}
theorem whileW (W : Nat → St → Hp → Prop) (m : Nat) (h0 : W m σ H) (hs : ∀ m σ H, W m σ H → c σ H fun b H1 => if b = true then ∃ N : St → Hp → Prop, (∀ σ' H', N σ' H' → ∃ m', m' < m ∧ W m' σ' H') ∧ tb { D with nx := N, ct := N, bk := D.nx } σ H1 else D.nx σ H1) : tWhile c tb D σ H := ⟨W, ⟨m, h0⟩, hs⟩
end
end Ld
namespace Ld
open PySem PySem.Spec PyProof.Rows L2
/-! the same rules with the text named from outside (within a comprehension's block) -/
section
variable {X : Cx} {K : PySem.W.Frag}
theorem pe_fldB {e : Expr} {f : Str} {pos : Pos} {ta : TE} (he : PE X e ta) (hb : attributeBase e f X.env (eval e X.env) = eval e X.env) (hK : X.K = K := by rfl) : PE X (.Attribute e f pos) (tFld K ta f) := by
  subst hK
  exact pe_fld he hb
theorem ix_tupB (hK : X.K = K := by rfl) : IxR X (rIxT K) := by
  subst hK
  exact ix_tup
theorem ix_listB (hK : X.K = K := by rfl) : IxR X (rIxL K) := by
  subst hK
  exact ix_list
theorem op_in_seqB (hK : X.K = K := by rfl) : OpR X (compareOp .In) (rIn K false) := by
  subst hK
  exact op_in_seq
theorem op_notIn_seqB (hK : X.K = K := by rfl) : OpR X (compareOp .NotIn) (rIn K true) := by
  subst hK
  exact op_notIn_seq
theorem op_inDB (hu : X.A.units + 65 < cLine) (hK : X.K = K := by rfl) : OpR X (compareOp .In) (rInD K) := by
  subst hK
  exact op_inD hu
theorem op_notInDB (hu : X.A.units + 65 < cLine) (hK : X.K = K := by rfl) : OpR X (compareOp .NotIn) (rNotInD K) := by
  subst hK
  exact op_notInD hu
theorem pg_tupB {es : List Expr} {k n : Nat} {t : TGs} {pos : Pos} (hc : X.calm = true) (h : PGs X es t) (hn : (assignEach es X.env).length = n := by rfl) (hst : (assignEach es X.env).findIdx? (·.1) = none := by rfl) (hK : X.K = K := by rfl) : PG X (.Tuple es k pos) (gTup K n t) := by
  subst hK
  exact pg_tup hc h hn hst
end
end Ld
namespace Ld
open PySem PySem.Spec PyProof.Rows L2
/-! a class made with two keyword-only arguments, both written -/
structure MkK (P : Program) (w : World) (K : PySem.W.Frag) (mg : Str → Option Value) (base : Heap) (k : Nat) (x : Str) (C : Addr) (n : Nat) (ks : List Str) (sp : Sp) : Prop where
  ex : ∃ (f : Addr) (fd : FuncData) (ps : List Str) (g : List Value → List Value → List Value), Mk K C f ∧ FnOk P w K mg base CX0 k f fd ps sp ∧ mg x = some (.ref C) ∧ KBn K fd ps (n + 1) ks g (fun vs zs => vs ++ zs)
def tNK (C : Addr) (n m : Nat) (sp : Sp) (t tk : TA) : TE := fun σ H Q => t σ H fun vs H1 => tk σ H1 fun zs H2 => vs.length = n ∧ zs.length = m ∧ ∀ x dx, H2 x = none → H2 dx = none → dx ≠ x →
  sp ((.ref x :: vs) ++ zs) (upd (upd H2 dx (.own x)) x (.ins C dx [])) (fun v H3 => v = .non ∧ Q (.ref x) H3) E0
theorem pe_mkK {X : Cx} {k j n : Nat} {C : Addr} {x : Str} {ks : List Str} {sp : Sp} {p pos : Pos} {e : Expr} {es : List Expr} {kws : List Keyword} {t tk : TA} (c : MkK X.prog X.w X.K X.mg X.base k x C n ks sp) (hr : Room j X.A) (hk : k + 1 ≤ j) (hg : Gl X x) (ha : PA X (e :: es) t) (hkw : PK X kws tk)
    (hall : (backToKw pos (keywordEach kws X.env)).all (·.1.isSome) = true := by rfl) (hks : (backToKw pos (keywordEach kws X.env)).filterMap (·.1) = ks := by rfl) (hdb : (x == ("__debug__" : Str)) = false := by decide)
    (he : starEach (e :: es) X.env = (false, eval e X.env) :: starEach es X.env := by rfl) (hpl : ((backTo pos (starEach (e :: es) X.env)).any (·.1) || (backToKw pos (keywordEach kws X.env)).any (·.1.isNone)) = false := by rfl) :
    PE X (.Call (.Name x p) (e :: es) kws pos) (tNK C n ks.length sp t tk) := by
  obtain ⟨f, fd, ps, g, M, F, hm, b⟩ := c.ex
  exact pe_makeK M F (hr.mono hk) hg hm b pass0 ha hkw hall hks hdb he hpl
theorem go_NK {C : Addr} {n m : Nat} {sp : Sp} {t tk : TA} {σ : St} {H : Hp} {Q : VK} (q : t σ H fun vs H1 => tk σ H1 fun zs H2 => vs.length = n ∧ zs.length = m ∧ ∀ x dx, H2 x = none → H2 dx = none → dx ≠ x →
  sp ((.ref x :: vs) ++ zs) (upd (upd H2 dx (.own x)) x (.ins C dx [])) (fun v H3 => v = .non ∧ Q (.ref x) H3) E0) : tNK C n m sp t tk σ H Q := q
section
variable {P : Program} {w : World} {K : PySem.W.Frag} {mg : Str → Option Value} {base : Heap}
theorem mkk_mk {x qual : Str} {C : Addr} {st : Stmt} {f : Addr} {fd : FuncData} {N ps ks : List Str} {kws : List (Str × V)} {k n : Nat} {sp : Sp} (F : FunD K "__init__" qual (defArgs st) (defBody st) (defScope st) [] kws f fd) (hkw : kws ≠ []) (M : Mk K C f) (hm : mg x = some (.ref C)) (S : FnScope N ps (defScope st)) (len : ∀ vs H Q E, sp vs H Q E → vs.length = ps.length)
    (hb : ∀ (D : Addr) (doc pm : Value) (an : Option Addr) (cdv ct : Value) (us ws : List Value), us.length = n + 1 → ws.length = ks.length → bindArgs (PySem.W.fnOf "__init__" qual (defArgs st) (defBody st) (defScope st) .none (.ref D) doc pm an cdv ct) ⟨us, ks.zip ws⟩ = pure (ps.zip (us ++ ws)))
    (hbody : ∀ (cdv : Value) (A : Around) (outer : List Env) (s : Shared) (H : Hp) (vs : List V) (Q : VK) (E : XK), Room k (A.deeper (envOfC qual (defScope st) s.heap.objs.size f cdv)) → sp vs H Q E →
      ∃ t, PSs (cxOf CX0 P w K mg base N qual (defScope st) f cdv A outer s H E).nox (defBody st) t ∧ t { nx := fun _ H' => Q .non H', rt := Q } (start N vs) H) : MkK P w K mg base (k + 1) x C n ks sp := by
  obtain ⟨mv, b⟩ := F.kbinds0 (n + 1) ks [] (fun us _ ws => us ++ ws) hkw (fun q hq => by cases hq) (fun r1 _ r3 => r1.append r3) (fun D doc pm an cdv ct us mv ws l1 l2 l3 => hb D doc pm an cdv ct us ws l1 l3)
  refine ⟨f, fd, ps, _, M, F.ok S len fun cdv A outer s H vs Q E hr h => ?_, hm, b⟩
  obtain ⟨t, h1, h2⟩ := hbody cdv A outer s H vs Q E hr h
  exact ⟨t, h1.nox, h2⟩
end
end Ld
namespace Ld
open PySem PySem.Spec PyProof.Rows L2
/-! ### dict comprehensions with text keys -/
section
variable {β : Type} {K : PySem.W.Frag} {a : Addr} {vs : List V} {cs : List β} {R : V → β → Prop} {g : TG} {σ : St} {H H1 : Hp} {tt : TT} {tk tv : TE} {own : List Nat} {Q : VK} {tl : TE}
def dS (kvs : List (Str × V)) : List (Key × V) := kvs.map fun p => (Sum.inr p.1, p.2)
abbrev DcTurn (g : TG) (tt : TT) (tk tv : TE) (own : List Nat) (σ : St) (H : Hp) (x : V) (o : Option (Str × V)) : Prop :=
  ∀ (Qo : V → V → Hp → Prop) (Qn : Hp → Prop), (∀ k v H2, o = some (k, v) → Same H H2 → Qo (.str k) v H2) → (o = none → ∀ H2, Same H H2 → Qn H2) →
    g x (wipe σ own) H fun σ2 H2 => wipe σ2 own = wipe σ own ∧ tt σ2 H2 fun b H3 => if b = true then tk σ2 H3 fun y H4 => tv σ2 H4 fun z H5 => Qo y z H5 else Qn H3
theorem dS_new {kvs : List (Str × V)} {k : Str} (h : ¬ k ∈ kvs.map (·.1)) (v : V) : putK (dS kvs) (.inr k) v = dS (kvs ++ [(k, v)]) := by
  have : ¬ Sum.inr k ∈ (dS kvs).map (·.1) := fun z => h (by
    unfold dS at z
    rw [List.map_map] at z
    obtain ⟨p, hp, e⟩ := List.mem_map.mp z
    exact List.mem_map.mpr ⟨p, hp, Sum.inr.inj e⟩)
  unfold putK
  rw [if_neg (by simpa using this)]
  unfold dS
  rw [List.map_append]
  rfl
def DL (K : PySem.W.Frag) (g : TG) (tt : TT) (tk tv : TE) (own : List Nat) (σ : St) (Q : VK) : VK := fun x H1 => ∃ a, x = .ref a ∧ (∃ xs, SqL K H1 a xs) ∧ ∀ D, H1 D = none → ∃ W : Nat → Nat → Hp → Prop, (∃ m, W 0 m (upd H1 D (.dK []))) ∧ ∀ i m H, W i m H →
  ((Itl K a).stop i H ∧ Q (.ref D) H) ∨ ((Itl K a).go i H ∧ ∃ Nx : Hp → Prop, (∀ H', Nx H' → ∃ m', m' < m ∧ W (i + 1) m' H') ∧ ∀ x H', (Itl K a).yld i H x H' → g x (wipe σ own) H' fun σ2 H2 => wipe σ2 own = wipe σ own ∧ tt σ2 H2 fun b H3 =>
    if b = true then tk σ2 H3 fun y H4 => tv σ2 H4 fun z H5 => ∃ kvs k, y = kV k ∧ H5 D = some (.dK kvs) ∧ kvs.length < sizeLine ∧ Nx (upd H5 D (.dK (putK kvs k z))) else Nx H3)
theorem go_dcL (q : tl σ H (DL K g tt tk tv own σ Q)) : tDc (iList K tl) g tt tk tv own σ H Q := q
theorem dcL (ha : H1 a = some (.lst vs)) (hp : All2 R vs cs) (out : β → Option (Str × V)) (hn : cs.length < sizeLine) (nd : ((cs.filterMap out).map (·.1)).Nodup)
    (hs : ∀ x c H', c ∈ cs → R x c → Same H1 H' → DcTurn g tt tk tv own σ H' x (out c))
    (hd : ∀ D H', H1 D = none → Same H1 H' → H' D = some (.dK (dS (cs.filterMap out))) → Q (.ref D) H') : DL K g tt tk tv own σ Q (.ref a) H1 := by
  refine ⟨a, rfl, ⟨vs, SqL.of ha⟩, fun D hD => ?_⟩
  have lf : ∀ d : List β, (d.filterMap out).length ≤ d.length := fun d => List.length_filterMap_le out d
  refine ⟨fun i m H' => m = vs.length - i ∧ i ≤ vs.length ∧ Same H1 H' ∧ H' D = some (.dK (dS ((cs.take i).filterMap out))), ⟨vs.length, by simp, Nat.zero_le _, same_new hD, upd_same⟩, ?_⟩
  rintro i m H' ⟨rfl, hi, sm, eD⟩
  have ql := sm _ _ ha
  by_cases hlt : i < vs.length
  · have hi' : i < cs.length := by rw [← hp.len]; exact hlt
    refine .inr ⟨⟨vs, vs[i], SqL.of ql, by simp [hlt]⟩, fun H2 => Same H1 H2 ∧ H2 D = some (.dK (dS ((cs.take (i + 1)).filterMap out))), fun H2 h => ⟨vs.length - (i + 1), by omega, rfl, hlt, h.1, h.2⟩, fun x H2 y => ?_⟩
    obtain ⟨rfl, y⟩ := y
    have ex := y vs (SqL.of ql)
    have ec : cs[i]? = some cs[i] := by simp [hi']
    obtain ⟨x', e', r⟩ := hp.get ec
    rw [e'] at ex
    cases ex
    have et : cs.take (i + 1) = cs.take i ++ [cs[i]] := by simp
    have ef : (cs.take (i + 1)).filterMap out = (cs.take i).filterMap out ++ (match out cs[i] with | some q => [q] | none => []) := by
      rw [et, List.filterMap_append]
      congr 1
      cases h : out cs[i] <;> simp [h]
    refine hs _ _ _ (by simp) r sm _ _ (fun k v H3 ho sm3 => ?_) (fun ho H3 sm3 => ?_)
    · have eD3 := sm3 _ _ eD
      have l1 := lf (cs.take i)
      have l2 : (cs.take i).length ≤ cs.length := by rw [List.length_take]; omega
      refine ⟨_, .inr k, rfl, eD3, by unfold dS; rw [List.length_map]; omega, fun b u e => ?_, ?_⟩
      · rw [upd_ne (ne_of_none e hD)]
        exact sm3 _ _ (sm _ _ e)
      · rw [ef, ho, dS_new]
        · exact upd_same
        · intro z
          have nd' : (((cs.take i).filterMap out ++ (cs.drop i).filterMap out).map (·.1)).Nodup := by
            rw [← List.filterMap_append, List.take_append_drop]
            exact nd
          have ed : cs.drop i = cs[i] :: cs.drop (i + 1) := by simp
          rw [ed, List.filterMap_cons, ho, List.map_append, List.nodup_append] at nd'
          exact nd'.2.2 k z k (by simp) rfl
    · refine ⟨Same.trans' sm sm3, ?_⟩
      rw [ef, ho, List.append_nil]
      exact sm3 _ _ eD
  · have e : i = vs.length := by omega
    subst e
    rw [hp.len, List.take_length] at eD
    exact .inl ⟨⟨vs, SqL.of ql, Nat.le_refl _⟩, hd D H' hD sm eD⟩
end
theorem nodup_out {β γ δ : Type} {out : β → Option (γ × δ)} {key : β → γ} (h : ∀ c p, out c = some p → p.1 = key c) : ∀ {cs : List β}, (cs.map key).Nodup → ((cs.filterMap out).map (·.1)).Nodup
  | [], _ => List.nodup_nil
  | c :: cs, nd => by
    rw [List.map_cons, List.nodup_cons] at nd
    have ih := nodup_out h nd.2
    cases e : out c with
    | none => rw [List.filterMap_cons_none e]; exact ih
    | some p =>
      rw [List.filterMap_cons_some e, List.map_cons, List.nodup_cons]
      refine ⟨fun z => nd.1 ?_, ih⟩
      obtain ⟨q, hq, eq⟩ := List.mem_map.mp z
      obtain ⟨c2, hc2, e2⟩ := List.mem_filterMap.mp hq
      rw [← h c p e, ← eq, h c2 q e2]
      exact List.mem_map.mpr ⟨c2, hc2, rfl⟩
/-! ### sorted texts -/
theorem go_sorted {K : PySem.W.Frag} {a : Addr} {ss : List Str} {H : Hp} {Q : VK} (h : H a = some (.lst (ss.map V.str))) (hz : ss.length < 64) (q : ∀ (ys : List Str) (p : Addr), ys.Perm ss → sortedS ys = true → H p = none → Q (.ref p) (upd H p (.lst (ys.map V.str)))) : rSortedS K [.ref a] H Q := ⟨a, ss, rfl, SqL.of h, hz, q⟩
def rSortedDK : List V → Hp → VK → Prop := fun xs H Q => ∃ (a : Addr) (kvs : List (Key × V)) (ks : List Str), xs = [.ref a] ∧ Rd H a (.dK kvs) ∧ kvs.map (·.1) = ks.map Sum.inr ∧ ks.length < 64 ∧
    ∀ ys p, ys.Perm ks → sortedS ys = true → H p = none → Q (.ref p) (upd H p (.lst (ys.map V.str)))
theorem cr_sortedDK {X : Cx} (hc : X.calm = true) : CallR X (.builtin "sorted") rSortedDK := call_sortedD hc
theorem go_sortedDK {a : Addr} {ks : List Str} {kvs : List (Key × V)} {H : Hp} {Q : VK} (h : H a = some (.dK kvs)) (hk : kvs.map (·.1) = ks.map Sum.inr) (hz : ks.length < 64)
    (q : ∀ (ys : List Str) (p : Addr), ys.Perm ks → sortedS ys = true → H p = none → Q (.ref p) (upd H p (.lst (ys.map V.str)))) : rSortedDK [.ref a] H Q := ⟨a, kvs, ks, rfl, .inl h, hk, hz, q⟩
end Ld
namespace Ld
open PySem PySem.Spec PyProof.Rows L2
/-! ### list(d.values()) -/
def tListVals (te : TE) : TE := fun σ H Q => te σ H fun x H1 => ∃ d kvs, x = .ref d ∧ H1 d = some (.dK kvs) ∧ ∀ q, H1 q = none → Q (.ref q) (upd H1 q (.lst (kvs.map (·.2))))
theorem kv_vals {kvs : List (Key × V)} {vs : List (Key × Value)} (r : KV kvs vs) {ws : List Value} (hl : ws.length = vs.length) (h : ∀ (j : Nat) (w : Value), ws[j]? = some w → ∃ k, vs[j]? = some (k, w)) : Vals (kvs.map (·.2)) ws := by
  have lk : kvs.length = vs.length := Paired.length r
  refine vals_of_at (by rw [List.length_map, hl, lk]) fun j x w h1 h2 => ?_
  obtain ⟨k, hk⟩ := h j w h2
  rw [List.getElem?_map] at h1
  cases e : kvs[j]? with
  | none => rw [e] at h1; cases h1
  | some p =>
    rw [e] at h1
    cases h1
    obtain ⟨y, g1, g2, g3⟩ := LiI.paired_get r e
    rw [hk] at g1
    cases g1
    exact g3
theorem pe_listVals {X : Cx} {e : Expr} {te : TE} {p apos cpos pos : Pos} (hc : X.calm = true) (he : PE X e te) (hg : Gl X "list") (hm : X.mg "list" = none) (hv : bootBuiltins "list" = some (.type "list")) (hbase : attributeBase e "values" X.env (eval e X.env) = eval e X.env := by rfl) (hline : (apos.endLine == cpos.line) = true := by rfl)
    (hs : starEach [.Call (.Attribute e "values" apos) [] [] cpos] X.env = (false, eval (.Call (.Attribute e "values" apos) [] [] cpos) X.env) :: starEach [] X.env := by rfl) :
    PE X (.Call (.Name "list" p) [.Call (.Attribute e "values" apos) [] [] cpos] [] pos) (tListVals te) := by
  refine ⟨fun pins s σ H Q I hq => ?_⟩
  refine wpAny_Call_Name_kw (ld_blt I hg hm hv ?_)
  refine PyProof.Rows.callWith_type1 ?_ hs rfl
  rw [hs]
  show wpAny _ _ (spliced ((false, eval (.Call (.Attribute e "values" apos) [] [] cpos) X.env) :: backTo pos (starEach [] X.env))) _ _ s
  refine Calls.spliced_cons ?_
  refine wpAny_Call_method (T := "dict") (id := "dict.values") hbase rfl hline F.plainAttrs_dict F.slot_dict_values F.type_dict_values (thn (he.run pins s σ H _ I hq) fun u s1 ⟨x, H1, I1, rx, d, kvs, ex, hd, q⟩ => ?_)
  subst ex
  obtain rfl : u = Value.ref d := rx
  obtain ⟨hz, hs0, vs, kv, hdo⟩ := I1.hok d _ hd
  obtain ⟨ep, hat⟩ := hdo.dictAt
  have lk : kvs.length = vs.length := Paired.length kv
  have I2 : Inv X pins σ H1 { s1 with heap := s1.heap.push { cls := .type "dict_values", data := .fields #[.ref d] } } := I1.kept (t' := s1.toks) fun b ob q => Heap.get?_push_of_some _ q
  refine ⟨hdo.typeIs, hdo.mapOf.noDict, ?_⟩
  show wpAny _ _ (callWith cpos (.builtin "dict.values") [.ref d] [] []) _ X.xe s1
  refine method_meetsIn F.slot_dict_values F.entry_dict_values rfl (PySem.evalArgs_none ⟨rfl, hdo.typeIs, F.args_dict_values_1 _, _, meets_dict_values (mixKind X.prog X.w) d hs0, ⟨vs, hdo⟩, ?_⟩)
  refine Calls.spliced_nil ?_
  refine PySem.W.kdl_call (PySem.W.kdl_values (knd := mixKind X.prog X.w) (kvs := vs) (ep := ep)) (I1.ok.hd hc) ⟨⟨_, Heap.get?_push_size _ rfl, rfl, rfl⟩, hat.push _⟩ (by omega) fun h' tk acc' c' hkeep hS hacc => ?_
  have fresh := I2.hok.fresh (Nat.le_refl _)
  refine ⟨.ref _, upd H1 _ (.lst (kvs.map (·.2))), I2.laid hkeep (Nat.le_refl _) (show ObjOk X.prog X.w _ _ _ (.lst (kvs.map (·.2))) from ⟨by rw [List.length_map]; exact hz, acc'.toList, c', kv_vals kv (by simp [hacc.1]) (fun j w hj => hacc.2 j w (by rw [← Array.getElem?_toList]; exact hj)), by rw [Array.toArray_toList]; exact hS⟩), rfl, q _ fresh⟩
def LV (Q : VK) : VK := fun x H1 => ∃ d kvs, x = .ref d ∧ H1 d = some (.dK kvs) ∧ ∀ q, H1 q = none → Q (.ref q) (upd H1 q (.lst (kvs.map (·.2))))
theorem go_listVals {te : TE} {σ : St} {H : Hp} {Q : VK} (q : te σ H (LV Q)) : tListVals te σ H Q := q
theorem go_listVx {d : Addr} {kvs : List (Key × V)} {H : Hp} {Q : VK} (h : H d = some (.dK kvs)) (q : ∀ q, H q = none → Q (.ref q) (upd H q (.lst (kvs.map (·.2))))) : LV Q (.ref d) H := ⟨d, kvs, rfl, h, q⟩
/-! list(d), the keys -/
theorem cr_listDK {X : Cx} (hc : X.calm = true) : CallR X (.type "list") rListD := call_list_dK hc
theorem go_listDK {d : Addr} {kvs : List (Key × V)} {H : Hp} {Q : VK} (h : H d = some (.dK kvs)) (q : ∀ q, H q = none → Q (.ref q) (upd H q (.lst (kvs.map fun kv => kV kv.1)))) : rListD [.ref d] H Q := ⟨d, kvs, rfl, h, q⟩
end Ld
namespace Ld
open PySem PySem.Spec PyProof.Rows L2
/-! ### dicts whose keys are pairs of texts -/
def kP (k : Pair) : List Key := [.inr k.1, .inr k.2]
theorem kP_inj {k j : Pair} (h : kP k = kP j) : k = j := by
  obtain ⟨a, b⟩ := k
  obtain ⟨c, d⟩ := j
  simp only [kP, List.cons.injEq, Sum.inr.injEq, and_true] at h
  rw [h.1, h.2]
theorem kP_V (k : Pair) : (kP k).map kV = [.str k.1, .str k.2] := rfl
def dP (m : List (Pair × Int)) : List (List Key × V) := m.map fun p => (kP p.1, V.int p.2)
theorem length_dP (m : List (Pair × Int)) : (dP m).length = m.length := by simp [dP]
theorem valV_dP (m : List (Pair × Int)) (k : Pair) : valV (dP m) (kP k) = (m.lookup k).map V.int := by
  induction m with
  | nil => rfl
  | cons p m ih =>
    obtain ⟨j, v⟩ := p
    show valV ((kP j, V.int v) :: dP m) (kP k) = _
    by_cases h : j = k
    · subst h
      rw [valV_pos rfl, List.lookup_cons_self]
      rfl
    · rw [valV_neg (fun z => h (kP_inj z)), ih, List.lookup_cons, beq_eq_false_iff_ne.mpr fun z => h z.symm]
def putP (m : List (Pair × Int)) (k : Pair) (v : Int) : List (Pair × Int) := if (m.any fun p => decide (p.1 = k)) = true then m.map (fun p => if p.1 = k then (p.1, v) else p) else m ++ [(k, v)]
theorem putK_dP (m : List (Pair × Int)) (k : Pair) (v : Int) : putK (dP m) (kP k) (.int v) = dP (putP m k v) := by
  unfold putK putP
  have e : ((dP m).any fun kv => decide (kv.1 = kP k)) = m.any fun p => decide (p.1 = k) := by
    unfold dP
    rw [List.any_map]
    congr 1
    funext p
    have : (kP p.1 = kP k) ↔ p.1 = k := ⟨kP_inj, fun z => by rw [z]⟩
    simp [Function.comp, this]
  rw [e]
  split
  · unfold dP
    rw [List.map_map, List.map_map]
    congr 1
    funext p
    by_cases h : p.1 = k
    · simp [h]
    · have : ¬ kP p.1 = kP k := fun z => h (kP_inj z)
      simp [h, this]
  · unfold dP
    rw [List.map_append]
    rfl
theorem lookup_putP (m : List (Pair × Int)) (k : Pair) (v : Int) (j : Pair) : (putP m k v).lookup j = if j = k then some v else m.lookup j := by
  have h := valV_dP (putP m k v) j
  rw [← putK_dP, valV_put] at h
  have inj : ∀ {x y : Option Int}, x.map V.int = y.map V.int → x = y := fun {x y} e => by
    cases x <;> cases y <;> simp_all
  by_cases e : j = k
  · subst e
    rw [if_pos rfl] at h ⊢
    exact inj h.symm
  · rw [if_neg e]
    rw [if_neg (fun z => e (kP_inj z)), valV_dP] at h
    exact inj h.symm
theorem keys_putP (m : List (Pair × Int)) (k : Pair) (v : Int) : (k ∈ m.map (·.1) ∧ (putP m k v).map (·.1) = m.map (·.1)) ∨ (¬ k ∈ m.map (·.1) ∧ (putP m k v).map (·.1) = m.map (·.1) ++ [k]) := by
  unfold putP
  have e : (m.any fun kv => decide (kv.1 = k)) = true ↔ k ∈ m.map (·.1) := by
    rw [List.any_eq_true, List.mem_map]
    exact ⟨fun ⟨p, hp, q⟩ => ⟨p, hp, of_decide_eq_true q⟩, fun ⟨p, hp, q⟩ => ⟨p, hp, decide_eq_true q⟩⟩
  by_cases h : k ∈ m.map (·.1)
  · refine .inl ⟨h, ?_⟩
    rw [if_pos (e.mpr h), List.map_map]
    apply List.map_congr_left
    intro p hp
    simp only [Function.comp]
    split <;> rfl
  · refine .inr ⟨h, ?_⟩
    rw [if_neg (fun z => h (e.mp z)), List.map_append]
    rfl
section
variable {σ : St} {H : Hp} {Q : VK} {a b : Addr} {k : Pair} {m : List (Pair × Int)} {v i : Int}
theorem go_dputP {x y : Str} {R : Hp → Prop} (h : H a = some (.dT (dP m))) (hb : H b = some (.tup [.str x, .str y])) (hz : m.length < sizeLine) (q : R (upd H a (.dT (dP (putP m (x, y) v))))) : ∃ a' H4, V.ref a = .ref a' ∧ DPut H a' (.ref b) (.int v) H4 ∧ R H4 :=
  ⟨a, _, rfl, DPut.t (k := kP (x, y)) h hb (by rw [length_dP]; exact hz), by rw [putK_dP]; exact q⟩
theorem go_dgetP {x y : Str} {Qv : V → Prop} (h : H a = some (.dT (dP m))) (hb : H b = some (.tup [.str x, .str y])) (l : m.lookup (x, y) = some i) (q : Qv (.int i)) : ∃ a' v', V.ref a = .ref a' ∧ DGet H a' (.ref b) (some v') ∧ Qv v' :=
  ⟨a, .int i, rfl, by have := DGet.t (k := kP (x, y)) h hb; rw [valV_dP, l] at this; exact this, q⟩
/-- the same while the dict is walked -/
theorem go_dgetPf {x y : Str} {o : Obj} {Qv : V → Prop} (h : H a = some (.frz o (.dT (dP m)))) (hb : H b = some (.tup [.str x, .str y])) (l : m.lookup (x, y) = some i) (q : Qv (.int i)) : ∃ a' v', V.ref a = .ref a' ∧ DGet H a' (.ref b) (some v') ∧ Qv v' :=
  ⟨a, .int i, rfl, .inr ⟨dP m, kP (x, y), b, .inr ⟨o, h⟩, rfl, hb, by rw [valV_dP, l]; rfl⟩, q⟩
end
theorem hu0 {A : Around} {k : Nat} (hr : Room k A) : A.units < cLine := Nat.lt_of_le_of_lt (Nat.le_add_right _ 64) hr.units
/-! sorted(d) -/
abbrev leP (x y : Pair) : Bool := PySem.W.dataLe false encPair.d x y
def srtP (l : List Pair) : List Pair := l.mergeSort leP
def rSortedDT : List V → Hp → VK → Prop := fun xs H Q => ∃ (a : Addr) (m : List (Pair × Int)), xs = [.ref a] ∧ H a = some (.dT (dP m)) ∧ m.length ≤ 1000 ∧ ∀ (zs : List V) (p : Addr), H p = none → All2 (fun v (c : Pair) => ∃ b, v = .ref b ∧ H b = some (.tup [.str c.1, .str c.2])) zs (srtP (m.map (·.1))) → Q (.ref p) (upd H p (.lst zs))
theorem each_vals {H : Hp} : ∀ {out : List Value} {ys : List Pair}, PySem.W.EachIs (fun (v : Value) (c : Pair) => ∃ b, v = .ref b ∧ H b = some (.tup [.str c.1, .str c.2])) out ys → ∃ zs, Vals zs out ∧ All2 (fun v (c : Pair) => ∃ b, v = .ref b ∧ H b = some (.tup [.str c.1, .str c.2])) zs ys
  | _, _, .nil => ⟨[], .nil, .nil⟩
  | _, _, .cons h t => by
    obtain ⟨zs, r, al⟩ := each_vals t
    obtain ⟨b, rfl, hb⟩ := h
    exact ⟨.ref b :: zs, .cons rfl r, .cons ⟨b, rfl, hb⟩ al⟩
theorem cr_sortedDT {X : Cx} (hc : X.calm = true) (hu : X.A.units + 64 < cLine) : CallR X (.builtin "sorted") rSortedDT := by
  intro pins s σ H xs us Q I r q
  obtain ⟨d, m, ex, hd, h1000, q⟩ := q
  subst ex
  obtain ⟨u, rfl, rx⟩ := r.one
  cases rx
  obtain ⟨z, hs, ks, pr, o, es, ep, ho, hx, hdt, he, hn⟩ := (show ObjOk X.prog X.w H s.heap d (.dT (dP m)) from I.hok d _ hd)
  have l1 : es.size = ks.length := size_of_entries he
  have l2 : (dP m).length = ks.length := Paired.length pr
  rw [length_dP] at l2
  have h16 : es.size ≤ sizeLine := by rw [l1, ← l2]; exact sz (by omega)
  refine Calls.call_function_entry PyProof.Rows.kind_sorted PyProof.Rows.plain_sorted PyProof.Rows.entry_sorted (PyProof.Rows.args_sorted1 _) ?_
  unfold Builtin.«sorted»
  refine wpAny_bind (m := checkCount "sorted" 1 1 _) (wpAny_pure ?_)
  refine wpAny_bind (PySem.W.kdu_collect (A := X.A.in1) (kdl_raw hs hx hdt) (I.ok.hd hc) ho h16 fun h' tk acc kp it => ?_)
  have ea : acc.toList = ks.map fun x => Value.ref x.2.1 := by
    have hl : acc.toList.length = ks.length := by rw [Array.length_toList, it.1]; exact l1
    apply List.ext_getElem?
    intro j
    rw [List.getElem?_map]
    cases hj : acc.toList[j]? with
    | none =>
      have h1 := List.getElem?_eq_none_iff.mp hj
      rw [List.getElem?_eq_none (by omega)]
      all_goals rfl
    | some v =>
      obtain ⟨en, hen, hv⟩ := it.2 j v (by rw [← Array.getElem?_toList]; exact hj)
      have qe := entry_at he j
      rw [hen] at qe
      cases hb : ks[j]? with
      | none =>
        rw [hb] at qe
        exact nomatch (show some en = none from qe)
      | some b =>
        rw [hb] at qe
        have e2 : en = entryOfKey (tupleKind (mixKind X.prog X.w)) b := Option.some.inj qe
        rw [hv, e2]
        all_goals rfl
  have ee : PySem.W.EachIs (fun (v : Value) (c : Pair) => ∃ b, v = .ref b ∧ H b = some (.tup [.str c.1, .str c.2])) acc.toList (m.map (·.1)) := by
    rw [ea]
    have key : ∀ (m : List (Pair × Int)) (ks : List (List Key × Addr × Value)), KT H (dP m) ks → PySem.W.EachIs (fun (v : Value) (c : Pair) => ∃ b, v = .ref b ∧ H b = some (.tup [.str c.1, .str c.2])) (ks.map fun x => Value.ref x.2.1) (m.map (·.1)) := by
      intro m
      induction m with
      | nil => intro ks h; cases h; exact .nil
      | cons p m ih =>
        intro ks h
        cases h with
        | cons h t => exact .cons ⟨_, rfl, h.2.1⟩ (ih _ t)
    exact key m ks pr
  have I1 : Inv X pins σ H { s with heap := h', toks := tk } := I.kept kp
  have hal : acc.toList.length = m.length := by rw [Array.length_toList, it.1, l1, l2]
  refine wpAny_bind (wpAny_newList ?_ (by rw [hal]; exact sz (by omega)))
  have hoL : (h'.push (seqObj "list" acc.toList.toArray 0)).get? h'.objs.size = some (seqObj "list" acc.toList.toArray 0) := Heap.get?_push_size _ rfl
  show wpAny _ _ _ _ _ { s with heap := h'.push (seqObj "list" acc.toList.toArray 0), toks := tk }
  have er : PySem.W.EachIs (fun (v : Value) (c : Pair) => ∃ as, Reads (h'.push (seqObj "list" acc.toList.toArray 0)) v (encPair.d c) as ∧ h'.objs.size ∉ as) acc.toList (m.map (·.1)) := ee.mono fun v c hv => by
    obtain ⟨b, rfl, hb⟩ := hv
    obtain ⟨its, rv, ⟨ob, hob, hcl, n, hdat⟩, _⟩ := I1.tuple (SqT.of hb)
    cases rv with
    | cons r1 rv =>
      cases rv with
      | cons r2 rv =>
        cases rv
        obtain ⟨t1, rfl⟩ := r1
        obtain ⟨t2, rfl⟩ := r2
        exact ⟨[], .tuple (Heap.get?_push_of_some _ hob) hcl hdat (.cons (as := []) (bs := []) (.str _ _) (.cons (as := []) (bs := []) (.str _ _) .nil)), List.not_mem_nil⟩
  have hall : PySem.W.AllAlike ((m.map (·.1)).map encPair.d) := PySem.W.AllAlike.of fun b b' => by simp [encPair, PySem.W.alike, PySem.W.alikeAll]
  have hk : PySem.W.Sortable ((m.map (·.1)).map encPair.d) := PySem.W.Sortable.tuples fun b => ⟨_, _, rfl⟩
  refine wpAny_bind (wpAny_holding (PySem.W.list_sort_data (s := { s with heap := h'.push (seqObj "list" acc.toList.toArray 0), toks := tk }) hoL ee er hall hk (by rw [List.length_map]; exact sz (by omega)) (fun b _ => ?_) fun out hlo ho2 => ?_))
  · have := encPair.dep b
    show X.A.units + 1 + 1 + _ < cLine
    omega
  · obtain ⟨zs, rz, az⟩ := each_vals ho2
    obtain ⟨e', he'⟩ := PyProof.Rows.sortedHeap_at (vs := acc.toList) (out := List.toArray out) hoL
    have hlen : zs.length ≤ sizeLine := by
      rw [rz.length, hlo, List.length_map]
      exact sz (by omega)
    refine wpAny_pure ⟨_, rfl, .ref h'.objs.size, upd H h'.objs.size (.lst zs), I1.laid (t' := tk) (fun b u e => ?_) (Nat.le_refl _)
      (show ObjOk X.prog X.w _ _ _ (.lst zs) from ⟨hlen, out, e', rz, he'⟩), rfl, q zs _ (I1.hok.fresh (Nat.le_refl _)) az⟩
    have hb : b < h'.objs.size := Heap.lt_size e
    rw [PyProof.Rows.sortedHeap_old (Nat.ne_of_lt hb) (by rw [size_push']; exact Nat.lt_succ_of_lt hb)]
    exact Heap.get?_push_of_some _ e
theorem go_sortedDT {a : Addr} {m : List (Pair × Int)} {H : Hp} {Q : VK} (h : H a = some (.dT (dP m))) (hz : m.length ≤ 1000) (q : ∀ (zs : List V) (p : Addr), H p = none → All2 (fun v (c : Pair) => ∃ b, v = .ref b ∧ H b = some (.tup [.str c.1, .str c.2])) zs (srtP (m.map (·.1))) → Q (.ref p) (upd H p (.lst zs))) : rSortedDT [.ref a] H Q := ⟨a, m, rfl, h, hz, q⟩
end Ld
namespace Ld
open PySem PySem.Spec PyProof.Rows L2
/-! ### min(xs, default=None) -/
def minO : List Int → Option Int
  | [] => none
  | n :: ns => some (ns.foldl min n)
def optI : Option Int → V
  | some i => .int i
  | none => .non
theorem min_le_all : ∀ (ns : List Int) (n : Int), ns.foldl min n ≤ n ∧ ∀ m ∈ ns, ns.foldl min n ≤ m
  | [], n => ⟨Int.le_refl _, fun m h => by cases h⟩
  | x :: ns, n => by
    obtain ⟨h1, h2⟩ := min_le_all ns (min n x)
    have a1 : min n x ≤ n := Int.min_le_left _ _
    have a2 : min n x ≤ x := Int.min_le_right _ _
    show ns.foldl min (min n x) ≤ n ∧ ∀ m ∈ x :: ns, ns.foldl min (min n x) ≤ m
    refine ⟨Int.le_trans h1 a1, fun m hm => ?_⟩
    cases hm with
    | head => exact Int.le_trans h1 a2
    | tail _ hm => exact h2 m hm
theorem min_mem : ∀ (ns : List Int) (n : Int), ns.foldl min n ∈ n :: ns
  | [], n => List.mem_cons_self
  | x :: ns, n => by
    have := min_mem ns (min n x)
    show ns.foldl min (min n x) ∈ _
    rcases List.mem_cons.mp this with e | e
    · rw [e]
      rcases Int.le_total n x with z | z
      · rw [Int.min_eq_left z]; exact List.mem_cons_self
      · rw [Int.min_eq_right z]; exact List.mem_cons_of_mem _ List.mem_cons_self
    · exact List.mem_cons_of_mem _ (List.mem_cons_of_mem _ e)
def rMinDef (K : PySem.W.Frag) : List V → List V → Hp → VK → Prop := fun vs zs H Q => ∃ (a : Addr) (ns : List Int), vs = [.ref a] ∧ zs = [.non] ∧ H a = some (.lst (ns.map V.int)) ∧ Q (optI (minO ns)) H
theorem depth_ints0 : ∀ ns : List Int, PyData.depthAll (ns.map .int) = 0
  | [] => rfl
  | _ :: ns => by simp [PyData.depthAll, PyData.depth, depth_ints0 ns]
theorem ints_reads {h : Heap} : ∀ {us : List Value} {ns : List Int}, Vals (ns.map V.int) us → ReadsAll h us (ns.map .int) []
  | _, [], .nil => .nil
  | _, n :: ns, .cons r t => by
    obtain ⟨k, rfl⟩ := r
    exact .cons (as := []) (bs := []) (.int _ _) (ints_reads t)
theorem cr_minDef {X : Cx} (hc : X.calm = true) (hu : X.A.units + 64 < cLine) : CallRK X (.builtin "min") [Str.ofString "default"] (rMinDef X.K) := by
  intro pins s σ H vs zs us ws Q I r rz h
  obtain ⟨a, ns, rfl, rfl, ha, q⟩ := h
  obtain rfl := Vals.ref1 r
  obtain ⟨w1, rfl, e1⟩ := vals1 rz
  obtain rfl : w1 = Value.none := e1
  obtain ⟨its, rv, hl, _⟩ := I.list (SqL.of ha)
  refine PySem.W.min_list_default (xs := ns.map .int) (as := []) (I.ok.hd hc) hl.isList (by simpa using ints_reads rv) ⟨fun x hx y hy => ?_, fun x hx => ?_⟩ (by rw [depth_ints0]; omega) (fun e h' tk hk => ?_) (fun y ys i v h' tk bs e hv hr hk => ?_)
  · obtain ⟨i, _, rfl⟩ := List.mem_map.mp hx
    obtain ⟨j, _, rfl⟩ := List.mem_map.mp hy
    rfl
  · obtain ⟨i, _, rfl⟩ := List.mem_map.mp hx
    intro z
    cases z
  · cases ns with
    | nil => exact ⟨.non, H, I.kept hk, rfl, q⟩
    | cons _ _ => cases e
  · cases ns with
    | nil => cases e
    | cons n ns =>
      rw [List.map_cons] at e
      injection e with e1 e2
      subst e1 e2
      rw [PySem.W.minD_ints] at hr
      cases hr
      exact ⟨.int _, H, I.kept hk, ⟨_, rfl⟩, q⟩
theorem go_minDef {K : PySem.W.Frag} {a : Addr} {ns : List Int} {H : Hp} {Q : VK} (h : H a = some (.lst (ns.map V.int))) (q : Q (optI (minO ns)) H) : rMinDef K [.ref a] [.non] H Q := ⟨a, ns, rfl, rfl, h, q⟩
theorem go_CKw {r : List V → List V → Hp → VK → Prop} {t tk : TA} {σ : St} {H : Hp} {Q : VK} (q : t σ H fun vs H1 => tk σ H1 fun zs H2 => r vs zs H2 Q) : tCKw r t tk σ H Q := q
end Ld
namespace Ld
open PySem PySem.Spec PyProof.Rows L2
/-! ### dict comprehensions whose keys are tuples -/
/-- the new dict takes a pair, the key a tuple at b -/
theorem putT_in {X : Cx} {pins : List (Addr × Obj)} {σ : St} {H : Hp} {s : Shared} {E : Value → Shared → Prop} {D b : Addr} {kvs : List (List Key × V)} {k : List Key} {v : V} {r : Value} {Q : Unit → Shared → Prop} (hu : X.A.units < cLine) (I : Inv X pins σ H s) (hD : H D = some (.dT kvs)) (hz : kvs.length < sizeLine)
    (hb : H b = some (.tup (k.map kV))) (rv : RelV v r) (h : ∀ s', Inv X pins σ (upd H D (.dT (putK kvs k v))) s' → Q () s') : wpAny (model X.prog X.w) X.A (dictSet D (.ref b) r) Q E s := by
  obtain ⟨z, low, es, pr, dd⟩ := dt_of I.hok hD
  have lz : (putK kvs k v).length ≤ sizeLine := Nat.le_trans (length_putK kvs k v) hz
  have le : es.length ≤ sizeLine := Paired.length pr ▸ z
  refine wpAny_dictSet_heap (knd := tupleKind (mixKind X.prog X.w)) (hsz := le) (show (tupleKind (mixKind X.prog X.w)).room X.A from hu) (key_of I.hok hb) dd fun g dg same => h _ ?_
  obtain ⟨q, qs, ep, hq, c1, c2, c3, _, c4⟩ := dg
  have mu : Mut (H D) := by rw [hD]; exact True.intro
  refine d_write I mu same ⟨q, hq⟩ ⟨lz, low, _, (pr.put k hb rv).keeps fun c ys ec => ?_, q, qs, ep, hq, c1, c2, c3, c4⟩
  have : c ≠ D := ne_of ec hD (fun e => nomatch e)
  rw [upd_ne this]
  exact ec
def tDcT (wi : TI) (g : TG) (tt : TT) (tk tv : TE) (vs : List Nat) : TE := fun σ H Q => wi σ H fun J H1 => ∀ D, H1 D = none → ∃ W : Nat → Nat → Hp → Prop, (∃ m, W 0 m (upd H1 D (.dT []))) ∧ ∀ i m H, W i m H →
  (J.stop i H ∧ Q (.ref D) H) ∨ (J.go i H ∧ ∃ Nx : Hp → Prop, (∀ H', Nx H' → ∃ m', m' < m ∧ W (i + 1) m' H') ∧ ∀ x H', J.yld i H x H' → g x (wipe σ vs) H' fun σ2 H2 => wipe σ2 vs = wipe σ vs ∧ tt σ2 H2 fun b H3 =>
    if b = true then tk σ2 H3 fun y H4 => tv σ2 H4 fun z H5 => ∃ (kvs : List (List Key × V)) (k : List Key) (a : Addr), y = .ref a ∧ H5 a = some (.tup (k.map kV)) ∧ H5 D = some (.dT kvs) ∧ kvs.length < sizeLine ∧ Nx (upd H5 D (.dT (putK kvs k z))) else Nx H3)
theorem pe_dcT {X : Cx} {kx vx tg iter : Expr} {ifs : List Expr} {sc : Scope} {own : List (Str × Nat)} {pos : Pos} {wi : TI} {g : TG} {tt : TT} {tk tv : TE} (hu : X.A.units < cLine) (hc : X.calm = true) (hN : X.N.Nodup) (hi : PI X tg iter wi) (ok : BlkOk X.N X.env.scope sc own)
    (hg : ∀ (s : Shared) (H : Hp) (C : Addr) (cl : List (Str × Addr)) (fp : List Addr), PG (X.blk s H sc (compEnvC sc cl C X.env) fp) tg g) (ht : ∀ (s : Shared) (H : Hp) (C : Addr) (cl : List (Str × Addr)) (fp : List Addr), PTs (X.blk s H sc (compEnvC sc cl C X.env) fp) ifs tt)
    (hk : ∀ (s : Shared) (H : Hp) (C : Addr) (cl : List (Str × Addr)) (fp : List Addr), PE (X.blk s H sc (compEnvC sc cl C X.env) fp) kx tk)
    (hv : ∀ (s : Shared) (H : Hp) (C : Addr) (cl : List (Str × Addr)) (fp : List Addr), PE (X.blk s H sc (compEnvC sc cl C X.env) fp) vx tv) (hs : ∀ x, foldedSetIterable iter X.env x = pure x := by intro _; rfl) :
    PE X (.DictComp kx vx [⟨tg, iter, ifs, 0⟩] sc pos) (tDcT wi g tt tk tv (own.map (·.2))) := by
  refine ⟨fun pins s σ H Q I want => ?_⟩
  rw [arm_eval_DictComp]
  have cellsThere : ∀ y ∈ sc.names, y.2 = .free → ∃ c, X.env.cells.lookup y.1 = some c := fun y hy e => (ok.free y hy e).elim (fun z => I.ok.has _ (.inl z)) (fun z => I.ok.has _ (.inr z))
  refine wpAny_comprehension_free (use := none) rfl hs (closure_ok cellsThere) ok.kind (fun y hy e => by rw [ok.uniq y hy, e]) (thn (hi.run pins s σ H _ I want) fun src sA hA => thn hA fun itv sB hB => ?_)
  obtain ⟨it, fp, tn, J, HB, rfl, IB, T, stB, fpB, loopWish⟩ := hB
  refine wpAny_newObj_type (newEnv_comp ?_)
  have DB : HB sB.heap.objs.size = none := IB.hok.fresh (Nat.le_refl _)
  obtain ⟨W, ⟨m0, w0⟩, turn⟩ := loopWish _ DB
  generalize eD : sB.heap.objs.size = D at DB w0 turn ⊢
  -- the dict is laid
  have IC : Inv X pins σ (upd HB D (.dT [])) { sB with heap := sB.heap.push { cls := .type "dict", data := .dict #[] } } := by
    subst eD
    exact IB.laid (t' := sB.toks) (fun b o e => Heap.get?_push_of_some _ e) (Nat.le_refl _) (dt_empty sB.heap IB.big)
  have fpLow : ∀ b ∈ fp, b < sB.heap.objs.size := fun b hb => let ⟨_, e, _⟩ := T.obj _ _ stB b hb; Heap.lt_size e
  generalize eH : upd HB D (.dT []) = HC at IC w0
  generalize eC : ({ sB with heap := sB.heap.push { cls := .type "dict", data := .dict #[] } } : Shared) = sC at IC
  have hC : sC.heap = sB.heap.push { cls := .type "dict", data := .dict #[] } := by rw [← eC]
  have fpC : ∀ b ∈ fp, FpOk X pins HC b ∧ b < sC.heap.objs.size := fun b hb => by
    have lt := fpLow b hb
    refine ⟨⟨?_, (fpB b hb).2⟩, by rw [hC, Heap.size_push]; exact Nat.lt_succ_of_lt lt⟩
    rw [← eH, upd_ne (eD ▸ Nat.ne_of_lt lt)]
    exact (fpB b hb).1
  have stC : tn 0 sC.heap := T.keep _ _ _ stB fun b _ o e => by rw [hC]; exact Heap.get?_push_of_some _ e
  have ID := block_start IC ok hN fpC
  have run1 := hg sC HC sC.heap.objs.size (cellsFrom (sC.heap.objs.size + 1) sc.names (cloFrom X.env.cells sc.names [])) fp
  have run2 := ht sC HC sC.heap.objs.size (cellsFrom (sC.heap.objs.size + 1) sc.names (cloFrom X.env.cells sc.names [])) fp
  have run3 := hk sC HC sC.heap.objs.size (cellsFrom (sC.heap.objs.size + 1) sc.names (cloFrom X.env.cells sc.names [])) fp
  have run4 := hv sC HC sC.heap.objs.size (cellsFrom (sC.heap.objs.size + 1) sc.names (cloFrom X.env.cells sc.names [])) fp
  have goal : codeAny (model X.prog X.w) X.A (.compStart (.DictComp kx vx [⟨tg, iter, ifs, 0⟩] sc pos) 0 (.ref it) (.ref D) (compEnvC sc (cellsFrom (sC.heap.objs.size + 1) sc.names (cloFrom X.env.cells sc.names [])) sC.heap.objs.size X.env))
      (compPost (model X.prog X.w) X.A X.xe none (EP X pins σ Q) (.ref D) sC.heap.objs.size) { sC with heap := pushCells (sC.heap.push { cls := .type "dict", data := .dict #[] }) sc.names } := by
    generalize eE : compEnvC sc (cellsFrom (sC.heap.objs.size + 1) sc.names (cloFrom X.env.cells sc.names [])) sC.heap.objs.size X.env = ce at ID run1 run2 run3 run4 ⊢
    have eL : ce.locals = sC.heap.objs.size := by subst eE; rfl
    generalize eS : ({ sC with heap := pushCells (sC.heap.push { cls := .type "dict", data := .dict #[] }) sc.names } : Shared) = sD at ID ⊢
    have stD : tn 0 sD.heap := T.keep _ _ _ stC fun b _ o e => by rw [← eS]; exact pushCells_keeps _ _ _ _ (Heap.get?_push_of_some _ e)
    have fpNow : ∀ {σ' : St} {H' : Hp} {s' : Shared}, Inv (X.blk sC HC sc ce fp) [] σ' H' s' → (∀ b ∈ fp, H' b = none) → ∀ b ∈ fp, FpOk (X.blk sC HC sc ce fp) [] H' b := fun {σ' H' s'} I' none' b hb =>
      ⟨none' b hb, (I'.ok.exf b hb).1, I'.ok.exfs b hb, .inl hb, fun x c e => (I'.ok.exf b hb).2 x c e, fun p hp => by cases List.append_nil (as := ([] : List (Addr × Obj))) ▸ hp⟩
    have loop : codeAny (model X.prog X.w) X.A (.compLoop (.DictComp kx vx [⟨tg, iter, ifs, 0⟩] sc pos) 0 (.ref it) (.ref D) ce) (compPost (model X.prog X.w) X.A X.xe none (EP X pins σ Q) (.ref D) sC.heap.objs.size) sD := by
      refine compLoop_anyD (fun n s' => ∃ i H', Inv (X.blk sC HC sc ce fp) [] (wipe σ (own.map (·.2))) H' s' ∧ tn i s'.heap ∧ (∀ b ∈ fp, H' b = none) ∧ W i n H') ?_ m0 ⟨0, HC, ID, stD, fun b hb => (fpC b hb).1.1, w0⟩
      rintro n s1 ⟨i, H1, I1, st1, no1, w1⟩
      rcases turn i n H1 w1 with ⟨stop, done⟩ | ⟨more, Nx, next, step⟩
      · refine thnF (T.done (X.blk sC HC sc ce fp) rfl rfl rfl hc i [] s1 _ H1 (fun _ _ => False) I1 (fpNow I1 no1) st1 stop) fun r s2 ⟨er, I2⟩ => ?_
        subst er
        have back : Inv X pins σ H1 s2 := IC.call' (ch := fp) I2.os I2.base I2.hok I2.bare fun b hb => ⟨(fpC b hb).1.2.2.2.1, (fpC b hb).1.2.1, (fpC b hb).1.2.2.2.2.1, (fpC b hb).1.2.2.2.2.2⟩
        have noC : H1 sC.heap.objs.size = none := by have z : H1 ce.locals = none := I2.free; rwa [eL] at z
        obtain ⟨mp, hn, _⟩ := I2.loc
        have hn : s2.heap.Ns ce.locals mp := hn
        rw [eL] at hn
        obtain ⟨f0, f1, f2, f3, f4, f5⟩ := IC.fpOk (Nat.le_refl _) noC
        exact ⟨mp, hn, fun h'' sb => ⟨.ref D, H1, back.turned (t' := s2.toks) (fun b o hb e => (sb.2 b hb).trans e) f0 f1 f3 f4 f5, rfl, done⟩⟩
      · refine thnF (T.item (X.blk sC HC sc ce fp) rfl rfl rfl hc i [] s1 _ H1 (fun _ _ => False) I1 (fpNow I1 no1) st1 more) fun r s2 ⟨u, er, h2⟩ => ?_
        subst er
        refine thnF h2 fun _ s3 ⟨x, H3, I3, rx, y3, st3, no3⟩ => ?_
        have I3' := I3.pinned (fpNow I3 no3) (T.obj _ _ st3)
        refine thnF (run1.run _ s3 _ H3 x u _ I3' rx (step x H3 y3)) fun _ s4 ⟨σ4, H4, I4, ew, q4⟩ => ?_
        refine thnF (run2.run _ s4 σ4 H4 _ I4 q4) fun b s5 ⟨H5, I5, q5⟩ => ?_
        have again : ∀ {s' : Shared} {H' : Hp}, Inv (X.blk sC HC sc ce fp) ([] ++ pinsAt fp s3.heap) σ4 H' s' → Nx H' → ∃ m, m < n ∧ ∃ i H', Inv (X.blk sC HC sc ce fp) [] (wipe σ (own.map (·.2))) H' s' ∧ tn i s'.heap ∧ (∀ b ∈ fp, H' b = none) ∧ W i m H' := fun {s' H'} I' nx => by
          obtain ⟨m', lt, w'⟩ := next H' nx
          have held : ∀ b ∈ fp, ∀ o, s3.heap.get? b = some o → s'.heap.get? b = some o ∧ H' b = none := fun b hb o e => by
            have := I'.pin (b, o) (List.mem_append_right _ (List.mem_append_right _ (mem_pinsAt hb e)))
            exact ⟨this.1, this.2.1⟩
          refine ⟨m', lt, i + 1, H', (I'.unpinned (pins := [])).weak (by rw [← ew, wipe_length]) (fun j v e => by rw [← ew] at e; exact (wipe_some e).1), T.keep _ _ _ st3 fun b hb o e => (held b hb o e).1, fun b hb => ?_, w'⟩
          obtain ⟨o, e, _⟩ := T.obj _ _ st3 b hb
          exact (held b hb o e).2
        cases b with
        | false =>
          simp only [Bool.false_eq_true, if_false] at q5 ⊢
          exact again I5 q5
        | true =>
          simp only [if_true] at q5 ⊢
          refine thnF (run3.run _ s5 σ4 H5 _ I5 q5) fun z s6 ⟨yk, H6, I6, r6, q6⟩ => ?_
          refine thnF (run4.run _ s6 σ4 H6 _ I6 q6) fun z2 s7 ⟨yv, H7, I7, r7, kvs, k, a, ek, ha, hD, lz, nx⟩ => ?_
          subst ek
          obtain rfl : z = Value.ref a := r6
          exact putT_in (X := X.blk sC HC sc ce fp) hu I7 hD lz ha r7 fun s8 I8 => again I8 nx
    exact codeAny_compStart_dict loop (T.self X.A 0 _ _ _ stD loop)
  exact goal
end Ld
namespace Ld
open PySem PySem.Spec PyProof.Rows L2
section
variable {K : PySem.W.Frag} {a : Addr} {vs : List V} {cs : List Pair} {g : TG} {σ : St} {H H1 : Hp} {tt : TT} {tk tv : TE} {own : List Nat} {Q : VK} {tl : TE}
def TupV (H : Hp) (v : V) (c : Pair) : Prop := ∃ b, v = .ref b ∧ H b = some (.tup [.str c.1, .str c.2])
abbrev DtTurn (g : TG) (tt : TT) (tk tv : TE) (own : List Nat) (σ : St) (H : Hp) (x : V) (c : Pair) (val : Int) : Prop :=
  ∀ (Qo : V → V → Hp → Prop) (Qn : Hp → Prop), (∀ y H2, TupV H2 y c → Same H H2 → Qo y (.int val) H2) →
    g x (wipe σ own) H fun σ2 H2 => wipe σ2 own = wipe σ own ∧ tt σ2 H2 fun b H3 => if b = true then tk σ2 H3 fun y H4 => tv σ2 H4 fun z H5 => Qo y z H5 else Qn H3
def DTL (K : PySem.W.Frag) (g : TG) (tt : TT) (tk tv : TE) (own : List Nat) (σ : St) (Q : VK) : VK := fun x H1 => ∃ a, x = .ref a ∧ (∃ xs, SqL K H1 a xs) ∧ ∀ D, H1 D = none → ∃ W : Nat → Nat → Hp → Prop, (∃ m, W 0 m (upd H1 D (.dT []))) ∧ ∀ i m H, W i m H →
  ((Itl K a).stop i H ∧ Q (.ref D) H) ∨ ((Itl K a).go i H ∧ ∃ Nx : Hp → Prop, (∀ H', Nx H' → ∃ m', m' < m ∧ W (i + 1) m' H') ∧ ∀ x H', (Itl K a).yld i H x H' → g x (wipe σ own) H' fun σ2 H2 => wipe σ2 own = wipe σ own ∧ tt σ2 H2 fun b H3 =>
    if b = true then tk σ2 H3 fun y H4 => tv σ2 H4 fun z H5 => ∃ (kvs : List (List Key × V)) (k : List Key) (a : Addr), y = .ref a ∧ H5 a = some (.tup (k.map kV)) ∧ H5 D = some (.dT kvs) ∧ kvs.length < sizeLine ∧ Nx (upd H5 D (.dT (putK kvs k z))) else Nx H3)
theorem go_dcTL (q : tl σ H (DTL K g tt tk tv own σ Q)) : tDcT (iList K tl) g tt tk tv own σ H Q := q
theorem putP_new {m : List (Pair × Int)} {k : Pair} (h : ¬ k ∈ m.map (·.1)) (v : Int) : putP m k v = m ++ [(k, v)] := by
  unfold putP
  rw [if_neg]
  intro z
  obtain ⟨p, hp, e⟩ := List.any_eq_true.mp z
  exact h (List.mem_map.mpr ⟨p, hp, of_decide_eq_true e⟩)
theorem dcTL (ha : H1 a = some (.lst vs)) (hp : All2 (TupV H1) vs cs) (val : Pair → Int) (hn : cs.length ≤ 1000) (nd : cs.Nodup)
    (hs : ∀ x c H', c ∈ cs → TupV H1 x c → Same H1 H' → DtTurn g tt tk tv own σ H' x c (val c))
    (hd : ∀ D H', H1 D = none → Same H1 H' → H' D = some (.dT (dP (cs.map fun c => (c, val c)))) → Q (.ref D) H') : DTL K g tt tk tv own σ Q (.ref a) H1 := by
  refine ⟨a, rfl, ⟨vs, SqL.of ha⟩, fun D hD => ?_⟩
  refine ⟨fun i m H' => m = vs.length - i ∧ i ≤ vs.length ∧ Same H1 H' ∧ H' D = some (.dT (dP ((cs.take i).map fun c => (c, val c)))), ⟨vs.length, by simp, Nat.zero_le _, same_new hD, upd_same⟩, ?_⟩
  rintro i m H' ⟨rfl, hi, sm, eD⟩
  have ql := sm _ _ ha
  by_cases hlt : i < vs.length
  · have hi' : i < cs.length := by rw [← hp.len]; exact hlt
    refine .inr ⟨⟨vs, vs[i], SqL.of ql, by simp [hlt]⟩, fun H2 => Same H1 H2 ∧ H2 D = some (.dT (dP ((cs.take (i + 1)).map fun c => (c, val c)))), fun H2 h => ⟨vs.length - (i + 1), by omega, rfl, hlt, h.1, h.2⟩, fun x H2 y => ?_⟩
    obtain ⟨rfl, y⟩ := y
    have ex := y vs (SqL.of ql)
    have ec : cs[i]? = some cs[i] := by simp [hi']
    obtain ⟨x', e', r⟩ := hp.get ec
    rw [e'] at ex
    cases ex
    refine hs _ _ _ (by simp) r sm _ _ (fun y H3 hy sm3 => ?_)
    obtain ⟨b, rfl, hb⟩ := hy
    have eD3 := sm3 _ _ eD
    have l1 : (dP ((cs.take i).map fun c => (c, val c))).length ≤ 1000 := by rw [length_dP, List.length_map, List.length_take]; omega
    refine ⟨_, kP cs[i], b, rfl, hb, eD3, szl (by omega), fun c u e => ?_, ?_⟩
    · rw [upd_ne (ne_of_none e hD)]
      exact sm3 _ _ (sm _ _ e)
    · rw [upd_same, putK_dP, putP_new]
      · have et : cs.take (i + 1) = cs.take i ++ [cs[i]] := by simp
        rw [et, List.map_append]
        rfl
      · rw [List.map_map, show ((fun x => x.1) ∘ fun c => (c, val c)) = (id : Pair → Pair) from rfl, List.map_id]
        intro z
        have e : cs = cs.take i ++ cs[i] :: cs.drop (i + 1) := by simp
        rw [e, List.nodup_append] at nd
        exact nd.2.2 _ z _ List.mem_cons_self rfl
  · have e : i = vs.length := by omega
    subst e
    rw [hp.len, List.take_length] at eD
    exact .inl ⟨⟨vs, SqL.of ql, Nat.le_refl _⟩, hd D H' hD sm eD⟩
end
/-! the order of the pairs -/
end Ld
namespace Ld
open PySem PySem.Spec PyProof.Rows L2
/-! ### an own exception class over RuntimeError whose __init__ stores fields: a store past classes whose mro is told by three facts -/
structure MroS (l : List Value) : Prop where
  ne : l.isEmpty = false
  ob : l.contains (.type "object") = true
  ps : ∀ self, refuseLoop self "__setattr__" l = pure ()
abbrev rtTail : List Value := [.type "RuntimeError", .type "Exception", .type "BaseException", .type "object"]
theorem mroS_rt {C : Addr} {l : List Value} (h : PySem.W.excTail rtTail l = true) : MroS (.ref C :: l) where
  ne := rfl
  ob := by
    rw [List.contains_cons, PySem.W.excTail_contains "object" l h, show rtTail.contains (.type "object") = true from by decide +kernel, Bool.or_true]
  ps := fun self => by
    have e : PySem.W.excTail rtTail (.ref C :: l) = true := h
    exact PySem.W.excTail_pass self (PySem.F.store_RuntimeError.passes self) _ e
section
open PySem.W PySem.Calls PySem.HandSPX PySem.OEX Builtin Builtin.ObjectAttr
variable {prog : Program} {w : World} {A : Around} {R : Result → Shared → Prop} {hp : Heap} {g : Array GenState} {d : Drawn} {t : Nat} {os : OsState}
/-- what both stores begin with -/
theorem store_begin {K : PySem.W.Frag} {name : Str} {tk : Tok} {v : Value} {x C : Addr} {ox : Obj} {od : Option Obj} {cd : ClassData} (X : K.In hp) (I : PySem.W.InstAt hp x ox C od) (hcd : PySem.W.clsIn K C = some cd) (M : MroS cd.mro) (ha : PySem.W.findIn K (.ref C) name = some none)
    (hq : wpAny (model prog w) A.in1 (storeInOwnDict (.ref x) (.ref C) (.str name tk) name v false) (fun fin s' => match fin with | .done f => R (.ok f) s' | .again c' => c'.quiet = true ∧ codeAny (model prog w) A c' R s') (fun e s' => R (.error e) s') ⟨hp, g, d, t, os⟩) :
    codeAny (model prog w) A (.call (.builtin "object.__setattr__") ⟨[.ref x, .str name tk, v], []⟩) R ⟨hp, g, d, t, os⟩ := by
  have SF := F.store_object
  have sub : PySem.W.Looks (model prog w) hp (isInstance (.ref x) (.type "object")) true := I.type.andThen (looks_mroIn X (by unfold mroIn; rw [hcd, Option.bind_some, if_neg (by rw [M.ne]; decide), M.ob]))
  refine codeAny_call_builtin SF.slot.plain SF.entry (@check_slot (model prog w) _ _ ⟨hp, g, d, t, os⟩ "object.__setattr__" "object" "__setattr__" (.ref x) [.str name tk, v] [] _ SF.kind SF.split sub (SF.args (.ref x) (.str name tk) v) ?_)
  have hmr : PySem.W.Looks (model prog w) hp (mroOf (.ref C)) cd.mro := (looks_clsIn X hcd).andThen .now
  have L3 : PySem.W.Looks (model prog w) hp (storeTaker? none) none := .now
  rw [osa_eq, refuse_eq]
  refine wpAny_bind (wpAny_bind (I.type.at (wpAny_bind (hmr.at ?_))))
  rw [M.ps]
  refine wpAny_pure (wpAny_bind (I.type.at (wpAny_bind ((looks_findIn X ha).at (wpAny_bind (L3.at ?_))))))
  exact hq
/-- the first field -/
theorem store_first {K : PySem.W.Frag} {name : Str} {tk : Tok} {v : Value} {x C : Addr} {fv : Array Value} {cd : ClassData} (X : K.In hp) (hx : hp.get? x = some { cls := .ref C, data := .fields fv }) (hcd : PySem.W.clsIn K C = some cd) (M : MroS cd.mro) (hh : cd.hasDict = true) (ha : PySem.W.findIn K (.ref C) name = some none)
    (hq : ∀ h' tk' dx, (∀ b o, b ≠ x → hp.get? b = some o → h'.get? b = some o) → hp.objs.size ≤ dx → dx ≠ x → h'.get? x = some { cls := .ref C, dict := some dx, data := .fields fv } →
      h'.Ns1 dx (fun y => if y = name then some v else none) → R (.ok (.ret .none)) ⟨h', g, d, tk', os⟩) :
    codeAny (model prog w) A (.call (.builtin "object.__setattr__") ⟨[.ref x, .str name tk, v], []⟩) R ⟨hp, g, d, t, os⟩ := by
  have hxs : x ≠ hp.objs.size := Nat.ne_of_lt (Heap.lt_size hx)
  refine store_begin X (od := none) ⟨hx, rfl, rfl, trivial⟩ hcd M ha ?_
  have hcls : PySem.W.Looks (model prog w) hp (classData C) cd := looks_clsIn X hcd
  obtain ⟨nm, bs, mro, ns, qn, hd, sn, sb, ab, col, del⟩ := cd
  dsimp only at hh
  subst hh
  unfold storeInOwnDict ownDictForStores
  repeat (first | with_reducible refine store_in_new ?_ ?_ | with_reducible refine wpAny_loadPart_at hx ?_ | with_reducible refine hcls.at ?_ | wp_step)
  · exact ⟨_, #[], _, (Heap.get?_update_ne _ _ _ _ hxs.symm).trans (Heap.get?_push_at rfl rfl), rfl, fun e he => absurd he (by simp), fun _ => rfl⟩
  · intro h' tk' hn' hs
    have hx1 : (hp.push { cls := .type "dict", data := .dict #[] }).get? x = some { cls := .ref C, data := .fields fv } := Heap.get?_push_of_some _ hx
    refine hq h' tk' hp.objs.size (fun b o hb ho => ?_) (Nat.le_refl _) hxs.symm ?_ hn'
    · exact (hs.2 b (Nat.ne_of_lt (Heap.lt_size ho))).trans ((Heap.get?_update_ne _ _ _ _ hb).trans (Heap.get?_push_of_some _ ho))
    · exact (hs.2 x hxs).trans (Heap.get?_update_self _ hx1 rfl)
/-- a further one -/
theorem store_more {K : PySem.W.Frag} {name : Str} {tk : Tok} {v : Value} {x C dx : Addr} {fv : Array Value} {cd : ClassData} {m0 : Str → Option Value} {nl : List Str} (X : K.In hp) (hx : hp.get? x = some { cls := .ref C, dict := some dx, data := .fields fv }) (hns : hp.Ns1 dx m0) (hw : Within m0 nl) (hz : nl.length ≤ 1000)
    (hcd : PySem.W.clsIn K C = some cd) (M : MroS cd.mro) (hh : cd.hasDict = true) (ha : PySem.W.findIn K (.ref C) name = some none)
    (hq : ∀ h' tk', (∀ b o, b ≠ dx → hp.get? b = some o → h'.get? b = some o) → h'.Ns1 dx (fun y => if y = name then some v else m0 y) → R (.ok (.ret .none)) ⟨h', g, d, tk', os⟩) :
    codeAny (model prog w) A (.call (.builtin "object.__setattr__") ⟨[.ref x, .str name tk, v], []⟩) R ⟨hp, g, d, t, os⟩ := by
  obtain ⟨oD, esD, epD, hoD, hdD, _⟩ := hns.count hw
  refine store_begin X (od := some oD) ⟨hx, rfl, rfl, hoD⟩ hcd M ha ?_
  have hcls : PySem.W.Looks (model prog w) hp (classData C) cd := looks_clsIn X hcd
  obtain ⟨nm, bs, mro, ns, qn, hd, sn, sb, ab, col, del⟩ := cd
  dsimp only at hh
  subst hh
  unfold storeInOwnDict ownDictForStores
  repeat (first | with_reducible refine PySem.OEX.store_in_old hns hw hz ?_ | with_reducible refine wpAny_loadPart_at hx ?_ | with_reducible refine hcls.at ?_ | wp_step)
  intro h' tk' hn' hs
  exact hq h' tk' (fun b o hb ho => (hs.2 b hb).trans ho) hn'
end
/-- what the written part says of such a class -/
structure RtC (K : PySem.W.Frag) (C : Addr) : Prop where
  cls : ∃ nm q N bs bm sn sub ab col dd k0 k1 k2 k3 k5, K.lookup C = some (excClassObj nm q C N bs bm true sn sub ab col dd k0 k1 k2 k3 k5 "RuntimeError.__new__") ∧ PySem.W.excTail rtTail bm = true
  sa : PySem.W.findIn K (.ref C) "__setattr__" = some (some (.builtin "object.__setattr__"))
  exC : PySem.W.subIn K (.ref C) (.type "BaseException") = some true
  tyC : PySem.W.typeIn K (.ref C) = some (.type "type")
  kC : PySem.W.keepIn K (.ref C) = true
section
variable {X : Cx} {pins : List (Addr × Obj)} {σ : St} {H : Hp} {s : Shared} {a C dx : Addr} {f : Str} {y : V} {u : Value} {fs : List (Str × V)} {Q : Unit → Shared → Prop} {E : Value → Shared → Prop} {A : Around}
theorem RtC.cd {K : PySem.W.Frag} {C : Addr} (T : RtC K C) : ∃ cd, PySem.W.clsIn K C = some cd ∧ MroS cd.mro ∧ cd.hasDict = true := by
  obtain ⟨nm, q, N, bs, bm, sn, sub, ab, col, dd, k0, k1, k2, k3, k5, hC, hbm⟩ := T.cls
  refine ⟨{ name := nm, bases := bs, mro := .ref C :: bm, ns := N, qualname := q, hasDict := true, slotNames := sn, subclasses := sub, abstract := ab, collection := col, hasDel := false }, ?_, mroS_rt hbm, rfl⟩
  unfold PySem.W.clsIn
  rw [hC]
/-- self.f = y, the first one -/
theorem put_first (T : RtC X.K C) (I : Inv X pins σ H s) (e : H a = some (exo a C none)) (hno : PySem.W.findIn X.K (.ref C) f = some none) (ry : RelV y u)
    (h : ∀ dx s', H dx = none → dx ≠ a → Inv X pins σ (upd (upd H dx (exd dx [(f, y)])) a (exo a C (some dx))) s' → Q () s') : wpAny (model X.prog X.w) A (setAttr (.ref a) f u) Q E s := by
  obtain ⟨cd, hcl, M, hh⟩ := T.cd
  obtain ⟨t1, ho⟩ := exo_at I.hok e
  obtain ⟨hp, g, d, t, os⟩ := s
  refine PySem.W.set_plain I.kIn (ox := { cls := .ref C, dict := none, data := .fields #[.ref t1, .none, .none, .none, .bool false, .none] }) (od := none) ⟨ho, rfl, rfl, trivial⟩ T.sa ?_
  refine store_first I.kIn ho hcl M hh hno (fun h' tk' dx k dn dne hx hn => ?_)
  have hnd : H dx = none := I.hok.fresh dn
  have nd : ∀ {b : Addr} {o : Obj}, hp.get? b = some o → b ≠ dx := fun q => Nat.ne_of_lt (Nat.lt_of_lt_of_le (Heap.lt_size q) dn)
  have na : ∀ {b : Addr}, H b = none → b ≠ a := fun n z => by rw [z, e] at n; cases n
  have off : ∀ {b : Addr} {o : HO}, H b = some o → b ≠ a → upd (upd H dx (exd dx [(f, y)])) a (exo a C (some dx)) b = some o := fun q z => by rw [upd_ne z, upd_ne (ne_of_none q hnd)]; exact q
  have U : Un X.fs [] H (upd (upd H dx (exd dx [(f, y)])) a (exo a C (some dx))) hp h' := {
    keep := fun b o q n _ _ => k b o (na n) q
    slot := fun b o q n _ _ => ⟨o.slots, k b o (na n) q⟩
    free := fun b o q n _ => by rw [upd_ne (na n), upd_ne (nd q)]; exact n
    there := fun b o q _ => by
      by_cases hb : b = a
      · exact ⟨_, by rw [hb]; exact hx⟩
      · exact ⟨o, k b o hb q⟩
    tups := fun b xs q => off q (at_ne e q exo_tup)
    frzs := fun b o v q => off q (at_ne e q exo_frz)
    tbls := fun b ps q => ⟨#[], by rw [off q (at_ne e q exo_tbl)]; simp⟩ }
  refine h dx _ hnd dne (I.un (t' := tk') U fun b o q => ?_)
  by_cases hb : b = a
  · subst hb
    rw [upd_same] at q
    cases q
    exact exo_ok hx
  · rw [upd_ne hb] at q
    by_cases hd : b = dx
    · subst hd
      rw [upd_same] at q
      cases q
      exact exd_ok hn (relO_put (fs := []) ry fun g => True.intro)
    · rw [upd_ne hd] at q
      exact (I.hok b o q).stay (fun c v hc z => k c v (hc.elim (fun hc => hc ▸ hb) fun hc => at_ne e hc exo_own) z) (fun c hc => off hc (at_ne e hc exo_own)) (fun c xs hc => off hc (at_ne e hc exo_tup))
/-- a further one -/
theorem put_more (T : RtC X.K C) (I : Inv X pins σ H s) (e : H a = some (exo a C (some dx))) (ed : H dx = some (exd dx fs)) (hl : fs.length ≤ 900) (hno : PySem.W.findIn X.K (.ref C) f = some none) (ry : RelV y u)
    (h : ∀ s', Inv X pins σ (upd H dx (exd dx ((f, y) :: fs))) s' → Q () s') : wpAny (model X.prog X.w) A (setAttr (.ref a) f u) Q E s := by
  obtain ⟨cd, hcl, M, hh⟩ := T.cd
  obtain ⟨t1, ho⟩ := exo_at I.hok e
  obtain ⟨mA, hns, rel⟩ := exd_at I.hok ed
  have hw := within_of rel
  obtain ⟨hp, g, d, t, os⟩ := s
  obtain ⟨oD, _, _, hoD, _, _⟩ := hns.count hw
  refine PySem.W.set_plain I.kIn (ox := { cls := .ref C, dict := some dx, data := .fields #[.ref t1, .none, .none, .none, .bool false, .none] }) (od := some oD) ⟨ho, rfl, rfl, hoD⟩ T.sa ?_
  refine store_more I.kIn ho hns hw (by rw [List.length_map]; omega) hcl M hh hno (fun h' tk' k hn => ?_)
  obtain ⟨o, _, _, e', _⟩ := id hn
  exact h _ (I.write (t' := tk') (x := dx) (e := dx) (o := exd dx ((f, y) :: fs)) (by rw [ed]; exact True.intro) (.inl rfl) k ⟨o, e'⟩ (exd_ok hn (relO_put ry rel)))
end
/-! ### readings -/
/-- self.f = e -/
def tRst (K : PySem.W.Frag) (f : Str) (to te : TE) : TS := fun D σ H => te σ H fun y H1 => to σ H1 fun x H2 => ∃ a C : Addr, x = .ref a ∧ RtC K C ∧ PySem.W.findIn K (.ref C) f = some none ∧
  ((H2 a = some (exo a C none) ∧ ∀ dx, H2 dx = none → dx ≠ a → D.nx σ (upd (upd H2 dx (exd dx [(f, y)])) a (exo a C (some dx)))) ∨
    ∃ (dx : Addr) (fs : List (Str × V)), H2 a = some (exo a C (some dx)) ∧ H2 dx = some (exd dx fs) ∧ fs.length ≤ 900 ∧ D.nx σ (upd H2 dx (exd dx ((f, y) :: fs))))
/-- C(e, ..) -/
def tMkR (C : Addr) (sp : Sp) (ta : TA) : St → Hp → XK → Prop := fun σ H Q => ta σ H fun vs H1 => vs.length ≤ 1000 ∧ ∀ a, H1 a = none → sp (.ref a :: vs) (upd H1 a (exo a C none))
  (fun v H2 => v = .non ∧ ∃ (d : Addr) (fs : List (Str × V)), H2 a = some (exo a C (some d)) ∧ H2 d = some (exd d fs) ∧ H1 d = none ∧ Q (.ref C) (some d) (upd (del H2 a) d (.xd fs))) E0
section
variable {X : Cx} {o e : Expr} {es : List Expr} {to te : TE} {ta : TA} {f : Str} {p p' pos : Pos}
theorem ps_rst (ho : PE X o to) (he : PE X e te) (hs : swapsWith e (some (.Attribute o f p')) pos.line X.env = pure false := by rfl) : PS X (.Assign [.Attribute o f p'] e pos) (tRst X.K f to te) := by
  refine ⟨fun pins s σ H D I h => ?_⟩
  refine plainObj_wpAny_Assign_Attribute (thn (he.run pins s σ H _ I h) fun v s1 ⟨y, H1, I1, r1, q1⟩ => thn (ho.run pins s1 σ H1 _ I1 q1) fun u s2 ⟨x, H2, I2, r2, a, C, ex, T, hno, q⟩ => ?_) hs
  subst ex
  obtain rfl : u = Value.ref a := r2
  rcases q with ⟨ea, q⟩ | ⟨dx, fs, ea, ed, hl, q⟩
  · exact put_first T I2 ea hno r1 fun dx s' n ne J => ⟨σ, _, J, q dx n ne⟩
  · exact put_more T I2 ea ed hl hno r1 fun s' J => ⟨σ, _, J, q⟩
theorem pmk_rt {x : Str} {C fI : Addr} {k : Nat} {fd : FuncData} {ps : List Str} {sp : Sp} (T : RtC X.K C) (iC : PySem.W.findIn X.K (.ref C) "__init__" = some (some (.ref fI))) (tI : PySem.W.typeIn X.K (.ref fI) = some (.type "function"))
    (F1 : FnOk X.prog X.w X.K X.mg X.base C8.CX0 k fI fd ps sp) (hr : Room (k + 1) X.A) (hb : L2.Binds X.K fd ps []) (hg : Gl X x) (hm : X.mg x = some (.ref C)) (ha : PA X (e :: es) ta)
    (hdb : (x == ("__debug__" : Str)) = false := by decide) (he : starEach (e :: es) X.env = (false, eval e X.env) :: starEach es X.env := by rfl) (hpl : (backTo pos (starEach es X.env)).any (·.1) = false := by rfl) :
    PMk X (.Call (.Name x p) (e :: es) [] pos) (tMkR C sp ta) := by
  intro pins s σ H Q I h
  obtain ⟨nm, q, N, bs, bm, sn, sub, ab, col, dd, k0, k1, k2, k3, k5, hC, hbm⟩ := T.cls
  refine wpAny_Call_Name_kw (ld_glob I hg hm ?_ hdb)
  refine PySem.W.callWith_K (h₀ := X.base) I.ok.mod.kin T.kC (thn (ha.run pos pins s σ H _ I h) fun us s1 ⟨vs, H1, I1, r1, hz, q1⟩ => ⟨I1.kIn, ?_⟩) he hpl
  show wpAny _ _ (call (.ref C) us) _ _ _
  obtain ⟨hp, g, dr, tk, os⟩ := s1
  have hsz : hp.objs.size ≤ hp.objs.size + 1 := Nat.le_succ _
  have hn : H1 (hp.objs.size + 1) = none := I1.hok.fresh hsz
  have hq := q1 (hp.objs.size + 1) hn
  have kk : ∀ b o, hp.get? b = some o → ((hp.push (PySem.W.kdv_tup us)).push (PySem.HandSPX.excO C hp.objs.size)).get? b = some o := fun b o e => Heap.get?_push_of_some _ (Heap.get?_push_of_some _ e)
  have hget : ((hp.push (PySem.W.kdv_tup us)).push (PySem.HandSPX.excO C hp.objs.size)).get? (hp.objs.size + 1) = some (PySem.HandSPX.excO C hp.objs.size) := by heap_get
  have I2 : Inv X pins σ (upd H1 (hp.objs.size + 1) (exo (hp.objs.size + 1) C none)) ⟨(hp.push (PySem.W.kdv_tup us)).push (PySem.HandSPX.excO C hp.objs.size), g, dr, tk, os⟩ := I1.laid (t' := tk) kk hsz (exo_ok hget)
  have r2 : Vals (V.ref (hp.objs.size + 1) :: vs) (Value.ref (hp.objs.size + 1) :: us) := .cons rfl r1
  have hl : (Value.ref (hp.objs.size + 1) :: us).length = ps.length := r2.length.symm.trans (F1.len _ _ _ _ hq)
  have hus : us.length ≤ sizeLine := by
    rw [← Paired.length r1, sizeLine_eq]
    omega
  have hb2 := hb _ (Value.ref (hp.objs.size + 1) :: us) I2.kIn (by rw [List.append_nil]; exact hl)
  rw [List.append_nil] at hb2
  refine wpAny_call (PySem.HandSPX.call_own F.excBase_RuntimeError (fun Y => PySem.W.excTail_contains Y bm hbm) (I1.kIn _ _ hC) (PySem.W.looks_findIn I1.kIn iC) (fun self => PySem.W.bind_fn I1.kIn self tI) hus
    (codeAny_mono (F1.run _ X.stack _ _ ⟨Value.ref (hp.objs.size + 1) :: us, []⟩ (Value.ref (hp.objs.size + 1) :: us) _ _ E0 (hr.make C us []) (I2.env0.make C us []) hb2 r2 hq) fun r s' hq' => ?_))
  cases r with
  | error er => exact (show False from hq').elim
  | ok fl =>
    cases fl with
    | ret u =>
      obtain ⟨v, H2, os2, bare2, un2, hok2, rv, ev, d, fs, ea, ed, hd1, q2⟩ := hq'
      subst ev
      obtain ⟨h2, g2, d2, t2, os'⟩ := s'
      exact ⟨rv, mk_end (raises_own T.exC T.tyC) I1 hsz kk un2 hok2 os2 bare2 ea ed hd1 q2⟩
    | next => exact False.elim hq'
    | brk => exact False.elim hq'
    | cont => exact False.elim hq'
end
end Ld
namespace Ld
open PySem PySem.Spec PyProof.Rows L2
/-! ### what the head tells -/
/-- a property of a class: its getter -/
structure DP where
  cls : Str
  name : Str
  qual : Str
  st : Stmt
def pAd (K : PySem.W.Frag) (d : DP) : Addr := He.ma K (He.ga K d.cls) d.name
def gAd (K : PySem.W.Frag) (d : DP) : Addr := match PySem.W.recIn K (pAd K d) "property" with
  | some (.ref g :: _) => g
  | _ => 0
def fnP (K : PySem.W.Frag) (a : Addr) : He.FnW := match K.lookup a with
  | some ⟨_, _, .func fd, _⟩ => some (fd.name, fd.qualname, fd.params, fd.body, fd.scope, fd.globals, fd.closure, fd.builtins)
  | _ => none
def DP.val (d : DP) : He.FnW := some (d.name, d.qual, defArgs d.st, .stmts (defBody d.st), defScope d.st, mainGlobals, [], builtinsNs)
def DP.ok (K : PySem.W.Frag) (d : DP) : Bool := PySem.W.keepIn K (.ref (gAd K d)) && ((match K.lookup (gAd K d) with
  | some ⟨_, _, .func fd, _⟩ => PySem.W.codeIn K fd.code d.qual && (He.dflB K fd.defaults [] && He.kwdB K fd.kwdefaults [])
  | _ => false) && (He.eqO (PySem.W.findIn K (.ref (He.ga K d.cls)) d.name) (some (some (.ref (pAd K d)))) && (He.eqO (PySem.W.specialIn K (.ref (pAd K d)) "__get__") (some (some (.builtin "property.__get__"))) && (decide (PySem.W.takesIn K (.ref (pAd K d)) = some true) &&
  (match PySem.W.recIn K (pAd K d) "property" with
  | some (.ref _ :: _) => true
  | _ => false)))))
theorem DP.funD {K : PySem.W.Frag} {d : DP} (e : fnP K (gAd K d) = d.val) (c : d.ok K = true) : (∃ fd, DefAt K d.name d.qual d.st (gAd K d) fd) ∧ PropOf K (He.ga K d.cls) d.name (pAd K d) (gAd K d) := by
  obtain ⟨kp, c⟩ := He.ba c
  obtain ⟨c2, c⟩ := He.ba c
  obtain ⟨c3, c⟩ := He.ba c
  obtain ⟨c4, c⟩ := He.ba c
  obtain ⟨c5, c6⟩ := He.ba c
  refine ⟨?_, He.eqO_ok c3, He.eqO_ok c4, of_decide_eq_true c5, ?_⟩
  · unfold fnP at e
    cases q : K.lookup (gAd K d) with
    | none =>
      rw [q] at c2
      cases c2
    | some o =>
      obtain ⟨oc, od, dt, osl⟩ := o
      rw [q] at c2 e
      cases dt with
      | func fd =>
        obtain ⟨n1, n2, n3, n4, n5, n6, n7, n8, n9, n10, n11, n12, n13, n14, n15⟩ := fd
        have e2 : (some (n1, n2, n3, n4, n5, n6, n7, n15) : He.FnW) = some (d.name, d.qual, defArgs d.st, .stmts (defBody d.st), defScope d.st, mainGlobals, [], builtinsNs) := e
        simp only [Option.some.injEq, Prod.mk.injEq] at e2
        obtain ⟨h1, h2, h3, h4, h5, h6, h7, h8⟩ := e2
        subst h1 h2 h3 h4 h5 h6 h7 h8
        have c7 : (PySem.W.codeIn K n13 d.qual && (He.dflB K n8 [] && He.kwdB K n9 [])) = true := c2
        obtain ⟨k1, k2⟩ := He.ba c7
        obtain ⟨k3, k4⟩ := He.ba k2
        exact ⟨_, ⟨oc, od, n8, n9, n10, n11, n12, n13, n14, osl, rfl, q, k1, He.dflB_ok k3, He.kwdB_ok k4⟩, kp⟩
      | _ => cases c2
  · unfold gAd
    cases q : PySem.W.recIn K (pAd K d) "property" with
    | none => rw [q] at c6; cases c6
    | some l =>
      rw [q] at c6
      match l, c6 with
      | .ref g :: rest, _ => exact ⟨rest, rfl⟩
/-! ### looks -/
def insCB (K : PySem.W.Frag) (x : Str) : Bool := (He.Fa.cls x).ok K && (He.eqO (PySem.W.findIn K (.ref (He.ga K x)) "__class__") (some (some (.builtin "object.__class__"))) && (He.eqO (PySem.W.specialIn K (.builtin "object.__class__") "__get__") (some (some (.builtin "getset_descriptor.__get__"))) &&
  (decide (PySem.W.takesIn K (.builtin "object.__class__") = some true) && (decide (PySem.W.mroIn K (He.ga K x) (.type "object") = some true) && decide (PySem.W.kitOne K (.ref (He.ga K x)) (.ref (He.ga K x)) = some true)))))
theorem insCB_ok {K : PySem.W.Frag} {x : Str} (h : insCB K x = true) : C8.InsC K (He.ga K x) := by
  obtain ⟨h1, h⟩ := He.ba h
  obtain ⟨h2, h⟩ := He.ba h
  obtain ⟨h3, h⟩ := He.ba h
  obtain ⟨h4, h⟩ := He.ba h
  obtain ⟨h5, h6⟩ := He.ba h
  exact ⟨He.cls_ok h1, He.eqO_ok h2, He.eqO_ok h3, of_decide_eq_true h4, of_decide_eq_true h5, of_decide_eq_true h6⟩
def cvalB (K : PySem.W.Frag) (x f : Str) (v : V) : Bool := PySem.W.readsIn K (He.ga K x) (.type "type") && (He.eqO (PySem.W.specialIn K (.ref (He.ga K x)) "__getattribute__") (some (some (.builtin "type.__getattribute__"))) && (match PySem.W.findCls K (.ref (He.ga K x)) (.type "type") f with
  | some (.val u) => He.relB v u
  | _ => false))
theorem cvalB_ok {K : PySem.W.Frag} {x f : Str} {v : V} (h : cvalB K x f v = true) : ∃ mc u, ClX.CRead K (He.ga K x) mc ∧ ClX.CVal K (He.ga K x) mc f v u := by
  obtain ⟨h1, h⟩ := He.ba h
  obtain ⟨h2, h⟩ := He.ba h
  cases e : PySem.W.findCls K (.ref (He.ga K x)) (.type "type") f with
  | none => rw [e] at h; cases h
  | some r =>
    rw [e] at h
    cases r with
    | val u => exact ⟨_, u, ⟨h1, He.eqO_ok h2⟩, e, He.relB_ok h⟩
    | _ => cases h
def rtB (K : PySem.W.Frag) (C : Addr) : Bool := (match K.lookup C with
  | some ⟨.type t, _, .cls cd, sl⟩ => decide (t = "type") && (match cd.mro, sl.toList with
    | .ref C' :: bm, [_, _, _, _, some (.builtin n), _] => decide (C' = C) && (decide (n = "RuntimeError.__new__") && (!cd.hasDel && (PySem.W.excTail rtTail bm && cd.hasDict)))
    | _, _ => false)
  | _ => false) && (He.eqO (PySem.W.findIn K (.ref C) "__setattr__") (some (some (.builtin "object.__setattr__"))) && (decide (PySem.W.subIn K (.ref C) (.type "BaseException") = some true) && (decide (PySem.W.typeIn K (.ref C) = some (.type "type")) && PySem.W.keepIn K (.ref C))))
theorem rtB_ok {K : PySem.W.Frag} {C : Addr} (h : rtB K C = true) : RtC K C := by
  obtain ⟨h1, h⟩ := He.ba h
  obtain ⟨h2, h⟩ := He.ba h
  obtain ⟨h3, h⟩ := He.ba h
  obtain ⟨h4, h5⟩ := He.ba h
  refine ⟨?_, He.eqO_ok h2, of_decide_eq_true h3, of_decide_eq_true h4, h5⟩
  cases q : K.lookup C with
  | none => rw [q] at h1; cases h1
  | some o =>
    obtain ⟨oc, od, dt, sl⟩ := o
    rw [q] at h1
    cases oc with
    | type t =>
      cases dt with
      | cls cd =>
        obtain ⟨k1, k⟩ := He.ba (show (decide (t = "type") && (match cd.mro, sl.toList with
          | .ref C' :: bm, [_, _, _, _, some (.builtin n), _] => decide (C' = C) && (decide (n = "RuntimeError.__new__") && (!cd.hasDel && (PySem.W.excTail rtTail bm && cd.hasDict)))
          | _, _ => false)) = true from h1)
        split at k
        · rename_i C' bm s0 s1 s2 s3 n s5 hm hs
          obtain ⟨a1, k⟩ := He.ba k
          obtain ⟨a2, k⟩ := He.ba k
          obtain ⟨a3, k⟩ := He.ba k
          obtain ⟨a4, a5⟩ := He.ba k
          have e1 : t = "type" := of_decide_eq_true k1
          have e2 : C' = C := of_decide_eq_true a1
          have e3 : n = "RuntimeError.__new__" := of_decide_eq_true a2
          have e4 : cd.hasDel = false := by simpa using a3
          obtain ⟨nm, bs, mro, ns, qn, hd, sn, sub, ab, col, del⟩ := cd
          dsimp only at hm e4 a5
          subst e1 e2 e3 hm e4 a5
          have hsl : sl = #[s0, s1, s2, s3, some (.builtin "RuntimeError.__new__"), s5] := by
            obtain ⟨l⟩ := sl
            simp only at hs
            rw [hs]
          subst hsl
          exact ⟨nm, qn, ns, bs, bm, sn, sub, ab, col, od, s0, s1, s2, s3, s5, rfl, a4⟩
        · cases k
      | _ => cases h1
    | _ => cases od <;> cases dt <;> cases h1
/-! ### the Hook -/
/-- what of an object's own the facts look at -/
def refL (g : Addr → Option Obj) (a : Addr) : List Addr := match g a with
  | some o => (match o.data with
    | .func fd => He.refV fd.code ++ (He.refV fd.defaults ++ He.refV fd.kwdefaults)
    | .cls cd => [cd.ns]
    | .dict es _ => es.toList.flatMap fun e => He.refV e.val
    | .fields vs => (match o.cls with
      | .type "property" => He.refV (vs.getD 0 .none)
      | _ => [])
    | _ => [])
  | none => []
/-- the globals, and what they reach in n steps -/
def asL (g : Addr → Option Obj) : Nat → List Addr → List Addr
  | 0, l => l
  | n + 1, l => l ++ asL g n (l.flatMap (refL g))
abbrev kOf (g : Addr → Option Obj) (n : Nat) : PySem.W.Frag := He.frT g (cStatics :: asL g n [mainGlobals])
structure SaysL (fa : List He.Fa) (fn : List He.DefD) (tf : He.Defn) (ps : List DP) (ex : PySem.W.Frag → Bool) (h : Heap) (K : PySem.W.Frag) : Prop where
  d : He.SaysD fa fn K
  more : ex K = true
  hd : PySem.W.codeHdIn K (He.cT K tf).1 (He.cT K tf).2 = true
  out : K.lookup (He.cT K tf).2 = none
  empty : h.get? (He.cT K tf).2 = some { cls := .none, data := .fields #[] }
  pok : ∀ p ∈ ps, p.ok K = true
  pv : ps.map (fun p => fnP K (gAd K p)) = ps.map DP.val
def tabB (g : Addr → Option Obj) (tf : He.Defn) (K : PySem.W.Frag) : Bool := PySem.W.codeHdIn K (He.cT K tf).1 (He.cT K tf).2 && (match g (He.cT K tf).2 with
  | some o => He.emptyTab o
  | none => false)
abbrev AlL : Type := He.AlD × (Bool × List He.FnW)
def obsL (n : Nat) (fa : List He.Fa) (fn : List He.DefD) (tf : He.Defn) (ps : List DP) (ex : PySem.W.Frag → Bool) (g : Addr → Option Obj) : AlL :=
  (He.obsD fa fn (kOf g n), (ex (kOf g n) && (tabB g tf (kOf g n) && ps.all fun p => p.ok (kOf g n)), ps.map fun p => fnP (kOf g n) (gAd (kOf g n) p)))
def valL (fn : List He.DefD) (ps : List DP) : AlL := (He.valD fn, (true, ps.map DP.val))
theorem saysL_of {n : Nat} {fa : List He.Fa} {fn : List He.DefD} {tf : He.Defn} {ps : List DP} {ex : PySem.W.Frag → Bool} {h : Heap} (e : obsL n fa fn tf ps ex h.get? = valL fn ps) : SaysL fa fn tf ps ex h (kOf h.get? n) := by
  have e1 : He.obsD fa fn (kOf h.get? n) = He.valD fn := congrArg (fun z : AlL => z.1) e
  have e2 : (ex (kOf h.get? n) && (tabB h.get? tf (kOf h.get? n) && ps.all fun p => p.ok (kOf h.get? n))) = true := congrArg (fun z : AlL => z.2.1) e
  have e3 : ps.map (fun p => fnP (kOf h.get? n) (gAd (kOf h.get? n) p)) = ps.map DP.val := congrArg (fun z : AlL => z.2.2) e
  obtain ⟨a1, a⟩ := He.ba e2
  obtain ⟨a2, a3⟩ := He.ba a
  obtain ⟨b1, b2⟩ := He.ba a2
  cases q : h.get? (He.cT (kOf h.get? n) tf).2 with
  | none => rw [q] at b2; cases b2
  | some o =>
    rw [q] at b2
    exact ⟨e1, a1, b1, He.frT_none q b2, by rw [q, He.emptyTab_eq b2], fun p hp => List.all_eq_true.mp a3 p hp, e3⟩
def hookL (n : Nat) (fa : List He.Fa) (fn : List He.DefD) (tf : He.Defn) (ps : List DP) (ex : PySem.W.Frag → Bool) : PySem.W.Hook where
  α := AlL
  obs := fun s => obsL n fa fn tf ps ex s.heap.get?
  val := fun _ => valL fn ps
  says := fun _ h => ∃ K : PySem.W.Frag, K.In h ∧ SaysL fa fn tf ps ex h K
  of := fun _ _ e => ⟨_, He.frT_in, saysL_of e⟩
  keeps := fun _ _ _ ⟨K, hK, c⟩ k => ⟨K, PySem.W.Frag.In.keeps hK k, ⟨c.d, c.more, c.hd, c.out, k _ _ c.empty, c.pok, c.pv⟩⟩
theorem obsL_eq {n : Nat} {fa : List He.Fa} {fn : List He.DefD} {tf : He.Defn} {ps : List DP} {ex : PySem.W.Frag → Bool} {g : Addr → Option Obj} {s : Shared} (h : ∀ a, g a = s.heap.get? a) : obsL n fa fn tf ps ex g = (hookL n fa fn tf ps ex).obs s := by
  have e : g = s.heap.get? := funext h
  rw [e] <;> rfl
theorem SaysL.prop {fa : List He.Fa} {fn : List He.DefD} {tf : He.Defn} {ps : List DP} {ex : PySem.W.Frag → Bool} {h : Heap} {K : PySem.W.Frag} (c : SaysL fa fn tf ps ex h K) (i : Nat) {d : DP} (e : ps[i]? = some d := by rfl) : (∃ fd, DefAt K d.name d.qual d.st (gAd K d) fd) ∧ PropOf K (He.ga K d.cls) d.name (pAd K d) (gAd K d) := by
  have e2 : (ps.map fun p => fnP K (gAd K p))[i]? = (ps.map DP.val)[i]? := by rw [c.pv]
  rw [List.getElem?_map, List.getElem?_map, e] at e2
  exact DP.funD (Option.some.inj e2) (c.pok d (List.mem_of_getElem? e))
end Ld
namespace Ld
open PySem PySem.Spec PyProof.Rows L2
/-! ### the head's facts, its run -/
def d_law_draw : He.DefD := ⟨("_law_draw", none), "_law_draw", "_law_draw", defArgs (top 82), defBody (top 82), defScope (top 82), [], []⟩
def d_law_some : He.DefD := ⟨("_law_some", none), "_law_some", "_law_some", defArgs (top 84), defBody (top 84), defScope (top 84), [], []⟩
def d_law_pick : He.DefD := ⟨("_law_pick", none), "_law_pick", "_law_pick", defArgs (top 83), defBody (top 83), defScope (top 83), [], []⟩
def d_law_chart : He.DefD := ⟨("_law_chart", none), "_law_chart", "_law_chart", defArgs (top 85), defBody (top 85), defScope (top 85), [], []⟩
def d_law_pact : He.DefD := ⟨("_law_pact", none), "_law_pact", "_law_pact", defArgs (top 87), defBody (top 87), defScope (top 87), [], []⟩
def d_law_pacts : He.DefD := ⟨("_law_pacts", none), "_law_pacts", "_law_pacts", defArgs (top 88), defBody (top 88), defScope (top 88), [], []⟩
def d_law_window : He.DefD := ⟨("_law_window", none), "_law_window", "_law_window", defArgs (top 99), defBody (top 99), defScope (top 99), [], []⟩
def d_is_list : He.DefD := ⟨("is_list", none), "is_list", "is_list", defArgs (top 7), defBody (top 7), defScope (top 7), [], []⟩
def d_Calendar_moments : He.DefD := ⟨("Calendar", some "moments"), "moments", "Calendar.moments", defArgs (inClass (top 41) 8), defBody (inClass (top 41) 8), defScope (inClass (top 41) 8), [], []⟩
def d_Deal_moments : He.DefD := ⟨("Deal", some "moments"), "moments", "Deal.moments", defArgs (inClass (top 51) 11), defBody (inClass (top 51) 11), defScope (inClass (top 51) 11), [], []⟩
def d_has_moments : He.DefD := ⟨("has_moments", none), "has_moments", "has_moments", defArgs (top 55), defBody (top 55), defScope (top 55), [], []⟩
def d_want_deals : He.DefD := ⟨("want_deals", none), "want_deals", "want_deals", defArgs (top 56), defBody (top 56), defScope (top 56), [], []⟩
def d_Calendar_clauses : He.DefD := ⟨("Calendar", some "clauses"), "clauses", "Calendar.clauses", defArgs (inClass (top 41) 9), defBody (inClass (top 41) 9), defScope (inClass (top 41) 9), [], []⟩
def d_Deal_own_clause : He.DefD := ⟨("Deal", some "own_clause"), "own_clause", "Deal.own_clause", defArgs (inClass (top 51) 12), defBody (inClass (top 51) 12), defScope (inClass (top 51) 12), [], []⟩
def d_clauses_of : He.DefD := ⟨("clauses_of", none), "clauses_of", "clauses_of", defArgs (top 57), defBody (top 57), defScope (top 57), [], []⟩
def d_Days_changed_by : He.DefD := ⟨("Days", some "changed_by"), "changed_by", "Days.changed_by", defArgs (inClass (top 37) 1), defBody (inClass (top 37) 1), defScope (inClass (top 37) 1), [], []⟩
def d_Days__init : He.DefD := ⟨("Days", some "__init__"), "__init__", "Days.__init__", defArgs (inClass (top 37) 0), defBody (inClass (top 37) 0), defScope (inClass (top 37) 0), [], []⟩
def d_Days_ring : He.DefD := ⟨("Days", some "ring"), "ring", "Days.ring", defArgs (inClass (top 37) 3), defBody (inClass (top 37) 3), defScope (inClass (top 37) 3), [], []⟩
def d_Days_dates : He.DefD := ⟨("Days", some "dates"), "dates", "Days.dates", defArgs (inClass (top 37) 4), defBody (inClass (top 37) 4), defScope (inClass (top 37) 4), [], []⟩
def d_some_dates : He.DefD := ⟨("some_dates", none), "some_dates", "some_dates", defArgs (top 39), defBody (top 39), defScope (top 39), [], []⟩
def d_Book__init : He.DefD := ⟨("Book", some "__init__"), "__init__", "Book.__init__", defArgs (inClass (top 58) 0), defBody (inClass (top 58) 0), defScope (inClass (top 58) 0), [], []⟩
def d_is_name : He.DefD := ⟨("is_name", none), "is_name", "is_name", defArgs (top 8), defBody (top 8), defScope (top 8), [], []⟩
def d_want_name : He.DefD := ⟨("want_name", none), "want_name", "want_name", defArgs (top 46), defBody (top 46), defScope (top 46), [], []⟩
def d_wrong_name : He.DefD := ⟨("wrong_name", none), "wrong_name", "wrong_name", defArgs (top 13), defBody (top 13), defScope (top 13), [], []⟩
def d_want_names : He.DefD := ⟨("want_names", none), "want_names", "want_names", defArgs (top 47), defBody (top 47), defScope (top 47), [], []⟩
def d_is_integer : He.DefD := ⟨("is_integer", none), "is_integer", "is_integer", defArgs (top 5), defBody (top 5), defScope (top 5), [], []⟩
def d_is_moment : He.DefD := ⟨("is_moment", none), "is_moment", "is_moment", defArgs (top 9), defBody (top 9), defScope (top 9), [], []⟩
def d_is_point : He.DefD := ⟨("is_point", none), "is_point", "is_point", defArgs (top 10), defBody (top 10), defScope (top 10), [], []⟩
def d_want_points : He.DefD := ⟨("want_points", none), "want_points", "want_points", defArgs (top 49), defBody (top 49), defScope (top 49), [], []⟩
def d_is_count : He.DefD := ⟨("is_count", none), "is_count", "is_count", defArgs (top 6), defBody (top 6), defScope (top 6), [], []⟩
def d_want_few : He.DefD := ⟨("want_few", none), "want_few", "want_few", defArgs (top 48), defBody (top 48), defScope (top 48), [], []⟩
def d_Deal__init : He.DefD := ⟨("Deal", some "__init__"), "__init__", "Deal.__init__", defArgs (inClass (top 51) 0), defBody (inClass (top 51) 0), defScope (inClass (top 51) 0), [], [("alone", .bl true), ("price", .int 1)]⟩
def d_law_deal : He.DefD := ⟨("_law_deal", none), "_law_deal", "_law_deal", defArgs (top 89), defBody (top 89), defScope (top 89), [], []⟩
def d_Calendar_has_moment : He.DefD := ⟨("Calendar", some "has_moment"), "has_moment", "Calendar.has_moment", defArgs (inClass (top 41) 7), defBody (inClass (top 41) 7), defScope (inClass (top 41) 7), [], []⟩
def d_is_clause : He.DefD := ⟨("is_clause", none), "is_clause", "is_clause", defArgs (top 11), defBody (top 11), defScope (top 11), [], []⟩
def d_Calendar_is_own_form : He.DefD := ⟨("Calendar", some "is_own_form"), "is_own_form", "Calendar.is_own_form", defArgs (inClass (top 41) 5), defBody (inClass (top 41) 5), defScope (inClass (top 41) 5), [], []⟩
def d_Calendar__init : He.DefD := ⟨("Calendar", some "__init__"), "__init__", "Calendar.__init__", defArgs (inClass (top 41) 3), defBody (inClass (top 41) 3), defScope (inClass (top 41) 3), [.adr (He.dflAt ("Calendar", some "__init__") 0)], []⟩
def d_law_calendar : He.DefD := ⟨("_law_calendar", none), "_law_calendar", "_law_calendar", defArgs (top 86), defBody (top 86), defScope (top 86), [], []⟩
def d_law_book : He.DefD := ⟨("_law_book", none), "_law_book", "_law_book", defArgs (top 90), defBody (top 90), defScope (top 90), [], []⟩
def d_law_all_spots : He.DefD := ⟨("_law_all_spots", none), "_law_all_spots", "_law_all_spots", defArgs (top 95), defBody (top 95), defScope (top 95), [], []⟩
def d_law_keep : He.DefD := ⟨("_law_keep", none), "_law_keep", "_law_keep", defArgs (top 96), defBody (top 96), defScope (top 96), [], []⟩
def d_law_good : He.DefD := ⟨("_law_good", none), "_law_good", "_law_good", defArgs (top 100), defBody (top 100), defScope (top 100), [], []⟩
def d_law_by_tag : He.DefD := ⟨("_law_by_tag", none), "_law_by_tag", "_law_by_tag", defArgs (top 91), defBody (top 91), defScope (top 91), [], []⟩
def d_law_rules : He.DefD := ⟨("_law_rules", none), "_law_rules", "_law_rules", defArgs (top 92), defBody (top 92), defScope (top 92), [], []⟩
def d_law_stretch : He.DefD := ⟨("_law_stretch", none), "_law_stretch", "_law_stretch", defArgs (top 98), defBody (top 98), defScope (top 98), [], []⟩
def d_law_least : He.DefD := ⟨("_law_least", none), "_law_least", "_law_least", defArgs (top 101), defBody (top 101), defScope (top 101), [], []⟩
def d_Book__contains : He.DefD := ⟨("Book", some "__contains__"), "__contains__", "Book.__contains__", defArgs (inClass (top 58) 15), defBody (inClass (top 58) 15), defScope (inClass (top 58) 15), [], []⟩
def d_Book_want_name : He.DefD := ⟨("Book", some "want_name"), "want_name", "Book.want_name", defArgs (inClass (top 58) 13), defBody (inClass (top 58) 13), defScope (inClass (top 58) 13), [], []⟩
def d_Book__getitem : He.DefD := ⟨("Book", some "__getitem__"), "__getitem__", "Book.__getitem__", defArgs (inClass (top 58) 17), defBody (inClass (top 58) 17), defScope (inClass (top 58) 17), [], []⟩
def d_want_moment : He.DefD := ⟨("want_moment", none), "want_moment", "want_moment", defArgs (top 60), defBody (top 60), defScope (top 60), [], []⟩
def d_Sums_sum_to : He.DefD := ⟨("Sums", some "sum_to"), "sum_to", "Sums.sum_to", defArgs (inClass (top 36) 2), defBody (inClass (top 36) 2), defScope (inClass (top 36) 2), [], []⟩
def d_Sums_take : He.DefD := ⟨("Sums", some "take"), "take", "Sums.take", defArgs (inClass (top 36) 1), defBody (inClass (top 36) 1), defScope (inClass (top 36) 1), [], []⟩
def d_Sums__init : He.DefD := ⟨("Sums", some "__init__"), "__init__", "Sums.__init__", defArgs (inClass (top 36) 0), defBody (inClass (top 36) 0), defScope (inClass (top 36) 0), [], []⟩
def d_Closed_sums_from : He.DefD := ⟨("Closed", some "sums_from"), "sums_from", "Closed.sums_from", defArgs (inClass (top 38) 3), defBody (inClass (top 38) 3), defScope (inClass (top 38) 3), [], []⟩
def d_Closed_bound : He.DefD := ⟨("Closed", some "bound"), "bound", "Closed.bound", defArgs (inClass (top 38) 4), defBody (inClass (top 38) 4), defScope (inClass (top 38) 4), [], []⟩
def d_Closed__init : He.DefD := ⟨("Closed", some "__init__"), "__init__", "Closed.__init__", defArgs (inClass (top 38) 0), defBody (inClass (top 38) 0), defScope (inClass (top 38) 0), [], []⟩
def d_Calendar_closed : He.DefD := ⟨("Calendar", some "closed"), "closed", "Calendar.closed", defArgs (inClass (top 41) 15), defBody (inClass (top 41) 15), defScope (inClass (top 41) 15), [], []⟩
def d_Closed_ring : He.DefD := ⟨("Closed", some "ring"), "ring", "Closed.ring", defArgs (inClass (top 38) 1), defBody (inClass (top 38) 1), defScope (inClass (top 38) 1), [], []⟩
def d_closed_of : He.DefD := ⟨("closed_of", none), "closed_of", "closed_of", defArgs (top 61), defBody (top 61), defScope (top 61), [], []⟩
def d_bound : He.DefD := ⟨("bound", none), "bound", "bound", defArgs (top 62), defBody (top 62), defScope (top 62), [], []⟩
def d_most_behind : He.DefD := ⟨("most_behind", none), "most_behind", "most_behind", defArgs (top 67), defBody (top 67), defScope (top 67), [], []⟩
def d_slack_in : He.DefD := ⟨("slack_in", none), "slack_in", "slack_in", defArgs (top 74), defBody (top 74), defScope (top 74), [], []⟩
def d_Book_full : He.DefD := ⟨("Book", some "full"), "full", "Book.full", defArgs (inClass (top 58) 4), defBody (inClass (top 58) 4), defScope (inClass (top 58) 4), [], []⟩
def d_slack : He.DefD := ⟨("slack", none), "slack", "slack", defArgs (top 75), defBody (top 75), defScope (top 75), [], []⟩
def d_law_cells : He.DefD := ⟨("_law_cells", none), "_law_cells", "_law_cells", defArgs (top 93), defBody (top 93), defScope (top 93), [], []⟩
def d_law_do_touch : He.DefD := ⟨("_law_do_touch", none), "_law_do_touch", "_law_do_touch", defArgs (top 94), defBody (top 94), defScope (top 94), [], []⟩
def d_Book_names : He.DefD := ⟨("Book", some "names"), "names", "Book.names", defArgs (inClass (top 58) 2), defBody (inClass (top 58) 2), defScope (inClass (top 58) 2), [], []⟩
def d_Deal_cells : He.DefD := ⟨("Deal", some "cells"), "cells", "Deal.cells", defArgs (inClass (top 51) 10), defBody (inClass (top 51) 10), defScope (inClass (top 51) 10), [], []⟩
def d_Deal__and : He.DefD := ⟨("Deal", some "__and__"), "__and__", "Deal.__and__", defArgs (inClass (top 51) 24), defBody (inClass (top 51) 24), defScope (inClass (top 51) 24), [], []⟩
def d_Deal_touches : He.DefD := ⟨("Deal", some "touches"), "touches", "Deal.touches", defArgs (inClass (top 51) 23), defBody (inClass (top 51) 23), defScope (inClass (top 51) 23), [], []⟩
def d_Book_touching : He.DefD := ⟨("Book", some "touching"), "touching", "Book.touching", defArgs (inClass (top 58) 8), defBody (inClass (top 58) 8), defScope (inClass (top 58) 8), [], []⟩
def d_slacks : He.DefD := ⟨("slacks", none), "slacks", "slacks", defArgs (top 76), defBody (top 76), defScope (top 76), [], []⟩
def d_law_may_meet : He.DefD := ⟨("_law_may_meet", none), "_law_may_meet", "_law_may_meet", defArgs (top 102), defBody (top 102), defScope (top 102), [], []⟩
def d_law_first_open : He.DefD := ⟨("_law_first_open", none), "_law_first_open", "_law_first_open", defArgs (top 103), defBody (top 103), defScope (top 103), [], []⟩
def d_law_heard : He.DefD := ⟨("_law_heard", none), "_law_heard", "_law_heard", defArgs (top 104), defBody (top 104), defScope (top 104), [], []⟩
def d_is_at_most : He.DefD := ⟨("is_at_most", none), "is_at_most", "is_at_most", defArgs (top 68), defBody (top 68), defScope (top 68), [], []⟩
def d_is_surely_ahead : He.DefD := ⟨("is_surely_ahead", none), "is_surely_ahead", "is_surely_ahead", defArgs (top 69), defBody (top 69), defScope (top 69), [], []⟩
def d_word_in : He.DefD := ⟨("word_in", none), "word_in", "word_in", defArgs (top 70), defBody (top 70), defScope (top 70), [], []⟩
def d_open_pairs : He.DefD := ⟨("open_pairs", none), "open_pairs", "open_pairs", defArgs (top 72), defBody (top 72), defScope (top 72), [], []⟩
def d_want_safe : He.DefD := ⟨("want_safe", none), "want_safe", "want_safe", defArgs (top 77), defBody (top 77), defScope (top 77), [], []⟩
def d_room_by : He.DefD := ⟨("room_by", none), "room_by", "room_by", defArgs (top 78), defBody (top 78), defScope (top 78), [], []⟩
def d_room : He.DefD := ⟨("room", none), "room", "room", defArgs (top 79), defBody (top 79), defScope (top 79), [], []⟩
def d_law_room_right : He.DefD := ⟨("_law_room_right", none), "_law_room_right", "_law_room_right", defArgs (top 105), defBody (top 105), defScope (top 105), [], []⟩
def d_law_right : He.DefD := ⟨("_law_right", none), "_law_right", "_law_right", defArgs (top 106), defBody (top 106), defScope (top 106), [], []⟩
def d_law_pot : He.DefD := ⟨("_law_pot", none), "_law_pot", "_law_pot", defArgs (top 81), defBody (top 81), defScope (top 81), [], []⟩
def d_law : He.DefD := ⟨("law", none), "law", "law", defArgs (top 107), defBody (top 107), defScope (top 107), [], []⟩
def d_NotSafe__init : He.DefD := ⟨("NotSafe", some "__init__"), "__init__", "NotSafe.__init__", defArgs (inClass (top 32) 0), defBody (inClass (top 32) 0), defScope (inClass (top 32) 0), [], []⟩
def p_Deal_name : DP := ⟨"Deal", "name", "Deal.name", (inClass (top 51) 1)⟩
def p_Deal_begin : DP := ⟨"Deal", "begin", "Deal.begin", (inClass (top 51) 6)⟩
def p_Deal_end : DP := ⟨"Deal", "end", "Deal.end", (inClass (top 51) 7)⟩
def fnL0 : List He.DefD := [d_law_draw, d_law_some, d_law_pick, d_law_chart, d_law_pact, d_law_pacts, d_law_window, d_is_list, d_Calendar_moments, d_Deal_moments, d_has_moments, d_want_deals, d_Calendar_clauses, d_Deal_own_clause, d_clauses_of, d_Days_changed_by, d_Days__init, d_Days_ring, d_Days_dates, d_some_dates]
def fnL1 : List He.DefD := [d_Book__init, d_is_name, d_want_name, d_wrong_name, d_want_names, d_is_integer, d_is_moment, d_is_point, d_want_points, d_is_count, d_want_few, d_Deal__init, d_law_deal, d_Calendar_has_moment, d_is_clause, d_Calendar_is_own_form, d_Calendar__init, d_law_calendar, d_law_book, d_law_all_spots]
def fnL2 : List He.DefD := [d_law_keep, d_law_good, d_law_by_tag, d_law_rules, d_law_stretch, d_law_least, d_Book__contains, d_Book_want_name, d_Book__getitem, d_want_moment, d_Sums_sum_to, d_Sums_take, d_Sums__init, d_Closed_sums_from, d_Closed_bound, d_Closed__init, d_Calendar_closed, d_Closed_ring, d_closed_of, d_bound]
def fnL3 : List He.DefD := [d_most_behind, d_slack_in, d_Book_full, d_slack, d_law_cells, d_law_do_touch, d_Book_names, d_Deal_cells, d_Deal__and, d_Deal_touches, d_Book_touching, d_slacks, d_law_may_meet, d_law_first_open, d_law_heard, d_is_at_most, d_is_surely_ahead, d_word_in, d_open_pairs, d_want_safe]
def fnL4 : List He.DefD := [d_room_by, d_room, d_law_room_right, d_law_right, d_law_pot, d_law, d_NotSafe__init]
def fnL : List He.DefD := fnL0 ++ fnL1 ++ fnL2 ++ fnL3 ++ fnL4
def psL : List DP := [p_Deal_name, p_Deal_begin, p_Deal_end]
def exL (K : PySem.W.Frag) : Bool := insCB K "Calendar" && (insCB K "Deal" && (He.conB K "Calendar" "ZERO" (.str dayS) && (He.conB K "Calendar" "MOST_MOMENTS" (.int 8) && (He.conB K "Calendar" "MOST_CLAUSES" (.int 40) && (cvalB K "Calendar" "MOST_CLAUSES" (.int 40) && (PySem.W.selfFirst K (cDeal K) && (PySem.W.fnIn K (He.ma K (cBook K) "__getitem__") && (rtB K (cNotSafe K) && (xfB K (cNotSafe K) && (He.eqO (PySem.W.findIn K (.ref (cNotSafe K)) "__init__") (some (some (.ref (He.ma K (cNotSafe K) "__init__")))) && (decide (PySem.W.typeIn K (.ref (He.ma K (cNotSafe K) "__init__")) = some (.type "function")) && (decide (He.ga K "is_clause_basics" = He.ga K "is_clause")))))))))))))
def faL0 : List He.Fa := [.free "isinstance", .free "int", .free "bool", .free "str", .free "list", .free "tuple", .free "dict", .free "len", .free "all", .free "any", .free "enumerate", .free "range", .free "sorted", .free "min", .free "max", .free "abs", .free "divmod", .free "repr", .str "LETTERS" LETS, .str "ZERO" dayS]
def faL1 : List He.Fa := [.str "NEVER" "never", .str "PERHAPS" "perhaps", .str "SURELY" "surely", .int "MOST_LETTERS" 6, .int "MOST_FILMS" 4, .int "MOST_LANDS" 4, .int "MOST_WAYS" 3, .int "MOST_DEALS" 10, .cls "Sums", .cls "Days", .cls "Closed", .cls "Calendar", .cls "Deal", .cls "Book", .glo "Sums", .glo "Days", .glo "Closed", .glo "Calendar", .glo "Deal", .glo "Book"]
def faL2 : List He.Fa := [.glo "NotSafe", .noat "Sums" "own_sums", .noat "Sums" "own_lasts", .noat "Days" "own_days", .noat "Days" "own_last", .noat "Days" "own_ring", .noat "Closed" "own_moments", .noat "Closed" "own_clauses", .noat "Closed" "own_days", .noat "Closed" "own_rows", .noat "Calendar" "own_moments", .noat "Calendar" "own_clauses", .noat "Deal" "own_name", .noat "Deal" "own_house", .noat "Deal" "own_films", .noat "Deal" "own_lands", .noat "Deal" "own_ways", .noat "Deal" "own_begin", .noat "Deal" "own_end", .noat "Deal" "is_alone"]
def faL3 : List He.Fa := [.noat "Deal" "own_price", .noat "Book" "own_calendar", .noat "Book" "own_deals", .noat "Book" "own_clauses", .meth "Book" "__getitem__", .glo "is_name", .noat "NotSafe" "one", .noat "NotSafe" "other", .exm "NotSafe" "NotSafe" true, .glo "_law_draw", .glo "_law_some", .glo "_law_pick", .glo "_law_chart", .glo "_law_pact", .glo "_law_pacts", .glo "_law_window", .glo "is_list", .glo "has_moments", .glo "want_deals", .glo "clauses_of"]
def faL4 : List He.Fa := [.glo "some_dates", .glo "want_name", .glo "wrong_name", .glo "want_names", .glo "is_integer", .glo "is_moment", .glo "is_point", .glo "want_points", .glo "is_count", .glo "want_few", .glo "_law_deal", .glo "is_clause", .glo "_law_calendar", .glo "_law_book", .glo "_law_all_spots", .glo "_law_keep", .glo "_law_good", .glo "_law_by_tag", .glo "_law_rules", .glo "_law_stretch"]
def faL5 : List He.Fa := [.glo "_law_least", .glo "want_moment", .glo "closed_of", .glo "bound", .glo "most_behind", .glo "slack_in", .glo "slack", .glo "_law_cells", .glo "_law_do_touch", .glo "slacks", .glo "_law_may_meet", .glo "_law_first_open", .glo "_law_heard", .glo "is_at_most", .glo "is_surely_ahead", .glo "word_in", .glo "open_pairs", .glo "want_safe", .glo "room_by", .glo "room"]
def faL6 : List He.Fa := [.glo "_law_room_right", .glo "_law_right", .glo "_law_pot", .glo "law", .glo "is_clause_basics", .meth "Calendar" "moments", .meth "Deal" "moments", .meth "Calendar" "clauses", .meth "Deal" "own_clause", .meth "Days" "changed_by", .mkr "Days", .meth "Days" "ring", .meth "Days" "dates", .mkr "Book", .mkr "Deal", .meth "Calendar" "has_moment", .meth "Calendar" "is_own_form", .mkr "Calendar", .meth "Book" "__contains__", .meth "Book" "want_name"]
def faL7 : List He.Fa := [.meth "Sums" "sum_to", .meth "Sums" "take", .mkr "Sums", .meth "Closed" "sums_from", .meth "Closed" "bound", .mkr "Closed", .meth "Calendar" "closed", .meth "Closed" "ring", .meth "Book" "full", .meth "Book" "names", .meth "Deal" "cells", .meth "Deal" "__and__", .meth "Deal" "touches", .meth "Book" "touching"]
def faL : List He.Fa := faL0 ++ faL1 ++ faL2 ++ faL3 ++ faL4 ++ faL5 ++ faL6 ++ faL7
def looseL0 : List Str := ["_wall", "LETTERS", "MOST_LETTERS", "ZERO", "is_integer", "is_count", "is_list", "is_name", "is_moment", "is_point", "is_clause", "is_clause_basics", "wrong_name", "DaysError", "ValueError", "InvalidName", "InvalidPoint", "InvalidNumber", "InvalidMoment", "InvalidDates", "InvalidDeal", "InvalidCell", "InvalidCalendar", "InvalidMoments", "InvalidClauses", "InvalidNames", "InvalidDeals", "MissingError", "LookupError", "UnknownDeal"]
def looseL1 : List Str := ["StateError", "RuntimeError", "NoDates", "NotSafe", "LimitError", "ArithmeticError", "TooMany", "Sums", "Days", "Closed", "some_dates", "Calendar", "MOST_FILMS", "MOST_LANDS", "MOST_WAYS", "want_name", "want_names", "want_few", "want_points", "day_of", "Deal", "MOST_DEALS", "want_cell", "has_moments", "want_deals", "clauses_of", "Book", "want_moment", "closed_of", "bound"]
def looseL2 : List Str := ["NEVER", "PERHAPS", "SURELY", "most_behind", "is_at_most", "is_surely_ahead", "word_in", "open_pairs", "slack_in", "slack", "slacks", "want_safe", "room_by", "room", "_law_pot", "_law_draw", "_law_pick", "_law_some", "_law_chart", "_law_calendar", "_law_pact", "_law_pacts", "_law_deal", "_law_book", "_law_by_tag", "_law_rules", "_law_cells", "_law_do_touch", "_law_all_spots", "_law_keep"]
def looseL3 : List Str := ["_law_told", "_law_stretch", "_law_window", "_law_good", "_law_least", "_law_may_meet", "_law_first_open", "_law_heard", "_law_room_right", "_law_right"]
def looseL : List Str := looseL0 ++ looseL1 ++ looseL2 ++ looseL3
abbrev RL : PySem.W.OpenRow := PySem.W.OpenLaw.row PySem.Challenge.rw_letdays_k72_whole_slacks_beside_all_date
abbrev hkL : PySem.W.Hook := hookL 5 faL fnL ("_law_right", none) psL exL
def obL (s : PySem.W.SharedT) : AlL := obsL 5 faL fnL ("_law_right", none) psL exL (HandSHeadRun.getT s)
theorem obL_eq (s : PySem.W.SharedT) : obL s = hkL.obs s.abs := obsL_eq (HandSHeadRun.getT_eq s)
/-- a Hook that looks at nothing -/
def hk0 : PySem.W.Hook where
  α := Unit
  obs := fun _ => ()
  val := fun _ => ()
  says := fun _ _ => True
  of := fun _ _ _ => trivial
  keeps := fun _ _ _ _ _ => trivial
/-- the run by itself, and what the facts look at behind it: both at once would ask for too much memory -/
theorem run_join {r : PySem.W.OpenRow} {q : Program} {H : PySem.W.Hook} {ob : PySem.W.SharedT → H.α} {M : Nat} {loose : List Str} {w : World} (a : HandSHeadRun.RunEq r q hk0 (fun _ => ()) M loose w)
    (b : ∀ os : OsState, (HandSHeadRun.endF (HandSHeadRun.stepQ (HandSHeadRun.denQ HandSHeadRun.tabQ) r.prog w) M r.prog w os).map ob = some (H.val w)) : HandSHeadRun.RunEq r q H ob M loose w := by
  intro os
  have h1 := a os
  have h2 := b os
  revert h1 h2
  generalize HandSHeadRun.endF (HandSHeadRun.stepQ (HandSHeadRun.denQ HandSHeadRun.tabQ) r.prog w) M r.prog w os = X
  intro h1 h2
  cases X with
  | none => cases h2
  | some s =>
    have h1 := Option.some.inj h1
    have h2 : ob s = H.val w := Option.some.inj h2
    have e1 := congrArg Prod.fst h1
    have e2 := congrArg (fun z => z.2.1) h1
    dsimp only at e1 e2
    show some (_, _, ob s) = _
    rw [h2, e1, e2]
theorem runA (w : World) : HandSHeadRun.RunEq RL (PySem.W.view RL.prog [107]) hk0 (fun _ => ()) 30000 looseL w := by
  intro os
  kernel_rfl
theorem runB1 (w : World) (os : OsState) : (HandSHeadRun.endF (HandSHeadRun.stepQ (HandSHeadRun.denQ HandSHeadRun.tabQ) RL.prog w) 30000 RL.prog w os).map (fun s => (faL.all fun f => f.ok (kOf (HandSHeadRun.getT s) 5)) && fnL.all fun d => d.ok (kOf (HandSHeadRun.getT s) 5)) = some true := by
  kernel_rfl
theorem runB2 (w : World) (os : OsState) : (HandSHeadRun.endF (HandSHeadRun.stepQ (HandSHeadRun.denQ HandSHeadRun.tabQ) RL.prog w) 30000 RL.prog w os).map (fun s => (fnL.map fun d => He.fnW (kOf (HandSHeadRun.getT s) 5) d.at_, psL.map fun p => fnP (kOf (HandSHeadRun.getT s) 5) (gAd (kOf (HandSHeadRun.getT s) 5) p))) = some (fnL.map He.DefD.val, psL.map DP.val) := by
  kernel_rfl
theorem runB3 (w : World) (os : OsState) : (HandSHeadRun.endF (HandSHeadRun.stepQ (HandSHeadRun.denQ HandSHeadRun.tabQ) RL.prog w) 30000 RL.prog w os).map (fun s => exL (kOf (HandSHeadRun.getT s) 5) && (tabB (HandSHeadRun.getT s) ("_law_right", none) (kOf (HandSHeadRun.getT s) 5) && psL.all fun p => p.ok (kOf (HandSHeadRun.getT s) 5))) = some true := by
  kernel_rfl
theorem obL_join {X : Option PySem.W.SharedT} (b1 : X.map (fun s => (faL.all fun f => f.ok (kOf (HandSHeadRun.getT s) 5)) && fnL.all fun d => d.ok (kOf (HandSHeadRun.getT s) 5)) = some true)
    (b2 : X.map (fun s => (fnL.map fun d => He.fnW (kOf (HandSHeadRun.getT s) 5) d.at_, psL.map fun p => fnP (kOf (HandSHeadRun.getT s) 5) (gAd (kOf (HandSHeadRun.getT s) 5) p))) = some (fnL.map He.DefD.val, psL.map DP.val))
    (b3 : X.map (fun s => exL (kOf (HandSHeadRun.getT s) 5) && (tabB (HandSHeadRun.getT s) ("_law_right", none) (kOf (HandSHeadRun.getT s) 5) && psL.all fun p => p.ok (kOf (HandSHeadRun.getT s) 5))) = some true) : X.map obL = some (valL fnL psL) := by
  cases X with
  | none => cases b1
  | some s =>
    have e1 := Option.some.inj b1
    have e2 := Option.some.inj b2
    have e3 := Option.some.inj b3
    have e4 := congrArg Prod.fst e2
    have e5 := congrArg Prod.snd e2
    dsimp only at e1 e3 e4 e5
    show some (obL s) = some (valL fnL psL)
    unfold obL obsL valL He.obsD He.valD
    rw [e1, e3, e4, e5]
theorem runB (w : World) (os : OsState) : (HandSHeadRun.endF (HandSHeadRun.stepQ (HandSHeadRun.denQ HandSHeadRun.tabQ) RL.prog w) 30000 RL.prog w os).map obL = some (hkL.val w) := obL_join (runB1 w os) (runB2 w os) (runB3 w os)
theorem runL (w : World) : HandSHeadRun.RunEq RL (PySem.W.view RL.prog [107]) hkL obL 30000 looseL w := run_join (runA w) (runB w)
end Ld
section
open PySem PySem.W PySem.Calls PyProof.Rows
/-- the statement from the law's walk: all that the kernel runs stands ahead of the walk, where little memory is taken -/
theorem Ld.headL (call : PySem.W.WalkO (view (OpenLaw.row PySem.Challenge.rw_letdays_k72_whole_slacks_beside_all_date).prog [107]) Ld.looseL (XL (view (OpenLaw.row PySem.Challenge.rw_letdays_k72_whole_slacks_beside_all_date).prog [107]) []) Ld.hkL.says (OpenLaw.row PySem.Challenge.rw_letdays_k72_whole_slacks_beside_all_date).toRowW (HandSHeadRun.topDef (OpenLaw.row PySem.Challenge.rw_letdays_k72_whole_slacks_beside_all_date).prog 107) [] (fun f vs => PySem.call f vs)) : PySem.Challenge.rw_letdays_k72_whole_slacks_beside_all_date.Holds := by
  w_on; o_law
  refine HandSHeadRun.head_any (r := OpenLaw.row PySem.Challenge.rw_letdays_k72_whole_slacks_beside_all_date) (q := view (OpenLaw.row PySem.Challenge.rw_letdays_k72_whole_slacks_beside_all_date).prog [107]) (H := Ld.hkL) (ob := Ld.obL) (M := 30000) (loose := Ld.looseL) (d := HandSHeadRun.topDef (OpenLaw.row PySem.Challenge.rw_letdays_k72_whole_slacks_beside_all_date).prog 107) (kwd := []) Ld.obL_eq
    (by kernel_rfl) (fun s => by kernel_rfl) Ld.runL (by kernel_rfl) (by kernel_rfl) (by kernel_rfl) (by rfl) Ld.saidL Ld.chainsL ⟨rfl, rfl, rfl, rfl, rfl, by decide +kernel⟩ ?hw call
  case hw => w_witness2
theorem Ld.nameL : (HandSHeadRun.topDef (OpenLaw.row PySem.Challenge.rw_letdays_k72_whole_slacks_beside_all_date).prog 107).name = ("law" : PySem.Str) := by kernel_rfl
theorem Ld.plainL : (HandSHeadRun.topDef (OpenLaw.row PySem.Challenge.rw_letdays_k72_whole_slacks_beside_all_date).prog 107).params.defaults = [] := by kernel_rfl
end
namespace Ld
open PySem PySem.Spec PyProof.Rows L2 PpSet
/-! ### sets of texts: add, comprehension, sorted -/
def keyS (e : Int × Value) : Str := match e.2 with | .str k _ => k | _ => Str.empty
def GoodS (w : World) (e : Int × Value) : Prop := ∃ k t, e.2 = Value.str k t ∧ e.1 = hashStr w k
/-- the set of the texts l at a; its table rises and can be walked -/
def SetS (w : World) (h : Heap) (a : Addr) (l : List Str) : Prop :=
  ∃ o es ep t, h.get? a = some o ∧ o.ExactSet ∧ o.data = .set es ep t ∧ (∀ e ∈ es.toList, GoodS w e) ∧ (es.toList.map keyS).Perm l ∧ l.Nodup ∧
    es.size < scanBound ∧ t.fits es.size = true ∧ Ris t.place.toList ∧ (w.params.followText "set-order" = true ∨ t.led = true)
def addL (k : Str) (l : List Str) : List Str := if k ∈ l then l else k :: l
abbrev SK (P : Program) (w : World) : PySem.KeyKind P w Str := PySem.strKind P w
theorem sk_is (P : Program) (w : World) (k : Str) (t : Tok) : (SK P w).is k (.str k t) = true := by
  show Value.isStrOf k (.str k t) = true
  unfold Value.isStrOf
  exact beq_self_eq_true k
section
variable {P : Program} {w : World} {h h' : Heap} {a : Addr} {l : List Str}
theorem SetS.at (R : SetS w h a l) (k : ∀ o, h.get? a = some o → h'.get? a = some o) : SetS w h' a l := by
  obtain ⟨o, es, ep, t, ho, r⟩ := R
  exact ⟨o, es, ep, t, k o ho, r⟩
theorem goodS_elems {l : List (Int × Value)} (g : ∀ e ∈ l, GoodS w e) : ElemsOf (SK P w) l := fun e he => by
  obtain ⟨k, t, h1, h2⟩ := g e he
  exact ⟨⟨k, by rw [h1]; exact sk_is P w k t, h2⟩, by rw [h1] <;> rfl⟩
theorem goodS_is {e : Int × Value} (g : GoodS w e) (k : Str) : (SK P w).is k e.2 = true ↔ keyS e = k := by
  obtain ⟨k0, t, h1, _⟩ := g
  unfold keyS
  rw [h1]
  constructor
  · intro z
    exact (SK P w).inj _ _ _ (sk_is P w k0 t) z
  · rintro rfl
    exact sk_is P w _ t
theorem goodS_mem {l : List (Int × Value)} (g : ∀ e ∈ l, GoodS w e) (k : Str) : k ∈ l.map keyS ↔ ∃ e ∈ l, (SK P w).is k e.2 = true := by
  rw [List.mem_map]
  constructor
  · rintro ⟨e, he, q⟩
    exact ⟨e, he, (goodS_is (g e he) k).2 q⟩
  · rintro ⟨e, he, q⟩
    exact ⟨e, he, (goodS_is (g e he) k).1 q⟩
end
section
variable {P : Program} {w : World} {A : Around} {E : Value → Shared → Prop} {s : Shared} {a : Addr} {l : List Str}
/-- what is stored behind a new text -/
theorem setS_tail {g : Bool → Sem Unit} (hg : ∀ (b : Bool) (s₁ : Shared) (Q' : Unit → Shared → Prop), Q' () s₁ → wpAny (model P w) A (g b) Q' E s₁)
    {o : Obj} {es : Array (Int × Value)} {ep : Nat} {t : SetTable} (ho : s.heap.get? a = some o) (hex : o.ExactSet) (hd : o.data = .set es ep t)
    {es1 : Array (Int × Value)} {t2 : SetTable} {l' : List Str} (g1 : ∀ e ∈ es1.toList, GoodS w e) (p1 : (es1.toList.map keyS).Perm l') (n1 : l'.Nodup)
    (hb1 : es1.size < scanBound) (hf2 : t2.fits es1.size = true) (hr : Ris t2.place.toList) (hl : w.params.followText "set-order" = true ∨ t2.led = true) {wasDummy : Bool} {R : Option Bool → Shared → Prop}
    (hR : ∀ h', Heap.SameBut a s.heap h' → SetS w h' a l' → R (some true) { s with heap := h' }) :
    wpAny (model P w) A (do
        storeSet a es1 t2
        if (!wasDummy && t2.tooFull) = true then do
            g (relayAll t2 es1 (SetTable.grown es1.size)).2.2
            storeSet a (relayAll t2 es1 (SetTable.grown es1.size)).1 (relayAll t2 es1 (SetTable.grown es1.size)).2.1
            pure (some true)
          else pure (some true)) R E s := by
  refine wpAny_bind (wpAny_storeSet_of ho hd ?_ (fits_of_scanBound hb1))
  have ho1 := storeB_at (es' := es1) (t' := t2) ho hd
  have sb1 := Heap.SameBut.update s.heap a (Obj.putSet es1 t2)
  split
  · have pm := relayAll_perm t2 es1 (SetTable.grown es1.size)
    have hf3 := relayAll_fits t2 es1 (SetTable.grown es1.size)
    have hr3 := relayAll_ris t2 es1 (SetTable.grown es1.size)
    have hl3 := relayAll_led t2 es1 (SetTable.grown es1.size)
    generalize relayAll t2 es1 (SetTable.grown es1.size) = Z at pm hf3 hr3 hl3 ⊢
    obtain ⟨es2, t3, gave⟩ := Z
    dsimp only at pm hf3 hr3 hl3 ⊢
    have hsz : es2.size = es1.size := by rw [← Array.length_toList, pm.length_eq, Array.length_toList]
    have hb2 : es2.size < scanBound := by rw [hsz]; exact hb1
    refine wpAny_bind (hg _ _ _ (wpAny_bind (wpAny_storeSet_of ho1 rfl ?_ (fits_of_scanBound hb2))))
    have ho2 := storeB_at (es' := es2) (t' := t3) ho1 rfl
    exact wpAny_pure (hR _ (sb1.trans (Heap.SameBut.update _ a _)) ⟨_, es2, _, t3, ho2, hex, rfl, fun e he => g1 e (pm.mem_iff.mp he), (pm.map keyS).trans p1, n1, hb2, hf3, hr3, hl.imp id fun z => by rw [hl3]; exact z⟩)
  · exact wpAny_pure (hR _ sb1 ⟨_, es1, _, t2, ho1, hex, rfl, g1, p1, n1, hb1, hf2, hr, hl⟩)
theorem setS_hashed {k : Str} {tk : Tok} {Q : Bool → Shared → Prop} (R : SetS w s.heap a l) (room : l.length + 1 < scanBound)
    (hQ : ∀ b h', Heap.SameBut a s.heap h' → SetS w h' a (addL k l) → Q b { s with heap := h' }) :
    wpAny (model P w) A (setAddHashed a (.str k tk) ((SK P w).hash k)) Q E s := by
  obtain ⟨o, es, ep, t, ho, hex, hd, g, pl, nd, hb, hf, hr, hl⟩ := R
  have hkey : (SK P w).is k (.str k tk) = true := sk_is P w k tk
  have hsc : (Value.str k tk).scannable = true := rfl
  have hel : ElemsOf (SK P w) es.toList := goodS_elems g
  unfold setAddHashed setAddHashedIn
  refine wpAny_holding (wpAny_bind (wpAny_setState_of ho hd hf ?_))
  dsimp only
  rw [byScan_of hsc hb hel]
  simp only [↓reduceIte]
  unfold setAddByScan
  refine wpAny_bind (wpAny_bind (wpAny_rule (wpAny_bind (wpAny_setScan_of hkey ho hd hf hel ?_))))
  cases hfi : List.findIdx? (fun e => (SK P w).is k e.2) es.toList with
  | some j =>
    dsimp only
    obtain ⟨hj, pj, _⟩ := List.findIdx?_eq_some_iff_getElem.mp hfi
    have hk : k ∈ l := pl.mem_iff.mp ((goodS_mem (P := P) g k).2 ⟨es.toList[j], List.getElem_mem hj, pj⟩)
    refine wpAny_pure (wpAny_pure (hQ _ s.heap (Heap.SameBut.refl a s.heap) ⟨o, es, ep, t, ho, hex, hd, g, ?_, ?_, hb, hf, hr, hl⟩))
    · unfold addL; rw [if_pos hk]; exact pl
    · unfold addL; rw [if_pos hk]; exact nd
  | none =>
    dsimp only
    have hnk : k ∉ l := fun z => by
      obtain ⟨e, he, q⟩ := (goodS_mem (P := P) g k).1 (pl.mem_iff.mpr z)
      have c := List.findIdx?_eq_none_iff.mp hfi e he
      rw [q] at c
      cases c
    have hgw : ∀ (b : Bool) {s₁ : Shared} {Q' : Unit → Shared → Prop}, Q' () s₁ → wpAny (model P w) A (match b with | true => rule "set.scan.the-table-gave-way" | false => pure ()) Q' E s₁ :=
      fun b s₁ Q' q => by cases b <;> first | exact wpAny_pure q | exact wpAny_rule q
    have pm := layNew_perm t es ((SK P w).hash k) (.str k tk)
    have hf1 := layNew_fits t es ((SK P w).hash k) (.str k tk)
    have hr1 := layNew_ris t es ((SK P w).hash k) (.str k tk) hr
    have hl1 := layNew_led t es ((SK P w).hash k) (.str k tk)
    generalize layNew t es ((SK P w).hash k) (.str k tk) = Z at pm hf1 hr1 hl1 ⊢
    obtain ⟨es1, t1, wasDummy, gave⟩ := Z
    dsimp only at pm hf1 hr1 hl1 ⊢
    rw [Array.toList_push] at pm
    have pc : es1.toList.Perm (((SK P w).hash k, Value.str k tk) :: es.toList) := pm.trans (List.perm_append_singleton _ _)
    have pk : (es1.toList.map keyS).Perm (addL k l) := by
      unfold addL
      rw [if_neg hnk]
      exact (pc.map keyS).trans (pl.cons k)
    have g1 : ∀ e ∈ es1.toList, GoodS w e := fun e he => by
      rcases List.mem_cons.mp (pc.mem_iff.mp he) with z | z
      · rw [z]; exact ⟨k, tk, rfl, rfl⟩
      · exact g e z
    have nd1 : (addL k l).Nodup := by
      unfold addL
      rw [if_neg hnk]
      exact List.nodup_cons.mpr ⟨hnk, nd⟩
    have hsz : es1.size = l.length + 1 := by
      rw [← Array.length_toList, pc.length_eq, List.length_cons, ← pl.length_eq, List.length_map]
    have hb1 : es1.size < scanBound := by rw [hsz]; exact room
    have hled : w.params.followText "set-order" = true ∨ t1.led = true := hl.imp id fun z => by rw [hl1]; exact z
    refine wpAny_bind (hgw _ ?_)
    split
    · refine wpAny_bind ?_
      rw [hashByValue_scannable 8 hsc]
      refine wpAny_pure ?_
      refine setS_tail ?_ ho hex hd g1 pk nd1 hb1 ?_ ?_ ?_ ?_
      · intro b s₁ Q' q; cases b <;> first | exact wpAny_pure q | exact wpAny_rule q
      · first | (split <;> first | exact hf1 | exact SetTable.fits_plain_off hf1) | exact hf1
      · first | (split <;> exact hr1) | exact hr1
      · first | (split <;> exact hled) | exact hled
      · intro h' sb r; dsimp only; exact wpAny_pure (hQ _ h' sb r)
    · refine wpAny_bind (wpAny_pure ?_)
      simp only [↓reduceIte]
      refine setS_tail ?_ ho hex hd g1 pk nd1 hb1 hf1 hr1 hled ?_
      · intro b s₁ Q' q; cases b <;> first | exact wpAny_pure q | exact wpAny_rule q
      · intro h' sb r; dsimp only; exact wpAny_pure (hQ _ h' sb r)
/-- found.add(k) -/
theorem setS_add {k : Str} {tk : Tok} {Q : Value → Shared → Prop} (R : SetS w s.heap a l) (room : l.length + 1 < scanBound)
    (hQ : ∀ h', Heap.SameBut a s.heap h' → SetS w h' a (addL k l) → Q .none { s with heap := h', toks := s.toks + 1 }) :
    wpAny (model P w) A (call (.builtin "set.add") [.ref a, .str k tk]) Q E s := by
  have hT : s.TypeIs (.ref a) "set" := by
    obtain ⟨o, _, _, _, ho, hex, _⟩ := id R
    exact ⟨o, ho, hex.1⟩
  refine wpAny_call_entry F.slot_set_add hT F.entry_set_add ?_ (F.args_set_add_2 _ _)
  unfold Builtin.«set.add» Builtin.Frozenset.oneOther
  simp only [List.isEmpty_nil, bind_assoc]
  unfold Builtin.Frozenset.addrOf setAdd
  refine wpAny_bind (wpAny_pure ?_)
  try dsimp only
  refine wpAny_bind (wpAny_pure ?_)
  try dsimp only
  refine wpAny_bind (wpAny_holding (wpAny_bind ((SK P w).pyHash (sk_is P w k tk) ?_)))
  refine setS_hashed (s := { s with toks := s.toks + 1 }) R room fun b h' sb r => ?_
  show wpAny _ _ (ret Value.none) _ _ _
  exact wpAny_pure ⟨_, rfl, hQ h' sb r⟩
theorem setS_fresh {h : Heap} (w : World) : SetS w (h.push { cls := .type "set", dict := none, data := .set #[] 0 (.fresh 0 0 (!w.params.followText "set-order")) }) h.objs.size [] :=
  ⟨_, #[], 0, _, Heap.get?_push_size _ rfl, ⟨rfl, rfl, rfl⟩, rfl, (fun e he => by simp at he), (by simp), List.nodup_nil, (by decide), (by rfl), List.Pairwise.nil, by
    show _ ∨ (!w.params.followText "set-order") = true
    cases w.params.followText "set-order"
    · exact .inr rfl
    · exact .inl rfl⟩
end
/-- the set of texts at a, tracked -/
def SetSO (w : World) (a : Addr) (l : List Str) : HO := .ext fun h => SetS w h a l
theorem setSO_new {w : World} {P : Program} {H : Hp} {h : Heap} {a : Addr} {l : List Str} (R : SetS w h a l) : ObjOk P w H h a (SetSO w a l) := by
  have ⟨o, _, _, _, ho, _⟩ := R
  exact ⟨R, ⟨o, ho⟩, fun h1 h2 p k => SetS.at p k⟩
section
variable {X : Cx}
theorem setSO_get {pins : List (Addr × Obj)} {σ : L2.St} {H : Hp} {s : Shared} {a : Addr} {l : List Str} (I : Inv X pins σ H s) (ha : H a = some (SetSO X.w a l)) : SetS X.w s.heap a l := (I.hok a _ ha).1
theorem addS_ok {pins : List (Addr × Obj)} {σ : L2.St} {H : Hp} {s : Shared} {E : Value → Shared → Prop} {D : Addr} {l : List Str} {y : Str} {tk : Tok} {Q : Value → Shared → Prop} (I : Inv X pins σ H s) (hD : H D = some (SetSO X.w D l)) (room : l.length + 1 < scanBound)
    (h : ∀ s', Inv X pins σ (upd H D (SetSO X.w D (addL y l))) s' → Q .none s') : wpAny (model X.prog X.w) X.A (call (.builtin "set.add") [.ref D, .str y tk]) Q E s := by
  refine setS_add (setSO_get I hD) room fun h' sb new => ?_
  have he : ∃ u, h'.get? D = some u := by
    have ⟨o, _, _, _, ho, _⟩ := new
    exact ⟨o, ho⟩
  exact h _ (I.write (e := D) (t' := s.toks + 1) (by rw [hD]; trivial) (.inl rfl) (fun b u hb hu => (sb.2 b hb).trans hu) he (setSO_new new))
end
end Ld
namespace Ld
open PySem PySem.Spec PyProof.Rows L2 PpSet
/-! ### {elt for target in iter if ..}, elt a text -/
section
variable {X : Cx}
def tSS (w : World) (wi : TI) (g : TG) (tt : TT) (te : TE) (vs : List Nat) : TE := fun σ H Q => wi σ H fun J H1 => ∀ D, H1 D = none → ∃ W : Nat → Nat → Hp → Prop, (∃ m, W 0 m (upd H1 D (SetSO w D []))) ∧ ∀ i m H, W i m H →
  (J.stop i H ∧ Q (.ref D) H) ∨ (J.go i H ∧ ∃ Nx : Hp → Prop, (∀ H', Nx H' → ∃ m', m' < m ∧ W (i + 1) m' H') ∧ ∀ x H', J.yld i H x H' → g x (wipe σ vs) H' fun σ2 H2 => wipe σ2 vs = wipe σ vs ∧ tt σ2 H2 fun b H3 =>
    if b = true then te σ2 H3 fun y H4 => ∃ (c : Str) (l : List Str), y = .str c ∧ H4 D = some (SetSO w D l) ∧ l.length + 1 < scanBound ∧ Nx (upd H4 D (SetSO w D (addL c l))) else Nx H3)
theorem ss_core {pins : List (Addr × Obj)} {s : Shared} {σ : L2.St} {H : Hp} {Q : VK} {elt tg iter : Expr} {ifs : List Expr} {scope : Scope} {own : List (PySem.Str × Nat)} {pos pos' : Pos} {wi : TI} {g : TG} {tt : TT} {te : TE} {use : Option (Value → Sem Unit)} {Qf : Value → Shared → Prop}
    (hc : X.calm = true) (hN : X.N.Nodup) (I : Inv X pins σ H s) (hi : PI X tg iter wi) (ok : BlkOk X.N X.env.scope scope own)
    (hg : ∀ (s : Shared) (H : Hp) (C : Addr) (cl : List (PySem.Str × Addr)) (fp : List Addr), PG (X.blk s H scope (compEnvC scope cl C X.env) fp) tg g) (ht : ∀ (s : Shared) (H : Hp) (C : Addr) (cl : List (PySem.Str × Addr)) (fp : List Addr), PTs (X.blk s H scope (compEnvC scope cl C X.env) fp) ifs tt)
    (he : ∀ (s : Shared) (H : Hp) (C : Addr) (cl : List (PySem.Str × Addr)) (fp : List Addr), PE (X.blk s H scope (compEnvC scope cl C X.env) fp) elt te) (hs : ∀ x, foldedSetIterable iter X.env x = pure x)
    (h : tSS X.w wi g tt te (own.map (·.2)) σ H Q)
    (hRR : ∀ D C s' m H', Inv X pins σ H' s' → Q (.ref D) H' → s'.heap.Ns C m → FpOk X pins H' C → compPost (model X.prog X.w) X.A X.xe use Qf (.ref D) C (.ok .next) s') :
    wpAny (model X.prog X.w) X.A (comprehension (.SetComp elt [⟨tg, iter, ifs, 0⟩] scope pos) scope X.env pos' (newSet (.type "set")) false (eval iter X.env) use) Qf X.xe s := by
  have hfree : ∀ y ∈ scope.names, y.2 = .free → ∃ c, X.env.cells.lookup y.1 = some c := fun y hy e =>
    (ok.free y hy e).elim (fun k => I.ok.has _ (.inl k)) fun k => I.ok.has _ (.inr k)
  refine wpAny_comprehension_free (use := use) rfl hs (closure_ok hfree) ok.kind (fun y hy e => by rw [ok.uniq y hy, e])
    (thn (hi.run pins s σ H _ I h) fun xv s1 hx => thn hx fun itv s2 h2 => ?_)
  obtain ⟨it, fp, tn, J, H2, e, I2, T, st2, f2, q⟩ := h2
  subst e
  refine newSet_ok (newEnv_comp ?_)
  generalize hD : s2.heap.objs.size = D
  have hDn : H2 D = none := I2.hok.fresh (Nat.le_of_eq hD)
  obtain ⟨W, ⟨m0, w0⟩, turn⟩ := q D hDn
  generalize hs3 : ({ s2 with heap := s2.heap.push { cls := .type "set", dict := none, data := .set #[] 0 (.fresh 0 0 (!X.w.params.followText "set-order")) } } : Shared) = s3
  have h3 : s3.heap = s2.heap.push { cls := .type "set", dict := none, data := .set #[] 0 (.fresh 0 0 (!X.w.params.followText "set-order")) } := by rw [← hs3]
  have I3 : Inv X pins σ (upd H2 D (SetSO X.w D [])) s3 := by
    rw [← hs3]
    refine I2.laid (t' := s2.toks) (fun b o e => Heap.get?_push_of_some _ e) (Nat.le_of_eq hD) ?_
    rw [← hD]
    exact setSO_new (setS_fresh X.w)
  generalize hH3 : upd H2 D (SetSO X.w D []) = H3 at I3 w0
  have f3 : ∀ b ∈ fp, FpOk X pins H3 b ∧ b < s3.heap.objs.size := fun b hb => by
    obtain ⟨o, e, _⟩ := T.obj _ _ st2 b hb
    have hlt : b < s2.heap.objs.size := Heap.lt_size e
    refine ⟨⟨?_, (f2 b hb).2⟩, by rw [h3, Heap.size_push]; exact Nat.lt_succ_of_lt hlt⟩
    rw [← hH3, upd_ne (by rw [← hD]; exact Nat.ne_of_lt hlt)]
    exact (f2 b hb).1
  have st3 : tn 0 s3.heap := T.keep _ _ _ st2 fun b _ o e => by rw [h3]; exact Heap.get?_push_of_some _ e
  have I4 := block_start I3 ok hN f3
  have pg := hg s3 H3 s3.heap.objs.size (cellsFrom (s3.heap.objs.size + 1) scope.names (cloFrom X.env.cells scope.names [])) fp
  have pt := ht s3 H3 s3.heap.objs.size (cellsFrom (s3.heap.objs.size + 1) scope.names (cloFrom X.env.cells scope.names [])) fp
  have pe := he s3 H3 s3.heap.objs.size (cellsFrom (s3.heap.objs.size + 1) scope.names (cloFrom X.env.cells scope.names [])) fp
  show codeAny _ _ (.compStart (.SetComp elt [⟨tg, iter, ifs, 0⟩] scope pos) 0 (.ref it) (.ref D) (compEnvC scope (cellsFrom (s3.heap.objs.size + 1) scope.names (cloFrom X.env.cells scope.names [])) s3.heap.objs.size X.env)) (compPost (model X.prog X.w) X.A X.xe use Qf (.ref D) s3.heap.objs.size) { s3 with heap := pushCells (s3.heap.push { cls := .type "dict", data := .dict #[] }) scope.names }
  have nfp : ∀ b ∈ fp, H3 b = none := fun b hb => (f3 b hb).1.1
  generalize hce : compEnvC scope (cellsFrom (s3.heap.objs.size + 1) scope.names (cloFrom X.env.cells scope.names [])) s3.heap.objs.size X.env = ce at I4 pg pt pe ⊢
  have cL : ce.locals = s3.heap.objs.size := by subst hce; rfl
  generalize hs4 : ({ s3 with heap := pushCells (s3.heap.push { cls := .type "dict", data := .dict #[] }) scope.names } : Shared) = s4 at I4 ⊢
  have st4 : tn 0 s4.heap := T.keep _ _ _ st3 fun b _ o e => by rw [← hs4]; exact pushCells_keeps _ _ _ _ (Heap.get?_push_of_some _ e)
  have stat : ∀ {σ' : L2.St} {H' : Hp} {s' : Shared}, Inv (X.blk s3 H3 scope ce fp) [] σ' H' s' → (∀ b ∈ fp, H' b = none) → ∀ b ∈ fp, FpOk (X.blk s3 H3 scope ce fp) [] H' b := fun {σ' H' s'} I' hn b hb =>
    ⟨hn b hb, (I'.ok.exf b hb).1, I'.ok.exfs b hb, .inl hb, fun x c e => (I'.ok.exf b hb).2 x c e, fun p hp => absurd (show p ∈ ([] : List (Addr × Obj)) ++ [] from hp) (by simp)⟩
  have loop : codeAny (model X.prog X.w) X.A (.compLoop (.SetComp elt [⟨tg, iter, ifs, 0⟩] scope pos) 0 (.ref it) (.ref D) ce) (compPost (model X.prog X.w) X.A X.xe use Qf (.ref D) s3.heap.objs.size) s4 := by
    refine compLoopS_any (fun n s' => ∃ i H', Inv (X.blk s3 H3 scope ce fp) [] (wipe σ (own.map (·.2))) H' s' ∧ tn i s'.heap ∧ (∀ b ∈ fp, H' b = none) ∧ W i n H') ?_ m0 ⟨0, H3, I4, st4, nfp, w0⟩
    rintro n s5 ⟨i, H5, I5, st5, n5, w5⟩
    rcases turn i n H5 w5 with ⟨stop, qq⟩ | ⟨go, Nx, hNx, step⟩
    · have td := T.done (X.blk s3 H3 scope ce fp) rfl rfl rfl hc i [] s5 _ H5 (fun _ _ => False) I5 (stat I5 n5) st5 stop
      refine thnF td fun r s6 ⟨hr, I6⟩ => ?_
      subst hr
      have I7 : Inv X pins σ H5 s6 := I3.call' (ch := fp) I6.os I6.base I6.hok I6.bare fun b hb => ⟨(f3 b hb).1.2.2.2.1, (f3 b hb).1.2.1, (f3 b hb).1.2.2.2.2.1, (f3 b hb).1.2.2.2.2.2⟩
      have nC : H5 s3.heap.objs.size = none := cL ▸ I6.free
      obtain ⟨m, hn, _⟩ := I6.loc
      have hn : s6.heap.Ns s3.heap.objs.size m := cL ▸ hn
      exact hRR D s3.heap.objs.size s6 m H5 I7 qq hn (I3.fpOk (Nat.le_refl _) nC)
    · have ti := T.item (X.blk s3 H3 scope ce fp) rfl rfl rfl hc i [] s5 _ H5 (fun _ _ => False) I5 (stat I5 n5) st5 go
      refine thnF ti fun r s6 ⟨u, hr, h6⟩ => ?_
      subst hr
      refine thnF h6 fun _ s7 ⟨x, H7, I7, r7, y7, st7, n7⟩ => ?_
      have I7' := I7.pinned (stat I7 n7) (T.obj _ _ st7)
      refine thnF (pg.run _ s7 _ H7 x u _ I7' r7 (step x H7 y7)) fun _ s8 ⟨σ8, H8, I8, hw8, q8⟩ => ?_
      refine thnF (pt.run _ s8 σ8 H8 _ I8 q8) fun b s9 ⟨H9, I9, q9⟩ => ?_
      have fin : ∀ {s' : Shared} {H' : Hp}, Inv (X.blk s3 H3 scope ce fp) ([] ++ pinsAt fp s7.heap) σ8 H' s' → Nx H' → ∃ m, m < n ∧ ∃ i H', Inv (X.blk s3 H3 scope ce fp) [] (wipe σ (own.map (·.2))) H' s' ∧ tn i s'.heap ∧ (∀ b ∈ fp, H' b = none) ∧ W i m H' := fun {s' H'} I' nx => by
        obtain ⟨m', hm, w'⟩ := hNx H' nx
        have pin' : ∀ b ∈ fp, ∀ o, s7.heap.get? b = some o → s'.heap.get? b = some o ∧ H' b = none := fun b hb o e =>
          let z := I'.pin (b, o) (List.mem_append_right _ (List.mem_append_right _ (mem_pinsAt hb e)))
          ⟨z.1, z.2.1⟩
        refine ⟨m', hm, i + 1, H', (I'.unpinned (pins := [])).weak (by rw [← hw8, wipe_length]) (fun j v e => ?_), T.keep _ _ _ st7 fun b hb o e => (pin' b hb o e).1, fun b hb => ?_, w'⟩
        · rw [← hw8] at e
          exact (wipe_some e).1
        · obtain ⟨o, e, _⟩ := T.obj _ _ st7 b hb
          exact (pin' b hb o e).2
      cases b with
      | false =>
        simp only [Bool.false_eq_true, if_false] at q9 ⊢
        exact fin I9 q9
      | true =>
        simp only [if_true] at q9 ⊢
        refine thnF (pe.run _ s9 σ8 H9 _ I9 q9) fun z s10 ⟨yv, H10, I10, r10, cb, l0, ey, hD10, hz10, nx⟩ => ?_
        subst ey
        obtain ⟨tk, rfl⟩ := (show ∃ tk, z = Value.str cb tk from r10)
        exact addS_ok (X := X.blk s3 H3 scope ce fp) I10 hD10 hz10 fun s11 I11 => fin I11 nx
  exact codeAny_compStart_set loop (T.self X.A 0 _ _ _ st4 loop)
theorem pe_ss {elt tg iter : Expr} {ifs : List Expr} {scope : Scope} {own : List (PySem.Str × Nat)} {pos : Pos} {wi : TI} {g : TG} {tt : TT} {te : TE} (hc : X.calm = true) (hN : X.N.Nodup) (hi : PI X tg iter wi) (ok : BlkOk X.N X.env.scope scope own)
    (hg : ∀ (s : Shared) (H : Hp) (C : Addr) (cl : List (PySem.Str × Addr)) (fp : List Addr), PG (X.blk s H scope (compEnvC scope cl C X.env) fp) tg g) (ht : ∀ (s : Shared) (H : Hp) (C : Addr) (cl : List (PySem.Str × Addr)) (fp : List Addr), PTs (X.blk s H scope (compEnvC scope cl C X.env) fp) ifs tt)
    (he : ∀ (s : Shared) (H : Hp) (C : Addr) (cl : List (PySem.Str × Addr)) (fp : List Addr), PE (X.blk s H scope (compEnvC scope cl C X.env) fp) elt te) (hs : ∀ x, foldedSetIterable iter X.env x = pure x := by intro _; rfl) :
    PE X (.SetComp elt [⟨tg, iter, ifs, 0⟩] scope pos) (tSS X.w wi g tt te (own.map (·.2))) := by
  refine ⟨fun pins s σ H Q I h => ?_⟩
  rw [eval_SetComp]
  refine ss_core hc hN I hi ok hg ht he hs h fun D C s' m H' I' q hn f => ⟨m, hn, fun h'' sb => ?_⟩
  obtain ⟨f0, f1, f2, f3, f4, f5⟩ := f
  exact ⟨.ref D, H', I'.turned (t' := s'.toks) (fun b o hb e => (sb.2 b hb).trans e) f0 f1 f3 f4 f5, rfl, q⟩
/-! ### sorted(set of texts) -/
def rSortSS (w : World) : List V → Hp → VK → Prop := fun xs H Q => ∃ (a : Addr) (l : List Str), xs = [.ref a] ∧ H a = some (SetSO w a l) ∧ l.length ≤ 100 ∧ ∀ (p : Addr) (ss : List Str), H p = none → ss.Perm l → Q (.ref p) (upd H p (.lst (ss.map V.str)))
theorem lift_perm {α β : Type} (f : α → β) {ys zs : List β} (h : ys.Perm zs) : ∀ xs : List α, zs = xs.map f → ∃ ws : List α, ws.Perm xs ∧ ws.map f = ys := by
  induction h with
  | nil =>
    intro xs e
    exact ⟨[], by rw [List.map_eq_nil_iff.mp e.symm], rfl⟩
  | cons x _ ih =>
    intro xs e
    obtain ⟨a, as, rfl, h1, h2⟩ := List.map_eq_cons_iff.mp e.symm
    obtain ⟨ws, p, e2⟩ := ih as h2.symm
    exact ⟨a :: ws, p.cons a, by rw [List.map_cons, e2, h1]⟩
  | swap x y l =>
    intro xs e
    obtain ⟨a, as, rfl, h1, h2⟩ := List.map_eq_cons_iff.mp e.symm
    obtain ⟨b, bs, rfl, h3, h4⟩ := List.map_eq_cons_iff.mp h2
    exact ⟨b :: a :: bs, .swap _ _ _, by rw [List.map_cons, List.map_cons, h1, h3, h4]⟩
  | trans _ _ ih1 ih2 =>
    intro xs e
    obtain ⟨ws, p, e2⟩ := ih2 xs e
    obtain ⟨us, p2, e3⟩ := ih1 ws e2.symm
    exact ⟨us, p2.trans p, e3⟩
theorem strs_each : ∀ {vs : List Value} {bs : List Str}, PySem.W.EachIs (fun (v : Value) (b : Str) => ∃ t, v = .str b t) vs bs → Vals (bs.map V.str) vs
  | _, _, .nil => .nil
  | _, _, .cons h t => .cons h (strs_each t)
theorem each_keys {w : World} : ∀ {vs : List Value} {es : List (Int × Value)}, (∀ e ∈ es, GoodS w e) → vs = es.map (·.2) → PySem.W.EachIs (fun (v : Value) (b : Str) => ∃ t, v = .str b t) vs (es.map keyS)
  | _, [], _, rfl => .nil
  | _, e :: es, g, rfl => by
    obtain ⟨k, t, h1, _⟩ := g e (by simp)
    refine .cons ⟨t, ?_⟩ (each_keys (fun e m => g e (List.mem_cons_of_mem _ m)) rfl)
    show e.2 = Value.str (keyS e) t
    unfold keyS
    rw [h1]
theorem cr_sortSS (hc : X.calm = true) (hu : X.A.units + 64 < cLine) : CallR X (.builtin "sorted") (rSortSS X.w) := by
  intro pins s σ H xs us Q I r q
  obtain ⟨a, l, rfl, hl, hz, q⟩ := q
  obtain ⟨u, rfl, rx⟩ := r.one
  cases rx
  obtain ⟨o, es, ep, t, ho, hex, hd, g, pl, nd, hb, hf, hr, hld⟩ := setSO_get I hl
  refine Calls.call_function_entry PyProof.Rows.kind_sorted PyProof.Rows.plain_sorted PyProof.Rows.entry_sorted (PyProof.Rows.args_sorted1 _) ?_
  unfold Builtin.«sorted»
  refine wpAny_bind (m := checkCount "sorted" 1 1 _) (wpAny_pure ?_)
  refine wpAny_bind (collect_set (A := X.A.in1) (I.ok.hd hc) ⟨o, ho, hex.1, hd⟩ hf hb hr hld fun s1 vs k1 hz1 g1 o1 pm => ?_)
  -- the texts in the order in which they came out
  obtain ⟨es', pe', ev⟩ : ∃ es' : List (Int × Value), es'.Perm es.toList ∧ vs = es'.map (·.2) := by
    obtain ⟨ws, p, e⟩ := lift_perm (fun e : Int × Value => e.2) pm es.toList rfl
    exact ⟨ws, p, e.symm⟩
  have ge : ∀ e ∈ es', GoodS X.w e := fun e m => g e (pe'.mem_iff.mp m)
  have ee := each_keys ge ev
  have pk : (es'.map keyS).Perm l := (pe'.map keyS).trans pl
  have vl : vs.length = l.length := by rw [ev, List.length_map, ← pk.length_eq, List.length_map]
  refine wpAny_bind (wpAny_newList ?_ (by rw [vl]; exact sz (by omega)))
  have hoL : (s1.heap.push (seqObj "list" vs.toArray 0)).get? s1.heap.objs.size = some (seqObj "list" vs.toArray 0) := Heap.get?_push_size _ rfl
  show wpAny _ _ _ _ _ { s1 with heap := s1.heap.push (seqObj "list" vs.toArray 0) }
  have er : PySem.W.EachIs (fun (v : Value) (b : Str) => ∃ as, Reads (s1.heap.push (seqObj "list" vs.toArray 0)) v (PyData.str b) as ∧ s1.heap.objs.size ∉ as) vs (es'.map keyS) := ee.mono fun v b hv => by
    obtain ⟨t, rfl⟩ := hv
    exact ⟨[], .str _ _, List.not_mem_nil⟩
  have hall : PySem.W.AllAlike ((es'.map keyS).map PyData.str) := PySem.W.AllAlike.of fun b b' => by simp [PySem.W.alike]
  have hk : PySem.W.Sortable ((es'.map keyS).map PyData.str) := PySem.W.Sortable.others fun D => ⟨by simp, fun xs => by simp⟩
  refine wpAny_bind (wpAny_holding (PySem.W.list_sort_data (s := { s1 with heap := s1.heap.push (seqObj "list" vs.toArray 0) }) hoL ee er hall hk (by rw [pk.length_eq]; exact sz (by omega)) (fun b _ => ?_) fun out hlo ho2 => ?_))
  · show X.A.units + 1 + 1 + _ < cLine
    simp only [PyData.depth]
    omega
  · have rz := strs_each ho2
    obtain ⟨e', he'⟩ := PyProof.Rows.sortedHeap_at (vs := vs) (out := List.toArray out) hoL
    have ps : ((es'.map keyS).mergeSort (PySem.W.dataLe false PyData.str)).Perm l := (List.mergeSort_perm _ _).trans pk
    have I1 : Inv X pins σ H s1 := I.call' (ch := []) o1 (Un.kept k1) (I.hok.kept k1) (by rw [g1]; exact I.bare) (fun _ z => nomatch z)
    refine wpAny_pure ⟨_, rfl, .ref s1.heap.objs.size, upd H s1.heap.objs.size (.lst (((es'.map keyS).mergeSort (PySem.W.dataLe false PyData.str)).map V.str)), I1.laid (t' := s1.toks) (fun b u e => ?_) (Nat.le_refl _)
      (show ObjOk X.prog X.w _ _ _ (.lst _) from ⟨by rw [List.length_map, ps.length_eq]; exact sz (by omega), out, e', rz, he'⟩), rfl, q _ _ (I1.hok.fresh (Nat.le_refl _)) ps⟩
    have hb : b < s1.heap.objs.size := Heap.lt_size e
    rw [PyProof.Rows.sortedHeap_old (Nat.ne_of_lt hb) (by rw [size_push']; exact Nat.lt_succ_of_lt hb)]
    exact Heap.get?_push_of_some _ e
end
section
variable {K : PySem.W.Frag} {w : World} {g : TG} {σ : St} {H : Hp} {tt : TT} {te tl : TE} {own : List Nat} {Q : VK}
def CSS (K : PySem.W.Frag) (w : World) (g : TG) (tt : TT) (te : TE) (own : List Nat) (σ : St) (Q : VK) : VK := fun x H1 => ∃ a, x = .ref a ∧ (∃ xs, SqT K H1 a xs) ∧ ∀ D, H1 D = none → ∃ W : Nat → Nat → Hp → Prop, (∃ m, W 0 m (upd H1 D (SetSO w D []))) ∧ ∀ i m H, W i m H →
  ((Itt K a).stop i H ∧ Q (.ref D) H) ∨ ((Itt K a).go i H ∧ ∃ Nx : Hp → Prop, (∀ H', Nx H' → ∃ m', m' < m ∧ W (i + 1) m' H') ∧ ∀ x H', (Itt K a).yld i H x H' → g x (wipe σ own) H' fun σ2 H2 => wipe σ2 own = wipe σ own ∧ tt σ2 H2 fun b H3 =>
    if b = true then te σ2 H3 fun y H4 => ∃ (c : Str) (l : List Str), y = .str c ∧ H4 D = some (SetSO w D l) ∧ l.length + 1 < scanBound ∧ Nx (upd H4 D (SetSO w D (addL c l))) else Nx H3)
theorem go_ss (q : tl σ H (CSS K w g tt te own σ Q)) : tSS w (iTup K tl) g tt te own σ H Q := q
/-- over a tuple -/
theorem ssT {a : Addr} {xs : List V} (ha : H a = some (.tup xs)) (hq : ∀ D, H D = none → ∃ Pv : Nat → Hp → Prop, Pv 0 (upd H D (SetSO w D [])) ∧ (∀ i H', Pv i H' → H' a = some (.tup xs)) ∧
    (∀ i x H', xs[i]? = some x → Pv i H' → g x (wipe σ own) H' fun σ2 H2 => wipe σ2 own = wipe σ own ∧ tt σ2 H2 fun b H3 =>
      if b = true then te σ2 H3 fun y H4 => ∃ (c : Str) (l : List Str), y = .str c ∧ H4 D = some (SetSO w D l) ∧ l.length + 1 < scanBound ∧ Pv (i + 1) (upd H4 D (SetSO w D (addL c l))) else Pv (i + 1) H3) ∧ ∀ H', Pv xs.length H' → Q (.ref D) H') : CSS K w g tt te own σ Q (.ref a) H := by
  refine ⟨a, rfl, ⟨xs, SqT.of ha⟩, fun D hD => ?_⟩
  obtain ⟨Pv, h0, hl, hs, hd⟩ := hq D hD
  refine ⟨fun i m H' => i ≤ xs.length ∧ m = xs.length - i ∧ Pv i H', ⟨_, Nat.zero_le _, rfl, h0⟩, fun i m H' ⟨hi, hm, p⟩ => ?_⟩
  have e := hl _ _ p
  by_cases hz : i = xs.length
  · left
    exact ⟨⟨xs, SqT.of e, by omega⟩, hd _ (hz ▸ p)⟩
  · right
    have hi' : i < xs.length := by omega
    refine ⟨⟨xs, xs[i], SqT.of e, by simp [hi']⟩, fun H2 => Pv (i + 1) H2, fun H2 q => ⟨xs.length - (i + 1), by omega, by omega, rfl, q⟩, fun x H2 y => ?_⟩
    obtain ⟨rfl, ex⟩ := y
    exact hs i x _ (ex _ (SqT.of e)) p
end
theorem addL_mem {k s : Str} {l : List Str} (h : s ∈ addL k l) : s = k ∨ s ∈ l := by
  unfold addL at h
  split at h
  · exact .inr h
  · exact List.mem_cons.mp h
theorem addL_len (k : Str) (l : List Str) : (addL k l).length ≤ l.length + 1 := by
  unfold addL
  split
  · omega
  · simp
end Ld
namespace Ld
open PySem PySem.Spec PyProof.Rows L2
/-! ### the end: the law called where no repr is under way, one def's code table tracked -/
theorem law_callG {P : Program} {w : World} {K : PySem.W.Frag} {mg mb : Str → Option Value} {fa a c Pt : Addr} {s₁ : Shared} {vs : List Value} {ns : List Int}
    (KX : K.In s₁.heap) (hns : s₁.heap.Ns mainGlobals mg) (hb : s₁.heap.Ns builtinsNs mb) (hbb : ∀ x : Str, x ≠ "__name__" → mb x = bootBuiltins x) (hlim : s₁.heap.NoLimit) (hg : s₁.gens = #[])
    (hT : s₁.heap.get? Pt = some { cls := .none, data := .fields #[] }) (nT : K.lookup Pt = none) (C : PySem.W.CodeHd s₁.heap c Pt)
    (hbm : ∃ (bm : Addr) (ob : Obj), mg "__builtins__" = some (.ref bm) ∧ bm ≠ builtinsNs ∧ s₁.heap.get? bm = some ob ∧ ob.cls = .type "module" ∧ ob.dict = some builtinsNs ∧ ob.data = .plain)
    (ha : s₁.heap.get? a = some { cls := .type "list", data := .seq vs.toArray }) (hi : IntsAre vs ns) (hl : ns.length ≤ sizeLine)
    (F : ∀ (base : Heap) (H : Hp), K.In base → base.Ns mainGlobals mg → LamX.TabB base mg c Pt → H Pt = some (.tbl #[]) → SqL K H a (ns.map V.int) → Env0 P w K mg base callerA [] s₁ H →
      codeAny (model P w) callerA (.call (.ref fa) ⟨[.ref a], []⟩) (CR C8.CX0 [] P w H s₁ (fun v _ => v = .bl true) E0) s₁) :
    codeAny (model P w) callerA (.call (.ref fa) ⟨[.ref a], []⟩) (fun r s' => r = .ok (.ret (.bool true)) ∧ OldK s₁.heap s'.heap ∧ s'.os = s₁.os ∧ AllBare s'.gens) s₁ := by
  have rv := vals_ints hi
  have lenV := hi.length
  have naP : a ≠ Pt := fun z => by rw [z, hT] at ha; cases ha
  -- the abstract heap: the table, and the script where the written part does not hold it
  have core : ∀ H : Hp, H Pt = some (.tbl #[]) → (∀ b, b ≠ Pt → b ≠ a → H b = none) → (H a = none ∨ (K.lookup a = none ∧ H a = some (.frz { cls := .type "list", data := .seq vs.toArray } (.lst (ns.map V.int))))) → SqL K H a (ns.map V.int) →
      codeAny (model P w) callerA (.call (.ref fa) ⟨[.ref a], []⟩) (fun r s' => r = .ok (.ret (.bool true)) ∧ OldK s₁.heap s'.heap ∧ s'.os = s₁.os ∧ AllBare s'.gens) s₁ := by
    intro H hP hN hA hS
    have hok : HOk P w H s₁.heap := fun b u e => by
      by_cases z : b = Pt
      · subst z
        rw [hP] at e
        cases e
        exact hT
      · by_cases z2 : b = a
        · subst z2
          rcases hA with q | ⟨_, q⟩
          · rw [q] at e; cases e
          · rw [q] at e
            cases e
            exact ⟨ha, by rw [List.length_map]; exact hl, vs, _, rv, ha⟩
        · rw [hN b z z2] at e; cases e
    have free : ∀ {b : Addr} {o : Obj}, s₁.heap.get? b = some o → (∀ xs n, o.data ≠ .seq xs n) → o.data ≠ .fields #[] → (hidT s₁.heap H).get? b = some o := fun {b o} e h1 h2 => by
      refine hidT_get e (hN b (fun z => ?_) fun z => ?_)
      · rw [z, hT] at e; cases e; exact h2 rfl
      · rw [z, ha] at e; cases e; exact h1 _ _ rfl
    have nsK : ∀ {b : Addr} {m : Str → Option Value}, s₁.heap.Ns b m → (hidT s₁.heap H).Ns b m := fun {b m} ⟨o, es, ep, e, d, r⟩ =>
      ⟨o, es, ep, free e (fun xs n z => by rw [d] at z; cases z) (fun z => by rw [d] at z; cases z), d, r⟩
    have hKb : K.In (hidT s₁.heap H) := fun b o e => by
      refine hidT_get (KX b o e) ?_
      by_cases z : b = Pt
      · rw [z, nT] at e; cases e
      · by_cases z2 : b = a
        · rcases hA with q | ⟨q, _⟩
          · rw [z2]; exact q
          · rw [z2, q] at e; cases e
        · exact hN b z z2
    have hM : L2.Mod K mg (hidT s₁.heap H) := ⟨hKb, nsK hns, ⟨mb, nsK hb, hbb⟩, let ⟨mc, h1, h2⟩ := hlim; ⟨mc, nsK h1, h2⟩⟩
    have gP : mainGlobals ≠ Pt := fun z => by
      obtain ⟨o, es, ep, e, hd, _⟩ := hns
      rw [z, hT] at e
      cases e
      cases hd
    have TB : LamX.TabB (hidT s₁.heap H) mg c Pt := by
      refine ⟨?_, ?_, gP⟩
      · obtain ⟨o, us, file, tf, flags, tg, inF, text, tt, e1, r1, r2, r3, r⟩ := C
        refine ⟨o, us, file, tf, flags, tg, inF, text, tt, free e1 (fun xs n z => by rw [r2] at z; cases z) (fun z => ?_), r1, r2, r3, r⟩
        rw [r2] at z
        cases z
        simp at r3
      · obtain ⟨bm, ob, b1, b2, b3, b4, b5, b6⟩ := hbm
        have nG : bm ≠ mainGlobals := fun z => by
          obtain ⟨o, es, ep, e, hd, _⟩ := hns
          rw [z, e] at b3
          cases b3
          rw [hd] at b6
          cases b6
        have nP : bm ≠ Pt := fun z => by
          rw [z, hT] at b3
          cases b3
          cases b6
        exact ⟨bm, ob, b1, b2, nG, nP, free b3 (fun xs n z => by rw [b6] at z; cases z) (fun z => by rw [b6] at z; cases z), b4, b5, b6⟩
    have e0 : Env0 P w K mg (hidT s₁.heap H) callerA [] s₁ H := ⟨rfl, hM, fun b o e => of_hidT e, Nat.le_of_eq (hidT_size _ _), trivial, fun b hb => absurd (show b ∈ ([] : List Addr) from hb) (by simp), hok, .of_eq hg⟩
    refine codeAny_mono (F _ H hKb (nsK hns) TB hP hS e0) fun r s' h => ?_
    cases r with
    | error e => exact (show False from h).elim
    | ok fl =>
      cases fl with
      | next => exact False.elim h
      | brk => exact False.elim h
      | cont => exact False.elim h
      | ret u =>
        obtain ⟨v, H', os, bare, un, hok', r', q'⟩ := h
        have q' : v = .bl true := q'
        subst q'
        obtain rfl : u = Value.bool true := r'
        have key : ∀ b o, b ≠ Pt → s₁.heap.get? b = some o → s'.heap.get? b = some o := fun b o nb e => by
          have kept : H b = none → s'.heap.get? b = some o := fun q => un.keep b o e q (by intro z; exact absurd (show b ∈ ([] : List Addr) from z) (by simp)) (by simp)
          by_cases z : b = a
          · rcases hA with q | ⟨_, q⟩
            · exact kept (by rw [z]; exact q)
            · have z2 := un.frzs a _ _ q
              obtain ⟨e2, _⟩ := hok' a _ z2
              rw [z, ha] at e
              cases e
              rw [z]
              exact e2
          · exact kept (hN b nb z)
        obtain ⟨more, zt⟩ := un.tbls Pt #[] hP
        have grown : s'.heap.get? Pt = some { cls := .none, data := .fields (#[] ++ more) } := hok' Pt _ zt
        refine ⟨rfl, ⟨fun b o e => ?_, fun b o e => ?_⟩, os, bare⟩
        · by_cases z : b = Pt
          · rw [z] at e ⊢
            rw [hT] at e
            cases e
            exact .inr (.inl ⟨(C.tab hT).isCodeTable, rfl, #[], more, rfl, grown⟩)
          · exact .inl (key b o z e)
        · by_cases z : b = Pt
          · rw [z]; exact ⟨_, grown⟩
          · exact ⟨o, key b o z e⟩
  cases hk : K.lookup a with
  | some o =>
    have e := KX a o hk
    rw [ha] at e
    cases e
    exact core (fun b => if b = Pt then some (.tbl #[]) else none) (if_pos rfl) (fun b h1 _ => if_neg h1) (.inl (if_neg naP)) (.inr ⟨_, vs.toArray, _, hk, rfl, rfl, rfl, by rw [List.size_toArray, lenV]; exact hl, by simpa using rv⟩)
  | none =>
    have hA : (fun b => if b = Pt then some (HO.tbl #[]) else if b = a then some (HO.frz { cls := .type "list", data := .seq vs.toArray } (.lst (ns.map V.int))) else none) a = some (HO.frz { cls := .type "list", data := .seq vs.toArray } (.lst (ns.map V.int))) := by
      show (if a = Pt then _ else if a = a then _ else _) = _
      rw [if_neg naP, if_pos rfl]
    exact core (fun b => if b = Pt then some (HO.tbl #[]) else if b = a then some (HO.frz { cls := .type "list", data := .seq vs.toArray } (.lst (ns.map V.int))) else none) (if_pos rfl) (fun b h1 h2 => (if_neg h1).trans (if_neg h2)) (.inr ⟨hk, hA⟩) (.inl (.inr ⟨_, hA⟩))
/-- what is known of the law at the head's heap h -/
def LawG (l : PySem.W.OpenLaw) (w : World) (K : PySem.W.Frag) (n : Nat) (mg : Str → Option Value) (fa : Addr) (h : Heap) : Prop :=
  ∃ (c Pt : Addr), h.get? Pt = some { cls := .none, data := .fields #[] } ∧ K.lookup Pt = none ∧ PySem.W.CodeHd h c Pt ∧
    ∀ (base : Heap) (s₁ : Shared) (H : Hp) (a : Addr) (ns : List Int), ns.length ≤ n → K.In base → base.Ns mainGlobals mg → LamX.TabB base mg c Pt → H Pt = some (.tbl #[]) → SqL K H a (ns.map V.int) → Env0 l.prog w K mg base callerA [] s₁ H →
      codeAny (model l.prog w) callerA (.call (.ref fa) ⟨[.ref a], []⟩) (CR C8.CX0 [] l.prog w H s₁ (fun v _ => v = .bl true) E0) s₁
theorem walk_ofG {l : PySem.W.OpenLaw} {n : Nat} {q : Program} {loose : List Str} {XP : (Str → Option Value) → Heap → Prop} {YP : World → Heap → Prop} {d : DefRec}
    (hn : l.most = some n) (hn2 : n ≤ sizeLine) (hdf : d.params.defaults = [])
    (F : ∀ (w : World) (mg : Str → Option Value) (fa : Addr) (h : Heap), YP w h → h.Ns mainGlobals mg → mg d.name = some (.ref fa) → ∃ K : PySem.W.Frag, K.In h ∧ LawG l w K n mg fa h) :
    PySem.W.WalkO q loose XP YP l.row.toRowW d [] (fun f vs => PySem.call f vs) := by
  refine Att.attach_callB hn hdf fun w s₀ s₁ mg mb fa o pm cd doc a vs ns G Y ho hd hcd hmg hobj hints hlen hbits hg => ?_
  obtain ⟨K, KX, c, Pt, hT, nT, C, hF⟩ := F w mg fa _ Y G.T.g hmg
  exact law_callG KX G.T.g G.T.b G.T.builtins G.T.nolimit hg hT nT C G.T.bmain hobj hints (Nat.le_trans hlen hn2) fun base H h1 h2 h3 h4 h5 h6 => hF base s₁ H a ns hlen h1 h2 h3 h4 h5 h6
end Ld
local macro_rules | `(tactic| walk_at "ln") => `(tactic| first | ((refine Ld.ln_and ?_); (intro e _); (cases e); rfl) | ((refine Ld.ln_ex ?_); (intro _); walk_at "ln") | ((intro e); (cases e); rfl))
local macro_rules | `(tactic| walk_at "hp") => `(tactic| (first | (with_reducible assumption) | exact L2.upd_same | ((with_reducible apply Ld.up_old); (focus ((with_reducible assumption); done)); (first | (with_reducible assumption) | exact L2.upd_same | ((with_reducible apply Ld.up_old); (focus ((with_reducible assumption); done)); walk_at "hp") | ((with_reducible apply Ld.same_get); (focus ((with_reducible assumption); done)); walk_at "hp") | ((with_reducible apply Ld.up_ne); (focus ((first | (with_reducible assumption) | ((apply Ne.symm); (with_reducible assumption))); done)); walk_at "hp"))) | ((with_reducible apply Ld.same_get); (focus ((with_reducible assumption); done)); (first | (with_reducible assumption) | exact L2.upd_same | ((with_reducible apply Ld.up_old); (focus ((with_reducible assumption); done)); walk_at "hp") | ((with_reducible apply Ld.same_get); (focus ((with_reducible assumption); done)); walk_at "hp") | ((with_reducible apply Ld.up_ne); (focus ((first | (with_reducible assumption) | ((apply Ne.symm); (with_reducible assumption))); done)); walk_at "hp"))) | ((with_reducible apply Ld.up_ne); (focus ((first | (with_reducible assumption) | ((apply Ne.symm); (with_reducible assumption))); done)); (first | (with_reducible assumption) | exact L2.upd_same | ((with_reducible apply Ld.up_old); (focus ((with_reducible assumption); done)); walk_at "hp") | ((with_reducible apply Ld.same_get); (focus ((with_reducible assumption); done)); walk_at "hp") | ((with_reducible apply Ld.up_ne); (focus ((first | (with_reducible assumption) | ((apply Ne.symm); (with_reducible assumption))); done)); walk_at "hp")))))
local macro_rules | `(tactic| walk_at "nk") => `(tactic| try simp only [Ld.nK, Ld.nMg, Ld.nK2, Ld.nMg2])
local macro_rules | `(tactic| walk_at "go") => `(tactic| repeat (first
  | ((with_reducible apply Ld.go_var); (focus (rfl; done)))
  | with_reducible refine Ld.go_c ?_
  | with_reducible refine Ld.go_op ?_
  | with_reducible refine Ld.go_cons ?_
  | with_reducible refine Ld.go_nil ?_
  | with_reducible refine Ld.go_I0 ?_
  | ((with_reducible apply Ld.go_I); (focus ((first | ((show (_ : Int) < _); omega) | (exact Or.inr ⟨by omega, by omega⟩) | (exact Or.inl ⟨by omega, by omega⟩) | (exact ⟨by omega, by omega⟩) | (exact ⟨by omega, by omega, by omega⟩)); done)))
  | with_reducible refine Ld.go_fld ?_
  | ((with_reducible apply Ld.go_fldx); (focus (walk_at "hp"; done)); (focus ((with_reducible assumption); done)); (focus ((with_reducible assumption); done)); (focus ((first | rfl | (with_reducible assumption)); done)))
  | with_reducible refine Ld.go_exbl ?_
  | with_reducible refine Ld.go_test ?_
  | with_reducible refine Ld.go_B ?_
  | with_reducible refine Ld.go_CB ?_
  | with_reducible refine Ld.go_F ?_
  | with_reducible refine Ld.go_M ?_
  | with_reducible refine Ld.go_N ?_
  | with_reducible refine Ld.go_NK ?_
  | ((with_reducible apply Ld.go_Mx); (focus (walk_at "hp"; done)); (focus ((first | rfl | (with_reducible assumption)); done)))
  | with_reducible refine Ld.go_seq ?_
  | ((with_reducible refine Ld.go_nx ?_); with_reducible conv => whnf)
  | ((with_reducible refine Ld.go_ct ?_); with_reducible conv => whnf)
  | ((with_reducible refine Ld.go_rt ?_); with_reducible conv => whnf)
  | ((with_reducible refine Ld.go_bk ?_); with_reducible conv => whnf)
  | with_reducible refine Ld.go_next ?_
  | with_reducible refine Ld.go_asgN ?_
  | with_reducible refine Ld.go_ret ?_
  | with_reducible refine Ld.go_retN ?_
  | with_reducible refine Ld.go_drop ?_
  | with_reducible refine Ld.go_ifS ?_
  | with_reducible refine Ld.go_and ?_
  | with_reducible refine Ld.go_or ?_
  | with_reducible refine Ld.go_not ?_
  | with_reducible refine Ld.go_andV ?_
  | with_reducible refine Ld.go_orV ?_
  | with_reducible refine Ld.go_notV ?_
  | with_reducible refine Ld.go_if ?_
  | with_reducible refine Ld.go_yes ?_
  | ((with_reducible apply Ld.go_eq); (focus (rfl; done)))
  | ((with_reducible apply Ld.go_ne); (focus (rfl; done)))
  | with_reducible refine Ld.go_isN ?_
  | with_reducible refine Ld.go_notN ?_
  | ((with_reducible apply Ld.go_ifT); (focus ((first | rfl | (with_reducible assumption) | ((simp only [decide_eq_true_eq, decide_eq_false_iff_not, Bool.not_eq_true', Bool.not_eq_false', Bool.not_not, List.length_map]); (first | (with_reducible assumption) | omega))); done)))
  | ((with_reducible apply Ld.go_ifF); (focus ((first | rfl | (with_reducible assumption) | ((simp only [decide_eq_true_eq, decide_eq_false_iff_not, Bool.not_eq_true', Bool.not_eq_false', Bool.not_not, List.length_map]); (first | (with_reducible assumption) | omega))); done)))
  | with_reducible refine Ld.go_chain ?_
  | with_reducible refine Ld.go_tup ?_
  | with_reducible refine Ld.go_lst ?_
  | ((with_reducible apply Ld.go_small); (focus (rfl; done)))
  | with_reducible refine Ld.go_isInt ?_
  | with_reducible refine Ld.go_isBool ?_
  | with_reducible refine Ld.go_isStr ?_
  | ((with_reducible apply Ld.go_isTup); (focus (walk_at "hp"; done)))
  | ((with_reducible apply Ld.go_isLT); (focus (walk_at "hp"; done)); (focus (walk_at "hp"; done)))
  | ((with_reducible apply Ld.go_isC); (focus (walk_at "hp"; done)))
  | with_reducible refine Ld.go_con ?_
  | ((with_reducible apply Ld.go_conx); (focus (walk_at "hp"; done)); (focus ((with_reducible assumption); done)); (focus ((with_reducible assumption); done)); (focus ((first | rfl | (with_reducible assumption)); done)))
  | ((with_reducible apply Ld.go_setLx); (focus (walk_at "hp"; done)); (focus (rfl; done)))
  | ((with_reducible apply Ld.go_ixL); (focus (walk_at "hp"; done)); (focus ((first | rfl | (with_reducible assumption)); done)))
  | ((with_reducible apply Ld.go_ixT); (focus (walk_at "hp"; done)); (focus ((first | rfl | (with_reducible assumption)); done)))
  | ((with_reducible apply Ld.go_lenL); (focus (walk_at "hp"; done)))
  | ((with_reducible apply Ld.go_lenT); (focus (walk_at "hp"; done)))
  | ((with_reducible apply Ld.go_lenS); (focus ((with_reducible assumption); done)))
  | ((with_reducible apply Ld.go_lenD); (focus (walk_at "hp"; done)))
  | ((with_reducible apply Ld.go_all); (focus (walk_at "hp"; done)))
  | ((with_reducible apply Ld.go_any); (focus (walk_at "hp"; done)))
  | ((with_reducible apply Ld.go_list); (focus (walk_at "hp"; done)))
  | ((with_reducible apply Ld.go_tuple); (focus (walk_at "hp"; done)))
  | ((with_reducible apply Ld.go_inS); (focus (walk_at "hp"; done)))
  | ((with_reducible apply Ld.go_niS); (focus (walk_at "hp"; done)))
  | ((with_reducible apply Ld.go_wipe); (focus (rfl; done)))
  | with_reducible refine Ld.go_sign ?_
  | ((with_reducible apply Ld.go_loc); (focus ((with_reducible assumption); done)); (focus (rfl; done)))
  | with_reducible refine Ld.go_sl ?_
  | with_reducible refine Ld.go_slN ?_
  | with_reducible refine Ld.go_slP ?_
  | with_reducible refine Ld.go_exint ?_
  | ((with_reducible apply Ld.go_slL); (focus (walk_at "hp"; done)))
  | with_reducible refine Ld.go_BM ?_
  | ((with_reducible apply Ld.go_tyL); (focus (walk_at "hp"; done)))
  | ((with_reducible apply Ld.go_gT); (focus (walk_at "hp"; done)); (focus (rfl; done)))
  | ((with_reducible apply Ld.go_gL); (focus (walk_at "hp"; done)); (focus (rfl; done)))
  | with_reducible refine Ld.go_gC ?_
  | with_reducible refine Ld.go_gN ?_
  | with_reducible refine Ld.go_gZ ?_
  | with_reducible refine Ld.go_asg ?_
  | with_reducible refine Ld.go_par ?_
  | with_reducible refine Ld.go_par2 ?_
  | with_reducible refine Ld.go_dget ?_
  | ((with_reducible apply Ld.go_dgetI); (focus (walk_at "hp"; done)); (focus ((with_reducible assumption); done)))
  | ((with_reducible apply Ld.go_oI); (focus (walk_at "hp"; done)); (focus ((with_reducible assumption); done)))
  | ((with_reducible apply Ld.go_oK); (focus (walk_at "hp"; done)); (focus ((with_reducible assumption); done)))
  | ((with_reducible apply Ld.go_dputP); (focus (walk_at "hp"; done)); (focus (walk_at "hp"; done)); (focus ((first | (with_reducible assumption) | ((refine Ld.szl ?_); (simp only [List.length_map, List.length_cons, List.length_nil, List.length_append]); omega)); done)))
  | ((with_reducible apply Ld.go_dgetP); (focus (walk_at "hp"; done)); (focus (walk_at "hp"; done)); (focus ((with_reducible assumption); done)))
  | ((with_reducible apply Ld.go_dgetPf); (focus (walk_at "hp"; done)); (focus (walk_at "hp"; done)); (focus ((with_reducible assumption); done)))
  | with_reducible refine Ld.go_dcTL ?_
  | with_reducible refine Ld.go_CKw ?_
  | ((with_reducible apply Ld.go_minDef); (focus (walk_at "hp"; done)))
  | ((with_reducible apply Ld.go_dputI); (focus (walk_at "hp"; done)); (focus ((with_reducible assumption); done)))
  | ((with_reducible apply Ld.go_dputx); (focus (walk_at "hp"; done)); (focus ((first | (with_reducible assumption) | ((refine Ld.szl ?_); (simp only [List.length_map, List.length_cons, List.length_nil, List.length_append]); omega)); done)))
  | ((with_reducible apply Ld.go_setD); (focus (walk_at "hp"; done)); (focus ((first | (with_reducible assumption) | ((refine Ld.szl ?_); (simp only [List.length_map, List.length_cons, List.length_nil, List.length_append]); omega)); done)))
  | ((with_reducible apply Ld.go_getO); (focus (walk_at "hp"; done)); (focus ((with_reducible assumption); done)))
  | ((with_reducible apply Ld.go_dgetx); (focus (walk_at "hp"; done)); (focus ((first | rfl | (with_reducible assumption)); done)))
  | with_reducible refine Ld.go_din ?_
  | with_reducible refine Ld.go_dnin ?_
  | with_reducible refine Ld.go_sfld ?_
  | ((with_reducible apply Ld.go_sfldx); (focus (walk_at "hp"; done)); (focus ((with_reducible assumption); done)); (focus ((with_reducible assumption); done)); (focus (exact Nat.le_of_ble_eq_true rfl; done)))
  | with_reducible refine Ld.go_dput ?_
  | with_reducible refine Ld.go_gsub ?_
  | with_reducible refine Ld.go_un ?_
  | with_reducible refine Ld.go_U ?_
  | with_reducible refine Ld.go_pr ?_
  | ((with_reducible apply Ld.go_prx); (focus (walk_at "hp"; done)))
  | with_reducible refine Ld.go_gi ?_
  | ((with_reducible apply Ld.go_gix); (focus (walk_at "hp"; done)))
  | ((with_reducible apply Ld.go_rin); (focus (walk_at "hp"; done)))
  | ((with_reducible apply Ld.go_rni); (focus (walk_at "hp"; done)))
  | ((with_reducible apply Ld.go_rand); (focus (walk_at "hp"; done)); (focus (walk_at "hp"; done)))
  | ((with_reducible apply Ld.go_app); (focus (walk_at "hp"; done)); (focus ((first | (with_reducible assumption) | ((refine Ld.szl ?_); (simp only [List.length_map, List.length_cons, List.length_nil, List.length_append]); omega)); done)))
  | ((with_reducible apply Ld.go_ext); (focus (walk_at "hp"; done)); (focus (walk_at "hp"; done)); (focus ((first | (with_reducible assumption) | ((refine Ld.sz ?_); (simp only [List.length_map, List.length_cons, List.length_nil, List.length_append]); omega)); done)))
  | ((with_reducible apply Ld.go_cat); (focus (walk_at "hp"; done)); (focus (walk_at "hp"; done)); (focus ((first | (with_reducible assumption) | ((refine Ld.sz ?_); (simp only [List.length_map, List.length_cons, List.length_nil, List.length_append]); omega)); done)))
  | with_reducible refine Ld.go_forL ?_
  | with_reducible refine Ld.go_forT ?_
  | with_reducible refine Ld.go_forE ?_
  | with_reducible refine Ld.go_forR ?_
  | with_reducible refine Ld.go_lcL ?_
  | with_reducible refine Ld.go_lcT ?_
  | with_reducible refine Ld.go_lcS ?_
  | with_reducible refine Ld.go_lcR2 ?_
  | with_reducible refine Ld.go_lcR1 ?_
  | with_reducible refine Ld.go_dcL ?_
  | with_reducible refine Ld.go_int1 ?_
  | with_reducible refine Ld.go_abs ?_
  | with_reducible refine Ld.go_max2 ?_
  | with_reducible refine Ld.go_min2 ?_
  | with_reducible refine Ld.go_dnewK ?_
  | with_reducible refine Ld.go_listVals ?_
  | ((with_reducible apply Ld.go_listVx); (focus (walk_at "hp"; done)))
  | ((with_reducible apply Ld.go_listDK); (focus (walk_at "hp"; done)))
  | with_reducible refine Ld.go_dnewT ?_
  | with_reducible refine Ld.go_disp ?_
  | with_reducible refine Ld.go_prn ?_
  | with_reducible refine Ld.go_prc ?_
  | with_reducible refine Ld.go_dget2 ?_
  | ((with_reducible apply Ld.go_isD); (focus (walk_at "hp"; done)))
  | with_reducible refine Ld.go_exref ?_))
namespace Ld
open PySem PySem.Spec PyProof.Rows L2
def NameS (s : Str) : Prop := 1 ≤ s.length ∧ s.length ≤ 6 ∧ (∀ c ∈ s.cps.toList, c ∈ LETS.cps.toList) ∧ s ≠ dayS
def MomS (s : Str) : Prop := NameS s ∨ s = dayS
theorem Ok.of_lets {s : Str} (h : ∀ c ∈ s.cps.toList, c ∈ LETS.cps.toList) : Ok s := by
  have k : ∀ c ∈ LETS.cps.toList, c < 0x110000 := by decide
  show s.cps.all (· < 0x110000) = true
  rw [← Array.all_toList, List.all_eq_true]
  intro c hc
  exact decide_eq_true (k c (h c hc))
theorem NameS.ok {s : Str} (h : NameS s) : Ok s := .of_lets h.2.2.1
theorem MomS.ok {s : Str} (h : MomS s) : Ok s := by
  rcases h with h | rfl
  · exact h.ok
  · decide +kernel
theorem NameS.ne {s : Str} (h : NameS s) : V.str s ≠ V.str dayS := fun z => h.2.2.2 (by cases z; rfl)
def sp_is_integer (K : PySem.W.Frag) (mg : Str → Option Value) : Sp := fun vs H Q _ => ∃ i : Int, vs = [.int i] ∧ Q (.bl true) H
def sp_is_count (K : PySem.W.Frag) (mg : Str → Option Value) : Sp := fun vs H Q _ => ∃ i : Int, vs = [.int i] ∧ 0 ≤ i ∧ Q (.bl true) H
def sp_is_list (K : PySem.W.Frag) (mg : Str → Option Value) : Sp := fun vs H Q _ => ∃ a xs, vs = [.ref a] ∧ H a = some (.lst xs) ∧ ∀ H', Same H H' → Q (.bl true) H'
def sp_is_name (K : PySem.W.Frag) (mg : Str → Option Value) : Sp := fun vs H Q _ => ∃ s : Str, vs = [.str s] ∧ ((NameS s ∧ ∀ H', Same H H' → Q (.bl true) H') ∨ (s = dayS ∧ Q (.bl false) H))
def sp_is_moment (K : PySem.W.Frag) (mg : Str → Option Value) : Sp := fun vs H Q _ => ∃ s : Str, vs = [.str s] ∧ MomS s ∧ ∀ H', Same H H' → Q (.bl true) H'
def sp_is_point (K : PySem.W.Frag) (mg : Str → Option Value) : Sp := fun vs H Q _ => ∃ (p : Addr) (m : Str) (n : Int), vs = [.ref p] ∧ H p = some (.tup [.str m, .int n]) ∧ MomS m ∧ ∀ H', Same H H' → Q (.bl true) H'
def sp_is_clause (K : PySem.W.Frag) (mg : Str → Option Value) : Sp := fun vs H Q _ => ∃ (p : Addr) (c : Clause), vs = [.ref p] ∧ H p = some (.tup [.str c.1, .str c.2.1, .int c.2.2]) ∧ MomS c.1 ∧ MomS c.2.1 ∧ c.1 ≠ c.2.1 ∧ ∀ H', Same H H' → Q (.bl true) H'
def sp_wrong_name (K : PySem.W.Frag) (mg : Str → Option Value) : Sp := fun vs H Q _ => ∃ (a f : Addr) (ss : List Str), vs = [.ref a, .ref f] ∧ mg "is_name" = some (.ref f) ∧ H a = some (.lst (ss.map V.str)) ∧ (∀ s ∈ ss, NameS s) ∧ ss.Nodup ∧ ∀ H', Same H H' → Q .non H'
section
variable {P : Program} {w : World} {K : PySem.W.Frag} {mg : Str → Option Value} {base : Heap}
def s_is_integer : Stmt := top 5
abbrev N_is_integer : List Str := ["value"]
theorem sc_is_integer : FnScope N_is_integer ["value"] (defScope s_is_integer) := C8.fnScope_by (by decide +kernel)
theorem ok_is_integer {f : Addr} {fd : FuncData} (T : Tx K mg) (F : DefAt K "is_integer" "is_integer" s_is_integer f fd) (hm : mg "is_integer" = some (.ref f)) : Cf P w K mg base 1 "is_integer" (sp_is_integer K mg) := by
  refine cal_mk F hm sc_is_integer (fun vs H Q E => ?_) (fun _ _ _ _ _ _ us hl => match us, hl with | [_], _ => rfl) (fun cdv A outer s H vs Q E hr h => ?_)
  · walk_at "ln"
  · obtain ⟨i, rfl, h⟩ := h
    refine ⟨_, (pss_one (ps_ret (pe_and (pe_callB call_isi (by rfl) T.f_isinstance (by decide +kernel) (pa_cons (pv 0) (pa_cons (pe_bltn (v := .ty "int") (by rfl) T.f_int (by decide +kernel) rfl) pa_nil))) (pe_one (pe_not (pe_callB call_isi (by rfl) T.f_isinstance (by decide +kernel) (pa_cons (pv 0) (pa_cons (pe_bltn (v := .ty "bool") (by rfl) T.f_bool (by decide +kernel) rfl) pa_nil)))))))), ?_⟩
    walk_at "nk"
    walk_at "go"
    exact h
def s_is_count : Stmt := top 6
abbrev N_is_count : List Str := ["value"]
theorem sc_is_count : FnScope N_is_count ["value"] (defScope s_is_count) := C8.fnScope_by (by decide +kernel)
theorem ok_is_count {f : Addr} {fd : FuncData} (T : Tx K mg) (F : DefAt K "is_count" "is_count" s_is_count f fd) (hm : mg "is_count" = some (.ref f)) (c_is_integer : Cf P w K mg base 1 "is_integer" (sp_is_integer K mg)) : Cf P w K mg base 2 "is_count" (sp_is_count K mg) := by
  refine cal_mk F hm sc_is_count (fun vs H Q E => ?_) (fun _ _ _ _ _ _ us hl => match us, hl with | [_], _ => rfl) (fun cdv A outer s H vs Q E hr h => ?_)
  · walk_at "ln"
  · obtain ⟨i, rfl, h0, h⟩ := h
    refine ⟨_, (pss_one (ps_ret (pe_and (pe_f c_is_integer hr (by decide) (by rfl) (pa_cons (pv 0) pa_nil)) (pe_one (pe_cmpR op_ge (pv 0) pe_int (nomark _)))))), ?_⟩
    walk_at "nk"
    walk_at "go"
    refine ⟨_, rfl, ?_⟩
    walk_at "go"
    rw [decide_eq_true h0]
    exact h
def s_is_list : Stmt := top 7
abbrev N_is_list : List Str := ["value"]
theorem sc_is_list : FnScope N_is_list ["value"] (defScope s_is_list) := C8.fnScope_by (by decide +kernel)
theorem ok_is_list {f : Addr} {fd : FuncData} (T : Tx K mg) (F : DefAt K "is_list" "is_list" s_is_list f fd) (hm : mg "is_list" = some (.ref f)) : Cf P w K mg base 1 "is_list" (sp_is_list K mg) := by
  refine cal_mk F hm sc_is_list (fun vs H Q E => ?_) (fun _ _ _ _ _ _ us hl => match us, hl with | [_], _ => rfl) (fun cdv A outer s H vs Q E hr h => ?_)
  · walk_at "ln"
  · obtain ⟨a, xs, rfl, ea, h⟩ := h
    refine ⟨_, (pss_one (ps_ret (pe_callB call_isiT (by rfl) T.f_isinstance (by decide +kernel) (pa_cons (pv 0) (pa_cons (pe_tup (pa_cons (pe_bltn (v := .ty "list") (by rfl) T.f_list (by decide +kernel) rfl) (pa_cons (pe_bltn (v := .ty "tuple") (by rfl) T.f_tuple (by decide +kernel) rfl) pa_nil))) pa_nil))))), ?_⟩
    walk_at "nk"
    walk_at "go"
    intro p hp
    walk_at "go"
    exact h _ (same_new hp)
def s_is_name : Stmt := top 8
abbrev N_is_name : List Str := ["value", "letter"]
theorem sc_is_name : FnScope N_is_name ["value"] (defScope s_is_name) := C8.fnScope_by (by decide +kernel)
theorem ok_is_name {f : Addr} {fd : FuncData} (T : Tx K mg) (F : DefAt K "is_name" "is_name" s_is_name f fd) (hm : mg "is_name" = some (.ref f)) : Cf P w K mg base 1 "is_name" (sp_is_name K mg) := by
  refine cal_mk F hm sc_is_name (fun vs H Q E => ?_) (fun _ _ _ _ _ _ us hl => match us, hl with | [_], _ => rfl) (fun cdv A outer s H vs Q E hr h => ?_)
  · walk_at "ln"
  · obtain ⟨s, rfl, h⟩ := h
    refine ⟨_, (pss_cons (ps_if (PW.pt (pw_or (pt_not (pt_val (pe_callB call_isi (by rfl) T.f_isinstance (by decide +kernel) (pa_cons (pv 0) (pa_cons (pe_bltn (v := .ty "str") (by rfl) T.f_str (by decide +kernel) rfl) pa_nil))))) (pw_or (pt_not (pt_chain op_le op_le pe_int (pe_callB cr_lenS (by rfl) T.f_len (by decide +kernel) (pa_cons (pv 0) pa_nil)) (C8.pe_gc (by rfl) T.g_MOST_LETTERS))) (pw_or1 (pt_cmpR op_eq (pv 0) (C8.pe_gc (by rfl) T.g_ZERO) (nomark _)))))) (pss_one (ps_ret pe_bl)) pss_nil)
      (pss_one (ps_ret (pe_callB (cr_all rfl) (by rfl) T.f_all (by decide +kernel) (pa_cons (pe_lc (own := [("letter", 1)]) rfl sc_is_name.nd (pi_str (pv 0)) (blkOk_by (own := [("letter", 1)]) (N := N_is_name) (sc := defScope s_is_name) (by decide +kernel)) (fun _ _ _ _ _ => (pg_name (i := 1) sc_is_name.nd rfl (Or.inl rfl))) (fun _ _ _ _ _ => pts_nil) (fun _ _ _ _ _ => (pe_cmpR op_sign (pv 1) (C8.pe_gc (by rfl) T.g_LETTERS) (by rfl))) ) pa_nil))))), ?_⟩
    walk_at "nk"
    rcases h with ⟨⟨h1, h2, h3, h4⟩, h⟩ | ⟨rfl, h⟩
    · have sz : s.length ≤ sizeLine := Nat.le_trans h2 (by decide)
      have h5 : V.str s ≠ V.str dayS := fun z => h4 (by cases z; rfl)
      walk_at "go"
      refine lcS (fun c => some true) (fun _ v b => v = .bl b) (fun _ _ _ _ _ h => h) (Nat.lt_of_le_of_lt h2 (by decide)) (fun c H' hc sm => ?_) (fun D H' ys hD sm eD al => ?_)
      · intro Qo Qn ho hn
        walk_at "go"
        exact ho true _ _ rfl (Same.refl' _) (by rw [decide_eq_true (h3 c hc)])
      · have e := All2.eq_map al
        subst e
        walk_at "go"
        rw [show (List.filterMap (fun c => some true) s.cps.toList).all id = true from by simp]
        exact h _ sm
    · have sz : dayS.length ≤ sizeLine := by decide
      walk_at "go"
      exact h
def s_is_moment : Stmt := top 9
abbrev N_is_moment : List Str := ["value"]
theorem sc_is_moment : FnScope N_is_moment ["value"] (defScope s_is_moment) := C8.fnScope_by (by decide +kernel)
theorem ok_is_moment {f : Addr} {fd : FuncData} (T : Tx K mg) (F : DefAt K "is_moment" "is_moment" s_is_moment f fd) (hm : mg "is_moment" = some (.ref f)) (c_is_name : Cf P w K mg base 1 "is_name" (sp_is_name K mg)) : Cf P w K mg base 2 "is_moment" (sp_is_moment K mg) := by
  refine cal_mk F hm sc_is_moment (fun vs H Q E => ?_) (fun _ _ _ _ _ _ us hl => match us, hl with | [_], _ => rfl) (fun cdv A outer s H vs Q E hr h => ?_)
  · walk_at "ln"
  · obtain ⟨s, rfl, hs, h⟩ := h
    refine ⟨_, (pss_one (ps_ret (pe_or (pe_f c_is_name hr (by decide) (by rfl) (pa_cons (pv 0) pa_nil)) (pe_one (pe_and (pe_callB call_isi (by rfl) T.f_isinstance (by decide +kernel) (pa_cons (pv 0) (pa_cons (pe_bltn (v := .ty "str") (by rfl) T.f_str (by decide +kernel) rfl) pa_nil))) (pe_one (pe_cmpR op_eq (pv 0) (C8.pe_gc (by rfl) T.g_ZERO) (nomark _)))))))), ?_⟩
    walk_at "nk"
    walk_at "go"
    rcases hs with hs | rfl
    · refine ⟨_, rfl, .inl ⟨hs, fun H' sm => ?_⟩⟩
      walk_at "go"
      exact h _ sm
    · refine ⟨_, rfl, .inr ⟨rfl, ?_⟩⟩
      walk_at "go"
      exact h _ (Same.refl' _)
def s_is_point : Stmt := top 10
abbrev N_is_point : List Str := ["value"]
theorem sc_is_point : FnScope N_is_point ["value"] (defScope s_is_point) := C8.fnScope_by (by decide +kernel)
theorem ok_is_point {f : Addr} {fd : FuncData} (T : Tx K mg) (F : DefAt K "is_point" "is_point" s_is_point f fd) (hm : mg "is_point" = some (.ref f)) (c_is_integer : Cf P w K mg base 1 "is_integer" (sp_is_integer K mg)) (c_is_moment : Cf P w K mg base 2 "is_moment" (sp_is_moment K mg)) : Cf P w K mg base 3 "is_point" (sp_is_point K mg) := by
  refine cal_mk F hm sc_is_point (fun vs H Q E => ?_) (fun _ _ _ _ _ _ us hl => match us, hl with | [_], _ => rfl) (fun cdv A outer s H vs Q E hr h => ?_)
  · walk_at "ln"
  · obtain ⟨p, m, n, rfl, ep, hs, h⟩ := h
    refine ⟨_, (pss_one (ps_ret (pe_and (pe_callB call_isi (by rfl) T.f_isinstance (by decide +kernel) (pa_cons (pv 0) (pa_cons (pe_bltn (v := .ty "tuple") (by rfl) T.f_tuple (by decide +kernel) rfl) pa_nil))) (pe_and (pe_cmpR op_eq (pe_callB cr_len (by rfl) T.f_len (by decide +kernel) (pa_cons (pv 0) pa_nil)) pe_int (nomark _)) (pe_and (pe_f c_is_moment hr (by decide) (by rfl) (pa_cons (pe_ix ix_tup (pv 0) pe_int (fun _ _ => rfl)) pa_nil)) (pe_one (pe_f c_is_integer hr (by decide) (by rfl) (pa_cons (pe_ix ix_tup (pv 0) pe_int (fun _ _ => rfl)) pa_nil)))))))), ?_⟩
    walk_at "nk"
    walk_at "go"
    refine ⟨_, rfl, hs, fun H' sm => ?_⟩
    walk_at "go"
    refine ⟨_, rfl, ?_⟩
    exact h _ sm
def s_is_clause : Stmt := top 11
abbrev N_is_clause : List Str := ["value"]
theorem sc_is_clause : FnScope N_is_clause ["value"] (defScope s_is_clause) := C8.fnScope_by (by decide +kernel)
theorem ok_is_clause {f : Addr} {fd : FuncData} (T : Tx K mg) (F : DefAt K "is_clause" "is_clause" s_is_clause f fd) (hm : mg "is_clause" = some (.ref f)) (c_is_integer : Cf P w K mg base 1 "is_integer" (sp_is_integer K mg)) (c_is_moment : Cf P w K mg base 2 "is_moment" (sp_is_moment K mg)) : Cf P w K mg base 3 "is_clause" (sp_is_clause K mg) := by
  refine cal_mk F hm sc_is_clause (fun vs H Q E => ?_) (fun _ _ _ _ _ _ us hl => match us, hl with | [_], _ => rfl) (fun cdv A outer s H vs Q E hr h => ?_)
  · walk_at "ln"
  · obtain ⟨p, c, rfl, ep, h1, h2, h3, h⟩ := h
    refine ⟨_, (pss_cons (ps_if (PW.pt (pw_or (pt_not (pt_val (pe_callB call_isi (by rfl) T.f_isinstance (by decide +kernel) (pa_cons (pv 0) (pa_cons (pe_bltn (v := .ty "tuple") (by rfl) T.f_tuple (by decide +kernel) rfl) pa_nil))))) (pw_or (pt_cmpR op_ne (pe_callB cr_len (by rfl) T.f_len (by decide +kernel) (pa_cons (pv 0) pa_nil)) pe_int (nomark _)) (pw_or1 (pt_not (pt_val (pe_f c_is_integer hr (by decide) (by rfl) (pa_cons (pe_ix ix_tup (pv 0) pe_int (fun _ _ => rfl)) pa_nil)))))))) (pss_one (ps_ret pe_bl)) pss_nil)
      (pss_one (ps_ret (pe_and (pe_f c_is_moment hr (by decide) (by rfl) (pa_cons (pe_ix ix_tup (pv 0) pe_int (fun _ _ => rfl)) pa_nil)) (pe_and (pe_f c_is_moment hr (by decide) (by rfl) (pa_cons (pe_ix ix_tup (pv 0) pe_int (fun _ _ => rfl)) pa_nil)) (pe_one (pe_cmpR op_ne (pe_ix ix_tup (pv 0) pe_int (fun _ _ => rfl)) (pe_ix ix_tup (pv 0) pe_int (fun _ _ => rfl)) (nomark _)))))))), ?_⟩
    walk_at "nk"
    have h4 : V.str c.1 ≠ V.str c.2.1 := fun z => h3 (V.str.inj z)
    walk_at "go"
    refine ⟨_, rfl, ?_⟩
    walk_at "go"
    refine ⟨_, rfl, h1, fun H1 s1 => ?_⟩
    walk_at "go"
    refine ⟨_, rfl, h2, fun H2 s2 => ?_⟩
    walk_at "go"
    rw [decide_eq_false h4]
    exact h _ (Same.trans' s1 s2)
def s_wrong_name : Stmt := top 13
abbrev N_wrong_name : List Str := ["names", "is_right", "position", "name"]
theorem sc_wrong_name : FnScope N_wrong_name ["names", "is_right"] (defScope s_wrong_name) := C8.fnScope_by (by decide +kernel)
theorem ok_wrong_name {f : Addr} {fd : FuncData} (T : Tx K mg) (F : DefAt K "wrong_name" "wrong_name" s_wrong_name f fd) (hm : mg "wrong_name" = some (.ref f)) (c_is_name : Cf P w K mg base 1 "is_name" (sp_is_name K mg)) : Cf P w K mg base 2 "wrong_name" (sp_wrong_name K mg) := by
  refine cal_mk F hm sc_wrong_name (fun vs H Q E => ?_) (fun _ _ _ _ _ _ us hl => match us, hl with | [_, _], _ => rfl) (fun cdv A outer s H vs Q E hr h => ?_)
  · walk_at "ln"
  · obtain ⟨a, f, ss, rfl, hf, ea, h1, h2, h⟩ := h
    refine ⟨_, (pss_cons (ps_for PassesOwn.never rfl (pi_enum (by rfl) T.f_enumerate (pa_cons (pv 0) pa_nil)) (pg_tup (n := 2) rfl (pgs_cons (pg_name (i := 2) sc_wrong_name.nd rfl (Or.inl rfl)) (pgs_cons (pg_name (i := 3) sc_wrong_name.nd rfl (Or.inl rfl)) pgs_nil))) (pss_one (ps_if (PW.pt (pw_or (pt_not (pt_val (pe_loc (i := 1) c_is_name hr (by decide) rfl (by first | exact Or.inl rfl | exact Or.inr (Or.inl rfl) | exact Or.inr (Or.inr rfl)) (pa_cons (pv 3) pa_nil)))) (pw_or1 (pt_cmpR op_in_seq (pv 3) (pe_slice sl_list (pv 0) po_none (po_some (pv 2))) (by rfl))))) (pss_one (ps_ret (pv 2))) pss_nil)))
      (pss_one (ps_ret pe_non))), ?_⟩
    walk_at "nk"
    walk_at "go"
    refine forE (All2.raw V.str ss) (fun d σ H' => (∃ x y, σ = [some (.ref a), some (.ref f), x, y]) ∧ Same H H') ⟨⟨_, _, rfl⟩, Same.refl' _⟩ (fun d σ H' p => p.2 _ _ ea) (fun d c r x σ H1 T e ex ei p hT => ?_) (fun σ H1 p => ?_)
    · obtain ⟨⟨x1, y1, rfl⟩, sm⟩ := p
      subst ex
      walk_at "go"
      refine ⟨c, rfl, .inl ⟨h1 c (by simp [e]), fun H2 s2 => ?_⟩⟩
      have ea2 := s2 _ _ (up_old hT (sm _ _ ea))
      have nd : ¬ c ∈ List.take d.length ss := by
        rw [e, List.take_left]
        rw [e, List.nodup_append] at h2
        exact fun z => h2.2.2 c z c (by simp) rfl
      walk_at "go"
      intro p hp
      rw [cutV_take, ← List.map_take]
      walk_at "go"
      exact ⟨⟨_, _, rfl⟩, Same.trans' sm (Same.trans' (same_new hT) (Same.trans' s2 (same_new hp)))⟩
    · obtain ⟨⟨x1, y1, rfl⟩, sm⟩ := p
      walk_at "go"
      exact h _ sm
end
end Ld
namespace Ld
open PySem PySem.Spec PyProof.Rows L2
/-! ### pots of digits: what is drawn is any small number -/
section
variable {H : Hp} {Q : VK} {v : V} {i j : Int} {K : PySem.W.Frag}
def rInt1 : List V → Hp → VK → Prop := fun xs H Q => (∃ k, xs = [V.int k] ∧ Q (.int k) H) ∨ ∃ k, xs = [V.bl k] ∧ Q (.int (if k then 1 else 0)) H
theorem cr_int1 {X : Cx} : CallR X (.type "int") rInt1 := call_int1
theorem go_int1 (q : Q (.int i) H) : rInt1 [.int i] H Q := .inl ⟨i, rfl, q⟩
def rAbs : List V → Hp → VK → Prop := fun xs H Q => ∃ k, xs = [V.int k] ∧ Q (.int (if k < 0 then -k else k)) H
theorem cr_abs {X : Cx} : CallR X (.builtin "abs") rAbs := call_abs
theorem go_abs (q : Q (.int (if i < 0 then -i else i)) H) : rAbs [.int i] H Q := ⟨i, rfl, q⟩
def rMax2 : List V → Hp → VK → Prop := fun xs H Q => ∃ a b, xs = [V.int a, V.int b] ∧ Q (.int (if b > a then b else a)) H
theorem cr_max2 {X : Cx} (hc : X.calm = true) : CallR X (.builtin "max") rMax2 := call_max2 hc
theorem go_max2 (q : Q (.int (if j > i then j else i)) H) : rMax2 [.int i, .int j] H Q := ⟨i, j, rfl, q⟩
def rMin2 : List V → Hp → VK → Prop := fun xs H Q => ∃ a b, xs = [V.int a, V.int b] ∧ Q (.int (if b < a then b else a)) H
theorem cr_min2 {X : Cx} (hc : X.calm = true) : CallR X (.builtin "min") rMin2 := call_min2 hc
theorem go_min2 (q : Q (.int (if j < i then j else i)) H) : rMin2 [.int i, .int j] H Q := ⟨i, j, rfl, q⟩
def rDivmod : List V → Hp → VK → Prop := fun xs H Q => ∃ a b, xs = [V.int a, V.int b] ∧ CDiv a b ∧ ∀ p, H p = none → Q (.ref p) (upd H p (.tup [.int (a / b), .int (a % b)]))
theorem cr_divmod {X : Cx} : CallR X (.builtin "divmod") rDivmod := call_divmod
theorem go_divmod (h1 : 0 < j) (h2 : j < 1073741824) (q : ∀ p, H p = none → Q (.ref p) (upd H p (.tup [.int (i / j), .int (i % j)]))) : rDivmod [.int i, .int j] H Q := ⟨i, j, rfl, ⟨h1, h2⟩, q⟩
theorem atI_nat {α : Type} (xs : List α) (i : Nat) : atI xs (i : Int) = xs[i]? := by
  unfold atI ixN
  rw [if_pos (Int.natCast_nonneg i)]
  by_cases h : i < xs.length
  · rw [if_pos (by omega)]
    simp
  · rw [if_neg (by omega), List.getElem?_eq_none (by omega)]
    rfl
theorem go_setL {p : Addr} {xs : List V} {k : Int} {n : Nat} {R : Hp → Prop} (h : H p = some (.lst xs)) (hn : ixN xs.length k = some n) (q : R (upd H p (.lst (xs.set n v)))) : rSetL (.ref p) (.int k) v H R := ⟨p, xs, k, n, rfl, rfl, h, hn, q⟩
end
section
variable {H : Hp} {v : V}
theorem go_setLx {p : Addr} {xs : List V} {k : Int} {n : Nat} {R : Hp → Prop} (h : H p = some (.lst xs)) (hn : ixN xs.length k = some n) (q : R (upd H p (.lst (xs.set n v)))) : rSetL (.ref p) (.int k) v H R := go_setL h hn q
end
theorem emod_b (x : Int) : 0 ≤ x % 2147483489 + 1 ∧ x % 2147483489 + 1 < 2147483648 := by omega
end Ld
namespace Ld
open PySem PySem.Spec PyProof.Rows L2
theorem go_li {te : TE} {σ : St} {H : Hp} {Q : VK} (q : te σ H fun x H1 => LiI.rItemsL x H1 Q) : LiI.tListItems te σ H Q := q
/-- dict(xs) of a list of pairs -/
def rDictP (K : PySem.W.Frag) : List V → Hp → VK → Prop := fun xs H Q => ∃ (a : Addr) (ps : List Addr) (kvs : List (Key × V)), xs = [.ref a] ∧ SqL K H a (ps.map V.ref) ∧ Paired (fun p kv => SqT K H p [kV kv.1, kv.2]) ps kvs ∧ ∀ p, H p = none → Q (.ref p) (upd H p (.dK (mergeK [] kvs)))
theorem cr_dictP {X : Cx} {K : PySem.W.Frag} (hc : X.calm = true) (hK : X.K = K := by rfl) : CallR X (.type "dict") (rDictP K) := by subst hK; exact call_dictP hc
end Ld
namespace Ld
open PySem PySem.Spec PyProof.Rows L2
/-! ### dict(xs) of a list of (pair of texts, number), no pair twice -/
def PIV (H : Hp) (v : V) (c : Pair × Int) : Prop := ∃ p b, v = .ref p ∧ H p = some (.tup [.ref b, .int c.2]) ∧ H b = some (.tup [.str c.1.1, .str c.1.2])
theorem PIV.pers : Pers PIV := fun _ _ _ _ s ⟨p, b, e, h, k⟩ => ⟨p, b, e, s _ _ rfl h, s _ _ rfl k⟩
def rDictPT : List V → Hp → VK → Prop := fun xs H Q => ∃ (a : Addr) (vs : List V) (m : List (Pair × Int)), xs = [.ref a] ∧ H a = some (.lst vs) ∧ All2 (PIV H) vs m ∧ (m.map (·.1)).Nodup ∧ m.length ≤ 1000 ∧ ∀ p, H p = none → Q (.ref p) (upd H p (.dT (dP m)))
theorem go_dictPT {a : Addr} {vs : List V} {m : List (Pair × Int)} {H : Hp} {Q : VK} (h : H a = some (.lst vs)) (al : All2 (PIV H) vs m) (nd : (m.map (·.1)).Nodup) (hz : m.length ≤ 1000) (q : ∀ p, H p = none → Q (.ref p) (upd H p (.dT (dP m)))) : rDictPT [.ref a] H Q := ⟨a, vs, m, rfl, h, al, nd, hz, q⟩
section
variable {X : Cx} {pins : List (Addr × Obj)} {σ : St} {H : Hp} {s : Shared}
theorem pairsT_of (I : Inv X pins σ H s) : ∀ {vs : List V} {m : List (Pair × Int)} {its : List Value}, All2 (PIV H) vs m → Vals vs its →
    ∃ (Ts : List Addr) (ks : List (List Key × Addr × Value)), its = Ts.map Value.ref ∧ KT H (dP m) ks ∧ ks.length = its.length ∧ ∀ (j : Nat) (q : List Key × Addr × Value), ks[j]? = some q → ∃ t, Ts[j]? = some t ∧ IsTup s.heap t #[.ref q.2.1, q.2.2]
  | _, _, _, .nil, .nil => ⟨[], [], rfl, .nil, rfl, fun j q e => by simp at e⟩
  | _, _, _, .cons h t, .cons r rs => by
    obtain ⟨Ts, ks, e1, e2, e3, e4⟩ := pairsT_of I t rs
    obtain ⟨p, b, rfl, hp, hb⟩ := h
    cases r
    obtain ⟨its, rv, ht, _⟩ := I.tuple (SqT.of hp)
    obtain ⟨u, y, ei, ru, ry⟩ := vals2 rv
    subst ei
    cases ru
    refine ⟨p :: Ts, (kP _, b, y) :: ks, by rw [e1]; rfl, .cons ⟨rfl, hb, ry⟩ e2, by simp [e3], fun j q e => ?_⟩
    cases j with
    | zero =>
      cases Option.some.inj e
      exact ⟨p, rfl, ht⟩
    | succ j => exact e4 j q (by simpa using e)
theorem storedAll_new : ∀ (ps xs : List (List Key × Addr × Value)), ((xs ++ ps).map (·.1)).Nodup → storedAllH xs ps = xs ++ ps
  | [], xs, _ => by simp [storedAllH]
  | p :: ps, xs, nd => by
    have hn : atKey xs p.1 = none := by
      unfold atKey
      rw [Option.map_eq_none_iff, List.find?_eq_none]
      intro x hx
      have : x.1 ≠ p.1 := by
        rw [List.map_append, List.nodup_append] at nd
        exact nd.2.2 _ (List.mem_map_of_mem hx) _ (by simp)
      simp [this]
    have e : storedAllH xs (p :: ps) = storedAllH (storedH xs p.1 p.2.1 p.2.2) ps := rfl
    rw [e, storedH_new hn, storedAll_new ps _ (by simpa using nd)]
    simp
theorem KT.keys {m : List (Pair × Int)} {ks : List (List Key × Addr × Value)} (r : KT H (dP m) ks) : ks.map (·.1) = (m.map (·.1)).map kP := by
  induction m generalizing ks with
  | nil => cases r; rfl
  | cons p m ih =>
    cases r with
    | cons h t => rw [List.map_cons, List.map_cons, List.map_cons, ih t, ← h.1]
theorem cr_dictPT (hc : X.calm = true) (hu : X.A.units + 64 < cLine) : CallR X (.type "dict") rDictPT := by
  intro pins s σ H xs us Q I r q
  obtain ⟨a, vs, m, rfl, e, al, nd, hm, q⟩ := q
  obtain ⟨u, rfl, rx⟩ := r.one
  cases rx
  obtain ⟨its, rv, ⟨o, n, ho, hcl, hd, hdat⟩, hz⟩ := I.list (SqL.of e)
  obtain ⟨Ts, ks, e1, kt, hl, hp⟩ := pairsT_of I al rv
  have lm : ks.length = m.length := by rw [← Paired.length kt, length_dP]
  have ndk : (ks.map (·.1)).Nodup := by
    rw [KT.keys kt]
    exact List.pairwise_map.mpr (nd.imp fun h z => h (kP_inj z))
  have hi : PairItems s.heap its.toArray (fun j => Ts.getD j 0) (ks.map fun q => (Value.ref q.2.1, q.2.2)) := by
    refine ⟨by simp [hl], fun j k v hj => ?_⟩
    rw [List.getElem?_map] at hj
    cases eq : ks[j]? with
    | none => rw [eq] at hj; cases hj
    | some q =>
      rw [eq] at hj
      cases hj
      obtain ⟨t, h1, h2⟩ := hp j q eq
      have h3 : Ts.getD j 0 = t := by rw [List.getD_eq_getElem?_getD, h1]; rfl
      show its.toArray[j]? = some (Value.ref (Ts.getD j 0)) ∧ PairAt s.heap (Ts.getD j 0) _ _
      rw [h3, e1]
      exact ⟨by simp [h1], .inl h2⟩
  have hkeys : ∀ {l : List (List Key × V)} {m : List (List Key × Addr × Value)}, KT H l m → ∀ x ∈ m, (tupleKind (mixKind X.prog X.w)).is s.heap x.1 x.2.1 := by
    intro l m q
    induction q with
    | nil => intro x hx; exact nomatch hx
    | @cons p q ps qs hq t ih =>
      intro x hx
      rcases List.mem_cons.mp hx with e | hx
      · subst e
        exact key_of I.hok (by rw [← hq.1]; exact hq.2.1)
      · exact ih x hx
  have hcon : PairsHaveH (tupleKind (mixKind X.prog X.w)) (ks.map fun q => (Value.ref q.2.1, q.2.2)).length (PairRel (ks.map fun q => (Value.ref q.2.1, q.2.2))) ks := by
    refine ⟨by simp, fun i key v hr => ?_⟩
    have hr : (ks.map fun q => (Value.ref q.2.1, q.2.2))[i]? = some (key, v) := hr
    rw [List.getElem?_map] at hr
    cases eq : ks[i]? with
    | none => rw [eq] at hr; cases hr
    | some q =>
      rw [eq] at hr
      cases hr
      exact ⟨q.1, q.2.1, rfl, rfl⟩
  refine PySem.call_dict_pairsH (P := PairArg.list a its.toArray (fun j => Ts.getD j 0) (ks.map fun q => (Value.ref q.2.1, q.2.2))) (knd := tupleKind (mixKind X.prog X.w)) (ps := ks) (I.ok.hd hc) ?_ ⟨⟨o, n, ho, hcl, hd, hdat⟩, hi⟩ hcon ?_ (by rw [List.length_map, lm]; exact sz (by omega)) fun h' tk hd' hk => ?_
  · show X.A.units + 1 + 1 < cLine
    omega
  · intro h' hk x hx
    obtain ⟨ob, items, nn, h1, h2⟩ := hkeys kt x hx
    exact ⟨ob, items, nn, hk _ _ (Nat.ne_of_lt (Heap.lt_size h1)) List.not_mem_nil h1, h2⟩
  · have kp : ∀ b o, s.heap.get? b = some o → h'.get? b = some o := fun b o e => hk b o List.not_mem_nil e
    rw [storedAll_new ks [] (by simpa using ndk), List.nil_append] at hd'
    obtain ⟨o2, es, ep, ho2, hx2, hd2, he2, hi2, hn2⟩ := hd'
    have hms : (s.heap.objs.size == sysModules) = false := beq_eq_false_iff_ne.mpr (Nat.ne_of_gt I.big)
    refine ⟨.ref s.heap.objs.size, upd H s.heap.objs.size (.dT (dP m)), I.laid (t' := tk) kp (Nat.le_refl _) ?_, rfl, q _ (I.hok.fresh (Nat.le_refl _))⟩
    exact ⟨by rw [length_dP]; exact sz (by omega), hms, ks, KT.keeps kt (fun b ys e => up_old (I.hok.fresh (Nat.le_refl _)) e), o2, es, ep, ho2, hx2, hd2, he2, hn2⟩
end
end Ld
namespace Ld
open PySem PySem.Spec PyProof.Rows L2
/-! ### repr of a number, of None, of a dict of pairs -/
def reprO : Option Int → Str
  | none => "None"
  | some i => toString i
def rReprO : List V → Hp → VK → Prop := fun xs H Q => ∃ o : Option Int, xs = [optI o] ∧ (∀ i, o = some i → i.natAbs ≤ 1000000) ∧ Q (.str (reprO o)) H
theorem log2_small {n : Nat} (h : n ≤ 1000000) : n.log2 < 1920 := by
  by_cases z : n = 0
  · subst z; decide
  · exact Nat.lt_trans ((Nat.log2_lt z).mpr (Nat.lt_of_le_of_lt h (by decide : 1000000 < 2 ^ 20))) (by decide)
theorem cr_reprO {X : Cx} : CallR X (.builtin "repr") rReprO := by
  intro pins s σ H xs us Q I r h
  obtain ⟨o, rfl, hz, q⟩ := h
  obtain ⟨u, rfl, rx⟩ := r.one
  cases o with
  | none =>
    cases rx
    exact PySem.P.repr_of_none ⟨.str _, H, I.tok _, ⟨_, rfl⟩, q⟩
  | some i =>
    obtain ⟨t, rfl⟩ := (show ∃ t, u = Value.int i t from rx)
    exact PySem.P.repr_of_int (log2_small (hz i rfl)) ⟨.str _, H, I.tok _, ⟨_, rfl⟩, q⟩
theorem go_reprO {o : Option Int} {H : Hp} {Q : VK} (h : ∀ i, o = some i → i.natAbs ≤ 1000000) (q : Q (.str (reprO o)) H) : rReprO [optI o] H Q := ⟨o, rfl, h, q⟩
def datP (m : List (Pair × Int)) : PyData := .dict (m.map fun p => (.tuple [.str p.1.1, .str p.1.2], .int p.2))
/-- short texts, small numbers -/
def SmallM (m : List (Pair × Int)) : Prop := m.length ≤ 100 ∧ ∀ p ∈ m, (Ok p.1.1 ∧ p.1.1.length ≤ 6) ∧ (Ok p.1.2 ∧ p.1.2.length ≤ 6) ∧ p.2.natAbs ≤ 1000000
theorem ok_short {s : Str} (h : Ok s) : (s.cps.toList.all fun c => decide (c < 16 ^ 8)) = true := by
  have h : s.cps.all (· < 0x110000) = true := h
  rw [← Array.all_toList] at h
  rw [List.all_eq_true] at h ⊢
  intro c hc
  have := h c hc
  simp only [decide_eq_true_eq] at this ⊢
  exact Nat.lt_trans this (by decide)
theorem datP_show {m : List (Pair × Int)} (h : SmallM m) : (datP m).showable = true ∧ (datP m).leavesShort 13 = true ∧ (datP m).weight ≤ 2 ^ 20 ∧ (datP m).depth ≤ 2 := by
  obtain ⟨hl, h⟩ := h
  have key : ∀ m : List (Pair × Int), (∀ p ∈ m, (Ok p.1.1 ∧ p.1.1.length ≤ 6) ∧ (Ok p.1.2 ∧ p.1.2.length ≤ 6) ∧ p.2.natAbs ≤ 1000000) →
      PyData.showableKv (m.map fun p => (PyData.tuple [.str p.1.1, .str p.1.2], PyData.int p.2)) = true ∧ PyData.leavesShortKv 13 (m.map fun p => (PyData.tuple [.str p.1.1, .str p.1.2], PyData.int p.2)) = true ∧
      PyData.weightKv (m.map fun p => (PyData.tuple [.str p.1.1, .str p.1.2], PyData.int p.2)) ≤ 40 * m.length ∧ PyData.depthKv (m.map fun p => (PyData.tuple [.str p.1.1, .str p.1.2], PyData.int p.2)) ≤ 1 := by
    intro m
    induction m with
    | nil => intro _; exact ⟨rfl, rfl, Nat.zero_le _, by simp [PyData.depthKv]⟩
    | cons p m ih =>
      intro h
      obtain ⟨a1, a2, a3, a4⟩ := ih fun q hq => h q (List.mem_cons_of_mem _ hq)
      obtain ⟨⟨o1, l1⟩, ⟨o2, l2⟩, hi⟩ := h p (List.mem_cons_self ..)
      have hi2 : -999999999999 ≤ p.2 ∧ p.2 ≤ 999999999999 := by omega
      have hs := PyData.shown_int_le2 hi2.1 hi2.2
      have hlog := log2_small hi
      have hlog2 : (if p.2 == 0 then 0 else p.2.natAbs.log2 + 1) ≤ 20 := by
        split
        · omega
        · rename_i z
          have z : p.2.natAbs ≠ 0 := by
            intro e
            apply z
            simp [Int.natAbs_eq_zero.mp e]
          have := (Nat.log2_lt z).mpr (Nat.lt_of_le_of_lt hi (by decide : 1000000 < 2 ^ 20))
          omega
      have e1 : p.1.1.cps.size ≤ 6 := l1
      have e2 : p.1.2.cps.size ≤ 6 := l2
      refine ⟨?_, ?_, ?_, ?_⟩
      · simp [PyData.showableKv, PyData.showable, PyData.showableAll, a1, hlog]
      · simp only [List.map_cons, PyData.leavesShortKv, PyData.leavesShort, PyData.leavesShortAll, a2, ok_short o1, ok_short o2, Bool.and_true, Bool.true_and, decide_eq_true_eq]
        exact hs
      · simp only [List.map_cons, PyData.weightKv, PyData.weight, PyData.weightAll, List.length_cons]
        omega
      · simp only [List.map_cons, PyData.depthKv, PyData.depth, PyData.depthAll]
        omega
  obtain ⟨a1, a2, a3, a4⟩ := key m h
  refine ⟨by simpa only [datP, PyData.showable] using a1, by simpa only [datP, PyData.leavesShort] using a2, ?_, ?_⟩
  · simp only [datP, PyData.weight]
    have : 40 * m.length ≤ 4000 := by omega
    exact Nat.le_trans a3 (Nat.le_trans this (by decide))
  · simp only [datP, PyData.depth]
    omega
section
variable {X : Cx} {pins : List (Addr × Obj)} {σ : St} {H : Hp} {s : Shared}
theorem reads_keys (I : Inv X pins σ H s) : ∀ {m : List (Pair × Int)} {ks : List (List Key × Addr × Value)}, KT H (dP m) ks →
    ReadsAll s.heap (ks.map fun x => Value.ref x.2.1) (m.map fun p => PyData.tuple [.str p.1.1, .str p.1.2]) [] ∧ ReadsAll s.heap (ks.map fun x => x.2.2) (m.map fun p => PyData.int p.2) []
  | [], _, .nil => ⟨.nil, .nil⟩
  | p :: m, _, .cons h t => by
    obtain ⟨r1, r2⟩ := reads_keys I t
    obtain ⟨_, hb, hv⟩ := h
    obtain ⟨its, rv, ⟨ob, hob, hcl, n, hdat⟩, _⟩ := I.tuple (SqT.of hb)
    obtain ⟨u, y, rfl, ⟨t1, rfl⟩, ⟨t2, rfl⟩⟩ := L2.vals2 (show Vals [V.str p.1.1, V.str p.1.2] its from rv)
    obtain ⟨t3, e3⟩ := (show ∃ t, _ = Value.int p.2 t from hv)
    refine ⟨.cons (as := []) (bs := []) (.tuple hob hcl hdat (.cons (as := []) (bs := []) (.str _ _) (.cons (as := []) (bs := []) (.str _ _) .nil))) r1, ?_⟩
    rw [List.map_cons, e3]
    exact .cons (as := []) (bs := []) (.int _ _) r2
theorem reads_dT (I : Inv X pins σ H s) {d : Addr} {m : List (Pair × Int)} (h : H d = some (.dT (dP m))) : Reads s.heap (.ref d) (datP m) [d] ∧ d ≠ sysModules := by
  obtain ⟨_, hs, ks, pr, o, es, ep, ho, hx, hdt, he, hn⟩ := (show ObjOk X.prog X.w H s.heap d (.dT (dP m)) from I.hok d _ h)
  obtain ⟨r1, r2⟩ := reads_keys I pr
  refine ⟨.dict (as := []) (bs := []) (es := es) ho hx.1 hdt ?_ ?_, fun z => by rw [z] at hs; simp at hs⟩
  · rw [he, List.map_map, List.map_map]
    exact r1
  · rw [he, List.map_map, List.map_map]
    exact r2
def rReprD : List V → Hp → VK → Prop := fun xs H Q => ∃ (d : Addr) (m : List (Pair × Int)), xs = [.ref d] ∧ H d = some (.dT (dP m)) ∧ SmallM m ∧ Q (.str (datP m).shown) H
theorem go_reprD {d : Addr} {m : List (Pair × Int)} {Q : VK} (h : H d = some (.dT (dP m))) (k : SmallM m) (q : Q (.str (datP m).shown) H) : rReprD [.ref d] H Q := ⟨d, m, rfl, h, k, q⟩
theorem cr_reprD (hg : X.A.guards = some []) (hu : X.A.units + 64 < cLine) : CallR X (.builtin "repr") rReprD := by
  intro pins s σ H xs us Q I r h
  obtain ⟨d, m, rfl, e, k, q⟩ := h
  obtain ⟨u, rfl, rx⟩ := r.one
  cases rx
  obtain ⟨rd, ns⟩ := reads_dT I e
  obtain ⟨h1, h2, h3, h4⟩ := datP_show k
  exact repr_of_reads' rd h1 (fun _ hm => ns (List.mem_singleton.mp hm).symm) hg (by omega) (fun _ _ z => z)
    (fun h' u tk hk => ⟨.str _, H, I.kept hk, ⟨_, rfl⟩, q⟩) (PyData.shown_fits (by decide) (by decide) h2 h3)
end
end Ld
namespace Ld
open PySem PySem.Spec PyProof.Rows L2
/-! ### a def whose run is told where no repr is under way; what stays where only code tables grow -/
structure FnG (P : Program) (w : World) (K : PySem.W.Frag) (mg : Str → Option Value) (base : Heap) (k : Nat) (f : Addr) (fd : FuncData) (ps : List Str) (sp : Sp) : Prop where
  run : ∀ (A : Around) (outer : List Env) (s : Shared) (H : Hp) (args : Args) (us : List Value) (vs : List V) (Q : VK) (E : XK), A.guards = some [] → Room k A → Env0 P w K mg base A outer s H → BindsTo s fd args (ps.zip us) → Vals vs us → sp vs H Q E →
    codeAny (model P w) A (.call (.ref f) args) (CR C8.CX0 outer P w H s Q E) s
theorem pe_fG {X : Cx} {k j : Nat} {x a : Str} {f : Addr} {fd : FuncData} {sp : Sp} {p pos : Pos} {e : Expr} {t : TA} (F : FnG X.prog X.w X.K X.mg X.base k f fd [a] sp) (hgd : X.A.guards = some []) (hr : Room j X.A) (hk : k ≤ j) (hg : Gl X x) (hm : X.mg x = some (.ref f)) (kp : PySem.W.keepIn X.K (.ref f) = true) (hb : L2.Binds X.K fd [a] [])
    (hl : ∀ vs H Q E, sp vs H Q E → vs.length = 1) (ha : PA X [e] t) (hdb : (x == ("__debug__" : Str)) = false := by decide) (he : starEach [e] X.env = (false, eval e X.env) :: starEach [] X.env := by rfl) (hpl : (backTo pos (starEach [] X.env)).any (·.1) = false := by rfl) :
    PE X (.Call (.Name x p) [e] [] pos) (tF sp t) := by
  refine ⟨fun pins s σ H Q I h => ?_⟩
  refine wpAny_Call_Name_kw (ld_glob I hg hm ?_ hdb)
  refine PySem.W.callWith_K (h₀ := X.base) I.ok.mod.kin kp (thn (ha.run pos pins s σ H _ I h) fun us s1 ⟨vs, H1, I1, r, q⟩ => ⟨I1.kIn, ?_⟩) he hpl
  have hlen : us.length = 1 := r.length.symm.trans (hl _ _ _ _ q)
  have b := hb s1 us I1.kIn (by rw [List.append_nil]; exact hlen)
  rw [List.append_nil] at b
  refine wpAny_call (codeAny_mono (F.run X.A X.stack s1 H1 ⟨us, []⟩ us vs Q E0 hgd (hr.mono hk) I1.env0 b r q) fun r s2 hq => ?_)
  cases r with
  | error e => exact (show False from hq).elim
  | ok fl =>
    cases fl with
    | ret u => exact I1.after hq
    | next => exact False.elim hq
    | brk => exact False.elim hq
    | cont => exact False.elim hq
theorem go_neE {γ : Type} {S : Hp → V → γ → Prop} [DecidableEq γ] {K : PySem.W.Frag} {H : Hp} {Q : VK} {v u : V} {c d : γ} (E : Enc S) (h : S H v c) (h2 : S H u d) (q : Q (.bl (!decide (c = d))) H) : rNeD K v u H Q :=
  ⟨_, _, E.dp h, E.dp h2, E.shaped1 h, E.shaped1 h2, by rw [E.eqv_dec]; exact q⟩
end Ld
local macro_rules | `(tactic| walk_at "ln") => `(tactic| first | ((refine Ld.ln_and ?_); (intro e _); (cases e); rfl) | ((refine Ld.ln_ex ?_); (intro _); walk_at "ln") | ((intro e); (cases e); rfl))
local macro_rules | `(tactic| walk_at "hp") => `(tactic| (first | (with_reducible assumption) | exact L2.upd_same | ((with_reducible apply Ld.up_old); (focus ((with_reducible assumption); done)); (first | (with_reducible assumption) | exact L2.upd_same | ((with_reducible apply Ld.up_old); (focus ((with_reducible assumption); done)); walk_at "hp") | ((with_reducible apply Ld.same_get); (focus ((with_reducible assumption); done)); walk_at "hp") | ((with_reducible apply Ld.up_ne); (focus ((first | (with_reducible assumption) | ((apply Ne.symm); (with_reducible assumption))); done)); walk_at "hp"))) | ((with_reducible apply Ld.same_get); (focus ((with_reducible assumption); done)); (first | (with_reducible assumption) | exact L2.upd_same | ((with_reducible apply Ld.up_old); (focus ((with_reducible assumption); done)); walk_at "hp") | ((with_reducible apply Ld.same_get); (focus ((with_reducible assumption); done)); walk_at "hp") | ((with_reducible apply Ld.up_ne); (focus ((first | (with_reducible assumption) | ((apply Ne.symm); (with_reducible assumption))); done)); walk_at "hp"))) | ((with_reducible apply Ld.up_ne); (focus ((first | (with_reducible assumption) | ((apply Ne.symm); (with_reducible assumption))); done)); (first | (with_reducible assumption) | exact L2.upd_same | ((with_reducible apply Ld.up_old); (focus ((with_reducible assumption); done)); walk_at "hp") | ((with_reducible apply Ld.same_get); (focus ((with_reducible assumption); done)); walk_at "hp") | ((with_reducible apply Ld.up_ne); (focus ((first | (with_reducible assumption) | ((apply Ne.symm); (with_reducible assumption))); done)); walk_at "hp")))))
local macro_rules | `(tactic| walk_at "nk") => `(tactic| try simp only [Ld.nK, Ld.nMg, Ld.nK2, Ld.nMg2])
local macro_rules | `(tactic| walk_at "go") => `(tactic| repeat (first
  | ((with_reducible apply Ld.go_var); (focus (rfl; done)))
  | with_reducible refine Ld.go_c ?_
  | with_reducible refine Ld.go_op ?_
  | with_reducible refine Ld.go_cons ?_
  | with_reducible refine Ld.go_nil ?_
  | with_reducible refine Ld.go_I0 ?_
  | ((with_reducible apply Ld.go_I); (focus ((first | ((show (_ : Int) < _); omega) | (exact Or.inr ⟨by omega, by omega⟩) | (exact Or.inl ⟨by omega, by omega⟩) | (exact ⟨by omega, by omega⟩) | (exact ⟨by omega, by omega, by omega⟩)); done)))
  | with_reducible refine Ld.go_fld ?_
  | ((with_reducible apply Ld.go_fldx); (focus (walk_at "hp"; done)); (focus ((with_reducible assumption); done)); (focus ((with_reducible assumption); done)); (focus ((first | rfl | (with_reducible assumption)); done)))
  | with_reducible refine Ld.go_exbl ?_
  | with_reducible refine Ld.go_test ?_
  | with_reducible refine Ld.go_B ?_
  | with_reducible refine Ld.go_CB ?_
  | with_reducible refine Ld.go_F ?_
  | with_reducible refine Ld.go_M ?_
  | with_reducible refine Ld.go_N ?_
  | with_reducible refine Ld.go_NK ?_
  | ((with_reducible apply Ld.go_Mx); (focus (walk_at "hp"; done)); (focus ((first | rfl | (with_reducible assumption)); done)))
  | with_reducible refine Ld.go_seq ?_
  | ((with_reducible refine Ld.go_nx ?_); with_reducible conv => whnf)
  | ((with_reducible refine Ld.go_ct ?_); with_reducible conv => whnf)
  | ((with_reducible refine Ld.go_rt ?_); with_reducible conv => whnf)
  | ((with_reducible refine Ld.go_bk ?_); with_reducible conv => whnf)
  | with_reducible refine Ld.go_next ?_
  | with_reducible refine Ld.go_asgN ?_
  | with_reducible refine Ld.go_ret ?_
  | with_reducible refine Ld.go_retN ?_
  | with_reducible refine Ld.go_drop ?_
  | with_reducible refine Ld.go_ifS ?_
  | with_reducible refine Ld.go_and ?_
  | with_reducible refine Ld.go_or ?_
  | with_reducible refine Ld.go_not ?_
  | with_reducible refine Ld.go_andV ?_
  | with_reducible refine Ld.go_orV ?_
  | with_reducible refine Ld.go_notV ?_
  | with_reducible refine Ld.go_if ?_
  | with_reducible refine Ld.go_yes ?_
  | ((with_reducible apply Ld.go_eq); (focus (rfl; done)))
  | ((with_reducible apply Ld.go_ne); (focus (rfl; done)))
  | with_reducible refine Ld.go_isN ?_
  | with_reducible refine Ld.go_notN ?_
  | ((with_reducible apply Ld.go_ifT); (focus ((first | rfl | (with_reducible assumption) | ((simp only [decide_eq_true_eq, decide_eq_false_iff_not, Bool.not_eq_true', Bool.not_eq_false', Bool.not_not, List.length_map]); (first | (with_reducible assumption) | omega))); done)))
  | ((with_reducible apply Ld.go_ifF); (focus ((first | rfl | (with_reducible assumption) | ((simp only [decide_eq_true_eq, decide_eq_false_iff_not, Bool.not_eq_true', Bool.not_eq_false', Bool.not_not, List.length_map]); (first | (with_reducible assumption) | omega))); done)))
  | with_reducible refine Ld.go_chain ?_
  | with_reducible refine Ld.go_tup ?_
  | with_reducible refine Ld.go_lst ?_
  | ((with_reducible apply Ld.go_small); (focus (rfl; done)))
  | with_reducible refine Ld.go_isInt ?_
  | with_reducible refine Ld.go_isBool ?_
  | with_reducible refine Ld.go_isStr ?_
  | ((with_reducible apply Ld.go_isTup); (focus (walk_at "hp"; done)))
  | ((with_reducible apply Ld.go_isLT); (focus (walk_at "hp"; done)); (focus (walk_at "hp"; done)))
  | ((with_reducible apply Ld.go_isC); (focus (walk_at "hp"; done)))
  | with_reducible refine Ld.go_con ?_
  | ((with_reducible apply Ld.go_conx); (focus (walk_at "hp"; done)); (focus ((with_reducible assumption); done)); (focus ((with_reducible assumption); done)); (focus ((first | rfl | (with_reducible assumption)); done)))
  | ((with_reducible apply Ld.go_setLx); (focus (walk_at "hp"; done)); (focus (rfl; done)))
  | ((with_reducible apply Ld.go_ixL); (focus (walk_at "hp"; done)); (focus ((first | rfl | (with_reducible assumption)); done)))
  | ((with_reducible apply Ld.go_ixT); (focus (walk_at "hp"; done)); (focus ((first | rfl | (with_reducible assumption)); done)))
  | ((with_reducible apply Ld.go_lenL); (focus (walk_at "hp"; done)))
  | ((with_reducible apply Ld.go_lenT); (focus (walk_at "hp"; done)))
  | ((with_reducible apply Ld.go_lenS); (focus ((with_reducible assumption); done)))
  | ((with_reducible apply Ld.go_lenD); (focus (walk_at "hp"; done)))
  | ((with_reducible apply Ld.go_all); (focus (walk_at "hp"; done)))
  | ((with_reducible apply Ld.go_any); (focus (walk_at "hp"; done)))
  | ((with_reducible apply Ld.go_list); (focus (walk_at "hp"; done)))
  | ((with_reducible apply Ld.go_tuple); (focus (walk_at "hp"; done)))
  | ((with_reducible apply Ld.go_inS); (focus (walk_at "hp"; done)))
  | ((with_reducible apply Ld.go_niS); (focus (walk_at "hp"; done)))
  | ((with_reducible apply Ld.go_wipe); (focus (rfl; done)))
  | with_reducible refine Ld.go_sign ?_
  | ((with_reducible apply Ld.go_loc); (focus ((with_reducible assumption); done)); (focus (rfl; done)))
  | with_reducible refine Ld.go_sl ?_
  | with_reducible refine Ld.go_slN ?_
  | with_reducible refine Ld.go_slP ?_
  | with_reducible refine Ld.go_exint ?_
  | ((with_reducible apply Ld.go_slL); (focus (walk_at "hp"; done)))
  | with_reducible refine Ld.go_BM ?_
  | ((with_reducible apply Ld.go_tyL); (focus (walk_at "hp"; done)))
  | ((with_reducible apply Ld.go_gT); (focus (walk_at "hp"; done)); (focus (rfl; done)))
  | ((with_reducible apply Ld.go_gL); (focus (walk_at "hp"; done)); (focus (rfl; done)))
  | with_reducible refine Ld.go_gC ?_
  | with_reducible refine Ld.go_gN ?_
  | with_reducible refine Ld.go_gZ ?_
  | with_reducible refine Ld.go_asg ?_
  | with_reducible refine Ld.go_par ?_
  | with_reducible refine Ld.go_par2 ?_
  | with_reducible refine Ld.go_dget ?_
  | ((with_reducible apply Ld.go_dgetI); (focus (walk_at "hp"; done)); (focus ((with_reducible assumption); done)))
  | ((with_reducible apply Ld.go_oI); (focus (walk_at "hp"; done)); (focus ((with_reducible assumption); done)))
  | ((with_reducible apply Ld.go_oK); (focus (walk_at "hp"; done)); (focus ((with_reducible assumption); done)))
  | ((with_reducible apply Ld.go_dputP); (focus (walk_at "hp"; done)); (focus (walk_at "hp"; done)); (focus ((first | (with_reducible assumption) | ((refine Ld.szl ?_); (simp only [List.length_map, List.length_cons, List.length_nil, List.length_append]); omega)); done)))
  | ((with_reducible apply Ld.go_dgetP); (focus (walk_at "hp"; done)); (focus (walk_at "hp"; done)); (focus ((with_reducible assumption); done)))
  | ((with_reducible apply Ld.go_dgetPf); (focus (walk_at "hp"; done)); (focus (walk_at "hp"; done)); (focus ((with_reducible assumption); done)))
  | with_reducible refine Ld.go_dcTL ?_
  | with_reducible refine Ld.go_CKw ?_
  | ((with_reducible apply Ld.go_minDef); (focus (walk_at "hp"; done)))
  | ((with_reducible apply Ld.go_dputI); (focus (walk_at "hp"; done)); (focus ((with_reducible assumption); done)))
  | ((with_reducible apply Ld.go_dputx); (focus (walk_at "hp"; done)); (focus ((first | (with_reducible assumption) | ((refine Ld.szl ?_); (simp only [List.length_map, List.length_cons, List.length_nil, List.length_append]); omega)); done)))
  | ((with_reducible apply Ld.go_setD); (focus (walk_at "hp"; done)); (focus ((first | (with_reducible assumption) | ((refine Ld.szl ?_); (simp only [List.length_map, List.length_cons, List.length_nil, List.length_append]); omega)); done)))
  | ((with_reducible apply Ld.go_getO); (focus (walk_at "hp"; done)); (focus ((with_reducible assumption); done)))
  | ((with_reducible apply Ld.go_dgetx); (focus (walk_at "hp"; done)); (focus ((first | rfl | (with_reducible assumption)); done)))
  | with_reducible refine Ld.go_din ?_
  | with_reducible refine Ld.go_dnin ?_
  | with_reducible refine Ld.go_sfld ?_
  | ((with_reducible apply Ld.go_sfldx); (focus (walk_at "hp"; done)); (focus ((with_reducible assumption); done)); (focus ((with_reducible assumption); done)); (focus (exact Nat.le_of_ble_eq_true rfl; done)))
  | with_reducible refine Ld.go_dput ?_
  | with_reducible refine Ld.go_gsub ?_
  | with_reducible refine Ld.go_un ?_
  | with_reducible refine Ld.go_U ?_
  | with_reducible refine Ld.go_pr ?_
  | ((with_reducible apply Ld.go_prx); (focus (walk_at "hp"; done)))
  | with_reducible refine Ld.go_gi ?_
  | ((with_reducible apply Ld.go_gix); (focus (walk_at "hp"; done)))
  | ((with_reducible apply Ld.go_rin); (focus (walk_at "hp"; done)))
  | ((with_reducible apply Ld.go_rni); (focus (walk_at "hp"; done)))
  | ((with_reducible apply Ld.go_rand); (focus (walk_at "hp"; done)); (focus (walk_at "hp"; done)))
  | ((with_reducible apply Ld.go_app); (focus (walk_at "hp"; done)); (focus ((first | (with_reducible assumption) | ((refine Ld.szl ?_); (simp only [List.length_map, List.length_cons, List.length_nil, List.length_append]); omega)); done)))
  | ((with_reducible apply Ld.go_ext); (focus (walk_at "hp"; done)); (focus (walk_at "hp"; done)); (focus ((first | (with_reducible assumption) | ((refine Ld.sz ?_); (simp only [List.length_map, List.length_cons, List.length_nil, List.length_append]); omega)); done)))
  | ((with_reducible apply Ld.go_cat); (focus (walk_at "hp"; done)); (focus (walk_at "hp"; done)); (focus ((first | (with_reducible assumption) | ((refine Ld.sz ?_); (simp only [List.length_map, List.length_cons, List.length_nil, List.length_append]); omega)); done)))
  | with_reducible refine Ld.go_forL ?_
  | with_reducible refine Ld.go_forT ?_
  | with_reducible refine Ld.go_forE ?_
  | with_reducible refine Ld.go_forR ?_
  | with_reducible refine Ld.go_lcL ?_
  | with_reducible refine Ld.go_lcT ?_
  | with_reducible refine Ld.go_lcS ?_
  | with_reducible refine Ld.go_lcR2 ?_
  | with_reducible refine Ld.go_lcR1 ?_
  | with_reducible refine Ld.go_dcL ?_
  | with_reducible refine Ld.go_int1 ?_
  | with_reducible refine Ld.go_abs ?_
  | with_reducible refine Ld.go_max2 ?_
  | with_reducible refine Ld.go_min2 ?_
  | with_reducible refine Ld.go_dnewK ?_
  | with_reducible refine Ld.go_listVals ?_
  | ((with_reducible apply Ld.go_listVx); (focus (walk_at "hp"; done)))
  | ((with_reducible apply Ld.go_listDK); (focus (walk_at "hp"; done)))
  | with_reducible refine Ld.go_dnewT ?_
  | with_reducible refine Ld.go_disp ?_
  | with_reducible refine Ld.go_prn ?_
  | with_reducible refine Ld.go_prc ?_
  | with_reducible refine Ld.go_dget2 ?_
  | ((with_reducible apply Ld.go_isD); (focus (walk_at "hp"; done)))
  | with_reducible refine Ld.go_exref ?_))
namespace Ld
open PySem PySem.Spec PyProof.Rows L2
/-! ### Sums -/
def upf (g : Str → Option Int) (k : Str) (v : Int) : Str → Option Int := fun j => if j = k then some v else g j
def takeF (g : Str → Option Int) (c : Clause) : Bool × (Str → Option Int) :=
  match g c.1 with
  | none => (false, g)
  | some x => match g c.2.1 with
    | some y => if y ≤ x + c.2.2 then (false, g) else (true, upf g c.2.1 (x + c.2.2))
    | none => (true, upf g c.2.1 (x + c.2.2))
def turnF (s : Bool × (Str → Option Int)) (c : Clause) : Bool × (Str → Option Int) := ((takeF s.2 c).1 || s.1, (takeF s.2 c).2)
theorem turnF_fst {s : Bool × (Str → Option Int)} {c : Clause} : (turnF s c).1 = ((takeF s.2 c).1 || s.1) := rfl
def roundF (cs : List Clause) (g : Str → Option Int) : Bool × (Str → Option Int) := cs.foldl turnF (false, g)
inductive Settles (cs : List Clause) : Nat → (Str → Option Int) → (Str → Option Int) → Prop
  | done {g} : (roundF cs g).1 = false → Settles cs 0 g (roundF cs g).2
  | step {n g gf} : (roundF cs g).1 = true → Settles cs n (roundF cs g).2 gf → Settles cs (n + 1) g gf
structure SumsX (K : PySem.W.Frag) (H : Hp) (a dx ds dl : Addr) (ms : List Str) (g : Str → Option Int) : Prop where
  o : H a = some (.ins (cSums K) dx [("own_sums", .ref ds), ("own_lasts", .ref dl)])
  ne : ds ≠ dl
  m : ∃ m, H ds = some (.dK (dI m)) ∧ (∀ k, m.lookup k = g k) ∧ KIn (dI m) ms
  l : ∃ kl, H dl = some (.dK kl) ∧ KIn kl ms
def sp_Sums_take (K : PySem.W.Frag) (mg : Str → Option Value) : Sp := fun vs H Q _ => ∃ (a dx ds dl p : Addr) (ms : List Str) (g : Str → Option Int) (c : Clause), vs = [.ref a, .ref p] ∧ SumsX K H a dx ds dl ms g ∧ H p = some (.tup [.str c.1, .str c.2.1, .int c.2.2]) ∧ c.2.1 ∈ ms ∧ ms.length ≤ 100 ∧
  ∀ H', SumsX K H' a dx ds dl ms (takeF g c).2 → (∀ b o, b ≠ ds → b ≠ dl → H b = some o → H' b = some o) → Q (.bl (takeF g c).1) H'
def sp_Sums_sum_to (K : PySem.W.Frag) (mg : Str → Option Value) : Sp := fun vs H Q _ => ∃ (a dx ds dl : Addr) (ms : List Str) (g : Str → Option Int) (k : Str), vs = [.ref a, .str k] ∧ SumsX K H a dx ds dl ms g ∧ Q (match g k with | some i => .int i | none => .non) H
def sp_Sums__init (K : PySem.W.Frag) (mg : Str → Option Value) : Sp := fun vs H Q _ => ∃ (a dx cl : Addr) (ms : List Str) (cs : List Clause) (b : Str) (n : Nat) (gf : Str → Option Int), vs = [.ref a, .ref cl, .str b] ∧ H a = some (.ins (cSums K) dx []) ∧ LAt ClV H cl cs ∧ (∀ c ∈ cs, c.2.1 ∈ ms) ∧ b ∈ ms ∧ ms.length ≤ 100 ∧
  Settles cs n (fun j => if j = b then some 0 else none) gf ∧ ∀ H' ds dl, SumsX K H' a dx ds dl ms gf → H ds = none → H dl = none → (∀ x o, x ≠ a → H x = some o → H' x = some o) → Q .non H'
section
variable {P : Program} {w : World} {K : PySem.W.Frag} {mg : Str → Option Value} {base : Heap}
def s_Sums_take : Stmt := inClass (top 36) 1
abbrev N_Sums_take : List Str := ["self", "clause", "one", "other", "number", "found"]
theorem sc_Sums_take : FnScope N_Sums_take ["self", "clause"] (defScope s_Sums_take) := C8.fnScope_by (by decide +kernel)
theorem ok_Sums_take {f : Addr} {fd : FuncData} (T : Tx K mg) (F : DefAt K "take" "Sums.take" s_Sums_take f fd) (me : Meth K (cSums K) "take" f) : Cm P w K mg base 1 (cSums K) "take" (sp_Sums_take K mg) := by
  refine met_mk F T.cl_Sums me sc_Sums_take (fun vs H Q E => ?_) (fun _ _ _ _ _ _ us hl => match us, hl with | [_, _], _ => rfl) (fun cdv A outer s H vs Q E hr h => ?_)
  · walk_at "ln"
  · obtain ⟨a, dx, ds, dl, p, ms, g, c, rfl, S, ep, h2, hz, h⟩ := h
    refine ⟨_, (pss_cons (ps_asg (pv 1) (pg_tup (n := 3) rfl (pgs_cons (pg_name (i := 2) sc_Sums_take.nd rfl (Or.inl rfl)) (pgs_cons (pg_name (i := 3) sc_Sums_take.nd rfl (Or.inl rfl)) (pgs_cons (pg_name (i := 4) sc_Sums_take.nd rfl (Or.inl rfl)) pgs_nil)))))
      (pss_cons (ps_if (pt_cmp (pc_dnotin (hu_of hr) (pv 2) (pe_fld (pv 0) rfl))) (pss_one (ps_ret pe_bl)) pss_nil)
      (pss_cons (ps_set (i := 5) sc_Sums_take.nd rfl (Or.inl rfl) (pe_op op_add (pe_dget (hu_of hr) (pe_fld (pv 0) rfl) (pv 2) (fun _ _ => rfl)) (pv 4)))
      (pss_cons (ps_if (PW.pt (pw_and (pt_cmp (pc_din (hu_of hr) (pv 3) (pe_fld (pv 0) rfl))) (pw_and1 (pt_cmpR op_le (pe_dget (hu_of hr) (pe_fld (pv 0) rfl) (pv 3) (fun _ _ => rfl)) (pv 5) (nomark _))))) (pss_one (ps_ret pe_bl)) pss_nil)
      (pss_cons (ps_dput (hu_of hr) (pe_fld (pv 0) rfl) (pv 3) (pv 5) rfl)
      (pss_cons (ps_dput (hu_of hr) (pe_fld (pv 0) rfl) (pv 3) (pv 1) rfl)
      (pss_one (ps_ret pe_bl)))))))), ?_⟩
    walk_at "nk"
    have u_cl_Sums := T.cl_Sums; have u_na_Sums_own_lasts := T.na_Sums_own_lasts; have u_na_Sums_own_sums := T.na_Sums_own_sums
    obtain ⟨o, ne, ⟨m, em, hm, km⟩, kl, el, kk⟩ := id S
    have nz : m.length < sizeLine := by have := km.len; rw [length_dI] at this; exact Nat.lt_of_le_of_lt (Nat.le_trans this hz) (by decide)
    have nl : kl.length < sizeLine := Nat.lt_of_le_of_lt (Nat.le_trans kk.len hz) (by decide)
    have na : a ≠ ds := by rintro rfl; rw [o] at em; cases em
    have nb : a ≠ dl := by rintro rfl; rw [o] at el; cases el
    have nd : p ≠ ds := by rintro rfl; rw [ep] at em; cases em
    have last : ∀ v, SumsX K (upd (upd H ds (.dK (dI (put m c.2.1 v)))) dl (.dK (putK kl (.inr c.2.1) (.ref p)))) a dx ds dl ms (upf g c.2.1 v) := fun v => by
      refine ⟨up_ne nb (up_ne na o), ne, ⟨put m c.2.1 v, up_ne ne upd_same, fun k => ?_, ?_⟩, _, upd_same, kk.put h2 _⟩
      · rw [lookup_put, hm]; rfl
      · rw [← putK_dI]; exact km.put h2 _
    have off : ∀ v, ∀ b o, b ≠ ds → b ≠ dl → H b = some o → upd (upd H ds (.dK (dI (put m c.2.1 v)))) dl (.dK (putK kl (.inr c.2.1) (.ref p))) b = some o := fun v b o h1 h2 e => up_ne h2 (up_ne h1 e)
    cases g1 : g c.1 with
    | none =>
      have e1 : m.lookup c.1 = none := by rw [hm, g1]
      walk_at "go"
      have t : takeF g c = (false, g) := by unfold takeF; rw [g1]
      rw [t] at h
      exact h _ S fun _ _ _ _ e => e
    | some x =>
      have e1 : m.lookup c.1 = some x := by rw [hm, g1]
      cases g2 : g c.2.1 with
      | none =>
        have e2 : m.lookup c.2.1 = none := by rw [hm, g2]
        walk_at "go"
        have t : takeF g c = (true, upf g c.2.1 (x + c.2.2)) := by unfold takeF; rw [g1, g2]
        rw [t] at h
        exact h _ (last _) (off _)
      | some y =>
        have e2 : m.lookup c.2.1 = some y := by rw [hm, g2]
        by_cases le : y ≤ x + c.2.2
        · walk_at "go"
          have t : takeF g c = (false, g) := by unfold takeF; rw [g1, g2]; exact if_pos le
          rw [t] at h
          exact h _ S fun _ _ _ _ e => e
        · walk_at "go"
          have t : takeF g c = (true, upf g c.2.1 (x + c.2.2)) := by unfold takeF; rw [g1, g2]; exact if_neg le
          rw [t] at h
          exact h _ (last _) (off _)
def s_Sums_sum_to : Stmt := inClass (top 36) 2
abbrev N_Sums_sum_to : List Str := ["self", "end"]
theorem sc_Sums_sum_to : FnScope N_Sums_sum_to ["self", "end"] (defScope s_Sums_sum_to) := C8.fnScope_by (by decide +kernel)
theorem ok_Sums_sum_to {f : Addr} {fd : FuncData} (T : Tx K mg) (F : DefAt K "sum_to" "Sums.sum_to" s_Sums_sum_to f fd) (me : Meth K (cSums K) "sum_to" f) : Cm P w K mg base 1 (cSums K) "sum_to" (sp_Sums_sum_to K mg) := by
  refine met_mk F T.cl_Sums me sc_Sums_sum_to (fun vs H Q E => ?_) (fun _ _ _ _ _ _ us hl => match us, hl with | [_, _], _ => rfl) (fun cdv A outer s H vs Q E hr h => ?_)
  · walk_at "ln"
  · obtain ⟨a, dx, ds, dl, ms, g, k, rfl, S, h⟩ := h
    refine ⟨_, (pss_one (ps_ret (pe_dget2 (hu_of hr) (pe_fld (pv 0) rfl) (pv 1) pe_non ⟨rfl, rfl, rfl, rfl⟩))), ?_⟩
    walk_at "nk"
    have u_cl_Sums := T.cl_Sums; have u_na_Sums_own_sums := T.na_Sums_own_sums
    obtain ⟨o, ne, ⟨m, em, hm, km⟩, kl, el, kk⟩ := id S
    have e : m.lookup k = g k := hm k
    walk_at "go"
    cases q : g k with
    | none => rw [q] at h; exact h
    | some i => rw [q] at h; exact h
def s_Sums__init : Stmt := inClass (top 36) 0
abbrev N_Sums__init : List Str := ["self", "clauses", "begin", "is_changed", "clause"]
theorem sc_Sums__init : FnScope N_Sums__init ["self", "clauses", "begin"] (defScope s_Sums__init) := C8.fnScope_by (by decide +kernel)
theorem ok_Sums__init {f : Addr} {fd : FuncData} (T : Tx K mg) (F : DefAt K "__init__" "Sums.__init__" s_Sums__init f fd) (M : Mk K (cSums K) f) (hm : mg "Sums" = some (.ref (cSums K))) (c_Sums_take : Cm P w K mg base 1 (cSums K) "take" (sp_Sums_take K mg)) : Cn P w K mg base 2 "Sums" (cSums K) (sp_Sums__init K mg) := by
  refine mak_mk F M hm sc_Sums__init (fun vs H Q E => ?_) (fun _ _ _ _ _ _ us hl => match us, hl with | [_, _, _], _ => rfl) (fun cdv A outer s H vs Q E hr h => ?_)
  · walk_at "ln"
  · obtain ⟨a, dx, cl, ms, cs, b, n, gf, rfl, o, ⟨xs, el, al⟩, hc, hb, hz, st, h⟩ := h
    refine ⟨_, (pss_cons (ps_fld (pv 0) (pe_disp (pps_cons (pv 2) pe_int pps_nil) (by rfl) (by rfl) (fun z => by cases z) (by decide)) rfl)
      (pss_cons (ps_fld (pv 0) pe_dnewK rfl)
      (pss_cons (ps_set (i := 3) sc_Sums__init.nd rfl (Or.inl rfl) pe_bl)
      (pss_one (ps_while PassesOwn.never (pt_val (pv 3)) (pss_cons (ps_set (i := 3) sc_Sums__init.nd rfl (Or.inl rfl) pe_bl)
      (pss_one (ps_for PassesOwn.never rfl (pi_list (pv 1)) (pg_name (i := 4) sc_Sums__init.nd rfl (Or.inl rfl)) (pss_one (ps_set (i := 3) sc_Sums__init.nd rfl (Or.inl rfl) (pe_or (pe_m c_Sums_take hr (by decide) (pv 0) (pa_cons (pv 4) pa_nil)) (pe_one (pv 3))))))))))))), ?_⟩
    walk_at "nk"
    have u_cl_Sums := T.cl_Sums; have u_na_Sums_own_lasts := T.na_Sums_own_lasts; have u_na_Sums_own_sums := T.na_Sums_own_sums
    walk_at "go"
    intro p hp
    walk_at "go"
    refine ⟨upd_same, [(.inr b, .int 0)], rfl, by simp, ?_⟩
    have ha1 : a ≠ p := ne_of_none o hp
    rw [upd_upd]
    walk_at "go"
    intro q hq
    obtain ⟨hqa, hq1⟩ := none_up hq
    obtain ⟨hqp, hq0⟩ := none_up hq1
    walk_at "go"
    have S0 : SumsX K (upd (upd (upd (upd H p (.dK (mergeK [] [(.inr b, .int 0)]))) a (.ins (cSums K) dx (putF "own_sums" (.ref p) []))) q (.dK [])) a (.ins (cSums K) dx (putF "own_lasts" (.ref q) (putF "own_sums" (.ref p) [])))) a dx p q ms (fun j => if j = b then some 0 else none) := by
      refine ⟨upd_same, hqp.symm, ⟨[(b, 0)], up_ne ha1.symm (up_ne hqp.symm (up_ne ha1.symm upd_same)), fun k => ?_, ?_⟩, [], up_ne hqa upd_same, KIn.nil⟩
      · rw [List.lookup_cons, List.lookup_nil]
        by_cases e : k = b
        · subst e; simp
        · rw [if_neg e, beq_eq_false_iff_ne.mpr e]
      · exact ⟨by simp [dI], fun p hp => ⟨b, hb, by simp [dI] at hp; rw [hp]⟩⟩
    have fr : ∀ x o, x ≠ a → H x = some o → (upd (upd (upd (upd H p (.dK (mergeK [] [(.inr b, .int 0)]))) a (.ins (cSums K) dx (putF "own_sums" (.ref p) []))) q (.dK [])) a (.ins (cSums K) dx (putF "own_lasts" (.ref q) (putF "own_sums" (.ref p) [])))) x = some o := fun x o n e => up_ne n (up_ne (ne_of_none e hq0) (up_ne n (up_ne (ne_of_none e hp) e)))
    generalize (upd (upd (upd (upd H p (.dK (mergeK [] [(.inr b, .int 0)]))) a (.ins (cSums K) dx (putF "own_sums" (.ref p) []))) q (.dK [])) a (.ins (cSums K) dx (putF "own_lasts" (.ref q) (putF "own_sums" (.ref p) [])))) = H1 at S0 fr ⊢
    refine whileW (fun m σ H' => ∃ ch y g, σ = [some (.ref a), some (.ref cl), some (.str b), some (.bl ch), y] ∧ SumsX K H' a dx p q ms g ∧ (∀ x o, x ≠ a → H x = some o → H' x = some o) ∧ ((ch = true ∧ ∃ k, m = k + 1 ∧ Settles cs k g gf) ∨ (ch = false ∧ g = gf))) (n + 1) ⟨_, _, _, rfl, S0, fr, .inl ⟨rfl, n, rfl, st⟩⟩ (fun m σ H2 hW => ?_)
    obtain ⟨ch, y, g, rfl, S, fr2, hch⟩ := hW
    walk_at "go"
    rcases hch with ⟨rfl, k, rfl, st⟩ | ⟨rfl, rfl⟩
    · walk_at "go"
      refine ⟨_, fun σ' H' h => h, ?_⟩
      walk_at "go"
      have ncl : cl ≠ a := fun z => by subst z; rw [o] at el; cases el
      refine forL al (fun d σ H' => ∃ y, σ = [some (.ref a), some (.ref cl), some (.str b), some (.bl (d.foldl turnF (false, g)).1), y] ∧ SumsX K H' a dx p q ms (d.foldl turnF (false, g)).2 ∧ (∀ x o, x ≠ a → H x = some o → H' x = some o)) ⟨y, rfl, S, fr2⟩ (fun d σ H' p => p.choose_spec.2.2 _ _ ncl el) (fun d c r x σ H3 e ex hp => ?_) (fun σ H3 hp => ?_)
      · obtain ⟨y, rfl, S3, fr3⟩ := hp
        obtain ⟨pc, rfl, epc, _⟩ := ex
        have o3 := S3.o
        walk_at "go"
        refine ⟨_, _, _, _, _, _, _, c, rfl, S3, fr3 _ _ (fun z => by subst z; rw [o] at epc; cases epc) epc, hc c (by rw [e]; simp), hz, fun H4 S4 fr4 => ?_⟩
        have eT : (d ++ [c]).foldl turnF (false, g) = turnF (d.foldl turnF (false, g)) c := by rw [List.foldl_append]; rfl
        have fr5 : ∀ x o, x ≠ a → H x = some o → H4 x = some o := fun x o n e => fr4 _ _ (ne_of_none e hp) (ne_of_none e hq0) (fr3 _ _ n e)
        simp only [eT]
        cases hb1 : (takeF (d.foldl turnF (false, g)).2 c).1 with
        | true =>
          walk_at "go"
          exact ⟨_, by rw [turnF_fst, hb1]; rfl, S4, fr5⟩
        | false =>
          walk_at "go"
          exact ⟨_, by rw [turnF_fst, hb1]; rfl, S4, fr5⟩
      · obtain ⟨y, rfl, S3, fr3⟩ := hp
        cases st with
        | done h0 =>
          refine ⟨0, Nat.succ_pos _, false, y, _, ?_, S3, fr3, .inr ⟨rfl, rfl⟩⟩
          rw [show (cs.foldl turnF (false, g)).1 = false from h0]
        | step h0 st =>
          refine ⟨_, Nat.lt_succ_self _, true, y, _, ?_, S3, fr3, .inl ⟨rfl, _, rfl, st⟩⟩
          rw [show (cs.foldl turnF (false, g)).1 = true from h0]
    · walk_at "go"
      exact h _ _ _ S hp hq0 fr2
end
end Ld
namespace Ld
open PySem PySem.Spec PyProof.Rows L2
/-! ### Days -/
def dmap (ms : List Str) (d : Str → Int) : List (Str × Int) := ms.map fun k => (k, d k)
def updD (d : Str → Int) (k : Str) (v : Int) : Str → Int := fun j => if j = k then v else d j
def stepD (s : Option Str × (Str → Int)) (c : Clause) : Option Str × (Str → Int) := if s.2 c.1 > s.2 c.2.1 + c.2.2 then (some c.1, updD s.2 c.1 (s.2 c.2.1 + c.2.2)) else s
def roundD (cs : List Clause) (d : Str → Int) : Option Str × (Str → Int) := cs.foldl stepD (none, d)
def iterD (cs : List Clause) : Nat → Option Str × (Str → Int) → Option Str × (Str → Int)
  | 0, s => s
  | n + 1, s => roundD cs (iterD cs n s).2
def optS : Option Str → V
  | some s => .str s
  | none => .non
theorem lookup_dmap {ms : List Str} (d : Str → Int) {k : Str} (h : k ∈ ms) : (dmap ms d).lookup k = some (d k) := by
  induction ms with
  | nil => cases h
  | cons x ms ih =>
    show ((x, d x) :: dmap ms d).lookup k = _
    by_cases e : k = x
    · subst e; rw [List.lookup_cons_self]
    · rw [List.lookup_cons, beq_eq_false_iff_ne.mpr e]
      exact ih (by cases h with | head => exact (e rfl).elim | tail _ h => exact h)
theorem put_dmap {ms : List Str} (d : Str → Int) {k : Str} (h : k ∈ ms) (v : Int) : put (dmap ms d) k v = dmap ms (updD d k v) := by
  have e : ((dmap ms d).any fun p => decide (p.1 = k)) = true := by
    rw [List.any_eq_true]
    exact ⟨(k, d k), List.mem_map.mpr ⟨k, h, rfl⟩, by simp⟩
  unfold put
  rw [if_pos e]
  unfold dmap
  rw [List.map_map]
  apply List.map_congr_left
  intro x hx
  simp only [Function.comp, updD]
  split <;> simp_all
theorem keys_dmap (ms : List Str) (d : Str → Int) : (dI (dmap ms d)).map (·.1) = ms.map Sum.inr := by
  unfold dI dmap
  rw [List.map_map, List.map_map]
  rfl
structure DaysX (K : PySem.W.Frag) (H : Hp) (a dx dd dl : Addr) (ms : List Str) (d : Str → Int) (more : List (Str × V)) : Prop where
  o : H a = some (.ins (cDays K) dx (("own_days", .ref dd) :: ("own_last", .ref dl) :: more))
  ne : dd ≠ dl
  m : H dd = some (.dK (dI (dmap ms d)))
  l : ∃ kl, H dl = some (.dK kl) ∧ KIn kl ms
theorem DaysX.off {K : PySem.W.Frag} {H H' : Hp} {a dx dd dl b : Addr} {ms : List Str} {d : Str → Int} {more : List (Str × V)} {C cx : Addr} {fs : List (Str × V)} (S : DaysX K H a dx dd dl ms d more) (hb : H b = some (.ins C cx fs)) (nab : a ≠ b) (k : ∀ x o, x ≠ b → H x = some o → H' x = some o) : DaysX K H' a dx dd dl ms d more := by
  obtain ⟨o, ne, m, kl, el, kk⟩ := S
  exact ⟨k _ _ nab o, ne, k _ _ (fun z => by rw [z, hb] at m; cases m) m, kl, k _ _ (fun z => by rw [z, hb] at el; cases el) el, kk⟩
theorem DaysX.same {K : PySem.W.Frag} {H H' : Hp} {a dx dd dl : Addr} {ms : List Str} {d : Str → Int} {more : List (Str × V)} (S : DaysX K H a dx dd dl ms d more) (k : Same H H') : DaysX K H' a dx dd dl ms d more := by
  obtain ⟨o, ne, m, kl, el, kk⟩ := S
  exact ⟨k _ _ o, ne, k _ _ m, kl, k _ _ el, kk⟩
def sp_Days_changed_by (K : PySem.W.Frag) (mg : Str → Option Value) : Sp := fun vs H Q _ => ∃ (a dx dd dl cl : Addr) (ms : List Str) (d : Str → Int) (cs : List Clause) (more : List (Str × V)), vs = [.ref a, .ref cl] ∧ DaysX K H a dx dd dl ms d more ∧ LAt ClV H cl cs ∧ (∀ c ∈ cs, c.1 ∈ ms ∧ c.2.1 ∈ ms) ∧ ms.length ≤ 50 ∧
  ∀ H', DaysX K H' a dx dd dl ms (roundD cs d).2 more → (∀ b o, b ≠ dd → b ≠ dl → H b = some o → H' b = some o) → Q (optS (roundD cs d).1) H'
def sp_Days__init (K : PySem.W.Frag) (mg : Str → Option Value) : Sp := fun vs H Q _ => ∃ (a dx am cl : Addr) (ms : List Str) (cs : List Clause), vs = [.ref a, .ref am, .ref cl] ∧ H a = some (.ins (cDays K) dx []) ∧ H am = some (.lst (ms.map V.str)) ∧ ms.Nodup ∧ ms.length ≤ 50 ∧ LAt ClV H cl cs ∧ (∀ c ∈ cs, c.1 ∈ ms ∧ c.2.1 ∈ ms) ∧
  (iterD cs (ms.length + 1) (none, fun _ => 0)).1 = none ∧ ∀ H' dd dl d, DaysX K H' a dx dd dl ms d [("own_ring", .non)] → (∀ x o, x ≠ a → H x = some o → H' x = some o) → Q .non H'
def sp_Days_ring (K : PySem.W.Frag) (mg : Str → Option Value) : Sp := fun vs H Q _ => ∃ (a dx dd dl : Addr) (ms : List Str) (d : Str → Int), vs = [.ref a] ∧ DaysX K H a dx dd dl ms d [("own_ring", .non)] ∧ Q .non H
def sp_Days_dates (K : PySem.W.Frag) (mg : Str → Option Value) : Sp := fun vs H Q _ => ∃ (a dx dd dl : Addr) (ms : List Str) (d : Str → Int) (more : List (Str × V)), vs = [.ref a] ∧ DaysX K H a dx dd dl ms d more ∧ dayS ∈ ms ∧ ms.Nodup ∧ ms.length ≤ 50 ∧ ∀ H' p, Same H H' → Q (.ref p) H'
section
variable {P : Program} {w : World} {K : PySem.W.Frag} {mg : Str → Option Value} {base : Heap}
def s_Days_changed_by : Stmt := inClass (top 37) 1
abbrev N_Days_changed_by : List Str := ["self", "clauses", "changed", "clause", "one", "other", "number"]
theorem sc_Days_changed_by : FnScope N_Days_changed_by ["self", "clauses"] (defScope s_Days_changed_by) := C8.fnScope_by (by decide +kernel)
theorem ok_Days_changed_by {f : Addr} {fd : FuncData} (T : Tx K mg) (F : DefAt K "changed_by" "Days.changed_by" s_Days_changed_by f fd) (me : Meth K (cDays K) "changed_by" f) : Cm P w K mg base 1 (cDays K) "changed_by" (sp_Days_changed_by K mg) := by
  refine met_mk F T.cl_Days me sc_Days_changed_by (fun vs H Q E => ?_) (fun _ _ _ _ _ _ us hl => match us, hl with | [_, _], _ => rfl) (fun cdv A outer s H vs Q E hr h => ?_)
  · walk_at "ln"
  · obtain ⟨a, dx, dd, dl, cl, ms, d, cs, more, rfl, S, ⟨xs, el, al⟩, hc, hz, h⟩ := h
    refine ⟨_, (pss_cons (ps_set (i := 2) sc_Days_changed_by.nd rfl (Or.inl rfl) pe_non)
      (pss_cons (ps_for PassesOwn.never rfl (pi_list (pv 1)) (pg_name (i := 3) sc_Days_changed_by.nd rfl (Or.inl rfl)) (pss_cons (ps_asg (pv 3) (pg_tup (n := 3) rfl (pgs_cons (pg_name (i := 4) sc_Days_changed_by.nd rfl (Or.inl rfl)) (pgs_cons (pg_name (i := 5) sc_Days_changed_by.nd rfl (Or.inl rfl)) (pgs_cons (pg_name (i := 6) sc_Days_changed_by.nd rfl (Or.inl rfl)) pgs_nil)))))
      (pss_one (ps_if (pt_cmpR op_gt (pe_dget (hu_of hr) (pe_fld (pv 0) rfl) (pv 4) (fun _ _ => rfl)) (pe_op op_add (pe_dget (hu_of hr) (pe_fld (pv 0) rfl) (pv 5) (fun _ _ => rfl)) (pv 6)) (nomark _)) (pss_cons (ps_dput (hu_of hr) (pe_fld (pv 0) rfl) (pv 4) (pe_op op_add (pe_dget (hu_of hr) (pe_fld (pv 0) rfl) (pv 5) (fun _ _ => rfl)) (pv 6)) rfl)
      (pss_cons (ps_dput (hu_of hr) (pe_fld (pv 0) rfl) (pv 4) (pv 3) rfl)
      (pss_one (ps_set (i := 2) sc_Days_changed_by.nd rfl (Or.inl rfl) (pv 4))))) pss_nil))))
      (pss_one (ps_ret (pv 2))))), ?_⟩
    walk_at "nk"
    have u_cl_Days := T.cl_Days; have u_na_Days_own_days := T.na_Days_own_days; have u_na_Days_own_last := T.na_Days_own_last
    have nd : cl ≠ dd := fun z => by have := S.m; rw [← z, el] at this; cases this
    have nl : cl ≠ dl := fun z => by obtain ⟨kl, e, _⟩ := S.l; rw [← z, el] at e; cases e
    walk_at "go"
    refine forL al (fun d1 σ H' => ∃ x y z u, σ = [some (.ref a), some (.ref cl), some (optS (d1.foldl stepD (none, d)).1), x, y, z, u] ∧ DaysX K H' a dx dd dl ms (d1.foldl stepD (none, d)).2 more ∧ (∀ b o, b ≠ dd → b ≠ dl → H b = some o → H' b = some o))
      ⟨_, _, _, _, rfl, S, fun _ _ _ _ e => e⟩ (fun d1 σ H' p => by obtain ⟨_, _, _, _, _, _, p⟩ := p; exact p _ _ nd nl el) (fun d1 c r x σ H3 e ex hp => ?_) (fun σ H3 hp => ?_)
    · obtain ⟨x1, y1, z1, u1, rfl, S3, fr3⟩ := hp
      obtain ⟨pc, rfl, epc, _⟩ := ex
      have npd : pc ≠ dd := fun z => by have := S.m; rw [← z, epc] at this; cases this
      have npl : pc ≠ dl := fun z => by obtain ⟨kl, e, _⟩ := S.l; rw [← z, epc] at e; cases e
      have epc3 := fr3 _ _ npd npl epc
      have eT : (d1 ++ [c]).foldl stepD (none, d) = stepD (d1.foldl stepD (none, d)) c := by rw [List.foldl_append]; rfl
      simp only [eT]
      obtain ⟨h1, h2⟩ := hc c (by rw [e]; simp)
      generalize d1.foldl stepD (none, d) = sd at S3 ⊢
      obtain ⟨ch, d2⟩ := sd
      obtain ⟨o3, ne, m3, kl, el3, kk⟩ := id S3
      have l1 := lookup_dmap d2 h1
      have l2 := lookup_dmap d2 h2
      have nad : a ≠ dd := fun z => by have := S3.m; rw [← z, o3] at this; cases this
      have nal : a ≠ dl := fun z => by rw [← z, o3] at el3; cases el3
      have z1 : (dmap ms d2).length < sizeLine := by unfold dmap; rw [List.length_map]; exact Nat.lt_of_le_of_lt hz (by decide)
      have z2 : kl.length < sizeLine := Nat.lt_of_le_of_lt (Nat.le_trans kk.len hz) (by decide)
      walk_at "go"
      by_cases gt : d2 c.1 > d2 c.2.1 + c.2.2
      · walk_at "go"
        have t : stepD (ch, d2) c = (some c.1, updD d2 c.1 (d2 c.2.1 + c.2.2)) := if_pos gt
        rw [t, put_dmap _ h1]
        refine ⟨_, _, _, _, rfl, ⟨up_ne nal (up_ne nad o3), ne, up_ne ne upd_same, _, upd_same, kk.put h1 _⟩, fun b o n1 n2 e => up_ne n2 (up_ne n1 (fr3 _ _ n1 n2 e))⟩
      · walk_at "go"
        have t : stepD (ch, d2) c = (ch, d2) := if_neg gt
        rw [t]
        exact ⟨_, _, _, _, rfl, S3, fr3⟩
    · obtain ⟨x1, y1, z1, u1, rfl, S3, fr3⟩ := hp
      walk_at "go"
      exact h _ S3 fr3
def s_Days_ring : Stmt := inClass (top 37) 3
abbrev N_Days_ring : List Str := ["self"]
theorem sc_Days_ring : FnScope N_Days_ring ["self"] (defScope s_Days_ring) := C8.fnScope_by (by decide +kernel)
theorem ok_Days_ring {f : Addr} {fd : FuncData} (T : Tx K mg) (F : DefAt K "ring" "Days.ring" s_Days_ring f fd) (me : Meth K (cDays K) "ring" f) : Cm P w K mg base 1 (cDays K) "ring" (sp_Days_ring K mg) := by
  refine met_mk F T.cl_Days me sc_Days_ring (fun vs H Q E => ?_) (fun _ _ _ _ _ _ us hl => match us, hl with | [_], _ => rfl) (fun cdv A outer s H vs Q E hr h => ?_)
  · walk_at "ln"
  · obtain ⟨a, dx, dd, dl, ms, d, rfl, S, h⟩ := h
    refine ⟨_, (pss_one (ps_ret (pe_ifExp (pt_cmpR op_isNo (pe_fld (pv 0) rfl) pe_non (nomark _)) pe_non (pe_callTy cr_list (by rfl) T.f_list (by decide +kernel) (pa_cons (pe_fld (pv 0) rfl) pa_nil))))), ?_⟩
    walk_at "nk"
    have u_cl_Days := T.cl_Days; have u_na_Days_own_ring := T.na_Days_own_ring
    have o := S.o
    walk_at "go"
    exact h
def s_Days_dates : Stmt := inClass (top 37) 4
abbrev N_Days_dates : List Str := ["self", "first", "moment"]
theorem sc_Days_dates : FnScope N_Days_dates ["self"] (defScope s_Days_dates) := C8.fnScope_by (by decide +kernel)
theorem ok_Days_dates {f : Addr} {fd : FuncData} (T : Tx K mg) (F : DefAt K "dates" "Days.dates" s_Days_dates f fd) (me : Meth K (cDays K) "dates" f) : Cm P w K mg base 1 (cDays K) "dates" (sp_Days_dates K mg) := by
  refine met_mk F T.cl_Days me sc_Days_dates (fun vs H Q E => ?_) (fun _ _ _ _ _ _ us hl => match us, hl with | [_], _ => rfl) (fun cdv A outer s H vs Q E hr h => ?_)
  · walk_at "ln"
  · obtain ⟨a, dx, dd, dl, ms, d, more, rfl, S, hd, nd, hz, h⟩ := h
    refine ⟨_, (pss_cons (ps_set (i := 1) sc_Days_dates.nd rfl (Or.inr rfl) (pe_dget (hu_of hr) (pe_fld (pv 0) rfl) (C8.pe_gc (by rfl) T.g_ZERO) (fun _ _ => rfl)))
      (pss_one (ps_ret (pe_dc (own := [("moment", 2)]) rfl sc_Days_dates.nd (pi_list (pe_callB (cr_sortedDK rfl) (by rfl) T.f_sorted (by decide +kernel) (pa_cons (pe_fld (pv 0) rfl) pa_nil))) (blkOk_by (own := [("moment", 2)]) (N := N_Days_dates) (sc := defScope s_Days_dates) (by decide +kernel)) (fun _ _ _ _ _ => (pg_name (i := 2) sc_Days_dates.nd rfl (Or.inl rfl))) (fun _ _ _ _ _ => (pts_one (pt_cmpR op_ne (pv 2) (C8.pe_gc (by rfl) T.g_ZERO) (nomark _)))) (fun _ _ _ _ _ => (pv 2)) (fun _ _ _ _ _ => (pe_op op_sub (pe_dget (hu_of hr) (pe_fldB (K := K) (pv 0) rfl) (pv 2) (fun _ _ => rfl)) (pv 1))))))), ?_⟩
    walk_at "nk"
    have u_cl_Days := T.cl_Days; have u_na_Days_own_days := T.na_Days_own_days
    obtain ⟨o, ne, m, kl, el, kk⟩ := id S
    have l0 := lookup_dmap d hd
    walk_at "go"
    refine go_sortedDK m (keys_dmap ms d) (by omega) (fun ys p pm so hp => ?_)
    refine dcL upd_same (All2.raw V.str ys) (fun k => if k = dayS then none else some (k, .int (d k - d dayS))) ?_ ?_ (fun x k H' hk ex sm => ?_) (fun D H' hD sm eD => ?_)
    · rw [pm.length_eq]; exact Nat.lt_of_le_of_lt hz (by decide)
    · refine nodup_out (key := id) (fun c p e => ?_) (by rw [List.map_id]; exact pm.nodup_iff.mpr nd)
      by_cases z : c = dayS
      · rw [if_pos z] at e; cases e
      · rw [if_neg z] at e; cases e; rfl
    · intro Qo Qn ho hn
      subst ex
      have o1 := sm _ _ (up_old hp o)
      have m1 := sm _ _ (up_old hp m)
      have l1 := lookup_dmap d (pm.mem_iff.mp hk)
      walk_at "go"
      by_cases z : k = dayS
      · have z2 : V.str k = V.str dayS := by rw [z]
        walk_at "go"
        exact hn (if_pos z) _ (Same.refl' _)
      · have z2 : V.str k ≠ V.str dayS := fun e => z (V.str.inj e)
        walk_at "go"
        exact ho _ _ _ (if_neg z) (Same.refl' _)
    · exact h _ _ (Same.trans' (same_new hp) sm)
def s_Days__init : Stmt := inClass (top 37) 0
abbrev N_Days__init : List Str := ["self", "moments", "clauses", "changed", "turn", "moment"]
theorem sc_Days__init : FnScope N_Days__init ["self", "moments", "clauses"] (defScope s_Days__init) := C8.fnScope_by (by decide +kernel)
theorem ok_Days__init {f : Addr} {fd : FuncData} (T : Tx K mg) (F : DefAt K "__init__" "Days.__init__" s_Days__init f fd) (M : Mk K (cDays K) f) (hm : mg "Days" = some (.ref (cDays K))) (c_Days_changed_by : Cm P w K mg base 1 (cDays K) "changed_by" (sp_Days_changed_by K mg)) : Cn P w K mg base 2 "Days" (cDays K) (sp_Days__init K mg) := by
  refine mak_mk F M hm sc_Days__init (fun vs H Q E => ?_) (fun _ _ _ _ _ _ us hl => match us, hl with | [_, _, _], _ => rfl) (fun cdv A outer s H vs Q E hr h => ?_)
  · walk_at "ln"
  · obtain ⟨a, dx, am, cl, ms, cs, rfl, o, em, nd, hz, ⟨xs, el, al⟩, hc, hi, h⟩ := h
    refine ⟨_, (pss_cons (ps_fld (pv 0) (pe_dc (own := [("moment", 5)]) rfl sc_Days__init.nd (pi_list (pv 1)) (blkOk_by (own := [("moment", 5)]) (N := N_Days__init) (sc := defScope s_Days__init) (by decide +kernel)) (fun _ _ _ _ _ => (pg_name (i := 5) sc_Days__init.nd rfl (Or.inl rfl))) (fun _ _ _ _ _ => pts_nil) (fun _ _ _ _ _ => (pv 5)) (fun _ _ _ _ _ => pe_int)) rfl)
      (pss_cons (ps_fld (pv 0) pe_dnewK rfl)
      (pss_cons (ps_set (i := 3) sc_Days__init.nd rfl (Or.inl rfl) pe_non)
      (pss_cons (ps_for PassesOwn.never rfl (pi_range1 (by rfl) T.f_range (pa_cons (pe_op op_add (pe_callB cr_lenD (by rfl) T.f_len (by decide +kernel) (pa_cons (pe_fld (pv 0) rfl) pa_nil)) pe_int) pa_nil)) (pg_name (i := 4) sc_Days__init.nd rfl (Or.inl rfl)) (pss_one (ps_set (i := 3) sc_Days__init.nd rfl (Or.inl rfl) (pe_m c_Days_changed_by hr (by decide) (pv 0) (pa_cons (pv 2) pa_nil)))))
      (pss_one (ps_fld (pv 0) (pe_ifExp (pt_cmpR op_isNo (pv 3) pe_non (nomark _)) pe_non pe_no) rfl)))))), ?_⟩
    walk_at "nk"
    have u_cl_Days := T.cl_Days; have u_na_Days_own_days := T.na_Days_own_days; have u_na_Days_own_last := T.na_Days_own_last; have u_na_Days_own_ring := T.na_Days_own_ring
    walk_at "go"
    refine dcL em (All2.raw V.str ms) (fun k => some (k, .int 0)) (Nat.lt_of_le_of_lt hz (by decide)) (nodup_out (key := id) (fun c p e => by cases e; rfl) (by rw [List.map_id]; exact nd)) (fun x k H' hk ex sm => ?_) (fun D H1 hD sm eD => ?_)
    · intro Qo Qn ho hn
      subst ex
      walk_at "go"
      exact ho _ _ _ rfl (Same.refl' _)
    · have eD : H1 D = some (.dK (dI (dmap ms fun _ => 0))) := by
        rw [eD]
        simp [dS, dI, dmap]
      have o1 := sm _ _ o
      have hDa : D ≠ a := fun z => by rw [z, o1] at eD; cases eD
      walk_at "go"
      intro q hq
      obtain ⟨hqa, hq1⟩ := none_up hq
      have hqD : q ≠ D := fun z => by rw [z, eD] at hq1; cases hq1
      have nm : cl ≠ a := fun z => by rw [z, o] at el; cases el
      walk_at "go"
      have hq0 : H q = none := by
        cases e : H q with
        | none => rfl
        | some u => rw [sm _ _ e] at hq1; cases hq1
      have S0 : DaysX K (upd (upd (upd H1 a (.ins (cDays K) dx (putF "own_days" (.ref D) []))) q (.dK [])) a (.ins (cDays K) dx (putF "own_last" (.ref q) (putF "own_days" (.ref D) [])))) a dx D q ms (fun _ => 0) [] := by
        refine ⟨upd_same, hqD.symm, up_ne hDa (up_ne hqD.symm (up_ne hDa eD)), [], up_ne hqa upd_same, KIn.nil⟩
      have fr : ∀ x o, x ≠ a → H x = some o → (upd (upd (upd H1 a (.ins (cDays K) dx (putF "own_days" (.ref D) []))) q (.dK [])) a (.ins (cDays K) dx (putF "own_last" (.ref q) (putF "own_days" (.ref D) [])))) x = some o :=
        fun x o n e => up_ne n (up_ne (ne_of_none e hq0) (up_ne n (sm _ _ e)))
      generalize (upd (upd (upd H1 a (.ins (cDays K) dx (putF "own_days" (.ref D) []))) q (.dK [])) a (.ins (cDays K) dx (putF "own_last" (.ref q) (putF "own_days" (.ref D) [])))) = H2 at S0 fr ⊢
      refine forR (n := ms.length + 1) (by rw [length_dI]; simp [dmap]) (by omega) (fun i σ H' => ∃ t, σ = [some (.ref a), some (.ref am), some (.ref cl), some (optS (iterD cs i (none, fun _ => 0)).1), t, none] ∧ DaysX K H' a dx D q ms (iterD cs i (none, fun _ => 0)).2 [] ∧ (∀ x o, x ≠ a → H x = some o → H' x = some o))
        ⟨none, rfl, S0, fr⟩ (fun i σ H3 hi hp => ?_) (fun σ H3 hp => ?_)
      · obtain ⟨t, rfl, S3, fr3⟩ := hp
        have o3 := S3.o
        walk_at "go"
        refine ⟨_, _, _, _, _, _, _, cs, _, rfl, S3, ⟨xs, fr3 _ _ nm el, al.mono fun v c h => ?_⟩, hc, hz, fun H4 S4 fr4 => ?_⟩
        · obtain ⟨pc, e1, e2, e3⟩ := h
          exact ⟨pc, e1, fr3 _ _ (fun z => by rw [z, o] at e2; cases e2) e2, e3⟩
        · walk_at "go"
          exact ⟨_, rfl, S4, fun x o n e => fr4 _ _ (ne_of_none e hD) (ne_of_none e hq0) (fr3 _ _ n e)⟩
      · obtain ⟨t, rfl, S3, fr3⟩ := hp
        rw [hi]
        obtain ⟨o3, ne3, m3, kl, el3, kk⟩ := id S3
        have n1 : D ≠ a := hDa
        walk_at "go"
        refine h _ _ _ _ ⟨upd_same, ne3, up_ne hDa m3, kl, up_ne hqa el3, kk⟩ (fun x o n e => up_ne n (fr3 _ _ n e))
end
end Ld
namespace Ld
open PySem PySem.Spec PyProof.Rows L2
/-! ### Closed -/
def NoRing (ms : List Str) (cs : List Clause) : Prop := (iterD cs (ms.length + 1 + 1) (none, fun _ => 0)).1 = none
def one0 (b : Str) : Str → Option Int := fun j => if j = b then some 0 else none
/-- moments and clauses that may be taken -/
structure Good (ms : List Str) (cs : List Clause) : Prop where
  nm : ∀ s ∈ ms, NameS s
  nd : ms.Nodup
  len : ms.length ≤ 8
  cl : ∀ c ∈ cs, c.1 ∈ ms ++ [dayS] ∧ c.2.1 ∈ ms ++ [dayS] ∧ c.1 ≠ c.2.1
  cn : cs.Nodup
  cz : cs.length ≤ 40
theorem Good.nodup {ms : List Str} {cs : List Clause} (g : Good ms cs) : (ms ++ [dayS]).Nodup := by
  rw [List.nodup_append]
  exact ⟨g.nd, by simp, fun a ha b hb => by rintro rfl; rw [List.mem_singleton] at hb; exact (g.nm _ ha).2.2.2 hb⟩
structure ClosedX (K : PySem.W.Frag) (H : Hp) (a dr : Addr) (ms : List Str) (cs : List Clause) : Prop where
  ex : ∃ dx am cl da ddx dd dl d, H a = some (.ins (cClosed K) dx [("own_moments", .ref am), ("own_clauses", .ref cl), ("own_days", .ref da), ("own_rows", .ref dr)]) ∧ LAt ClV H cl cs ∧ DaysX K H da ddx dd dl (ms ++ [dayS]) d [("own_ring", .non)] ∧ H dr = some (.dK [])
def sp_Closed__init (K : PySem.W.Frag) (mg : Str → Option Value) : Sp := fun vs H Q _ => ∃ (a dx am cl : Addr) (ms : List Str) (cs : List Clause), vs = [.ref a, .ref am, .ref cl] ∧ H a = some (.ins (cClosed K) dx []) ∧ H am = some (.lst (ms.map V.str)) ∧ LAt ClV H cl cs ∧ Good ms cs ∧ NoRing ms cs ∧ ∀ H' dr, ClosedX K H' a dr ms cs → H dr = none → (∀ x o, x ≠ a → H x = some o → H' x = some o) → Q .non H'
def sp_Closed_ring (K : PySem.W.Frag) (mg : Str → Option Value) : Sp := fun vs H Q _ => ∃ (a dr : Addr) (ms : List Str) (cs : List Clause), vs = [.ref a] ∧ ClosedX K H a dr ms cs ∧ Q .non H
def sp_Closed_sums_from (K : PySem.W.Frag) (mg : Str → Option Value) : Sp := fun vs H Q _ => ∃ (a dr : Addr) (ms : List Str) (cs : List Clause) (b : Str) (n : Nat) (gf : Str → Option Int), vs = [.ref a, .str b] ∧ ClosedX K H a dr ms cs ∧ Good ms cs ∧ b ∈ ms ++ [dayS] ∧ Settles cs n (one0 b) gf ∧ ∀ H' s sx ds dl, SumsX K H' s sx ds dl (ms ++ [dayS]) gf → (∀ x o, x ≠ dr → H x = some o → H' x = some o) → Q (.ref s) H'
def sp_Closed_bound (K : PySem.W.Frag) (mg : Str → Option Value) : Sp := fun vs H Q _ => ∃ (a dr : Addr) (ms : List Str) (cs : List Clause) (b c : Str) (n : Nat) (gf : Str → Option Int), vs = [.ref a, .str b, .str c] ∧ ClosedX K H a dr ms cs ∧ Good ms cs ∧ b ∈ ms ++ [dayS] ∧ Settles cs n (one0 b) gf ∧ ∀ H', (∀ x o, x ≠ dr → H x = some o → H' x = some o) → Q (match gf c with | some i => .int i | none => .non) H'
def sp_some_dates (K : PySem.W.Frag) (mg : Str → Option Value) : Sp := fun vs H Q _ => ∃ (am cl : Addr) (ms : List Str) (cs : List Clause), vs = [.ref am, .ref cl] ∧ H am = some (.lst (ms.map V.str)) ∧ LAt ClV H cl cs ∧ Good ms cs ∧ NoRing ms cs ∧ ∀ H' p, Same H H' → Q (.ref p) H'
section
variable {P : Program} {w : World} {K : PySem.W.Frag} {mg : Str → Option Value} {base : Heap}
def s_Closed__init : Stmt := inClass (top 38) 0
abbrev N_Closed__init : List Str := ["self", "moments", "clauses"]
theorem sc_Closed__init : FnScope N_Closed__init ["self", "moments", "clauses"] (defScope s_Closed__init) := C8.fnScope_by (by decide +kernel)
theorem ok_Closed__init {f : Addr} {fd : FuncData} (T : Tx K mg) (F : DefAt K "__init__" "Closed.__init__" s_Closed__init f fd) (M : Mk K (cClosed K) f) (hm : mg "Closed" = some (.ref (cClosed K))) (c_Days__init : Cn P w K mg base 2 "Days" (cDays K) (sp_Days__init K mg)) : Cn P w K mg base 4 "Closed" (cClosed K) (sp_Closed__init K mg) := by
  refine mak_mk F M hm sc_Closed__init (fun vs H Q E => ?_) (fun _ _ _ _ _ _ us hl => match us, hl with | [_, _, _], _ => rfl) (fun cdv A outer s H vs Q E hr h => ?_)
  · walk_at "ln"
  · obtain ⟨a, dx, am, cl, ms, cs, rfl, o, em, ⟨xs, el, al⟩, G, nr, h⟩ := h
    refine ⟨_, (pss_cons (ps_fld (pv 0) (pe_callTy cr_list (by rfl) T.f_list (by decide +kernel) (pa_cons (pv 1) pa_nil)) rfl)
      (pss_cons (ps_fld (pv 0) (pe_callTy cr_list (by rfl) T.f_list (by decide +kernel) (pa_cons (pv 2) pa_nil)) rfl)
      (pss_cons (ps_fld (pv 0) (pe_mk0 c_Days__init hr (by decide) (by rfl) (pa_cons (pe_op op_cat (pe_fld (pv 0) rfl) (pe_lst (pa_cons (C8.pe_gc (by rfl) T.g_ZERO) pa_nil))) (pa_cons (pe_fld (pv 0) rfl) pa_nil))) rfl)
      (pss_one (ps_fld (pv 0) pe_dnewK rfl))))), ?_⟩
    walk_at "nk"
    have u_cl_Closed := T.cl_Closed; have u_na_Closed_own_clauses := T.na_Closed_own_clauses; have u_na_Closed_own_days := T.na_Closed_own_days; have u_na_Closed_own_moments := T.na_Closed_own_moments; have u_na_Closed_own_rows := T.na_Closed_own_rows
    have hz := G.len
    have hcz := G.cz
    have hxl := al.len
    have nca : cl ≠ a := fun z => by rw [z, o] at el; cases el
    walk_at "go"
    intro l1 hl1
    have na1 := ne_of_none o hl1
    walk_at "go"
    intro l2 hl2
    obtain ⟨n2a, hl2⟩ := none_up hl2
    obtain ⟨n21, hl2⟩ := none_up hl2
    walk_at "go"
    intro l3 hl3
    obtain ⟨n3a, hl3⟩ := none_up hl3
    obtain ⟨n32, hl3⟩ := none_up hl3
    obtain ⟨_, hl3⟩ := none_up hl3
    obtain ⟨n31, hl3⟩ := none_up hl3
    walk_at "go"
    intro p hp
    obtain ⟨np3, hp⟩ := none_up hp
    obtain ⟨npa, hp⟩ := none_up hp
    obtain ⟨np2, hp⟩ := none_up hp
    obtain ⟨_, hp⟩ := none_up hp
    obtain ⟨np1, hp⟩ := none_up hp
    walk_at "go"
    generalize hE : upd _ p (.lst (List.map V.str ms ++ [V.str dayS])) = H5
    have o5 : H5 a = some (.ins (cClosed K) dx [("own_moments", .ref l1), ("own_clauses", .ref l2)]) := by rw [← hE]; walk_at "hp"
    have c5 : H5 l2 = some (.lst xs) := by rw [← hE]; walk_at "hp"
    have p5 : H5 p = some (.lst ((ms ++ [dayS]).map V.str)) := by rw [← hE, upd_same, List.map_append]; rfl
    have fr5 : ∀ x o, x ≠ a → H x = some o → H5 x = some o := fun x o n e => by
      rw [← hE]
      exact up_ne (ne_of_none e hp) (up_ne (ne_of_none e hl3) (up_ne n (up_ne (ne_of_none e hl2) (up_ne n (up_ne (ne_of_none e hl1) e)))))
    clear hE
    walk_at "go"
    intro y yd hy hyd nyd
    have sm5 : Same H5 (upd (upd H5 yd (.own y)) y (.ins (cDays K) yd [])) := Same.trans' (same_new hyd) (same_new (up_none nyd.symm hy))
    have L5 : LAt ClV H5 l2 cs := by
      refine ⟨xs, c5, al.mono fun v c h => ?_⟩
      obtain ⟨q, e1, e2, e3⟩ := h
      exact ⟨q, e1, fr5 _ _ (fun z => by rw [z, o] at e2; cases e2) e2, e3⟩
    refine ⟨y, yd, p, l2, ms ++ [dayS], cs, rfl, upd_same, sm5 _ _ p5, G.nodup, by simp; omega, L5.same ClV.pers sm5, fun c hc => ⟨(G.cl c hc).1, (G.cl c hc).2.1⟩, by rw [List.length_append]; exact nr, fun H6 dd dl d S6 fr6 => ⟨rfl, ?_⟩⟩
    have ny : ∀ {x : Addr} {o : HO}, H5 x = some o → x ≠ y := fun e => ne_of_none e hy
    have k6 : ∀ x o, H5 x = some o → H6 x = some o := fun x o e => fr6 _ _ (ny e) (sm5 _ _ e)
    have o6 := k6 _ _ o5
    have nay := ny o5
    walk_at "go"
    intro q hq
    obtain ⟨nqa, hq⟩ := none_up hq
    have hq0 : H q = none := by
      cases e : H q with
      | none => rfl
      | some u => rw [k6 _ _ (fr5 _ _ nqa e)] at hq; cases hq
    walk_at "go"
    generalize hE : upd _ a _ = H7
    have o7 : H7 a = some (.ins (cClosed K) dx [("own_moments", .ref l1), ("own_clauses", .ref l2), ("own_days", .ref y), ("own_rows", .ref q)]) := by rw [← hE]; walk_at "hp"
    have q7 : H7 q = some (.dK []) := by rw [← hE]; walk_at "hp"
    have k7 : ∀ x o, x ≠ a → H6 x = some o → H7 x = some o := fun x o n e => by rw [← hE]; exact up_ne n (up_ne (ne_of_none e hq) (up_ne n e))
    refine h _ q ⟨dx, l1, l2, y, yd, dd, dl, d, o7, (L5.same ClV.pers k6).off o6 k7, S6.off o6 nay.symm k7, q7⟩ hq0 fun x o n e => k7 _ _ n (k6 _ _ (fr5 _ _ n e))
def s_Closed_ring : Stmt := inClass (top 38) 1
abbrev N_Closed_ring : List Str := ["self"]
theorem sc_Closed_ring : FnScope N_Closed_ring ["self"] (defScope s_Closed_ring) := C8.fnScope_by (by decide +kernel)
theorem ok_Closed_ring {f : Addr} {fd : FuncData} (T : Tx K mg) (F : DefAt K "ring" "Closed.ring" s_Closed_ring f fd) (me : Meth K (cClosed K) "ring" f) (c_Days_ring : Cm P w K mg base 1 (cDays K) "ring" (sp_Days_ring K mg)) : Cm P w K mg base 2 (cClosed K) "ring" (sp_Closed_ring K mg) := by
  refine met_mk F T.cl_Closed me sc_Closed_ring (fun vs H Q E => ?_) (fun _ _ _ _ _ _ us hl => match us, hl with | [_], _ => rfl) (fun cdv A outer s H vs Q E hr h => ?_)
  · walk_at "ln"
  · obtain ⟨a, dr, ms, cs, rfl, ⟨dx, am, cl, da, ddx, dd, dl, d, o, L, S, er⟩, h⟩ := h
    refine ⟨_, (pss_one (ps_ret (pe_m0 c_Days_ring hr (by decide) (pe_fld (pv 0) rfl)))), ?_⟩
    walk_at "nk"
    have u_cl_Closed := T.cl_Closed; have u_na_Closed_own_days := T.na_Closed_own_days
    have oS := S.o
    walk_at "go"
    exact ⟨_, _, _, _, _, _, rfl, S, h⟩
def s_Closed_sums_from : Stmt := inClass (top 38) 3
abbrev N_Closed_sums_from : List Str := ["self", "one"]
theorem sc_Closed_sums_from : FnScope N_Closed_sums_from ["self", "one"] (defScope s_Closed_sums_from) := C8.fnScope_by (by decide +kernel)
theorem ok_Closed_sums_from {f : Addr} {fd : FuncData} (T : Tx K mg) (F : DefAt K "sums_from" "Closed.sums_from" s_Closed_sums_from f fd) (me : Meth K (cClosed K) "sums_from" f) (c_Sums__init : Cn P w K mg base 2 "Sums" (cSums K) (sp_Sums__init K mg)) : Cm P w K mg base 4 (cClosed K) "sums_from" (sp_Closed_sums_from K mg) := by
  refine met_mk F T.cl_Closed me sc_Closed_sums_from (fun vs H Q E => ?_) (fun _ _ _ _ _ _ us hl => match us, hl with | [_, _], _ => rfl) (fun cdv A outer s H vs Q E hr h => ?_)
  · walk_at "ln"
  · obtain ⟨a, dr, ms, cs, b, n, gf, rfl, ⟨dx, am, cl, da, ddx, dd, dl, d, o, L, S, er⟩, G, hb, st, h⟩ := h
    refine ⟨_, (pss_cons (ps_if (pt_cmp (pc_dnotin (hu_of hr) (pv 1) (pe_fld (pv 0) rfl))) (pss_one (ps_dput (hu_of hr) (pe_fld (pv 0) rfl) (pv 1) (pe_mk0 c_Sums__init hr (by decide) (by rfl) (pa_cons (pe_fld (pv 0) rfl) (pa_cons (pv 1) pa_nil))) rfl)) pss_nil)
      (pss_one (ps_ret (pe_dget (hu_of hr) (pe_fld (pv 0) rfl) (pv 1) (fun _ _ => rfl))))), ?_⟩
    walk_at "nk"
    have u_cl_Closed := T.cl_Closed; have u_na_Closed_own_clauses := T.na_Closed_own_clauses; have u_na_Closed_own_rows := T.na_Closed_own_rows
    have e0 : valV ([] : List (Key × V)) (.inr b) = none := rfl
    have hz := G.len
    walk_at "go"
    intro y yd hy hyd nyd
    have sm : Same H (upd (upd H yd (.own y)) y (.ins (cSums K) yd [])) := Same.trans' (same_new hyd) (same_new (up_none nyd.symm hy))
    refine ⟨y, yd, cl, ms ++ [dayS], cs, b, n, gf, rfl, upd_same, L.same ClV.pers sm, fun c hc => (G.cl c hc).2.1, hb, by simp; omega, st, fun H6 ds dl2 S6 hs hl fr6 => ⟨rfl, ?_⟩⟩
    have nay := ne_of_none o hy
    have nry := ne_of_none er hy
    have o6 := fr6 _ _ nay (sm _ _ o)
    have r6 := fr6 _ _ nry (sm _ _ er)
    have z0 : ([] : List (Key × V)).length < sizeLine := by decide
    have nar : a ≠ dr := fun z => by rw [z, er] at o; cases o
    have nyr : y ≠ dr := nry.symm
    have nsr : ds ≠ dr := fun z => by rw [z, sm _ _ er] at hs; cases hs
    have nlr : dl2 ≠ dr := fun z => by rw [z, sm _ _ er] at hl; cases hl
    walk_at "go"
    refine go_dgetx (v := .ref y) (kvs := putK [] (.inr b) (.ref y)) upd_same (by rw [valV_put, if_pos rfl]) ?_
    walk_at "go"
    obtain ⟨so, sne, ⟨m, em, hm, km⟩, kl, el, kk⟩ := S6
    exact h _ y yd ds dl2 ⟨up_ne nyr so, sne, ⟨m, up_ne nsr em, hm, km⟩, kl, up_ne nlr el, kk⟩ fun x o n e => up_ne n (fr6 _ _ (ne_of_none e hy) (sm _ _ e))
def s_Closed_bound : Stmt := inClass (top 38) 4
abbrev N_Closed_bound : List Str := ["self", "one", "other"]
theorem sc_Closed_bound : FnScope N_Closed_bound ["self", "one", "other"] (defScope s_Closed_bound) := C8.fnScope_by (by decide +kernel)
theorem ok_Closed_bound {f : Addr} {fd : FuncData} (T : Tx K mg) (F : DefAt K "bound" "Closed.bound" s_Closed_bound f fd) (me : Meth K (cClosed K) "bound" f) (c_Sums_sum_to : Cm P w K mg base 1 (cSums K) "sum_to" (sp_Sums_sum_to K mg)) (c_Closed_sums_from : Cm P w K mg base 4 (cClosed K) "sums_from" (sp_Closed_sums_from K mg)) : Cm P w K mg base 5 (cClosed K) "bound" (sp_Closed_bound K mg) := by
  refine met_mk F T.cl_Closed me sc_Closed_bound (fun vs H Q E => ?_) (fun _ _ _ _ _ _ us hl => match us, hl with | [_, _, _], _ => rfl) (fun cdv A outer s H vs Q E hr h => ?_)
  · walk_at "ln"
  · obtain ⟨a, dr, ms, cs, b, c, n, gf, rfl, C, G, hb, st, h⟩ := h
    refine ⟨_, (pss_one (ps_ret (pe_m c_Sums_sum_to hr (by decide) (pe_m c_Closed_sums_from hr (by decide) (pv 0) (pa_cons (pv 1) pa_nil)) (pa_cons (pv 2) pa_nil)))), ?_⟩
    walk_at "nk"
    obtain ⟨dx, am, cl, da, ddx, dd, dl, d, o, L, S, er⟩ := id C.ex
    walk_at "go"
    refine ⟨_, _, _, _, _, _, _, rfl, C, G, hb, st, fun H' s sx ds dl S6 fr => ?_⟩
    have o6 := S6.o
    walk_at "go"
    exact ⟨_, _, _, _, _, _, _, rfl, S6, h _ fr⟩
def s_some_dates : Stmt := top 39
abbrev N_some_dates : List Str := ["moments", "clauses", "found"]
theorem sc_some_dates : FnScope N_some_dates ["moments", "clauses"] (defScope s_some_dates) := C8.fnScope_by (by decide +kernel)
theorem ok_some_dates {f : Addr} {fd : FuncData} (T : Tx K mg) (F : DefAt K "some_dates" "some_dates" s_some_dates f fd) (hm : mg "some_dates" = some (.ref f)) (c_Days__init : Cn P w K mg base 2 "Days" (cDays K) (sp_Days__init K mg)) (c_Days_ring : Cm P w K mg base 1 (cDays K) "ring" (sp_Days_ring K mg)) (c_Days_dates : Cm P w K mg base 1 (cDays K) "dates" (sp_Days_dates K mg)) : Cf P w K mg base 4 "some_dates" (sp_some_dates K mg) := by
  refine cal_mk F hm sc_some_dates (fun vs H Q E => ?_) (fun _ _ _ _ _ _ us hl => match us, hl with | [_, _], _ => rfl) (fun cdv A outer s H vs Q E hr h => ?_)
  · walk_at "ln"
  · obtain ⟨am, cl, ms, cs, rfl, em, L, G, nr, h⟩ := h
    refine ⟨_, (pss_cons (ps_set (i := 2) sc_some_dates.nd rfl (Or.inl rfl) (pe_mk0 c_Days__init hr (by decide) (by rfl) (pa_cons (pe_op op_cat (pe_callTy cr_list (by rfl) T.f_list (by decide +kernel) (pa_cons (pv 0) pa_nil)) (pe_lst (pa_cons (C8.pe_gc (by rfl) T.g_ZERO) pa_nil))) (pa_cons (pv 1) pa_nil))))
      (pss_one (ps_ret (pe_ifExp (pt_cmpR op_notNo (pe_m0 c_Days_ring hr (by decide) (pv 2)) pe_non (nomark _)) pe_non (pe_m0 c_Days_dates hr (by decide) (pv 2)))))), ?_⟩
    walk_at "nk"
    have hz := G.len
    walk_at "go"
    intro l1 hl1
    walk_at "go"
    intro l2 hl2
    walk_at "go"
    intro p hp
    walk_at "go"
    generalize hE : upd _ p _ = H5
    have s5 : Same H H5 := by rw [← hE]; exact Same.trans' (same_new hl1) (Same.trans' (same_new hl2) (same_new hp))
    have p5 : H5 p = some (.lst ((ms ++ [dayS]).map V.str)) := by rw [← hE, upd_same, List.map_append]; rfl
    intro y yd hy hyd nyd
    have sm5 : Same H5 (upd (upd H5 yd (.own y)) y (.ins (cDays K) yd [])) := Same.trans' (same_new hyd) (same_new (up_none nyd.symm hy))
    refine ⟨y, yd, p, cl, ms ++ [dayS], cs, rfl, upd_same, sm5 _ _ p5, G.nodup, by simp; omega, (L.same ClV.pers s5).same ClV.pers sm5, fun c hc => ⟨(G.cl c hc).1, (G.cl c hc).2.1⟩, by rw [List.length_append]; exact nr, fun H6 dd dl d S6 fr6 => ⟨rfl, ?_⟩⟩
    have k6 : Same H H6 := fun x o e => fr6 _ _ (ne_of_none (s5 _ _ e) hy) (sm5 _ _ (s5 _ _ e))
    have o6 := S6.o
    walk_at "go"
    refine ⟨_, _, _, _, _, _, rfl, S6, ?_⟩
    walk_at "go"
    exact ⟨_, _, _, _, _, _, _, rfl, S6, by simp, G.nodup, by simp; omega, fun H7 q s7 => h _ _ (Same.trans' k6 s7)⟩
end
end Ld
namespace Ld
open PySem PySem.Spec PyProof.Rows L2
/-! ### Calendar -/
structure CalX (K : PySem.W.Frag) (H : Hp) (a : Addr) (ms : List Str) (cs : List Clause) : Prop where
  ex : ∃ dx am cl, H a = some (.ins (cCalendar K) dx [("own_moments", .ref am), ("own_clauses", .ref cl)]) ∧ H am = some (.lst (ms.map V.str)) ∧ LAt ClV H cl cs
theorem CalX.same {K : PySem.W.Frag} {H H' : Hp} {a : Addr} {ms : List Str} {cs : List Clause} (C : CalX K H a ms cs) (s : Same H H') : CalX K H' a ms cs := by
  obtain ⟨dx, am, cl, o, m, L⟩ := C.ex
  exact ⟨dx, am, cl, s _ _ o, s _ _ m, L.same ClV.pers s⟩
theorem CalX.off {K : PySem.W.Frag} {H H' : Hp} {a b C dx : Addr} {fs : List (Str × V)} {ms : List Str} {cs : List Clause} (c : CalX K H a ms cs) (hb : H b = some (.ins C dx fs)) (n : a ≠ b) (k : ∀ x o, x ≠ b → H x = some o → H' x = some o) : CalX K H' a ms cs := by
  obtain ⟨dxa, am, cl, o, m, L⟩ := c.ex
  exact ⟨dxa, am, cl, k _ _ n o, k _ _ (fun z => by rw [z, hb] at m; cases m) m, L.off hb k⟩
theorem mom_of {ms : List Str} (h : ∀ s ∈ ms, NameS s) {s : Str} (m : s ∈ ms ++ [dayS]) : MomS s := by
  rcases List.mem_append.mp m with z | z
  · exact .inl (h s z)
  · rw [List.mem_singleton] at z; exact .inr z
def sp_Calendar_has_moment (K : PySem.W.Frag) (mg : Str → Option Value) : Sp := fun vs H Q _ => ∃ (a dx am : Addr) (fs : List (Str × V)) (ms : List Str) (s : Str), vs = [.ref a, .str s] ∧ H a = some (.ins (cCalendar K) dx fs) ∧ fs.lookup ("own_moments" : Str) = some (.ref am) ∧ fs.lookup ("ZERO" : Str) = none ∧ H am = some (.lst (ms.map V.str)) ∧ s ∈ ms ++ [dayS] ∧ Q (.bl true) H
def sp_Calendar_is_own_form (K : PySem.W.Frag) (mg : Str → Option Value) : Sp := fun vs H Q _ => ∃ (a dx am p : Addr) (fs : List (Str × V)) (ms : List Str) (c : Clause), vs = [.ref a, .ref p] ∧ H a = some (.ins (cCalendar K) dx fs) ∧ fs.lookup ("own_moments" : Str) = some (.ref am) ∧ fs.lookup ("ZERO" : Str) = none ∧ fs.lookup ("has_moment" : Str) = none ∧ H am = some (.lst (ms.map V.str)) ∧ (∀ s ∈ ms, NameS s) ∧
  H p = some (.tup [.str c.1, .str c.2.1, .int c.2.2]) ∧ c.1 ∈ ms ++ [dayS] ∧ c.2.1 ∈ ms ++ [dayS] ∧ c.1 ≠ c.2.1 ∧ ∀ H', Same H H' → Q (.bl true) H'
def sp_Calendar__init (K : PySem.W.Frag) (mg : Str → Option Value) : Sp := fun vs H Q _ => ∃ (a dx am cl : Addr) (ms0 : List Str) (cs : List Clause), vs = [.ref a, .ref am, .ref cl] ∧ H a = some (.ins (cCalendar K) dx []) ∧ H am = some (.lst (ms0.map V.str)) ∧ LAt ClV H cl cs ∧ Good ms0 cs ∧ ∀ H' ms, ms.Perm ms0 → sortedS ms = true → CalX K H' a ms cs → (∀ x o, x ≠ a → H x = some o → H' x = some o) → Q .non H'
def sp_Calendar_moments (K : PySem.W.Frag) (mg : Str → Option Value) : Sp := fun vs H Q _ => ∃ (a : Addr) (ms : List Str) (cs : List Clause), vs = [.ref a] ∧ CalX K H a ms cs ∧ ∀ p, H p = none → Q (.ref p) (upd H p (.lst (ms.map V.str)))
def sp_Calendar_clauses (K : PySem.W.Frag) (mg : Str → Option Value) : Sp := fun vs H Q _ => ∃ (a : Addr) (ms : List Str) (cs : List Clause), vs = [.ref a] ∧ CalX K H a ms cs ∧ ∀ p xs, H p = none → All2 (ClV H) xs cs → Q (.ref p) (upd H p (.lst xs))
def sp_Calendar_closed (K : PySem.W.Frag) (mg : Str → Option Value) : Sp := fun vs H Q _ => ∃ (a : Addr) (ms : List Str) (cs : List Clause), vs = [.ref a] ∧ CalX K H a ms cs ∧ Good ms cs ∧ NoRing ms cs ∧ ∀ H' p dr, Same H H' → H dr = none → ClosedX K H' p dr ms cs → Q (.ref p) H'
def sp_want_moment (K : PySem.W.Frag) (mg : Str → Option Value) : Sp := fun vs H Q _ => ∃ (a : Addr) (ms : List Str) (cs : List Clause) (s : Str), vs = [.ref a, .str s] ∧ CalX K H a ms cs ∧ s ∈ ms ++ [dayS] ∧ Q .non H
def sp_closed_of (K : PySem.W.Frag) (mg : Str → Option Value) : Sp := fun vs H Q _ => ∃ (a : Addr) (ms : List Str) (cs : List Clause), vs = [.ref a] ∧ CalX K H a ms cs ∧ Good ms cs ∧ NoRing ms cs ∧ ∀ H' p dr, Same H H' → H dr = none → ClosedX K H' p dr ms cs → Q (.ref p) H'
def sp_bound (K : PySem.W.Frag) (mg : Str → Option Value) : Sp := fun vs H Q _ => ∃ (a : Addr) (ms : List Str) (cs : List Clause) (b c : Str) (n : Nat) (gf : Str → Option Int), vs = [.ref a, .str b, .str c] ∧ CalX K H a ms cs ∧ Good ms cs ∧ NoRing ms cs ∧ b ∈ ms ++ [dayS] ∧ c ∈ ms ++ [dayS] ∧ Settles cs n (one0 b) gf ∧ ∀ H', Same H H' → Q (match gf c with | some i => .int i | none => .non) H'
section
variable {P : Program} {w : World} {K : PySem.W.Frag} {mg : Str → Option Value} {base : Heap}
def s_Calendar_has_moment : Stmt := inClass (top 41) 7
abbrev N_Calendar_has_moment : List Str := ["self", "value"]
theorem sc_Calendar_has_moment : FnScope N_Calendar_has_moment ["self", "value"] (defScope s_Calendar_has_moment) := C8.fnScope_by (by decide +kernel)
theorem ok_Calendar_has_moment {f : Addr} {fd : FuncData} (T : Tx K mg) (F : DefAt K "has_moment" "Calendar.has_moment" s_Calendar_has_moment f fd) (me : Meth K (cCalendar K) "has_moment" f) : Cm P w K mg base 1 (cCalendar K) "has_moment" (sp_Calendar_has_moment K mg) := by
  refine met_mk F T.cl_Calendar me sc_Calendar_has_moment (fun vs H Q E => ?_) (fun _ _ _ _ _ _ us hl => match us, hl with | [_, _], _ => rfl) (fun cdv A outer s H vs Q E hr h => ?_)
  · walk_at "ln"
  · obtain ⟨a, dx, am, fs, ms, s, rfl, o, l1, l2, em, hs, h⟩ := h
    refine ⟨_, (pss_one (ps_ret (pe_and (pe_callB call_isi (by rfl) T.f_isinstance (by decide +kernel) (pa_cons (pv 1) (pa_cons (pe_bltn (v := .ty "str") (by rfl) T.f_str (by decide +kernel) rfl) pa_nil))) (pe_one (pe_or (pe_cmpR op_eq (pv 1) (pe_con (pv 0) rfl) (nomark _)) (pe_one (pe_cmpR op_in_seq (pv 1) (pe_fld (pv 0) rfl) (by rfl)))))))), ?_⟩
    walk_at "nk"
    have u_cl_Calendar := T.cl_Calendar; have u_con_Calendar_ZERO := T.con_Calendar_ZERO; have u_na_Calendar_own_moments := T.na_Calendar_own_moments
    walk_at "go"
    by_cases z : s = dayS
    · subst z
      walk_at "go"
      exact h
    · have z2 : V.str s ≠ V.str dayS := fun e => z (V.str.inj e)
      have z3 : s ∈ ms := by
        rcases List.mem_append.mp hs with y | y
        · exact y
        · rw [List.mem_singleton] at y; exact (z y).elim
      walk_at "go"
      rw [decide_eq_true z3]
      exact h
def s_Calendar_is_own_form : Stmt := inClass (top 41) 5
abbrev N_Calendar_is_own_form : List Str := ["self", "value"]
theorem sc_Calendar_is_own_form : FnScope N_Calendar_is_own_form ["self", "value"] (defScope s_Calendar_is_own_form) := C8.fnScope_by (by decide +kernel)
theorem ok_Calendar_is_own_form {f : Addr} {fd : FuncData} (T : Tx K mg) (F : DefAt K "is_own_form" "Calendar.is_own_form" s_Calendar_is_own_form f fd) (me : Meth K (cCalendar K) "is_own_form" f) (c_Calendar_has_moment : Cm P w K mg base 1 (cCalendar K) "has_moment" (sp_Calendar_has_moment K mg)) (c_is_clause_basics : Cf P w K mg base 3 "is_clause_basics" (sp_is_clause K mg)) : Cm P w K mg base 4 (cCalendar K) "is_own_form" (sp_Calendar_is_own_form K mg) := by
  refine met_mk F T.cl_Calendar me sc_Calendar_is_own_form (fun vs H Q E => ?_) (fun _ _ _ _ _ _ us hl => match us, hl with | [_, _], _ => rfl) (fun cdv A outer s H vs Q E hr h => ?_)
  · walk_at "ln"
  · obtain ⟨a, dx, am, p, fs, ms, c, rfl, o, l1, l2, l3, em, nm, ep, h1, h2, h3, h⟩ := h
    refine ⟨_, (pss_one (ps_ret (pe_and (pe_f c_is_clause_basics hr (by decide) (by rfl) (pa_cons (pv 1) pa_nil)) (pe_and (pe_m c_Calendar_has_moment hr (by decide) (pv 0) (pa_cons (pe_ix ix_tup (pv 1) pe_int (fun _ _ => rfl)) pa_nil)) (pe_one (pe_m c_Calendar_has_moment hr (by decide) (pv 0) (pa_cons (pe_ix ix_tup (pv 1) pe_int (fun _ _ => rfl)) pa_nil))))))), ?_⟩
    walk_at "nk"
    walk_at "go"
    refine ⟨p, c, rfl, ep, mom_of nm h1, mom_of nm h2, h3, fun H1 s1 => ?_⟩
    walk_at "go"
    refine ⟨_, _, _, _, _, _, rfl, s1 _ _ o, l1, l2, s1 _ _ em, h1, ?_⟩
    walk_at "go"
    exact ⟨_, _, _, _, _, _, rfl, s1 _ _ o, l1, l2, s1 _ _ em, h2, h _ s1⟩
/-- a class whose __init__ has one default, all of its arguments given -/
theorem mak_mkD {x qual : Str} {C : Addr} {st : Stmt} {f : Addr} {fd : FuncData} {N ps : List Str} {k : Nat} {sp : Sp} {v : V} (F : FunD K "__init__" qual (defArgs st) (defBody st) (defScope st) [v] [] f fd) (M : Mk K C f) (hm : mg x = some (.ref C)) (S : FnScope N ps (defScope st)) (len : ∀ vs H Q E, sp vs H Q E → vs.length = ps.length)
    (hb : ∀ (T : Addr) (kV doc pm : Value) (an : Option Addr) (cdv ct : Value) (us its : List Value), us.length = ps.length → its.length = 1 → ∃ k, bindArgs (PySem.W.fnOf "__init__" qual (defArgs st) (defBody st) (defScope st) (.ref T) kV doc pm an cdv ct) ⟨us, []⟩ = seqItems? (.ref T) >>= k ∧ k (some its.toArray) = pure (ps.zip (us ++ its.drop 1)))
    (hbody : ∀ (cdv : Value) (A : Around) (outer : List Env) (s : Shared) (H : Hp) (vs : List V) (Q : VK) (E : XK), Room k (A.deeper (envOfC qual (defScope st) s.heap.objs.size f cdv)) → sp vs H Q E →
      ∃ t, PSs (cxOf CX0 P w K mg base N qual (defScope st) f cdv A outer s H E).nox (defBody st) t ∧ t { nx := fun _ H' => Q .non H', rt := Q } (start N vs) H) : Cn P w K mg base (k + 1) x C sp := by
  obtain ⟨ds, hv, hB⟩ := F.binds1 ps.length 1 (List.cons_ne_nil _ _) (by simp) hb
  have e : ds = [] := by
    cases hv
    rfl
  subst e
  refine ⟨f, fd, ps, [], M, F.ok S len fun cdv A outer s H vs Q E hr h => ?_, hm, hB, .nil⟩
  obtain ⟨t, h1, h2⟩ := hbody cdv A outer s H vs Q E hr h
  exact ⟨t, h1.nox, h2⟩
def s_Calendar__init : Stmt := inClass (top 41) 3
abbrev N_Calendar__init : List Str := ["self", "moments", "clauses", "position", "moment", "clause"]
theorem sc_Calendar__init : FnScope N_Calendar__init ["self", "moments", "clauses"] (defScope s_Calendar__init) := C8.fnScope_by (by decide +kernel)
theorem ok_Calendar__init {f : Addr} {c0 : V} {fd : FuncData} (T : Tx K mg) (F : FunD K "__init__" "Calendar.__init__" (defArgs s_Calendar__init) (defBody s_Calendar__init) (defScope s_Calendar__init) [c0] [] f fd) (M : Mk K (cCalendar K) f) (hm : mg "Calendar" = some (.ref (cCalendar K))) (c_is_list : Cf P w K mg base 1 "is_list" (sp_is_list K mg)) (c_is_name : Cf P w K mg base 1 "is_name" (sp_is_name K mg)) (c_Calendar_is_own_form : Cm P w K mg base 4 (cCalendar K) "is_own_form" (sp_Calendar_is_own_form K mg)) : Cn P w K mg base 5 "Calendar" (cCalendar K) (sp_Calendar__init K mg) := by
  refine mak_mkD F M hm sc_Calendar__init (fun vs H Q E => ?_) (fun _ _ _ _ _ _ _ us its hl hl2 => match us, its, hl, hl2 with | [_, _, _], [_], _, _ => ⟨_, rfl, rfl⟩) (fun cdv A outer s H vs Q E hr h => ?_)
  · walk_at "ln"
  · obtain ⟨a, dx, am, cl, ms0, cs, rfl, o, em, ⟨xs, el, al⟩, G, h⟩ := h
    refine ⟨_, (pss_cons (ps_if (pt_not (pt_val (pe_f c_is_list hr (by decide) (by rfl) (pa_cons (pv 1) pa_nil)))) (pss_one ps_never) pss_nil)
      (pss_cons (ps_for PassesOwn.never rfl (pi_enum (by rfl) T.f_enumerate (pa_cons (pv 1) pa_nil)) (pg_tup (n := 2) rfl (pgs_cons (pg_name (i := 3) sc_Calendar__init.nd rfl (Or.inl rfl)) (pgs_cons (pg_name (i := 4) sc_Calendar__init.nd rfl (Or.inl rfl)) pgs_nil))) (pss_one (ps_if (PW.pt (pw_or (pt_not (pt_val (pe_f c_is_name hr (by decide) (by rfl) (pa_cons (pv 4) pa_nil)))) (pw_or1 (pt_cmpR op_in_seq (pv 4) (pe_slice sl_list (pv 1) po_none (po_some (pv 3))) (by rfl))))) (pss_one ps_never) pss_nil)))
      (pss_cons (ps_fld (pv 0) (pe_callB cr_sortedS (by rfl) T.f_sorted (by decide +kernel) (pa_cons (pv 1) pa_nil)) rfl)
      (pss_cons (ps_if (pt_not (pt_val (pe_f c_is_list hr (by decide) (by rfl) (pa_cons (pv 2) pa_nil)))) (pss_one ps_never) pss_nil)
      (pss_cons (ps_for PassesOwn.never rfl (pi_enum (by rfl) T.f_enumerate (pa_cons (pv 2) pa_nil)) (pg_tup (n := 2) rfl (pgs_cons (pg_name (i := 3) sc_Calendar__init.nd rfl (Or.inl rfl)) (pgs_cons (pg_name (i := 5) sc_Calendar__init.nd rfl (Or.inl rfl)) pgs_nil))) (pss_one (ps_if (PW.pt (pw_or (pt_not (pt_val (pe_m c_Calendar_is_own_form hr (by decide) (pv 0) (pa_cons (pv 5) pa_nil)))) (pw_or1 (pt_cmpR (op_inD (hu65 hr)) (pv 5) (pe_slice sl_list (pv 2) po_none (po_some (pv 3))) (by rfl))))) (pss_one ps_never) pss_nil)))
      (pss_cons (ps_fld (pv 0) (pe_callTy cr_list (by rfl) T.f_list (by decide +kernel) (pa_cons (pv 2) pa_nil)) rfl)
      (pss_cons (ps_if (pt_cmpR op_gt (pe_callB cr_len (by rfl) T.f_len (by decide +kernel) (pa_cons (pe_fld (pv 0) rfl) pa_nil)) (pe_con (pv 0) rfl) (nomark _)) (pss_one ps_never) pss_nil)
      (pss_one (ps_if (pt_cmpR op_gt (pe_callB cr_len (by rfl) T.f_len (by decide +kernel) (pa_cons (pe_fld (pv 0) rfl) pa_nil)) (pe_con (pv 0) rfl) (nomark _)) (pss_one ps_never) pss_nil))))))))), ?_⟩
    walk_at "nk"
    have u_cl_Calendar := T.cl_Calendar; have u_con_Calendar_MOST_CLAUSES := T.con_Calendar_MOST_CLAUSES; have u_con_Calendar_MOST_MOMENTS := T.con_Calendar_MOST_MOMENTS; have u_na_Calendar_own_clauses := T.na_Calendar_own_clauses; have u_na_Calendar_own_moments := T.na_Calendar_own_moments
    have hz := G.len
    have hcz := G.cz
    have hxl := al.len
    have nca : cl ≠ a := fun z => by rw [z, o] at el; cases el
    have nma : am ≠ a := fun z => by rw [z, o] at em; cases em
    walk_at "go"
    refine ⟨_, _, rfl, em, fun H1 s1 => ?_⟩
    walk_at "go"
    refine forE (All2.raw V.str ms0) (fun d σ H' => (∃ x y, σ = [some (.ref a), some (.ref am), some (.ref cl), x, y, none]) ∧ Same H H') ⟨⟨_, _, rfl⟩, s1⟩ (fun d σ H' p => p.2 _ _ em) (fun d c r x σ H2 T e ex ei p hT => ?_) (fun σ H2 p => ?_)
    · obtain ⟨⟨x1, y1, rfl⟩, sm⟩ := p
      subst ex
      walk_at "go"
      refine ⟨c, rfl, .inl ⟨G.nm c (by simp [e]), fun H3 s3 => ?_⟩⟩
      have ea2 := s3 _ _ (up_old hT (sm _ _ em))
      have nd : ¬ c ∈ List.take d.length ms0 := by
        have := G.nd
        rw [e, List.take_left]
        rw [e, List.nodup_append] at this
        exact fun z => this.2.2 c z c (by simp) rfl
      walk_at "go"
      intro p hp
      rw [cutV_take, ← List.map_take]
      walk_at "go"
      exact ⟨⟨_, _, rfl⟩, Same.trans' sm (Same.trans' (same_new hT) (Same.trans' s3 (same_new hp)))⟩
    · obtain ⟨⟨x1, y1, rfl⟩, sm⟩ := p
      walk_at "go"
      refine go_sorted (sm _ _ em) (by omega) (fun ms ps pm so hps => ?_)
      have o2 := sm _ _ o
      have el2 := sm _ _ el
      have nap := ne_of_none o2 hps
      walk_at "go"
      generalize hE : upd _ a _ = H5
      have o5 : H5 a = some (.ins (cCalendar K) dx [("own_moments", .ref ps)]) := by rw [← hE]; walk_at "hp"
      have p5 : H5 ps = some (.lst (ms.map V.str)) := by rw [← hE]; exact up_ne nap.symm upd_same
      have k5 : ∀ x o, x ≠ a → H2 x = some o → H5 x = some o := fun x o n e => by rw [← hE]; exact up_ne n (up_old hps e)
      have L5 : LAt ClV H5 cl cs := (LAt.same (S := ClV) ClV.pers ⟨xs, el, al⟩ sm).off o2 k5
      clear hE
      have mm : ∀ s, s ∈ ms ++ [dayS] ↔ s ∈ ms0 ++ [dayS] := fun s => by rw [List.mem_append, List.mem_append, pm.mem_iff]
      obtain ⟨xs5, el5, al5⟩ := id L5
      refine ⟨_, _, rfl, el5, fun H6 s6 => ?_⟩
      walk_at "go"
      refine forE al5 (fun d σ H' => (∃ x y z, σ = [some (.ref a), some (.ref am), some (.ref cl), x, y, z]) ∧ Same H5 H') ⟨⟨_, _, _, rfl⟩, s6⟩ (fun d σ H' p => p.2 _ _ el5) (fun d c r x σ H7 T e ex ei p hT => ?_) (fun σ H7 p => ?_)
      · obtain ⟨⟨x1, y1, z1, rfl⟩, sm7⟩ := p
        obtain ⟨q, rfl, eq, qok⟩ := ex
        have sT := same_new (o := .tup [.int (d.length : Nat), .ref q]) hT
        have s7 := Same.trans' sm7 sT
        have gc := G.cl c (by simp [e])
        walk_at "go"
        refine ⟨_, _, _, _, _, ms, c, rfl, s7 _ _ o5, rfl, rfl, rfl, s7 _ _ p5, fun s hs => G.nm s (pm.mem_iff.mp hs), s7 _ _ eq, (mm _).mpr gc.1, (mm _).mpr gc.2.1, gc.2.2, fun H8 s8 => ?_⟩
        have s58 := Same.trans' s7 s8
        have e8 := s58 _ _ el5
        walk_at "go"
        intro p hp
        rw [cutV_take]
        walk_at "go"
        have nd : ¬ c ∈ List.take d.length cs := by
          have := G.cn
          rw [e, List.take_left]
          rw [e, List.nodup_append] at this
          exact fun z => this.2.2 c z c (by simp) rfl
        have sp := same_new (o := .lst (List.take d.length xs5)) hp
        refine go_inD encCl (c := c) (cs := List.take d.length cs) (ClV.pers _ _ _ _ (SameN.of (Same.trans' s58 sp)) ⟨q, rfl, eq, qok⟩) ⟨_, upd_same, (al5.take d.length).mono fun v c h => ClV.pers _ _ _ _ (SameN.of (Same.trans' s58 sp)) h⟩ ?_
        walk_at "go"
        exact ⟨⟨_, _, _, rfl⟩, Same.trans' s58 sp⟩
      · obtain ⟨⟨x1, y1, z1, rfl⟩, sm7⟩ := p
        have o7 := sm7 _ _ o5
        have el7 := sm7 _ _ el5
        have p7 := sm7 _ _ p5
        walk_at "go"
        intro l hl
        have nal := ne_of_none o7 hl
        have npl := ne_of_none p7 hl
        have npa : ps ≠ a := nap.symm
        have hml : ms.length ≤ 8 := by rw [pm.length_eq]; exact hz
        have hx5 : xs5.length ≤ 40 := by rw [al5.len]; exact hcz
        walk_at "go"
        generalize hE : upd _ a _ = H8
        have o8 : H8 a = some (.ins (cCalendar K) dx [("own_moments", .ref ps), ("own_clauses", .ref l)]) := by rw [← hE]; walk_at "hp"
        have p8 : H8 ps = some (.lst (ms.map V.str)) := by rw [← hE]; walk_at "hp"
        have k8 : ∀ x o, x ≠ a → H7 x = some o → H8 x = some o := fun x o n e => by rw [← hE]; exact up_ne n (up_old hl e)
        have L7 : LAt ClV H7 cl cs := LAt.same (S := ClV) ClV.pers ⟨xs5, el5, al5⟩ sm7
        have L8 : LAt ClV H8 l cs := by
          obtain ⟨ys, ey, ay⟩ := L7
          rw [el7] at ey
          cases ey
          refine ⟨xs5, by rw [← hE]; exact up_ne nal.symm upd_same, ay.mono fun v c h => ?_⟩
          obtain ⟨q, e1, e2, e3⟩ := h
          exact ⟨q, e1, k8 _ _ (fun z => by rw [z, o7] at e2; cases e2) e2, e3⟩
        refine h _ ms pm so ⟨dx, ps, l, o8, p8, L8⟩ fun x o n e => k8 _ _ n (sm7 _ _ (k5 _ _ n (sm _ _ e)))
def s_Calendar_moments : Stmt := inClass (top 41) 8
abbrev N_Calendar_moments : List Str := ["self"]
theorem sc_Calendar_moments : FnScope N_Calendar_moments ["self"] (defScope s_Calendar_moments) := C8.fnScope_by (by decide +kernel)
theorem ok_Calendar_moments {f : Addr} {fd : FuncData} (T : Tx K mg) (F : DefAt K "moments" "Calendar.moments" s_Calendar_moments f fd) (me : Meth K (cCalendar K) "moments" f) : Cm P w K mg base 1 (cCalendar K) "moments" (sp_Calendar_moments K mg) := by
  refine met_mk F T.cl_Calendar me sc_Calendar_moments (fun vs H Q E => ?_) (fun _ _ _ _ _ _ us hl => match us, hl with | [_], _ => rfl) (fun cdv A outer s H vs Q E hr h => ?_)
  · walk_at "ln"
  · obtain ⟨a, ms, cs, rfl, ⟨dx, am, cl, o, em, L⟩, h⟩ := h
    refine ⟨_, (pss_one (ps_ret (pe_callTy cr_list (by rfl) T.f_list (by decide +kernel) (pa_cons (pe_fld (pv 0) rfl) pa_nil)))), ?_⟩
    walk_at "nk"
    have u_cl_Calendar := T.cl_Calendar; have u_na_Calendar_own_moments := T.na_Calendar_own_moments
    walk_at "go"
    exact h
def s_Calendar_clauses : Stmt := inClass (top 41) 9
abbrev N_Calendar_clauses : List Str := ["self"]
theorem sc_Calendar_clauses : FnScope N_Calendar_clauses ["self"] (defScope s_Calendar_clauses) := C8.fnScope_by (by decide +kernel)
theorem ok_Calendar_clauses {f : Addr} {fd : FuncData} (T : Tx K mg) (F : DefAt K "clauses" "Calendar.clauses" s_Calendar_clauses f fd) (me : Meth K (cCalendar K) "clauses" f) : Cm P w K mg base 1 (cCalendar K) "clauses" (sp_Calendar_clauses K mg) := by
  refine met_mk F T.cl_Calendar me sc_Calendar_clauses (fun vs H Q E => ?_) (fun _ _ _ _ _ _ us hl => match us, hl with | [_], _ => rfl) (fun cdv A outer s H vs Q E hr h => ?_)
  · walk_at "ln"
  · obtain ⟨a, ms, cs, rfl, ⟨dx, am, cl, o, em, xs, el, al⟩, h⟩ := h
    refine ⟨_, (pss_one (ps_ret (pe_callTy cr_list (by rfl) T.f_list (by decide +kernel) (pa_cons (pe_fld (pv 0) rfl) pa_nil)))), ?_⟩
    walk_at "nk"
    have u_cl_Calendar := T.cl_Calendar; have u_na_Calendar_own_clauses := T.na_Calendar_own_clauses
    walk_at "go"
    exact fun l hl => h l xs hl al
def s_Calendar_closed : Stmt := inClass (top 41) 15
abbrev N_Calendar_closed : List Str := ["self"]
theorem sc_Calendar_closed : FnScope N_Calendar_closed ["self"] (defScope s_Calendar_closed) := C8.fnScope_by (by decide +kernel)
theorem ok_Calendar_closed {f : Addr} {fd : FuncData} (T : Tx K mg) (F : DefAt K "closed" "Calendar.closed" s_Calendar_closed f fd) (me : Meth K (cCalendar K) "closed" f) (c_Closed__init : Cn P w K mg base 4 "Closed" (cClosed K) (sp_Closed__init K mg)) : Cm P w K mg base 6 (cCalendar K) "closed" (sp_Calendar_closed K mg) := by
  refine met_mk F T.cl_Calendar me sc_Calendar_closed (fun vs H Q E => ?_) (fun _ _ _ _ _ _ us hl => match us, hl with | [_], _ => rfl) (fun cdv A outer s H vs Q E hr h => ?_)
  · walk_at "ln"
  · obtain ⟨a, ms, cs, rfl, ⟨dx, am, cl, o, em, L⟩, G, nr, h⟩ := h
    refine ⟨_, (pss_one (ps_ret (pe_mk0 c_Closed__init hr (by decide) (by rfl) (pa_cons (pe_fld (pv 0) rfl) (pa_cons (pe_fld (pv 0) rfl) pa_nil))))), ?_⟩
    walk_at "nk"
    have u_cl_Calendar := T.cl_Calendar; have u_na_Calendar_own_clauses := T.na_Calendar_own_clauses; have u_na_Calendar_own_moments := T.na_Calendar_own_moments
    walk_at "go"
    intro y yd hy hyd nyd
    have sm : Same H (upd (upd H yd (.own y)) y (.ins (cClosed K) yd [])) := Same.trans' (same_new hyd) (same_new (up_none nyd.symm hy))
    refine ⟨_, _, _, _, ms, cs, rfl, upd_same, sm _ _ em, L.same ClV.pers sm, G, nr, fun H6 dr C6 hd fr6 => ⟨rfl, ?_⟩⟩
    exact h _ _ dr (fun x o e => fr6 _ _ (ne_of_none e hy) (sm _ _ e)) (by
      cases e : H dr with
      | none => rfl
      | some u => rw [sm _ _ e] at hd; cases hd) C6
def s_want_moment : Stmt := top 60
abbrev N_want_moment : List Str := ["calendar", "moment"]
theorem sc_want_moment : FnScope N_want_moment ["calendar", "moment"] (defScope s_want_moment) := C8.fnScope_by (by decide +kernel)
theorem ok_want_moment {f : Addr} {fd : FuncData} (T : Tx K mg) (F : DefAt K "want_moment" "want_moment" s_want_moment f fd) (hm : mg "want_moment" = some (.ref f)) (c_Calendar_has_moment : Cm P w K mg base 1 (cCalendar K) "has_moment" (sp_Calendar_has_moment K mg)) : Cf P w K mg base 2 "want_moment" (sp_want_moment K mg) := by
  refine cal_mk F hm sc_want_moment (fun vs H Q E => ?_) (fun _ _ _ _ _ _ us hl => match us, hl with | [_, _], _ => rfl) (fun cdv A outer s H vs Q E hr h => ?_)
  · walk_at "ln"
  · obtain ⟨a, ms, cs, s, rfl, ⟨dx, am, cl, o, em, L⟩, hs, h⟩ := h
    refine ⟨_, (pss_one (ps_if (pt_not (pt_val (pe_m c_Calendar_has_moment hr (by decide) (pv 0) (pa_cons (pv 1) pa_nil)))) (pss_one ps_never) pss_nil)), ?_⟩
    walk_at "nk"
    walk_at "go"
    refine ⟨_, _, _, _, ms, s, rfl, o, rfl, rfl, em, hs, ?_⟩
    walk_at "go"
    exact h
def s_closed_of : Stmt := top 61
abbrev N_closed_of : List Str := ["calendar", "found"]
theorem sc_closed_of : FnScope N_closed_of ["calendar"] (defScope s_closed_of) := C8.fnScope_by (by decide +kernel)
theorem ok_closed_of {f : Addr} {fd : FuncData} (T : Tx K mg) (F : DefAt K "closed_of" "closed_of" s_closed_of f fd) (hm : mg "closed_of" = some (.ref f)) (c_Calendar_closed : Cm P w K mg base 6 (cCalendar K) "closed" (sp_Calendar_closed K mg)) (c_Closed_ring : Cm P w K mg base 2 (cClosed K) "ring" (sp_Closed_ring K mg)) : Cf P w K mg base 7 "closed_of" (sp_closed_of K mg) := by
  refine cal_mk F hm sc_closed_of (fun vs H Q E => ?_) (fun _ _ _ _ _ _ us hl => match us, hl with | [_], _ => rfl) (fun cdv A outer s H vs Q E hr h => ?_)
  · walk_at "ln"
  · obtain ⟨a, ms, cs, rfl, C, G, nr, h⟩ := h
    refine ⟨_, (pss_cons (ps_set (i := 1) sc_closed_of.nd rfl (Or.inl rfl) (pe_m0 c_Calendar_closed hr (by decide) (pv 0)))
      (pss_cons (ps_if (pt_cmpR op_notNo (pe_m0 c_Closed_ring hr (by decide) (pv 1)) pe_non (nomark _)) (pss_one ps_never) pss_nil)
      (pss_one (ps_ret (pv 1))))), ?_⟩
    walk_at "nk"
    obtain ⟨dx, am, cl, o, em, L⟩ := id C.ex
    walk_at "go"
    refine ⟨_, ms, cs, rfl, C, G, nr, fun H1 p dr s1 hd C1 => ?_⟩
    obtain ⟨dx, am, cl, da, ddx, dd, dl, d, oC, _⟩ := id C1.ex
    walk_at "go"
    refine ⟨_, dr, ms, cs, rfl, C1, ?_⟩
    walk_at "go"
    exact h _ _ dr s1 hd C1
def s_bound : Stmt := top 62
abbrev N_bound : List Str := ["calendar", "one", "other"]
theorem sc_bound : FnScope N_bound ["calendar", "one", "other"] (defScope s_bound) := C8.fnScope_by (by decide +kernel)
theorem ok_bound {f : Addr} {fd : FuncData} (T : Tx K mg) (F : DefAt K "bound" "bound" s_bound f fd) (hm : mg "bound" = some (.ref f)) (c_want_moment : Cf P w K mg base 2 "want_moment" (sp_want_moment K mg)) (c_Closed_bound : Cm P w K mg base 5 (cClosed K) "bound" (sp_Closed_bound K mg)) (c_closed_of : Cf P w K mg base 7 "closed_of" (sp_closed_of K mg)) : Cf P w K mg base 8 "bound" (sp_bound K mg) := by
  refine cal_mk F hm sc_bound (fun vs H Q E => ?_) (fun _ _ _ _ _ _ us hl => match us, hl with | [_, _, _], _ => rfl) (fun cdv A outer s H vs Q E hr h => ?_)
  · walk_at "ln"
  · obtain ⟨a, ms, cs, b, c, n, gf, rfl, C, G, nr, hb, hc, st, h⟩ := h
    refine ⟨_, (pss_cons (ps_expr (pe_f c_want_moment hr (by decide) (by rfl) (pa_cons (pv 0) (pa_cons (pv 1) pa_nil))))
      (pss_cons (ps_expr (pe_f c_want_moment hr (by decide) (by rfl) (pa_cons (pv 0) (pa_cons (pv 2) pa_nil))))
      (pss_one (ps_ret (pe_m c_Closed_bound hr (by decide) (pe_f c_closed_of hr (by decide) (by rfl) (pa_cons (pv 0) pa_nil)) (pa_cons (pv 1) (pa_cons (pv 2) pa_nil))))))), ?_⟩
    walk_at "nk"
    walk_at "go"
    refine ⟨a, ms, cs, b, rfl, C, hb, ?_⟩
    walk_at "go"
    refine ⟨a, ms, cs, c, rfl, C, hc, ?_⟩
    walk_at "go"
    refine ⟨a, ms, cs, rfl, C, G, nr, fun H1 p dr s1 hd C1 => ?_⟩
    obtain ⟨dx, am, cl, da, ddx, dd, dl, d, oC, _⟩ := id C1.ex
    walk_at "go"
    refine ⟨_, _, _, _, _, _, _, _, rfl, C1, G, hb, st, fun H2 fr => ?_⟩
    exact h _ fun x o e => fr _ _ (ne_of_none e hd) (s1 _ _ e)
end
end Ld
namespace Ld
open PySem PySem.Spec PyProof.Rows L2
/-! ### deals -/
structure DealD where
  name : Str
  house : Str
  films : List Str
  lands : List Str
  ways : List Str
  bm : Str
  bn : Int
  em : Str
  en : Int
  alone : Bool
  price : Int
def DealX (K : PySem.W.Frag) (H : Hp) (v : V) (D : DealD) : Prop := ∃ a dx pf pl pw pb pe, v = .ref a ∧ H a = some (.ins (cDeal K) dx [("own_name", .str D.name), ("own_house", .str D.house), ("own_films", .ref pf), ("own_lands", .ref pl), ("own_ways", .ref pw), ("own_begin", .ref pb), ("own_end", .ref pe), ("is_alone", .bl D.alone), ("own_price", .int D.price)]) ∧
  H pf = some (.tup (D.films.map V.str)) ∧ H pl = some (.tup (D.lands.map V.str)) ∧ H pw = some (.tup (D.ways.map V.str)) ∧ H pb = some (.tup [.str D.bm, .int D.bn]) ∧ H pe = some (.tup [.str D.em, .int D.en])
theorem DealX.pers (K : PySem.W.Frag) : Pers (DealX K) := fun _ _ _ _ s ⟨a, dx, pf, pl, pw, pb, pe, e, h1, h2, h3, h4, h5, h6⟩ => ⟨a, dx, pf, pl, pw, pb, pe, e, s _ _ rfl h1, s _ _ rfl h2, s _ _ rfl h3, s _ _ rfl h4, s _ _ rfl h5, s _ _ rfl h6⟩
theorem DealX.same {K : PySem.W.Frag} {H H' : Hp} {v : V} {D : DealD} (h : DealX K H v D) (s : Same H H') : DealX K H' v D := DealX.pers K _ _ _ _ (SameN.of s) h
theorem DealX.off {K : PySem.W.Frag} {H H' : Hp} {v : V} {D : DealD} {b C dx : Addr} {fs : List (Str × V)} (h : DealX K H v D) (hb : H b = some (.ins C dx fs)) (hf : fs.length ≠ 9) (k : ∀ x o, x ≠ b → H x = some o → H' x = some o) : DealX K H' v D := by
  obtain ⟨a, dxa, pf, pl, pw, pb, pe, e, h1, h2, h3, h4, h5, h6⟩ := h
  refine ⟨a, dxa, pf, pl, pw, pb, pe, e, k _ _ (fun z => ?_) h1, k _ _ (fun z => ?_) h2, k _ _ (fun z => ?_) h3, k _ _ (fun z => ?_) h4, k _ _ (fun z => ?_) h5, k _ _ (fun z => ?_) h6⟩
  · rw [z, hb] at h1
    have := Option.some.inj h1
    injection this with _ _ h
    rw [h] at hf
    exact hf rfl
  · rw [z, hb] at h2; cases h2
  · rw [z, hb] at h3; cases h3
  · rw [z, hb] at h4; cases h4
  · rw [z, hb] at h5; cases h5
  · rw [z, hb] at h6; cases h6
/-- names, few and all unlike -/
structure Names (ss : List Str) (n : Nat) : Prop where
  nm : ∀ s ∈ ss, NameS s
  nd : ss.Nodup
  lo : 1 ≤ ss.length
  hi : ss.length ≤ n
structure DealOk (D : DealD) : Prop where
  name : NameS D.name
  house : NameS D.house
  films : Names D.films 4
  lands : Names D.lands 4
  ways : Names D.ways 3
  bm : MomS D.bm
  em : MomS D.em
  own : D.bm = D.em → D.bn ≤ D.en
  price : 0 ≤ D.price
def cellsD (D : DealD) : List Cell := D.films.flatMap fun f => D.lands.flatMap fun l => D.ways.map fun w => (f, l, w)
def meetD (D E : DealD) : List Cell := (cellsD D).filter fun c => decide (c ∈ cellsD E)
def touchD (D E : DealD) : Bool := !decide (meetD D E = []) && (D.alone || E.alone)
def clauseD (D : DealD) : Clause := (D.bm, D.em, D.en - D.bn)
theorem cells_len {D : DealD} (G : DealOk D) : (cellsD D).length ≤ 48 := by
  have h1 : ∀ f l, (D.ways.map fun w => ((f, l, w) : Cell)).length ≤ 3 := fun f l => by rw [List.length_map]; exact G.ways.hi
  have h2 : ∀ f, (D.lands.flatMap fun l => D.ways.map fun w => ((f, l, w) : Cell)).length ≤ 12 := fun f => by
    have := flat_len (xs := D.lands) (f := fun l => D.ways.map fun w => ((f, l, w) : Cell)) (k := 3) fun l _ => h1 f l
    have := G.lands.hi
    omega
  have := flat_len (xs := D.films) (f := fun f => D.lands.flatMap fun l => D.ways.map fun w => ((f, l, w) : Cell)) (k := 12) fun f _ => h2 f
  have := G.films.hi
  unfold cellsD
  omega
def sp_want_name (K : PySem.W.Frag) (mg : Str → Option Value) : Sp := fun vs H Q _ => ∃ s : Str, vs = [.str s] ∧ NameS s ∧ ∀ H', Same H H' → Q .non H'
def sp_want_names (K : PySem.W.Frag) (mg : Str → Option Value) : Sp := fun vs H Q _ => ∃ (a : Addr) (ss : List Str) (n : Nat), vs = [.ref a] ∧ H a = some (.lst (ss.map V.str)) ∧ Names ss n ∧ ∀ H', Same H H' → Q .non H'
def sp_want_few (K : PySem.W.Frag) (mg : Str → Option Value) : Sp := fun vs H Q _ => ∃ (a : Addr) (ss : List Str) (n : Nat) (t : V), vs = [.ref a, .int n, t] ∧ H a = some (.lst (ss.map V.str)) ∧ ss.length ≤ n ∧ Q .non H
def sp_want_points (K : PySem.W.Frag) (mg : Str → Option Value) : Sp := fun vs H Q _ => ∃ (b e : Addr) (bm em : Str) (bn en : Int), vs = [.ref b, .ref e] ∧ H b = some (.tup [.str bm, .int bn]) ∧ H e = some (.tup [.str em, .int en]) ∧ MomS bm ∧ MomS em ∧ (bm = em → bn ≤ en) ∧ ∀ H', Same H H' → Q .non H'
def sp_Deal__init (K : PySem.W.Frag) (mg : Str → Option Value) : Sp := fun vs H Q _ => ∃ (a dx pf pl pw pb pe : Addr) (D : DealD), vs = [.ref a, .str D.name, .str D.house, .ref pf, .ref pl, .ref pw, .ref pb, .ref pe, .bl D.alone, .int D.price] ∧ H a = some (.ins (cDeal K) dx []) ∧ H pf = some (.lst (D.films.map V.str)) ∧ H pl = some (.lst (D.lands.map V.str)) ∧ H pw = some (.lst (D.ways.map V.str)) ∧
  H pb = some (.tup [.str D.bm, .int D.bn]) ∧ H pe = some (.tup [.str D.em, .int D.en]) ∧ DealOk D ∧ ∀ H' fs ls ws, fs.Perm D.films → sortedS fs = true → ls.Perm D.lands → sortedS ls = true → ws.Perm D.ways → sortedS ws = true →
    DealX K H' (.ref a) { D with films := fs, lands := ls, ways := ws } → (∀ x o, x ≠ a → H x = some o → H' x = some o) → Q .non H'
def sp_Deal_name (K : PySem.W.Frag) (mg : Str → Option Value) : Sp := fun vs H Q _ => ∃ (v : V) (D : DealD), vs = [v] ∧ DealX K H v D ∧ Q (.str D.name) H
def sp_Deal_begin (K : PySem.W.Frag) (mg : Str → Option Value) : Sp := fun vs H Q _ => ∃ (v : V) (D : DealD), vs = [v] ∧ DealX K H v D ∧ ∀ p, H p = some (.tup [.str D.bm, .int D.bn]) → Q (.ref p) H
def sp_Deal_end (K : PySem.W.Frag) (mg : Str → Option Value) : Sp := fun vs H Q _ => ∃ (v : V) (D : DealD), vs = [v] ∧ DealX K H v D ∧ ∀ p, H p = some (.tup [.str D.em, .int D.en]) → Q (.ref p) H
def sp_Deal_cells (K : PySem.W.Frag) (mg : Str → Option Value) : Sp := fun vs H Q _ => ∃ (v : V) (D : DealD), vs = [v] ∧ DealX K H v D ∧ DealOk D ∧ ∀ H' p, Same H H' → H p = none → LAt CellV H' p (cellsD D) → Q (.ref p) H'
def sp_Deal_moments (K : PySem.W.Frag) (mg : Str → Option Value) : Sp := fun vs H Q _ => ∃ (v : V) (D : DealD), vs = [v] ∧ DealX K H v D ∧ DealOk D ∧ ∀ H' p (ss : List Str), Same H H' → H p = none → H' p = some (.lst (ss.map V.str)) → ss.length ≤ 2 → (∀ s ∈ ss, (s = D.bm ∨ s = D.em) ∧ s ≠ dayS) → Q (.ref p) H'
def sp_Deal_own_clause (K : PySem.W.Frag) (mg : Str → Option Value) : Sp := fun vs H Q _ => ∃ (v : V) (D : DealD), vs = [v] ∧ DealX K H v D ∧ (D.bm = D.em → Q .non H) ∧ (D.bm ≠ D.em → ∀ p, H p = none → Q (.ref p) (upd H p (.tup [.str D.bm, .str D.em, .int (D.en - D.bn)])))
def sp_Deal__and (K : PySem.W.Frag) (mg : Str → Option Value) : Sp := fun vs H Q _ => ∃ (v u : V) (D E : DealD), vs = [v, u] ∧ DealX K H v D ∧ DealX K H u E ∧ DealOk D ∧ DealOk E ∧ ∀ H' p, Same H H' → H p = none → LAt CellV H' p (meetD D E) → Q (.ref p) H'
def sp_Deal_touches (K : PySem.W.Frag) (mg : Str → Option Value) : Sp := fun vs H Q _ => ∃ (v u : V) (D E : DealD), vs = [v, u] ∧ DealX K H v D ∧ DealX K H u E ∧ DealOk D ∧ DealOk E ∧ ∀ H', Same H H' → Q (.bl (touchD D E)) H'
section
variable {P : Program} {w : World} {K : PySem.W.Frag} {mg : Str → Option Value} {base : Heap}
def s_want_name : Stmt := top 46
abbrev N_want_name : List Str := ["value"]
theorem sc_want_name : FnScope N_want_name ["value"] (defScope s_want_name) := C8.fnScope_by (by decide +kernel)
theorem ok_want_name {f : Addr} {fd : FuncData} (T : Tx K mg) (F : DefAt K "want_name" "want_name" s_want_name f fd) (hm : mg "want_name" = some (.ref f)) (c_is_name : Cf P w K mg base 1 "is_name" (sp_is_name K mg)) : Cf P w K mg base 2 "want_name" (sp_want_name K mg) := by
  refine cal_mk F hm sc_want_name (fun vs H Q E => ?_) (fun _ _ _ _ _ _ us hl => match us, hl with | [_], _ => rfl) (fun cdv A outer s H vs Q E hr h => ?_)
  · walk_at "ln"
  · obtain ⟨s, rfl, hs, h⟩ := h
    refine ⟨_, (pss_one (ps_if (pt_not (pt_val (pe_f c_is_name hr (by decide) (by rfl) (pa_cons (pv 0) pa_nil)))) (pss_one ps_never) pss_nil)), ?_⟩
    walk_at "nk"
    walk_at "go"
    refine ⟨s, rfl, .inl ⟨hs, fun H1 s1 => ?_⟩⟩
    walk_at "go"
    exact h _ s1
def s_want_names : Stmt := top 47
abbrev N_want_names : List Str := ["value", "position"]
theorem sc_want_names : FnScope N_want_names ["value"] (defScope s_want_names) := C8.fnScope_by (by decide +kernel)
theorem ok_want_names {f : Addr} {fd : FuncData} (T : Tx K mg) (F : DefAt K "want_names" "want_names" s_want_names f fd) (hm : mg "want_names" = some (.ref f)) (c_is_list : Cf P w K mg base 1 "is_list" (sp_is_list K mg)) (c_wrong_name : Cf P w K mg base 2 "wrong_name" (sp_wrong_name K mg)) : Cf P w K mg base 3 "want_names" (sp_want_names K mg) := by
  refine cal_mk F hm sc_want_names (fun vs H Q E => ?_) (fun _ _ _ _ _ _ us hl => match us, hl with | [_], _ => rfl) (fun cdv A outer s H vs Q E hr h => ?_)
  · walk_at "ln"
  · obtain ⟨a, ss, n, rfl, ea, N, h⟩ := h
    refine ⟨_, (pss_cons (ps_if (PW.pt (pw_or (pt_not (pt_val (pe_f c_is_list hr (by decide) (by rfl) (pa_cons (pv 0) pa_nil)))) (pw_or1 (pt_cmpR op_eq (pe_callB cr_len (by rfl) T.f_len (by decide +kernel) (pa_cons (pv 0) pa_nil)) pe_int (nomark _))))) (pss_one ps_never) pss_nil)
      (pss_cons (ps_set (i := 1) sc_want_names.nd rfl (Or.inl rfl) (pe_f c_wrong_name hr (by decide) (by rfl) (pa_cons (pv 0) (pa_cons (C8.pe_gc (by rfl) T.g_is_name) pa_nil))))
      (pss_one (ps_if (pt_cmpR op_notNo (pv 1) pe_non (nomark _)) (pss_one ps_never) pss_nil)))), ?_⟩
    walk_at "nk"
    walk_at "go"
    refine ⟨_, _, rfl, ea, fun H1 s1 => ?_⟩
    have e1 := s1 _ _ ea
    have ne : V.int (ss.length : Nat) ≠ .int 0 := fun z => by
      have := N.lo
      have z := V.int.inj z
      omega
    walk_at "go"
    refine ⟨_, _, ss, rfl, T.m_is_name, e1, N.nm, N.nd, fun H2 s2 => ?_⟩
    walk_at "go"
    exact h _ (Same.trans' s1 s2)
def s_want_few : Stmt := top 48
abbrev N_want_few : List Str := ["value", "most", "what"]
theorem sc_want_few : FnScope N_want_few ["value", "most", "what"] (defScope s_want_few) := C8.fnScope_by (by decide +kernel)
theorem ok_want_few {f : Addr} {fd : FuncData} (T : Tx K mg) (F : DefAt K "want_few" "want_few" s_want_few f fd) (hm : mg "want_few" = some (.ref f)) : Cf P w K mg base 1 "want_few" (sp_want_few K mg) := by
  refine cal_mk F hm sc_want_few (fun vs H Q E => ?_) (fun _ _ _ _ _ _ us hl => match us, hl with | [_, _, _], _ => rfl) (fun cdv A outer s H vs Q E hr h => ?_)
  · walk_at "ln"
  · obtain ⟨a, ss, n, t, rfl, ea, hn, h⟩ := h
    refine ⟨_, (pss_one (ps_if (pt_cmpR op_gt (pe_callB cr_len (by rfl) T.f_len (by decide +kernel) (pa_cons (pv 0) pa_nil)) (pv 1) (nomark _)) (pss_one ps_never) pss_nil)), ?_⟩
    walk_at "nk"
    walk_at "go"
    exact h
def s_want_points : Stmt := top 49
abbrev N_want_points : List Str := ["begin", "end"]
theorem sc_want_points : FnScope N_want_points ["begin", "end"] (defScope s_want_points) := C8.fnScope_by (by decide +kernel)
theorem ok_want_points {f : Addr} {fd : FuncData} (T : Tx K mg) (F : DefAt K "want_points" "want_points" s_want_points f fd) (hm : mg "want_points" = some (.ref f)) (c_is_point : Cf P w K mg base 3 "is_point" (sp_is_point K mg)) : Cf P w K mg base 4 "want_points" (sp_want_points K mg) := by
  refine cal_mk F hm sc_want_points (fun vs H Q E => ?_) (fun _ _ _ _ _ _ us hl => match us, hl with | [_, _], _ => rfl) (fun cdv A outer s H vs Q E hr h => ?_)
  · walk_at "ln"
  · obtain ⟨b, e, bm, em, bn, en, rfl, hb, he, h1, h2, h3, h⟩ := h
    refine ⟨_, (pss_cons (ps_if (pt_not (pt_val (pe_f c_is_point hr (by decide) (by rfl) (pa_cons (pv 0) pa_nil)))) (pss_one ps_never) pss_nil)
      (pss_one (ps_if (PW.pt (pw_or (pt_not (pt_val (pe_f c_is_point hr (by decide) (by rfl) (pa_cons (pv 1) pa_nil)))) (pw_or1 (PW.pt (pw_and (pt_cmpR op_eq (pe_ix ix_tup (pv 0) pe_int (fun _ _ => rfl)) (pe_ix ix_tup (pv 1) pe_int (fun _ _ => rfl)) (nomark _)) (pw_and1 (pt_cmpR op_gt (pe_ix ix_tup (pv 0) pe_int (fun _ _ => rfl)) (pe_ix ix_tup (pv 1) pe_int (fun _ _ => rfl)) (nomark _)))))))) (pss_one ps_never) pss_nil))), ?_⟩
    walk_at "nk"
    walk_at "go"
    refine ⟨_, _, _, rfl, hb, h1, fun H1 s1 => ?_⟩
    walk_at "go"
    refine ⟨_, _, _, rfl, s1 _ _ he, h2, fun H2 s2 => ?_⟩
    have hb2 := s2 _ _ (s1 _ _ hb)
    have he2 := s2 _ _ (s1 _ _ he)
    walk_at "go"
    by_cases z : bm = em
    · have z1 : V.str bm = V.str em := by rw [z]
      have z2 := h3 z
      walk_at "go"
      exact h _ (Same.trans' s1 s2)
    · have z1 : V.str bm ≠ V.str em := fun e => z (V.str.inj e)
      walk_at "go"
      exact h _ (Same.trans' s1 s2)
def s_Deal_name : Stmt := inClass (top 51) 1
abbrev N_Deal_name : List Str := ["self"]
theorem sc_Deal_name : FnScope N_Deal_name ["self"] (defScope s_Deal_name) := C8.fnScope_by (by decide +kernel)
theorem ok_Deal_name {f : Addr} {fd : FuncData} (T : Tx K mg) (F : DefAt K "name" "Deal.name" s_Deal_name f fd) {pp : Addr} (pr : PropOf K (cDeal K) "name" pp f) : Prp P w K mg base 1 (cDeal K) "name" (sp_Deal_name K mg) := by
  refine prp_mk F T.cl_Deal pr sc_Deal_name (fun vs H Q E => ?_) (fun _ _ _ _ _ _ us hl => match us, hl with | [_], _ => rfl) (fun cdv A outer s H vs Q E hr h => ?_)
  · walk_at "ln"
  · obtain ⟨v, D, rfl, ⟨a, dx, pf, pl, pw, pb, pe, rfl, o, h1, h2, h3, h4, h5⟩, h⟩ := h
    refine ⟨_, (pss_one (ps_ret (pe_fld (pv 0) rfl))), ?_⟩
    walk_at "nk"
    have u_cl_Deal := T.cl_Deal; have u_na_Deal_own_name := T.na_Deal_own_name
    walk_at "go"
    exact h
def s_Deal_begin : Stmt := inClass (top 51) 6
abbrev N_Deal_begin : List Str := ["self"]
theorem sc_Deal_begin : FnScope N_Deal_begin ["self"] (defScope s_Deal_begin) := C8.fnScope_by (by decide +kernel)
theorem ok_Deal_begin {f : Addr} {fd : FuncData} (T : Tx K mg) (F : DefAt K "begin" "Deal.begin" s_Deal_begin f fd) {pp : Addr} (pr : PropOf K (cDeal K) "begin" pp f) : Prp P w K mg base 1 (cDeal K) "begin" (sp_Deal_begin K mg) := by
  refine prp_mk F T.cl_Deal pr sc_Deal_begin (fun vs H Q E => ?_) (fun _ _ _ _ _ _ us hl => match us, hl with | [_], _ => rfl) (fun cdv A outer s H vs Q E hr h => ?_)
  · walk_at "ln"
  · obtain ⟨v, D, rfl, ⟨a, dx, pf, pl, pw, pb, pe, rfl, o, h1, h2, h3, h4, h5⟩, h⟩ := h
    refine ⟨_, (pss_one (ps_ret (pe_fld (pv 0) rfl))), ?_⟩
    walk_at "nk"
    have u_cl_Deal := T.cl_Deal; have u_na_Deal_own_begin := T.na_Deal_own_begin
    walk_at "go"
    exact h _ h4
def s_Deal_end : Stmt := inClass (top 51) 7
abbrev N_Deal_end : List Str := ["self"]
theorem sc_Deal_end : FnScope N_Deal_end ["self"] (defScope s_Deal_end) := C8.fnScope_by (by decide +kernel)
theorem ok_Deal_end {f : Addr} {fd : FuncData} (T : Tx K mg) (F : DefAt K "end" "Deal.end" s_Deal_end f fd) {pp : Addr} (pr : PropOf K (cDeal K) "end" pp f) : Prp P w K mg base 1 (cDeal K) "end" (sp_Deal_end K mg) := by
  refine prp_mk F T.cl_Deal pr sc_Deal_end (fun vs H Q E => ?_) (fun _ _ _ _ _ _ us hl => match us, hl with | [_], _ => rfl) (fun cdv A outer s H vs Q E hr h => ?_)
  · walk_at "ln"
  · obtain ⟨v, D, rfl, ⟨a, dx, pf, pl, pw, pb, pe, rfl, o, h1, h2, h3, h4, h5⟩, h⟩ := h
    refine ⟨_, (pss_one (ps_ret (pe_fld (pv 0) rfl))), ?_⟩
    walk_at "nk"
    have u_cl_Deal := T.cl_Deal; have u_na_Deal_own_end := T.na_Deal_own_end
    walk_at "go"
    exact h _ h5
def s_Deal_own_clause : Stmt := inClass (top 51) 12
abbrev N_Deal_own_clause : List Str := ["self", "first", "number", "last", "other"]
theorem sc_Deal_own_clause : FnScope N_Deal_own_clause ["self"] (defScope s_Deal_own_clause) := C8.fnScope_by (by decide +kernel)
theorem ok_Deal_own_clause {f : Addr} {fd : FuncData} (T : Tx K mg) (F : DefAt K "own_clause" "Deal.own_clause" s_Deal_own_clause f fd) (me : Meth K (cDeal K) "own_clause" f) : Cm P w K mg base 1 (cDeal K) "own_clause" (sp_Deal_own_clause K mg) := by
  refine met_mk F T.cl_Deal me sc_Deal_own_clause (fun vs H Q E => ?_) (fun _ _ _ _ _ _ us hl => match us, hl with | [_], _ => rfl) (fun cdv A outer s H vs Q E hr h => ?_)
  · walk_at "ln"
  · obtain ⟨v, D, rfl, ⟨a, dx, pf, pl, pw, pb, pe, rfl, o, h1, h2, h3, h4, h5⟩, k1, k2⟩ := h
    refine ⟨_, (pss_cons (ps_asg (pe_fld (pv 0) rfl) (pg_tup (n := 2) rfl (pgs_cons (pg_name (i := 1) sc_Deal_own_clause.nd rfl (Or.inl rfl)) (pgs_cons (pg_name (i := 2) sc_Deal_own_clause.nd rfl (Or.inl rfl)) pgs_nil))))
      (pss_cons (ps_asg (pe_fld (pv 0) rfl) (pg_tup (n := 2) rfl (pgs_cons (pg_name (i := 3) sc_Deal_own_clause.nd rfl (Or.inl rfl)) (pgs_cons (pg_name (i := 4) sc_Deal_own_clause.nd rfl (Or.inl rfl)) pgs_nil))))
      (pss_one (ps_ret (pe_ifExp (pt_cmpR op_eq (pv 1) (pv 3) (nomark _)) pe_non (pe_tup (pa_cons (pv 1) (pa_cons (pv 3) (pa_cons (pe_op op_sub (pv 4) (pv 2)) pa_nil))))))))), ?_⟩
    walk_at "nk"
    have u_cl_Deal := T.cl_Deal; have u_na_Deal_own_begin := T.na_Deal_own_begin; have u_na_Deal_own_end := T.na_Deal_own_end
    walk_at "go"
    by_cases z : D.bm = D.em
    · have z1 : V.str D.bm = V.str D.em := by rw [z]
      walk_at "go"
      exact k1 z
    · have z1 : V.str D.bm ≠ V.str D.em := fun e => z (V.str.inj e)
      walk_at "go"
      exact k2 z
def s_Deal_cells : Stmt := inClass (top 51) 10
abbrev N_Deal_cells : List Str := ["self", "found", "film", "land", "way"]
theorem sc_Deal_cells : FnScope N_Deal_cells ["self"] (defScope s_Deal_cells) := C8.fnScope_by (by decide +kernel)
theorem ok_Deal_cells {f : Addr} {fd : FuncData} (T : Tx K mg) (F : DefAt K "cells" "Deal.cells" s_Deal_cells f fd) (me : Meth K (cDeal K) "cells" f) : Cm P w K mg base 1 (cDeal K) "cells" (sp_Deal_cells K mg) := by
  refine met_mk F T.cl_Deal me sc_Deal_cells (fun vs H Q E => ?_) (fun _ _ _ _ _ _ us hl => match us, hl with | [_], _ => rfl) (fun cdv A outer s H vs Q E hr h => ?_)
  · walk_at "ln"
  · obtain ⟨v, D, rfl, ⟨a, dx, pf, pl, pw, pb, pe, rfl, o, h1, h2, h3, h4, h5⟩, G, h⟩ := h
    refine ⟨_, (pss_cons (ps_set (i := 1) sc_Deal_cells.nd rfl (Or.inl rfl) (pe_lst pa_nil))
      (pss_cons (ps_for PassesOwn.never rfl (pi_tup (pe_fld (pv 0) rfl)) (pg_name (i := 2) sc_Deal_cells.nd rfl (Or.inr rfl)) (pss_one (ps_for PassesOwn.never rfl (pi_tup (pe_fld (pv 0) rfl)) (pg_name (i := 3) sc_Deal_cells.nd rfl (Or.inr rfl)) (pss_one (ps_expr (pe_bm PySem.F.plainAttrs_list PySem.F.slot_list_extend PySem.F.type_list_extend mt_extend (pv 1) (pa_cons (pe_lc (own := [("way", 4)]) rfl sc_Deal_cells.nd (pi_tup (pe_fld (pv 0) rfl)) (blkOk_by (own := [("way", 4)]) (N := N_Deal_cells) (sc := defScope s_Deal_cells) (by decide +kernel)) (fun _ _ _ _ _ => (pg_name (i := 4) sc_Deal_cells.nd rfl (Or.inl rfl))) (fun _ _ _ _ _ => pts_nil) (fun _ _ _ _ _ => (pe_tup (pa_cons (pv 2) (pa_cons (pv 3) (pa_cons (pv 4) pa_nil))))) ) pa_nil)))))))
      (pss_one (ps_ret (pv 1))))), ?_⟩
    walk_at "nk"
    have u_cl_Deal := T.cl_Deal; have u_na_Deal_own_films := T.na_Deal_own_films; have u_na_Deal_own_lands := T.na_Deal_own_lands; have u_na_Deal_own_ways := T.na_Deal_own_ways
    walk_at "go"
    intro l hl
    walk_at "go"
    have nfl : pf ≠ l := ne_of_none h1 hl
    refine forT (All2.raw V.str D.films) (fun d σ H' => ∃ x y vs, σ = [some (.ref a), some (.ref l), x, y, none] ∧ Same H H' ∧ H' l = some (.lst vs) ∧ All2 (CellV H') vs (d.flatMap fun f => D.lands.flatMap fun k => D.ways.map fun w => (f, k, w)) ∧ vs.length ≤ 12 * d.length)
      ⟨_, _, [], rfl, same_new hl, upd_same, .nil, Nat.zero_le _⟩ (fun d σ H' p => by obtain ⟨_, _, _, _, p, _⟩ := p; exact p _ _ h1) (fun d f r x σ H1 e ex hp => ?_) (fun σ H1 hp => ?_)
    · obtain ⟨x1, y1, ws, rfl, s1, el, al, hz⟩ := hp
      subst ex
      have o1 := s1 _ _ o
      have l1 := s1 _ _ h2
      have lf : d.length < 4 := by
        have := G.films.hi
        rw [e] at this
        simp at this
        omega
      have okf : Ok f := (G.films.nm f (by simp [e])).ok
      walk_at "go"
      refine forT (All2.raw V.str D.lands) (fun d2 σ H' => ∃ y vs, σ = [some (.ref a), some (.ref l), some (.str f), y, none] ∧ Same H H' ∧ H' l = some (.lst vs) ∧ All2 (CellV H') vs ((d.flatMap fun f => D.lands.flatMap fun k => D.ways.map fun w => (f, k, w)) ++ d2.flatMap fun k => D.ways.map fun w => (f, k, w)) ∧ vs.length ≤ 12 * d.length + 3 * d2.length)
        ⟨_, _, rfl, s1, el, by simpa using al, by omega⟩ (fun d σ H' p => by obtain ⟨_, _, _, p, _⟩ := p; exact p _ _ h2) (fun d2 k r2 x σ H2 e2 ex hp => ?_) (fun σ H2 hp => ?_)
      · obtain ⟨y2, us, rfl, s2, el2, al2, hz2⟩ := hp
        subst ex
        have o2 := s2 _ _ o
        have w2 := s2 _ _ h3
        have lf2 : d2.length < 4 := by
          have := G.lands.hi
          rw [e2] at this
          simp at this
          omega
        have okk : Ok k := (G.lands.nm k (by simp [e2])).ok
        walk_at "go"
        refine lcT w2 (All2.raw V.str D.ways) (fun w => some (f, k, w)) CellV CellV.pers (Nat.lt_of_le_of_lt G.ways.hi (by decide)) (fun x w H' hw ex sm => ?_) (fun D1 H3 ys hD sm eD al3 => ?_)
        · intro Qo Qn ho hn
          subst ex
          walk_at "go"
          intro p hp
          exact ho _ _ _ rfl (same_new hp) ⟨p, rfl, upd_same, okf, okk, (G.ways.nm w hw).ok⟩
        · have el3 := sm _ _ el2
          have ly := al3.len
          have lw : (D.ways.filterMap fun w => some (f, k, w)).length ≤ 3 := Nat.le_trans (List.length_filterMap_le _ _) G.ways.hi
          have hz3 : us.length + ys.length ≤ sizeLine := sz (by omega)
          walk_at "go"
          refine ⟨_, us ++ ys, rfl, fun x o e => up_ne (ne_of_none e hl) (sm _ _ (s2 _ _ e)), upd_same, ?_, by simp; omega⟩
          have pe := SameN.lst (ys := us ++ ys) el3
          rw [List.flatMap_append, ← List.append_assoc]
          refine ((al2.mono fun v c h => CellV.pers _ _ _ _ pe (CellV.pers _ _ _ _ (SameN.of sm) h))).append ?_
          simp only [List.flatMap_cons, List.flatMap_nil, List.append_nil]
          rw [show (D.ways.filterMap fun w => some (f, k, w)) = D.ways.map fun w => (f, k, w) from by simp] at al3
          exact al3.mono fun v c h => CellV.pers _ _ _ _ pe h
      · obtain ⟨y2, us, rfl, s2, el2, al2, hz2⟩ := hp
        have := G.lands.hi
        exact ⟨_, _, us, rfl, s2, el2, by rw [List.flatMap_append]; simpa using al2, by simp; omega⟩
    · obtain ⟨x1, y1, ws, rfl, s1, el, al, hz⟩ := hp
      walk_at "go"
      exact h _ _ s1 hl ⟨ws, el, al⟩
def s_Deal__and : Stmt := inClass (top 51) 24
abbrev N_Deal__and : List Str := ["self", "other", "sought", "cell"]
theorem sc_Deal__and : FnScope N_Deal__and ["self", "other"] (defScope s_Deal__and) := C8.fnScope_by (by decide +kernel)
theorem ok_Deal__and {f : Addr} {fd : FuncData} (T : Tx K mg) (F : DefAt K "__and__" "Deal.__and__" s_Deal__and f fd) (me : Meth K (cDeal K) "__and__" f) (c_Deal_cells : Cm P w K mg base 1 (cDeal K) "cells" (sp_Deal_cells K mg)) : Cm P w K mg base 2 (cDeal K) "__and__" (sp_Deal__and K mg) := by
  refine met_mk F T.cl_Deal me sc_Deal__and (fun vs H Q E => ?_) (fun _ _ _ _ _ _ us hl => match us, hl with | [_, _], _ => rfl) (fun cdv A outer s H vs Q E hr h => ?_)
  · walk_at "ln"
  · obtain ⟨v, u, D, E, rfl, X1, X2, G1, G2, h⟩ := h
    refine ⟨_, (pss_cons (ps_if (pt_not (pt_val (pe_callB (cr_isC T.is_Deal) (by rfl) T.f_isinstance (by decide +kernel) (pa_cons (pv 1) (pa_cons (C8.pe_gc (by rfl) T.g_Deal) pa_nil))))) (pss_one ps_never) pss_nil)
      (pss_cons (ps_set (i := 2) sc_Deal__and.nd rfl (Or.inr rfl) (pe_m0 c_Deal_cells hr (by decide) (pv 1)))
      (pss_one (ps_ret (pe_lc (own := [("cell", 3)]) rfl sc_Deal__and.nd (pi_list (pe_m0 c_Deal_cells hr (by decide) (pv 0))) (blkOk_by (own := [("cell", 3)]) (N := N_Deal__and) (sc := defScope s_Deal__and) (by decide +kernel)) (fun _ _ _ _ _ => (pg_name (i := 3) sc_Deal__and.nd rfl (Or.inl rfl))) (fun _ _ _ _ _ => (pts_one (pt_cmpR (op_inDB (K := K) (hu65 hr)) (pv 3) (pv 2) (by rfl)))) (fun _ _ _ _ _ => (pv 3)) ))))), ?_⟩
    walk_at "nk"
    obtain ⟨a, dx, pf, pl, pw, pb, pe, rfl, o, _⟩ := id X1
    obtain ⟨b, dy, qf, ql, qw, qb, qe, rfl, o2, _⟩ := id X2
    walk_at "go"
    refine ⟨_, E, rfl, X2, G2, fun H1 p s1 hp L1 => ?_⟩
    have o1 := s1 _ _ o
    walk_at "go"
    refine ⟨_, D, rfl, X1.same s1, G1, fun H2 q s2 hq L2 => ?_⟩
    obtain ⟨xs, el, al⟩ := id L2
    have hn : (cellsD D).length < sizeLine := Nat.lt_of_le_of_lt (cells_len G1) (by decide)
    refine lcL el al (fun c => if c ∈ cellsD E then some c else none) CellV CellV.pers hn (fun x c H' hc ex sm => ?_) (fun D1 H3 ys hD sm eD al3 => ?_)
    · intro Qo Qn ho hn
      have sm' := Same.trans' s2 sm
      have ex' := CellV.pers _ _ _ _ (SameN.of sm) ex
      walk_at "go"
      refine go_inD encCell ex' (L1.same CellV.pers sm') ?_
      by_cases z : c ∈ cellsD E
      · walk_at "go"
        exact ho _ _ _ (if_pos z) (Same.refl' _) ex'
      · walk_at "go"
        exact hn (if_neg z) _ (Same.refl' _)
    · rw [fm_filter] at al3
      exact h _ _ (Same.trans' s1 (Same.trans' s2 sm)) (none_back s1 (none_back s2 hD)) ⟨ys, eD, al3⟩
def s_Deal_touches : Stmt := inClass (top 51) 23
abbrev N_Deal_touches : List Str := ["self", "other"]
theorem sc_Deal_touches : FnScope N_Deal_touches ["self", "other"] (defScope s_Deal_touches) := C8.fnScope_by (by decide +kernel)
theorem ok_Deal_touches {f : Addr} {fd : FuncData} (T : Tx K mg) (F : DefAt K "touches" "Deal.touches" s_Deal_touches f fd) (me : Meth K (cDeal K) "touches" f) (c_Deal__and : Cm P w K mg base 2 (cDeal K) "__and__" (sp_Deal__and K mg)) : Cm P w K mg base 3 (cDeal K) "touches" (sp_Deal_touches K mg) := by
  refine met_mk F T.cl_Deal me sc_Deal_touches (fun vs H Q E => ?_) (fun _ _ _ _ _ _ us hl => match us, hl with | [_, _], _ => rfl) (fun cdv A outer s H vs Q E hr h => ?_)
  · walk_at "ln"
  · obtain ⟨v, u, D, E, rfl, X1, X2, G1, G2, h⟩ := h
    refine ⟨_, (pss_one (ps_ret (pe_and (pe_cmpR (op_neD hr.units) (pe_op (op_andOwn c_Deal__and T.sf_Deal hr (by decide)) (pv 0) (pv 1)) (pe_lst pa_nil) (nomark _)) (pe_one (pe_or (pe_fld (pv 0) rfl) (pe_one (pe_fld (pv 1) rfl))))))), ?_⟩
    walk_at "nk"
    have u_cl_Deal := T.cl_Deal; have u_na_Deal_is_alone := T.na_Deal_is_alone
    obtain ⟨a, dx, pf, pl, pw, pb, pe, rfl, o, _⟩ := id X1
    obtain ⟨b, dy, qf, ql, qw, qb, qe, rfl, o2, _⟩ := id X2
    walk_at "go"
    refine ⟨_, _, D, E, rfl, X1, X2, G1, G2, fun H1 p s1 hp L1 => ?_⟩
    walk_at "go"
    intro q hq
    have sq := same_new (o := .lst []) hq
    refine go_neL encCell (ds := []) (L1.same CellV.pers sq) ⟨[], upd_same, .nil⟩ ?_
    have o1 := sq _ _ (s1 _ _ o)
    have o3 := sq _ _ (s1 _ _ o2)
    have hS := Same.trans' s1 sq
    have hh := h _ hS
    unfold touchD at hh
    walk_at "go"
    by_cases z : meetD D E = []
    · walk_at "go"
      rw [show (!decide (meetD D E = [])) = false from by simp [z], Bool.false_and] at hh
      exact hh
    · walk_at "go"
      rw [show (!decide (meetD D E = [])) = true from by simp [z], Bool.true_and] at hh
      cases e : D.alone with
      | true =>
        rw [e, Bool.true_or] at hh
        walk_at "go"
        exact hh
      | false =>
        rw [e, Bool.false_or] at hh
        walk_at "go"
        exact hh
def s_Deal__init : Stmt := inClass (top 51) 0
abbrev N_Deal__init : List Str := ["self", "name", "house", "films", "lands", "ways", "begin", "end", "alone", "price", "names"]
theorem sc_Deal__init : FnScope N_Deal__init ["self", "name", "house", "films", "lands", "ways", "begin", "end", "alone", "price"] (defScope s_Deal__init) := C8.fnScope_by (by decide +kernel)
theorem ok_Deal__init {f : Addr} {fd : FuncData} (T : Tx K mg) (F : FunD K "__init__" "Deal.__init__" (defArgs s_Deal__init) (defBody s_Deal__init) (defScope s_Deal__init) [] [("alone", .bl true), ("price", .int 1)] f fd) (M : Mk K (cDeal K) f) (hm : mg "Deal" = some (.ref (cDeal K))) (c_want_name : Cf P w K mg base 2 "want_name" (sp_want_name K mg)) (c_want_names : Cf P w K mg base 3 "want_names" (sp_want_names K mg)) (c_want_points : Cf P w K mg base 4 "want_points" (sp_want_points K mg)) (c_is_count : Cf P w K mg base 2 "is_count" (sp_is_count K mg)) (c_want_few : Cf P w K mg base 1 "want_few" (sp_want_few K mg)) : MkK P w K mg base 5 "Deal" (cDeal K) 7 ["alone", "price"] (sp_Deal__init K mg) := by
  refine mkk_mk F (fun z => by cases z) M hm sc_Deal__init (fun vs H Q E => ?_) (fun _ _ _ _ _ _ us ws hl hl2 => match us, ws, hl, hl2 with | [_, _, _, _, _, _, _, _], [_, _], _, _ => rfl) (fun cdv A outer s H vs Q E hr h => ?_)
  · walk_at "ln"
  · obtain ⟨a, dx, pf, pl, pw, pb, pe, D, rfl, o, h1, h2, h3, h4, h5, G, h⟩ := h
    refine ⟨_, (pss_cons (ps_expr (pe_f c_want_name hr (by decide) (by rfl) (pa_cons (pv 1) pa_nil)))
      (pss_cons (ps_expr (pe_f c_want_name hr (by decide) (by rfl) (pa_cons (pv 2) pa_nil)))
      (pss_cons (ps_for PassesOwn.never rfl (pi_tup (pe_tup (pa_cons (pv 3) (pa_cons (pv 4) (pa_cons (pv 5) pa_nil))))) (pg_name (i := 10) sc_Deal__init.nd rfl (Or.inl rfl)) (pss_one (ps_expr (pe_f c_want_names hr (by decide) (by rfl) (pa_cons (pv 10) pa_nil)))))
      (pss_cons (ps_expr (pe_f c_want_points hr (by decide) (by rfl) (pa_cons (pv 6) (pa_cons (pv 7) pa_nil))))
      (pss_cons (ps_if (pt_not (pt_val (pe_f c_is_count hr (by decide) (by rfl) (pa_cons (pv 9) pa_nil)))) (pss_one ps_never) pss_nil)
      (pss_cons (ps_expr (pe_f c_want_few hr (by decide) (by rfl) (pa_cons (pv 3) (pa_cons (C8.pe_gc (by rfl) T.g_MOST_FILMS) (pa_cons pe_str pa_nil)))))
      (pss_cons (ps_expr (pe_f c_want_few hr (by decide) (by rfl) (pa_cons (pv 4) (pa_cons (C8.pe_gc (by rfl) T.g_MOST_LANDS) (pa_cons pe_str pa_nil)))))
      (pss_cons (ps_expr (pe_f c_want_few hr (by decide) (by rfl) (pa_cons (pv 5) (pa_cons (C8.pe_gc (by rfl) T.g_MOST_WAYS) (pa_cons pe_str pa_nil)))))
      (pss_cons (ps_fld (pv 0) (pv 1) rfl)
      (pss_cons (ps_fld (pv 0) (pv 2) rfl)
      (pss_cons (ps_fld (pv 0) (pe_callTy cr_tuple (by rfl) T.f_tuple (by decide +kernel) (pa_cons (pe_callB cr_sortedS (by rfl) T.f_sorted (by decide +kernel) (pa_cons (pv 3) pa_nil)) pa_nil)) rfl)
      (pss_cons (ps_fld (pv 0) (pe_callTy cr_tuple (by rfl) T.f_tuple (by decide +kernel) (pa_cons (pe_callB cr_sortedS (by rfl) T.f_sorted (by decide +kernel) (pa_cons (pv 4) pa_nil)) pa_nil)) rfl)
      (pss_cons (ps_fld (pv 0) (pe_callTy cr_tuple (by rfl) T.f_tuple (by decide +kernel) (pa_cons (pe_callB cr_sortedS (by rfl) T.f_sorted (by decide +kernel) (pa_cons (pv 5) pa_nil)) pa_nil)) rfl)
      (pss_cons (ps_fld (pv 0) (pv 6) rfl)
      (pss_cons (ps_fld (pv 0) (pv 7) rfl)
      (pss_cons (ps_fld (pv 0) (pv 8) rfl)
      (pss_one (ps_fld (pv 0) (pv 9) rfl)))))))))))))))))), ?_⟩
    walk_at "nk"
    have u_cl_Deal := T.cl_Deal; have u_na_Deal_is_alone := T.na_Deal_is_alone; have u_na_Deal_own_begin := T.na_Deal_own_begin; have u_na_Deal_own_end := T.na_Deal_own_end; have u_na_Deal_own_films := T.na_Deal_own_films; have u_na_Deal_own_house := T.na_Deal_own_house; have u_na_Deal_own_lands := T.na_Deal_own_lands; have u_na_Deal_own_name := T.na_Deal_own_name; have u_na_Deal_own_price := T.na_Deal_own_price; have u_na_Deal_own_ways := T.na_Deal_own_ways
    walk_at "go"
    refine ⟨_, rfl, G.name, fun H1 s1 => ?_⟩
    walk_at "go"
    refine ⟨_, rfl, G.house, fun H2 s2 => ?_⟩
    walk_at "go"
    intro p hp
    have s02 := Same.trans' s1 s2
    have s2p := same_new (o := .tup [V.ref pf, V.ref pl, V.ref pw]) hp
    walk_at "go"
    have AL : All2 (fun v (c : Addr × List Str × Nat) => v = V.ref c.1 ∧ H c.1 = some (.lst (c.2.1.map V.str)) ∧ Names c.2.1 c.2.2) [V.ref pf, V.ref pl, V.ref pw] [(pf, D.films, 4), (pl, D.lands, 4), (pw, D.ways, 3)] :=
      .cons ⟨rfl, h1, G.films⟩ (.cons ⟨rfl, h2, G.lands⟩ (.cons ⟨rfl, h3, G.ways⟩ .nil))
    refine forT AL (fun d σ H' => ∃ y, σ = [some (.ref a), some (.str D.name), some (.str D.house), some (.ref pf), some (.ref pl), some (.ref pw), some (.ref pb), some (.ref pe), some (.bl D.alone), some (.int D.price), y] ∧ Same (upd H2 p (.tup [V.ref pf, V.ref pl, V.ref pw])) H')
      ⟨_, rfl, Same.refl' _⟩ (fun d σ H' q => by obtain ⟨_, _, q⟩ := q; exact q _ _ upd_same) (fun d c r x σ H3 e ex q => ?_) (fun σ H3 q => ?_)
    · obtain ⟨y, rfl, s3⟩ := q
      obtain ⟨rfl, e1, e2⟩ := ex
      walk_at "go"
      refine ⟨_, _, _, rfl, s3 _ _ (s2p _ _ (s02 _ _ e1)), e2, fun H4 s4 => ?_⟩
      walk_at "go"
      exact ⟨_, rfl, Same.trans' s3 s4⟩
    · obtain ⟨y, rfl, s3⟩ := q
      have s03 := Same.trans' s02 (Same.trans' s2p s3)
      walk_at "go"
      refine ⟨_, _, _, _, _, _, rfl, s03 _ _ h4, s03 _ _ h5, G.bm, G.em, G.own, fun H4 s4 => ?_⟩
      have s04 := Same.trans' s03 s4
      have o4 := s04 _ _ o
      have f4 := s04 _ _ h1
      have l4 := s04 _ _ h2
      have w4 := s04 _ _ h3
      walk_at "go"
      refine ⟨_, rfl, G.price, ?_⟩
      walk_at "go"
      refine ⟨_, _, 4, _, rfl, f4, G.films.hi, ?_⟩
      walk_at "go"
      refine ⟨_, _, 4, _, rfl, l4, G.lands.hi, ?_⟩
      walk_at "go"
      refine ⟨_, _, 3, _, rfl, w4, G.ways.hi, ?_⟩
      have nfa : pf ≠ a := fun z => by rw [z, o4] at f4; cases f4
      have nla : pl ≠ a := fun z => by rw [z, o4] at l4; cases l4
      have nwa : pw ≠ a := fun z => by rw [z, o4] at w4; cases w4
      walk_at "go"
      generalize hE : upd _ a _ = H5
      have o5 : H5 a = some (.ins (cDeal K) dx [("own_name", .str D.name), ("own_house", .str D.house)]) := by rw [← hE]; walk_at "hp"
      have k5 : ∀ x o, x ≠ a → H4 x = some o → H5 x = some o := fun x o n e => by rw [← hE]; exact up_ne n (up_ne n e)
      clear hE
      have f5 := k5 _ _ nfa f4
      have l5 := k5 _ _ nla l4
      have w5 := k5 _ _ nwa w4
      refine go_sorted f5 (Nat.lt_of_le_of_lt G.films.hi (by decide)) fun fs p1 pm1 so1 hp1 => ?_
      walk_at "go"
      intro q1 hq1
      have nq1 : a ≠ q1 := fun z => by rw [← z] at hq1; obtain ⟨_, hq1⟩ := none_up hq1; rw [o5] at hq1; cases hq1
      walk_at "go"
      generalize hE : upd _ a _ = H6
      have o6 : H6 a = some (.ins (cDeal K) dx [("own_name", .str D.name), ("own_house", .str D.house), ("own_films", .ref q1)]) := by rw [← hE]; walk_at "hp"
      have k6 : ∀ x o, x ≠ a → H5 x = some o → H6 x = some o := fun x o n e => by rw [← hE]; exact up_ne n (up_old hq1 (up_old hp1 e))
      have r6 : H6 q1 = some (.tup (fs.map V.str)) := by rw [← hE]; exact up_ne nq1.symm upd_same
      clear hE
      have l6 := k6 _ _ nla l5
      have w6 := k6 _ _ nwa w5
      refine go_sorted l6 (Nat.lt_of_le_of_lt G.lands.hi (by decide)) fun ls p2 pm2 so2 hp2 => ?_
      walk_at "go"
      intro q2 hq2
      have nq2 : a ≠ q2 := fun z => by rw [← z] at hq2; obtain ⟨_, hq2⟩ := none_up hq2; rw [o6] at hq2; cases hq2
      walk_at "go"
      generalize hE : upd _ a _ = H7
      have o7 : H7 a = some (.ins (cDeal K) dx [("own_name", .str D.name), ("own_house", .str D.house), ("own_films", .ref q1), ("own_lands", .ref q2)]) := by rw [← hE]; walk_at "hp"
      have k7 : ∀ x o, x ≠ a → H6 x = some o → H7 x = some o := fun x o n e => by rw [← hE]; exact up_ne n (up_old hq2 (up_old hp2 e))
      have r7 : H7 q2 = some (.tup (ls.map V.str)) := by rw [← hE]; exact up_ne nq2.symm upd_same
      clear hE
      have w7 := k7 _ _ nwa w6
      refine go_sorted w7 (Nat.lt_of_le_of_lt G.ways.hi (by decide)) fun ws p3 pm3 so3 hp3 => ?_
      walk_at "go"
      intro q3 hq3
      have nq3 : a ≠ q3 := fun z => by rw [← z] at hq3; obtain ⟨_, hq3⟩ := none_up hq3; rw [o7] at hq3; cases hq3
      walk_at "go"
      generalize hE : upd _ a _ = H8
      have o8 : H8 a = some (.ins (cDeal K) dx [("own_name", .str D.name), ("own_house", .str D.house), ("own_films", .ref q1), ("own_lands", .ref q2), ("own_ways", .ref q3), ("own_begin", .ref pb), ("own_end", .ref pe), ("is_alone", .bl D.alone), ("own_price", .int D.price)]) := by rw [← hE]; walk_at "hp"
      have k8 : ∀ x o, x ≠ a → H7 x = some o → H8 x = some o := fun x o n e => by rw [← hE]; exact up_ne n (up_ne n (up_ne n (up_ne n (up_ne n (up_old hq3 (up_old hp3 e))))))
      have r8 : H8 q3 = some (.tup (ws.map V.str)) := by rw [← hE]; exact up_ne nq3.symm (up_ne nq3.symm (up_ne nq3.symm (up_ne nq3.symm (up_ne nq3.symm upd_same))))
      clear hE
      have k48 : ∀ x o, x ≠ a → H4 x = some o → H8 x = some o := fun x o n e => k8 _ _ n (k7 _ _ n (k6 _ _ n (k5 _ _ n e)))
      have nba : pb ≠ a := fun z => by rw [z, o] at h4; cases h4
      have nea : pe ≠ a := fun z => by rw [z, o] at h5; cases h5
      refine h _ fs ls ws pm1 so1 pm2 so2 pm3 so3 ⟨a, dx, q1, q2, q3, pb, pe, rfl, o8, k8 _ _ nq1.symm (k7 _ _ nq1.symm r6), k8 _ _ nq2.symm r7, r8, k48 _ _ nba (s04 _ _ h4), k48 _ _ nea (s04 _ _ h5)⟩ fun x o n e => k48 _ _ n (s04 _ _ e)
end
end Ld
namespace Ld
open PySem PySem.Spec PyProof.Rows L2
/-! ### books -/
def addC (cs : List Clause) (D : DealD) : List Clause := if D.bm ≠ D.em ∧ ¬ clauseD D ∈ cs then cs ++ [clauseD D] else cs
def allC (cs : List Clause) (ds : List DealD) : List Clause := ds.foldl addC cs
structure DealsOk (ms : List Str) (ds : List DealD) : Prop where
  ok : ∀ D ∈ ds, DealOk D
  nd : (ds.map (·.name)).Nodup
  mo : ∀ D ∈ ds, D.bm ∈ ms ++ [dayS] ∧ D.em ∈ ms ++ [dayS]
  len : ds.length ≤ 10
theorem addC_len (cs : List Clause) (D : DealD) : (addC cs D).length ≤ cs.length + 1 := by
  unfold addC
  split
  · simp
  · omega
theorem allC_snoc (cs : List Clause) (ds : List DealD) (D : DealD) : allC cs (ds ++ [D]) = addC (allC cs ds) D := by
  unfold allC
  rw [List.foldl_append]
  rfl
theorem allC_len (cs : List Clause) (ds : List DealD) : (allC cs ds).length ≤ cs.length + ds.length := by
  induction ds generalizing cs with
  | nil => exact Nat.le_refl _
  | cons D ds ih =>
    have h1 := ih (addC cs D)
    have h2 := addC_len cs D
    have h3 : allC cs (D :: ds) = allC (addC cs D) ds := rfl
    rw [h3, List.length_cons]
    omega
def NmV (K : PySem.W.Frag) (H : Hp) (p : Str × V) (D : DealD) : Prop := p.1 = D.name ∧ DealX K H p.2 D
structure BookX (K : PySem.W.Frag) (H : Hp) (b : Addr) (ms : List Str) (cs : List Clause) (ds : List DealD) : Prop where
  ex : ∃ dx cal dd cl kvs, H b = some (.ins (cBook K) dx [("own_calendar", .ref cal), ("own_deals", .ref dd), ("own_clauses", .ref cl)]) ∧ CalX K H cal ms cs ∧ H dd = some (.dK (dS kvs)) ∧ All2 (NmV K H) kvs ds ∧ LAt ClV H cl (allC cs ds)
theorem BookX.same {K : PySem.W.Frag} {H H' : Hp} {b : Addr} {ms : List Str} {cs : List Clause} {ds : List DealD} (B : BookX K H b ms cs ds) (s : Same H H') : BookX K H' b ms cs ds := by
  obtain ⟨dx, cal, dd, cl, kvs, o, C, e, al, L⟩ := B.ex
  exact ⟨dx, cal, dd, cl, kvs, s _ _ o, C.same s, s _ _ e, al.mono fun p D h => ⟨h.1, h.2.same s⟩, L.same ClV.pers s⟩
theorem perm_lift {α β : Type} (f : α → β) {ys zs : List β} (h : ys.Perm zs) : ∀ xs : List α, zs = xs.map f → ∃ ws : List α, ws.Perm xs ∧ ws.map f = ys := by
  induction h with
  | nil =>
    intro xs e
    cases xs with
    | nil => exact ⟨[], .nil, rfl⟩
    | cons _ _ => cases e
  | cons x _ ih =>
    intro xs e
    cases xs with
    | nil => cases e
    | cons a as =>
      rw [List.map_cons] at e
      injection e with e1 e2
      obtain ⟨ws, p, q⟩ := ih as e2
      exact ⟨a :: ws, p.cons a, by rw [List.map_cons, q, e1]⟩
  | swap x y l =>
    intro xs e
    match xs, e with
    | a :: b :: as, e =>
      simp only [List.map_cons, List.cons.injEq] at e
      obtain ⟨e1, e2, e3⟩ := e
      exact ⟨b :: a :: as, .swap a b as, by simp [e1, e2, e3]⟩
  | trans _ _ ih1 ih2 =>
    intro xs e
    obtain ⟨ws, p, q⟩ := ih2 xs e
    obtain ⟨us, p2, q2⟩ := ih1 ws q.symm
    exact ⟨us, p2.trans p, q2⟩
theorem valV_dS {kvs : List (Str × V)} (k : Str) : valV (dS kvs) (.inr k) = kvs.lookup k := by
  induction kvs with
  | nil => rfl
  | cons p kvs ih =>
    obtain ⟨j, v⟩ := p
    show valV ((Sum.inr j, v) :: dS kvs) (.inr k) = _
    by_cases h : j = k
    · subst h
      rw [valV_pos rfl, List.lookup_cons_self]
    · rw [valV_neg (fun z => h (Sum.inr.inj z)), ih, List.lookup_cons, beq_eq_false_iff_ne.mpr fun z => h z.symm]
theorem nm_lookup {K : PySem.W.Frag} {H : Hp} {kvs : List (Str × V)} {ds : List DealD} (al : All2 (NmV K H) kvs ds) (nd : (ds.map (·.name)).Nodup) {D : DealD} (hD : D ∈ ds) : ∃ v, kvs.lookup D.name = some v ∧ DealX K H v D := by
  induction al with
  | nil => cases hD
  | @cons p E ps es h t ih =>
    obtain ⟨j, v⟩ := p
    obtain ⟨h1, h2⟩ := h
    rw [List.map_cons, List.nodup_cons] at nd
    have h1 : j = E.name := h1
    cases hD with
    | head => exact ⟨v, by rw [h1, List.lookup_cons_self], h2⟩
    | tail _ hD =>
      obtain ⟨u, e, k⟩ := ih nd.2 hD
      refine ⟨u, ?_, k⟩
      rw [List.lookup_cons, beq_eq_false_iff_ne.mpr fun z => nd.1 ?_]
      · exact e
      · rw [← h1, ← z]; exact List.mem_map.mpr ⟨D, hD, rfl⟩
theorem nm_keys {K : PySem.W.Frag} {H : Hp} {kvs : List (Str × V)} {ds : List DealD} (al : All2 (NmV K H) kvs ds) : kvs.map (·.1) = ds.map (·.name) := by
  induction al with
  | nil => rfl
  | cons h _ ih => rw [List.map_cons, List.map_cons, ih, h.1]
def sp_has_moments (K : PySem.W.Frag) (mg : Str → Option Value) : Sp := fun vs H Q _ => ∃ (c : Addr) (v : V) (ms : List Str) (cs : List Clause) (D : DealD), vs = [.ref c, v] ∧ CalX K H c ms cs ∧ DealX K H v D ∧ DealOk D ∧ D.bm ∈ ms ++ [dayS] ∧ D.em ∈ ms ++ [dayS] ∧ ∀ H', Same H H' → Q (.bl true) H'
def sp_want_deals (K : PySem.W.Frag) (mg : Str → Option Value) : Sp := fun vs H Q _ => ∃ (c dl : Addr) (ms : List Str) (cs : List Clause) (ds : List DealD), vs = [.ref c, .ref dl] ∧ CalX K H c ms cs ∧ LAt (DealX K) H dl ds ∧ DealsOk ms ds ∧ ∀ H', Same H H' → Q .non H'
def sp_clauses_of (K : PySem.W.Frag) (mg : Str → Option Value) : Sp := fun vs H Q _ => ∃ (c dl : Addr) (ms : List Str) (cs : List Clause) (ds : List DealD), vs = [.ref c, .ref dl] ∧ CalX K H c ms cs ∧ Good ms cs ∧ LAt (DealX K) H dl ds ∧ DealsOk ms ds ∧ ∀ H' p, Same H H' → H p = none → LAt ClV H' p (allC cs ds) → Q (.ref p) H'
def sp_Book__init (K : PySem.W.Frag) (mg : Str → Option Value) : Sp := fun vs H Q _ => ∃ (b dx c dl : Addr) (ms : List Str) (cs : List Clause) (ds0 : List DealD), vs = [.ref b, .ref c, .ref dl] ∧ H b = some (.ins (cBook K) dx []) ∧ CalX K H c ms cs ∧ Good ms cs ∧ LAt (DealX K) H dl ds0 ∧ DealsOk ms ds0 ∧
  (∀ ds : List DealD, ds.Perm ds0 → Good ms (allC cs ds) ∧ NoRing ms (allC cs ds)) ∧ ∀ H' ds, ds.Perm ds0 → sortedS (ds.map (·.name)) = true → BookX K H' b ms cs ds → (∀ x o, x ≠ b → H x = some o → H' x = some o) → Q .non H'
def sp_Book_names (K : PySem.W.Frag) (mg : Str → Option Value) : Sp := fun vs H Q _ => ∃ (b : Addr) (ms : List Str) (cs : List Clause) (ds : List DealD), vs = [.ref b] ∧ BookX K H b ms cs ds ∧ ∀ p, H p = none → Q (.ref p) (upd H p (.lst (ds.map fun D => .str D.name)))
def sp_Book__contains (K : PySem.W.Frag) (mg : Str → Option Value) : Sp := fun vs H Q _ => ∃ (b : Addr) (ms : List Str) (cs : List Clause) (ds : List DealD) (D : DealD), vs = [.ref b, .str D.name] ∧ BookX K H b ms cs ds ∧ DealsOk ms ds ∧ D ∈ ds ∧ Q (.bl true) H
def sp_Book_want_name (K : PySem.W.Frag) (mg : Str → Option Value) : Sp := fun vs H Q _ => ∃ (b : Addr) (ms : List Str) (cs : List Clause) (ds : List DealD) (D : DealD), vs = [.ref b, .str D.name] ∧ BookX K H b ms cs ds ∧ DealsOk ms ds ∧ D ∈ ds ∧ Q .non H
def sp_Book__getitem (K : PySem.W.Frag) (mg : Str → Option Value) : Sp := fun vs H Q _ => ∃ (b : Addr) (ms : List Str) (cs : List Clause) (ds : List DealD) (D : DealD), vs = [.ref b, .str D.name] ∧ BookX K H b ms cs ds ∧ DealsOk ms ds ∧ D ∈ ds ∧ ∀ v, DealX K H v D → Q v H
def sp_Book_full (K : PySem.W.Frag) (mg : Str → Option Value) : Sp := fun vs H Q _ => ∃ (b : Addr) (ms : List Str) (cs : List Clause) (ds : List DealD), vs = [.ref b] ∧ BookX K H b ms cs ds ∧ Good ms (allC cs ds) ∧ ∀ H' p ms', ms'.Perm ms → Same H H' → CalX K H' p ms' (allC cs ds) → Q (.ref p) H'
def touchP : List DealD → List (DealD × DealD)
  | [] => []
  | D :: r => (r.filter fun E => touchD D E).map (fun E => (D, E)) ++ touchP r
def sp_Book_touching (K : PySem.W.Frag) (mg : Str → Option Value) : Sp := fun vs H Q _ => ∃ (b : Addr) (ms : List Str) (cs : List Clause) (ds : List DealD), vs = [.ref b] ∧ BookX K H b ms cs ds ∧ DealsOk ms ds ∧ ∀ H' p, Same H H' → H p = none → LAt PairV H' p ((touchP ds).map fun q => (q.1.name, q.2.name)) → Q (.ref p) H'
section
variable {P : Program} {w : World} {K : PySem.W.Frag} {mg : Str → Option Value} {base : Heap}
def s_has_moments : Stmt := top 55
abbrev N_has_moments : List Str := ["calendar", "deal", "known", "moment"]
theorem sc_has_moments : FnScope N_has_moments ["calendar", "deal"] (defScope s_has_moments) := C8.fnScope_by (by decide +kernel)
theorem ok_has_moments {f : Addr} {fd : FuncData} (T : Tx K mg) (F : DefAt K "has_moments" "has_moments" s_has_moments f fd) (hm : mg "has_moments" = some (.ref f)) (c_Calendar_moments : Cm P w K mg base 1 (cCalendar K) "moments" (sp_Calendar_moments K mg)) (c_Deal_moments : Cm P w K mg base 1 (cDeal K) "moments" (sp_Deal_moments K mg)) : Cf P w K mg base 2 "has_moments" (sp_has_moments K mg) := by
  refine cal_mk F hm sc_has_moments (fun vs H Q E => ?_) (fun _ _ _ _ _ _ us hl => match us, hl with | [_, _], _ => rfl) (fun cdv A outer s H vs Q E hr h => ?_)
  · walk_at "ln"
  · obtain ⟨c, v, ms, cs, D, rfl, C, X, G, h1, h2, h⟩ := h
    refine ⟨_, (pss_cons (ps_set (i := 2) sc_has_moments.nd rfl (Or.inr rfl) (pe_m0 c_Calendar_moments hr (by decide) (pv 0)))
      (pss_one (ps_ret (pe_callB (cr_all rfl) (by rfl) T.f_all (by decide +kernel) (pa_cons (pe_lc (own := [("moment", 3)]) rfl sc_has_moments.nd (pi_list (pe_m0 c_Deal_moments hr (by decide) (pv 1))) (blkOk_by (own := [("moment", 3)]) (N := N_has_moments) (sc := defScope s_has_moments) (by decide +kernel)) (fun _ _ _ _ _ => (pg_name (i := 3) sc_has_moments.nd rfl (Or.inl rfl))) (fun _ _ _ _ _ => pts_nil) (fun _ _ _ _ _ => (pe_cmpR (op_in_seqB (K := K)) (pv 3) (pv 2) (by rfl))) ) pa_nil))))), ?_⟩
    walk_at "nk"
    obtain ⟨dx, am, cl, oc, _⟩ := id C.ex
    obtain ⟨a, dxa, pf, pl, pw, pb, pe, rfl, o, _⟩ := id X
    walk_at "go"
    refine ⟨_, ms, cs, rfl, C, fun p hp => ?_⟩
    have s1 := same_new (o := .lst (ms.map V.str)) hp
    have o1 := s1 _ _ o
    walk_at "go"
    refine ⟨_, D, rfl, X.same s1, G, fun H2 q ss s2 hq eq hz hm => ?_⟩
    refine lcL eq (All2.raw V.str ss) (fun s => some true) (fun _ v b => v = .bl b) (fun _ _ _ _ _ h => h) (Nat.lt_of_le_of_lt hz (by decide)) (fun x s H' hs ex sm => ?_) (fun D1 H' ys hD sm eD al => ?_)
    · intro Qo Qn ho hn
      subst ex
      have e2 := sm _ _ (s2 _ _ (upd_same (H := H) (a := p) (o := .lst (ms.map V.str))))
      have hin : s ∈ ms := by
        obtain ⟨k1, k2⟩ := hm s hs
        have : s ∈ ms ++ [dayS] := by
          rcases k1 with rfl | rfl
          · exact h1
          · exact h2
        rcases List.mem_append.mp this with z | z
        · exact z
        · rw [List.mem_singleton] at z; exact (k2 z).elim
      walk_at "go"
      exact ho true _ _ rfl (Same.refl' _) (by rw [decide_eq_true hin])
    · have e := All2.eq_map al
      subst e
      walk_at "go"
      rw [show (List.filterMap (fun c => some true) ss).all id = true from by simp]
      exact h _ (Same.trans' s1 (Same.trans' s2 sm))
def s_want_deals : Stmt := top 56
abbrev N_want_deals : List Str := ["calendar", "deals", "names", "position", "deal"]
theorem sc_want_deals : FnScope N_want_deals ["calendar", "deals"] (defScope s_want_deals) := C8.fnScope_by (by decide +kernel)
theorem ok_want_deals {f : Addr} {fd : FuncData} (T : Tx K mg) (F : DefAt K "want_deals" "want_deals" s_want_deals f fd) (hm : mg "want_deals" = some (.ref f)) (c_is_list : Cf P w K mg base 1 "is_list" (sp_is_list K mg)) (c_has_moments : Cf P w K mg base 2 "has_moments" (sp_has_moments K mg)) (c_Deal_name : Prp P w K mg base 1 (cDeal K) "name" (sp_Deal_name K mg)) : Cf P w K mg base 3 "want_deals" (sp_want_deals K mg) := by
  refine cal_mk F hm sc_want_deals (fun vs H Q E => ?_) (fun _ _ _ _ _ _ us hl => match us, hl with | [_, _], _ => rfl) (fun cdv A outer s H vs Q E hr h => ?_)
  · walk_at "ln"
  · obtain ⟨c, dl, ms, cs, ds, rfl, C, L, G, h⟩ := h
    refine ⟨_, (pss_cons (ps_if (pt_not (pt_val (pe_f c_is_list hr (by decide) (by rfl) (pa_cons (pv 1) pa_nil)))) (pss_one ps_never) pss_nil)
      (pss_cons (ps_set (i := 2) sc_want_deals.nd rfl (Or.inl rfl) (pe_lst pa_nil))
      (pss_one (ps_for PassesOwn.never rfl (pi_enum (by rfl) T.f_enumerate (pa_cons (pv 1) pa_nil)) (pg_tup (n := 2) rfl (pgs_cons (pg_name (i := 3) sc_want_deals.nd rfl (Or.inl rfl)) (pgs_cons (pg_name (i := 4) sc_want_deals.nd rfl (Or.inl rfl)) pgs_nil))) (pss_cons (ps_if (PW.pt (pw_or (pt_not (pt_val (pe_callB (cr_isC T.is_Deal) (by rfl) T.f_isinstance (by decide +kernel) (pa_cons (pv 4) (pa_cons (C8.pe_gc (by rfl) T.g_Deal) pa_nil))))) (pw_or (pt_cmpR op_in_seq (pe_pr c_Deal_name hr (by decide) (pv 4) rfl) (pv 2) (by rfl)) (pw_or1 (pt_not (pt_val (pe_f c_has_moments hr (by decide) (by rfl) (pa_cons (pv 0) (pa_cons (pv 4) pa_nil))))))))) (pss_one ps_never) pss_nil)
      (pss_one (ps_expr (pe_bm PySem.F.plainAttrs_list PySem.F.slot_list_append PySem.F.type_list_append mt_append (pv 2) (pa_cons (pe_pr c_Deal_name hr (by decide) (pv 4) rfl) pa_nil))))))))), ?_⟩
    walk_at "nk"
    obtain ⟨xs, el, al⟩ := id L
    walk_at "go"
    refine ⟨_, _, rfl, el, fun H1 s1 => ?_⟩
    walk_at "go"
    intro l hl
    have nl : dl ≠ l := ne_of_none (s1 _ _ el) hl
    have hl0 := none_back s1 hl
    walk_at "go"
    refine forE al (fun d σ H' => (∃ x y, σ = [some (.ref c), some (.ref dl), some (.ref l), x, y]) ∧ Same H H' ∧ H' l = some (.lst (d.map fun D => .str D.name))) ⟨⟨_, _, rfl⟩, Same.trans' s1 (same_new hl), upd_same⟩ (fun d σ H' p => p.2.1 _ _ el) (fun d D r x σ H2 t e ex ei p hT => ?_) (fun σ H2 p => ?_)
    · obtain ⟨⟨x1, y1, rfl⟩, s2, l2⟩ := p
      have lz : d.length ≤ 10 := by have := G.len; rw [e] at this; simp at this; omega
      obtain ⟨a, dxa, pf, pl, pw, pb, pe, rfl, o, _⟩ := id ex
      have sT := same_new (o := .tup [.int (d.length : Nat), .ref a]) hT
      have s3 := Same.trans' s2 sT
      have o3 := s3 _ _ o
      have l3 := sT _ _ l2
      have nmem : ¬ D.name ∈ d.map (·.name) := by
        have := G.nd
        rw [e, List.map_append, List.nodup_append] at this
        exact fun z => this.2.2 _ z _ (by simp) rfl
      have l3' : upd H2 t (.tup [.int (d.length : Nat), .ref a]) l = some (.lst ((d.map (·.name)).map V.str)) := by rw [l3, List.map_map]; rfl
      have hD : D ∈ ds := by simp [e]
      walk_at "go"
      refine ⟨_, D, rfl, DealX.same ex s3, ?_⟩
      walk_at "go"
      refine ⟨_, _, ms, cs, D, rfl, C.same s3, DealX.same ex s3, G.ok D hD, (G.mo D hD).1, (G.mo D hD).2, fun H4 s4 => ?_⟩
      have o4 := s4 _ _ o3
      have l4 := s4 _ _ l3
      walk_at "go"
      refine ⟨_, D, rfl, (DealX.same ex s3).same s4, ?_⟩
      have nz : (d.map fun D => V.str D.name).length < sizeLine := by rw [List.length_map]; exact Nat.lt_of_le_of_lt lz (by decide)
      walk_at "go"
      refine ⟨⟨_, _, rfl⟩, fun x o e => up_ne (ne_of_none e hl0) (s4 _ _ (s3 _ _ e)), ?_⟩
      rw [upd_same, List.map_append]
      rfl
    · obtain ⟨⟨x1, y1, rfl⟩, s2, l2⟩ := p
      walk_at "go"
      exact h _ s2
def s_clauses_of : Stmt := top 57
abbrev N_clauses_of : List Str := ["calendar", "deals", "found", "deal", "clause"]
theorem sc_clauses_of : FnScope N_clauses_of ["calendar", "deals"] (defScope s_clauses_of) := C8.fnScope_by (by decide +kernel)
theorem ok_clauses_of {f : Addr} {fd : FuncData} (T : Tx K mg) (F : DefAt K "clauses_of" "clauses_of" s_clauses_of f fd) (hm : mg "clauses_of" = some (.ref f)) (c_Calendar_clauses : Cm P w K mg base 1 (cCalendar K) "clauses" (sp_Calendar_clauses K mg)) (c_Deal_own_clause : Cm P w K mg base 1 (cDeal K) "own_clause" (sp_Deal_own_clause K mg)) : Cf P w K mg base 2 "clauses_of" (sp_clauses_of K mg) := by
  refine cal_mk F hm sc_clauses_of (fun vs H Q E => ?_) (fun _ _ _ _ _ _ us hl => match us, hl with | [_, _], _ => rfl) (fun cdv A outer s H vs Q E hr h => ?_)
  · walk_at "ln"
  · obtain ⟨c, dl, ms, cs, ds, rfl, C, G0, L, G, h⟩ := h
    refine ⟨_, (pss_cons (ps_set (i := 2) sc_clauses_of.nd rfl (Or.inl rfl) (pe_m0 c_Calendar_clauses hr (by decide) (pv 0)))
      (pss_cons (ps_for PassesOwn.never rfl (pi_list (pv 1)) (pg_name (i := 3) sc_clauses_of.nd rfl (Or.inl rfl)) (pss_cons (ps_set (i := 4) sc_clauses_of.nd rfl (Or.inl rfl) (pe_m0 c_Deal_own_clause hr (by decide) (pv 3)))
      (pss_one (ps_if (PW.pt (pw_and (pt_cmpR op_notNo (pv 4) pe_non (nomark _)) (pw_and1 (pt_cmpR (op_notInD (hu65 hr)) (pv 4) (pv 2) (by rfl))))) (pss_one (ps_expr (pe_bm PySem.F.plainAttrs_list PySem.F.slot_list_append PySem.F.type_list_append mt_append (pv 2) (pa_cons (pv 4) pa_nil)))) pss_nil))))
      (pss_one (ps_ret (pv 2))))), ?_⟩
    walk_at "nk"
    obtain ⟨xs, el, al⟩ := id L
    obtain ⟨dx, am, cl, oc, _⟩ := id C.ex
    walk_at "go"
    refine ⟨_, ms, cs, rfl, C, fun l ys hl ay => ?_⟩
    have nl : dl ≠ l := ne_of_none el hl
    walk_at "go"
    refine forL al (fun d σ H' => (∃ x y, σ = [some (.ref c), some (.ref dl), some (.ref l), x, y]) ∧ Same H H' ∧ LAt ClV H' l (allC cs d)) ⟨⟨_, _, rfl⟩, same_new hl, ys, upd_same, ay.mono fun v c h => ClV.pers _ _ _ _ (SameN.of (same_new hl)) h⟩ (fun d σ H' p => p.2.1 _ _ el) (fun d D r x σ H2 e ex p => ?_) (fun σ H2 p => ?_)
    · obtain ⟨⟨x1, y1, rfl⟩, s2, zs, l2, az⟩ := p
      have hD : D ∈ ds := by simp [e]
      have X2 := DealX.same ex s2
      have okD := G.ok D hD
      obtain ⟨a, dxa, pf, pl, pw, pb, pe, rfl, o, _⟩ := id X2
      have lz : d.length ≤ 10 := by have := G.len; rw [e] at this; simp at this; omega
      have lc := allC_len cs d
      have lcs := G0.cz
      have lzs := az.len
      have nz : zs.length < sizeLine := szl (by omega)
      rw [allC_snoc]
      walk_at "go"
      refine ⟨_, D, rfl, X2, fun z => ?_, fun z p hp => ?_⟩
      · walk_at "go"
        rw [show addC (allC cs d) D = allC cs d from if_neg fun k => k.1 z]
        exact ⟨⟨_, _, rfl⟩, s2, zs, l2, az⟩
      · have sp := same_new (o := .tup [.str D.bm, .str D.em, .int (D.en - D.bn)]) hp
        have V : ClV (upd H2 p (.tup [.str D.bm, .str D.em, .int (D.en - D.bn)])) (.ref p) (clauseD D) := ⟨p, rfl, upd_same, okD.bm.ok, okD.em.ok⟩
        have L3 : LAt ClV (upd H2 p (.tup [.str D.bm, .str D.em, .int (D.en - D.bn)])) l (allC cs d) := LAt.same (S := ClV) ClV.pers ⟨zs, l2, az⟩ sp
        have l3 := sp _ _ l2
        walk_at "go"
        refine go_niD encCl V L3 ?_
        by_cases k : clauseD D ∈ allC cs d
        · walk_at "go"
          rw [show addC (allC cs d) D = allC cs d from if_neg fun k2 => k2.2 k]
          exact ⟨⟨_, _, rfl⟩, Same.trans' s2 sp, L3⟩
        · walk_at "go"
          rw [show addC (allC cs d) D = allC cs d ++ [clauseD D] from if_pos ⟨z, k⟩]
          refine ⟨⟨_, _, rfl⟩, fun x o e => up_ne (ne_of_none e hl) (sp _ _ (s2 _ _ e)), zs ++ [.ref p], upd_same, ?_⟩
          have pn := SameN.lst (ys := zs ++ [.ref p]) l3
          exact (az.mono fun v c h => ClV.pers _ _ _ _ pn (ClV.pers _ _ _ _ (SameN.of sp) h)).snoc (ClV.pers _ _ _ _ pn V)
    · obtain ⟨⟨x1, y1, rfl⟩, s2, L2⟩ := p
      walk_at "go"
      exact h _ _ s2 hl L2
def s_Book_names : Stmt := inClass (top 58) 2
abbrev N_Book_names : List Str := ["self"]
theorem sc_Book_names : FnScope N_Book_names ["self"] (defScope s_Book_names) := C8.fnScope_by (by decide +kernel)
theorem ok_Book_names {f : Addr} {fd : FuncData} (T : Tx K mg) (F : DefAt K "names" "Book.names" s_Book_names f fd) (me : Meth K (cBook K) "names" f) : Cm P w K mg base 1 (cBook K) "names" (sp_Book_names K mg) := by
  refine met_mk F T.cl_Book me sc_Book_names (fun vs H Q E => ?_) (fun _ _ _ _ _ _ us hl => match us, hl with | [_], _ => rfl) (fun cdv A outer s H vs Q E hr h => ?_)
  · walk_at "ln"
  · obtain ⟨b, ms, cs, ds, rfl, ⟨dx, cal, dd, cl, kvs, o, C, e, al, L⟩, h⟩ := h
    refine ⟨_, (pss_one (ps_ret (pe_callTy (cr_listDK rfl) (by rfl) T.f_list (by decide +kernel) (pa_cons (pe_fld (pv 0) rfl) pa_nil)))), ?_⟩
    walk_at "nk"
    have u_cl_Book := T.cl_Book; have u_na_Book_own_deals := T.na_Book_own_deals
    walk_at "go"
    rw [show (dS kvs).map (fun kv => kV kv.1) = ds.map fun D => V.str D.name from by
      have := congrArg (List.map V.str) (nm_keys al)
      rw [List.map_map, List.map_map] at this
      unfold dS
      rw [List.map_map]
      exact this]
    exact h
def s_Book__contains : Stmt := inClass (top 58) 15
abbrev N_Book__contains : List Str := ["self", "value"]
theorem sc_Book__contains : FnScope N_Book__contains ["self", "value"] (defScope s_Book__contains) := C8.fnScope_by (by decide +kernel)
theorem ok_Book__contains {f : Addr} {fd : FuncData} (T : Tx K mg) (F : DefAt K "__contains__" "Book.__contains__" s_Book__contains f fd) (me : Meth K (cBook K) "__contains__" f) : Cm P w K mg base 1 (cBook K) "__contains__" (sp_Book__contains K mg) := by
  refine met_mk F T.cl_Book me sc_Book__contains (fun vs H Q E => ?_) (fun _ _ _ _ _ _ us hl => match us, hl with | [_, _], _ => rfl) (fun cdv A outer s H vs Q E hr h => ?_)
  · walk_at "ln"
  · obtain ⟨b, ms, cs, ds, D, rfl, ⟨dx, cal, dd, cl, kvs, o, C, e, al, L⟩, G, hD, h⟩ := h
    refine ⟨_, (pss_one (ps_ret (pe_and (pe_callB call_isi (by rfl) T.f_isinstance (by decide +kernel) (pa_cons (pv 1) (pa_cons (pe_bltn (v := .ty "str") (by rfl) T.f_str (by decide +kernel) rfl) pa_nil))) (pe_one (pe_cmp (pc_din (hu_of hr) (pv 1) (pe_fld (pv 0) rfl))))))), ?_⟩
    walk_at "nk"
    have u_cl_Book := T.cl_Book; have u_na_Book_own_deals := T.na_Book_own_deals
    obtain ⟨v, lk, X⟩ := nm_lookup al G.nd hD
    have lk2 : valV (dS kvs) (.inr D.name) = some v := by rw [valV_dS, lk]
    walk_at "go"
    exact h
def s_Book_want_name : Stmt := inClass (top 58) 13
abbrev N_Book_want_name : List Str := ["self", "value"]
theorem sc_Book_want_name : FnScope N_Book_want_name ["self", "value"] (defScope s_Book_want_name) := C8.fnScope_by (by decide +kernel)
theorem ok_Book_want_name {f : Addr} {fd : FuncData} (T : Tx K mg) (F : DefAt K "want_name" "Book.want_name" s_Book_want_name f fd) (me : Meth K (cBook K) "want_name" f) (c_Book__contains : Cm P w K mg base 1 (cBook K) "__contains__" (sp_Book__contains K mg)) : Cm P w K mg base 2 (cBook K) "want_name" (sp_Book_want_name K mg) := by
  refine met_mk F T.cl_Book me sc_Book_want_name (fun vs H Q E => ?_) (fun _ _ _ _ _ _ us hl => match us, hl with | [_, _], _ => rfl) (fun cdv A outer s H vs Q E hr h => ?_)
  · walk_at "ln"
  · obtain ⟨b, ms, cs, ds, D, rfl, B, G, hD, h⟩ := h
    refine ⟨_, (pss_one (ps_if (pt_cmpR (op_ownNotIn c_Book__contains hr (by decide)) (pv 1) (pv 0) (by rfl)) (pss_one ps_never) pss_nil)), ?_⟩
    walk_at "nk"
    obtain ⟨dx, cal, dd, cl, kvs, o, _⟩ := id B.ex
    walk_at "go"
    refine ⟨_, _, _, _, D, rfl, B, G, hD, ?_⟩
    walk_at "go"
    exact h
def s_Book__getitem : Stmt := inClass (top 58) 17
abbrev N_Book__getitem : List Str := ["self", "name"]
theorem sc_Book__getitem : FnScope N_Book__getitem ["self", "name"] (defScope s_Book__getitem) := C8.fnScope_by (by decide +kernel)
theorem ok_Book__getitem {f : Addr} {fd : FuncData} (T : Tx K mg) (F : DefAt K "__getitem__" "Book.__getitem__" s_Book__getitem f fd) (me : Meth K (cBook K) "__getitem__" f) (c_Book_want_name : Cm P w K mg base 2 (cBook K) "want_name" (sp_Book_want_name K mg)) : Cm P w K mg base 3 (cBook K) "__getitem__" (sp_Book__getitem K mg) := by
  refine met_mk F T.cl_Book me sc_Book__getitem (fun vs H Q E => ?_) (fun _ _ _ _ _ _ us hl => match us, hl with | [_, _], _ => rfl) (fun cdv A outer s H vs Q E hr h => ?_)
  · walk_at "ln"
  · obtain ⟨b, ms, cs, ds, D, rfl, B, G, hD, h⟩ := h
    refine ⟨_, (pss_cons (ps_expr (pe_m c_Book_want_name hr (by decide) (pv 0) (pa_cons (pv 1) pa_nil)))
      (pss_one (ps_ret (pe_dget (hu_of hr) (pe_fld (pv 0) rfl) (pv 1) (fun _ _ => rfl))))), ?_⟩
    walk_at "nk"
    have u_cl_Book := T.cl_Book; have u_na_Book_own_deals := T.na_Book_own_deals
    obtain ⟨dx, cal, dd, cl, kvs, o, C, e, al, L⟩ := id B.ex
    obtain ⟨v, lk, X⟩ := nm_lookup al G.nd hD
    have lk2 : valV (dS kvs) (.inr D.name) = some v := by rw [valV_dS, lk]
    walk_at "go"
    refine ⟨_, _, _, _, D, rfl, B, G, hD, ?_⟩
    walk_at "go"
    exact h v X
def s_Book_full : Stmt := inClass (top 58) 4
abbrev N_Book_full : List Str := ["self"]
theorem sc_Book_full : FnScope N_Book_full ["self"] (defScope s_Book_full) := C8.fnScope_by (by decide +kernel)
theorem ok_Book_full {f : Addr} {fd : FuncData} (T : Tx K mg) (F : DefAt K "full" "Book.full" s_Book_full f fd) (me : Meth K (cBook K) "full" f) (c_Calendar__init : Cn P w K mg base 5 "Calendar" (cCalendar K) (sp_Calendar__init K mg)) (c_Calendar_moments : Cm P w K mg base 1 (cCalendar K) "moments" (sp_Calendar_moments K mg)) : Cm P w K mg base 7 (cBook K) "full" (sp_Book_full K mg) := by
  refine met_mk F T.cl_Book me sc_Book_full (fun vs H Q E => ?_) (fun _ _ _ _ _ _ us hl => match us, hl with | [_], _ => rfl) (fun cdv A outer s H vs Q E hr h => ?_)
  · walk_at "ln"
  · obtain ⟨b, ms, cs, ds, rfl, B, G, h⟩ := h
    refine ⟨_, (pss_one (ps_ret (pe_mk0 c_Calendar__init hr (by decide) (by rfl) (pa_cons (pe_m0 c_Calendar_moments hr (by decide) (pe_fld (pv 0) rfl)) (pa_cons (pe_fld (pv 0) rfl) pa_nil))))), ?_⟩
    walk_at "nk"
    have u_cl_Book := T.cl_Book; have u_na_Book_own_calendar := T.na_Book_own_calendar; have u_na_Book_own_clauses := T.na_Book_own_clauses
    obtain ⟨dx, cal, dd, cl, kvs, o, C, e, al, L⟩ := id B.ex
    obtain ⟨dxc, am, ccl, oc, _⟩ := id C.ex
    walk_at "go"
    refine ⟨_, ms, cs, rfl, C, fun p hp => ?_⟩
    have s1 := same_new (o := .lst (ms.map V.str)) hp
    have o1 := s1 _ _ o
    walk_at "go"
    intro y yd hy hyd nyd
    have sm : Same (upd H p (.lst (ms.map V.str))) (upd (upd (upd H p (.lst (ms.map V.str))) yd (.own y)) y (.ins (cCalendar K) yd [])) := Same.trans' (same_new hyd) (same_new (up_none nyd.symm hy))
    refine ⟨_, _, _, _, ms, _, rfl, upd_same, sm _ _ upd_same, (L.same ClV.pers s1).same ClV.pers sm, G, fun H6 ms' pm so C6 fr6 => ⟨rfl, ?_⟩⟩
    exact h _ _ ms' pm (fun x o e => fr6 _ _ (ne_of_none (s1 _ _ e) hy) (sm _ _ (s1 _ _ e))) C6
def s_Book_touching : Stmt := inClass (top 58) 8
abbrev N_Book_touching : List Str := ["self", "found", "position", "one", "others", "other"]
theorem sc_Book_touching : FnScope N_Book_touching ["self"] (defScope s_Book_touching) := C8.fnScope_by (by decide +kernel)
theorem ok_Book_touching {f : Addr} {fd : FuncData} (T : Tx K mg) (F : DefAt K "touching" "Book.touching" s_Book_touching f fd) (me : Meth K (cBook K) "touching" f) (c_Book_names : Cm P w K mg base 1 (cBook K) "names" (sp_Book_names K mg)) (c_Deal_touches : Cm P w K mg base 3 (cDeal K) "touches" (sp_Deal_touches K mg)) : Cm P w K mg base 4 (cBook K) "touching" (sp_Book_touching K mg) := by
  refine met_mk F T.cl_Book me sc_Book_touching (fun vs H Q E => ?_) (fun _ _ _ _ _ _ us hl => match us, hl with | [_], _ => rfl) (fun cdv A outer s H vs Q E hr h => ?_)
  · walk_at "ln"
  · obtain ⟨b, ms, cs, ds, rfl, B, G, h⟩ := h
    refine ⟨_, (pss_cons (ps_set (i := 1) sc_Book_touching.nd rfl (Or.inl rfl) (pe_lst pa_nil))
      (pss_cons (ps_for PassesOwn.never rfl (pi_enum (by rfl) T.f_enumerate (pa_cons (pe_m0 c_Book_names hr (by decide) (pv 0)) pa_nil)) (pg_tup (n := 2) rfl (pgs_cons (pg_name (i := 2) sc_Book_touching.nd rfl (Or.inl rfl)) (pgs_cons (pg_name (i := 3) sc_Book_touching.nd rfl (Or.inr rfl)) pgs_nil))) (pss_cons (ps_set (i := 4) sc_Book_touching.nd rfl (Or.inl rfl) (pe_slice sl_list (pe_m0 c_Book_names hr (by decide) (pv 0)) (po_some (pe_op op_add (pv 2) pe_int)) po_none))
      (pss_one (ps_expr (pe_bm PySem.F.plainAttrs_list PySem.F.slot_list_extend PySem.F.type_list_extend mt_extend (pv 1) (pa_cons (pe_lc (own := [("other", 5)]) rfl sc_Book_touching.nd (pi_list (pv 4)) (blkOk_by (own := [("other", 5)]) (N := N_Book_touching) (sc := defScope s_Book_touching) (by decide +kernel)) (fun _ _ _ _ _ => (pg_name (i := 5) sc_Book_touching.nd rfl (Or.inl rfl))) (fun _ _ _ _ _ => (pts_one (pt_val (pe_m c_Deal_touches hr (by decide) (pe_dget (hu_of hr) (pe_fldB (K := K) (pv 0) rfl) (pv 3) (fun _ _ => rfl)) (pa_cons (pe_dget (hu_of hr) (pe_fldB (K := K) (pv 0) rfl) (pv 5) (fun _ _ => rfl)) pa_nil))))) (fun _ _ _ _ _ => (pe_tup (pa_cons (pv 3) (pa_cons (pv 5) pa_nil)))) ) pa_nil))))))
      (pss_one (ps_ret (pv 1))))), ?_⟩
    walk_at "nk"
    have u_cl_Book := T.cl_Book; have u_na_Book_own_deals := T.na_Book_own_deals
    obtain ⟨dx, cal, dd, cl, kvs, o, C, e, al, L⟩ := id B.ex
    walk_at "go"
    intro l hl
    have sl := same_new (o := .lst []) hl
    have ol := sl _ _ o
    walk_at "go"
    refine ⟨_, ms, cs, ds, rfl, B.same sl, fun p hp => ?_⟩
    have sp := same_new (o := .lst (ds.map fun D => .str D.name)) hp
    walk_at "go"
    have R0 : All2 (fun v (D : DealD) => v = V.str D.name) (ds.map fun D => .str D.name) ds := All2.of_map (R := fun v (D : DealD) => v = V.str D.name) (f := fun D => V.str D.name) (fun _ => rfl) ds
    have hlp := none_up hp
    refine forE R0 (fun d σ H' => (∃ x y z, σ = [some (.ref b), some (.ref l), x, y, z, none]) ∧ Same H H' ∧ H' p = some (.lst (ds.map fun D => .str D.name)) ∧ ∃ acc : List Pair, LAt PairV H' l acc ∧ acc.length ≤ 10 * d.length ∧ ∀ r, ds = d ++ r → acc ++ (touchP r).map (fun q => (q.1.name, q.2.name)) = (touchP ds).map fun q => (q.1.name, q.2.name))
      ⟨⟨_, _, _, rfl⟩, Same.trans' sl sp, upd_same, [], ⟨[], up_old hp upd_same, .nil⟩, Nat.zero_le _, fun r e => by rw [e]; rfl⟩ (fun d σ H' q => q.2.2.1) (fun d D r x σ H2 t e ex ei q hT => ?_) (fun σ H2 q => ?_)
    · obtain ⟨⟨x1, y1, z1, rfl⟩, s2, p2, acc, ⟨ws, l2, aw⟩, hz, hacc⟩ := q
      subst ex
      have hD : D ∈ ds := by simp [e]
      have sT := same_new (o := .tup [.int (d.length : Nat), V.str D.name]) hT
      have s3 := Same.trans' s2 sT
      have o3 := s3 _ _ o
      walk_at "go"
      refine ⟨_, ms, cs, ds, rfl, B.same s3, fun p5 hp5 => ?_⟩
      walk_at "go"
      intro p6 hp6
      rw [cutV_drop1]
      have er : (ds.map fun D => V.str D.name).drop (d.length + 1) = r.map fun D => V.str D.name := by
        rw [← List.map_drop, e]
        congr 1
        rw [show d ++ D :: r = (d ++ [D]) ++ r by simp]
        exact List.drop_left' (by simp)
      rw [er]
      have s6 := Same.trans' s3 (Same.trans' (same_new (o := .lst (ds.map fun D => V.str D.name)) hp5) (same_new (o := .lst (r.map fun D => V.str D.name)) hp6))
      have l6 : upd (upd (upd H2 t (.tup [.int (d.length : Nat), V.str D.name])) p5 (.lst (ds.map fun D => V.str D.name))) p6 (.lst (r.map fun D => V.str D.name)) l = some (.lst ws) := up_old hp6 (up_old hp5 (sT _ _ l2))
      have pp6 : upd (upd (upd H2 t (.tup [.int (d.length : Nat), V.str D.name])) p5 (.lst (ds.map fun D => V.str D.name))) p6 (.lst (r.map fun D => V.str D.name)) p = some (.lst (ds.map fun D => .str D.name)) := up_old hp6 (up_old hp5 (sT _ _ p2))
      have aw6 : All2 (PairV (upd (upd (upd H2 t (.tup [.int (d.length : Nat), V.str D.name])) p5 (.lst (ds.map fun D => V.str D.name))) p6 (.lst (r.map fun D => V.str D.name)))) ws acc := aw.mono fun v c h => PairV.pers _ _ _ _ (SameN.of (Same.trans' sT (Same.trans' (same_new hp5) (same_new hp6)))) h
      have e6 : upd (upd (upd H2 t (.tup [.int (d.length : Nat), V.str D.name])) p5 (.lst (ds.map fun D => V.str D.name))) p6 (.lst (r.map fun D => V.str D.name)) p6 = some (.lst (r.map fun D => V.str D.name)) := upd_same
      generalize upd (upd (upd H2 t (.tup [.int (d.length : Nat), V.str D.name])) p5 (.lst (ds.map fun D => V.str D.name))) p6 (.lst (r.map fun D => V.str D.name)) = H6 at s6 l6 pp6 aw6 e6 ⊢
      walk_at "go"
      obtain ⟨v, lk, X⟩ := nm_lookup al G.nd hD
      have lk2 : valV (dS kvs) (.inr D.name) = some v := by rw [valV_dS, lk]
      have okD := G.ok D hD
      have lr : r.length ≤ 10 := by have := G.len; rw [e] at this; simp at this; omega
      have ld : d.length < 10 := by have := G.len; rw [e] at this; simp at this; omega
      refine lcL e6 (All2.of_map (R := fun v (D : DealD) => v = V.str D.name) (fun _ => rfl) r) (fun E => if touchD D E then some (D.name, E.name) else none) PairV PairV.pers (Nat.lt_of_le_of_lt lr (by decide)) (fun x E H' hE ex sm => ?_) (fun D1 H7 ys hD1 sm eD al7 => ?_)
      · intro Qo Qn ho hn
        subst ex
        have hEd : E ∈ ds := by rw [e]; simp [hE]
        obtain ⟨u, lku, Xu⟩ := nm_lookup al G.nd hEd
        have lku2 : valV (dS kvs) (.inr E.name) = some u := by rw [valV_dS, lku]
        have okE := G.ok E hEd
        have s7 := Same.trans' s6 sm
        have o7 := s7 _ _ o
        have e7' := s7 _ _ ‹H dd = some (.dK (dS kvs))›
        have X7 := X.same s7
        have Xu7 := Xu.same s7
        obtain ⟨a, dxa, pf, pl, pw, pb, pe, rfl, oa, _⟩ := id X7
        walk_at "go"
        refine ⟨_, _, D, E, rfl, X7, Xu7, okD, okE, fun H8 s8 => ?_⟩
        cases ht : touchD D E with
        | true =>
          walk_at "go"
          intro p9 hp9
          exact ho _ _ _ (if_pos ht) (Same.trans' s8 (same_new hp9)) ⟨p9, rfl, upd_same, okD.name.ok, okE.name.ok⟩
        | false =>
          walk_at "go"
          exact hn (by rw [ht]; rfl) _ s8
      · have l7 := sm _ _ l6
        have lw := aw.len
        have ly := al7.len
        have lf : (r.filterMap fun E => if touchD D E then some (D.name, E.name) else none).length ≤ 10 := Nat.le_trans (List.length_filterMap_le _ _) lr
        have nz : ws.length + ys.length ≤ sizeLine := sz (by omega)
        walk_at "go"
        have pn := SameN.lst (ys := ws ++ ys) l7
        have npl : p ≠ l := hlp.1
        refine ⟨⟨_, _, _, rfl⟩, fun x o e => up_ne (ne_of_none e hl) (sm _ _ (s6 _ _ e)), up_ne npl (sm _ _ pp6), acc ++ (r.filterMap fun E => if touchD D E then some (D.name, E.name) else none), ⟨ws ++ ys, upd_same, ?_⟩, by simp; omega, fun r2 e2 => ?_⟩
        · exact (aw6.mono fun v c h => PairV.pers _ _ _ _ pn (PairV.pers _ _ _ _ (SameN.of sm) h)).append (al7.mono fun v c h => PairV.pers _ _ _ _ pn h)
        · have er2 : r2 = r := by
            rw [e] at e2
            have : d ++ D :: r = d ++ D :: r2 := by rw [e2]; simp
            have := List.append_cancel_left this
            injection this with _ this
            exact this.symm
          subst er2
          rw [← hacc _ e]
          show _ = acc ++ ((r2.filter fun E => touchD D E).map (fun E => (D, E)) ++ touchP r2).map _
          rw [List.map_append, List.map_map, ← List.append_assoc]
          congr 2
          rw [← List.filterMap_eq_filter, List.map_filterMap]
          congr 1
          funext E
          cases ht : touchD D E <;> simp [Option.guard, ht]
    · obtain ⟨⟨x1, y1, z1, rfl⟩, s2, p2, acc, LA, hz, hacc⟩ := q
      walk_at "go"
      have := hacc [] (by simp)
      simp only [touchP, List.map_nil, List.append_nil] at this
      rw [← this] at h
      exact h _ _ s2 hl LA
end
end Ld
namespace Ld
open PySem PySem.Spec PyProof.Rows L2
theorem zip_al {K : PySem.W.Frag} {H : Hp} {xs : List V} {ds : List DealD} (al : All2 (DealX K H) xs ds) : All2 (fun v (c : V × DealD) => v = c.1 ∧ DealX K H v c.2) xs (xs.zip ds) := by
  induction al with
  | nil => exact .nil
  | cons h _ ih => exact .cons ⟨rfl, h⟩ ih
theorem zip_nm {K : PySem.W.Frag} {H : Hp} {xs : List V} {ds : List DealD} (al : All2 (DealX K H) xs ds) : All2 (NmV K H) ((xs.zip ds).filterMap fun c => some (c.2.name, c.1)) ds := by
  induction al with
  | nil => exact .nil
  | cons h _ ih => exact .cons ⟨rfl, h⟩ ih
theorem zip_keys {xs : List V} {ds : List DealD} (h : xs.length = ds.length) : ((xs.zip ds).map fun c => c.2.name) = ds.map (·.name) := by
  induction xs generalizing ds with
  | nil => cases ds with
    | nil => rfl
    | cons _ _ => cases h
  | cons x xs ih => cases ds with
    | nil => cases h
    | cons D ds =>
      rw [List.zip_cons_cons, List.map_cons, List.map_cons, ih (by simpa using h)]
theorem DealsOk.perm {ms : List Str} {ds es : List DealD} (G : DealsOk ms es) (p : ds.Perm es) : DealsOk ms ds :=
  ⟨fun D h => G.ok D (p.mem_iff.mp h), (p.map _).nodup_iff.mpr G.nd, fun D h => G.mo D (p.mem_iff.mp h), by rw [p.length_eq]; exact G.len⟩
theorem nm_vals {K : PySem.W.Frag} {H : Hp} {kvs : List (Str × V)} {ds : List DealD} (al : All2 (NmV K H) kvs ds) : All2 (DealX K H) ((dS kvs).map (·.2)) ds := by
  induction al with
  | nil => exact .nil
  | cons h _ ih => exact .cons h.2 ih
section
variable {P : Program} {w : World} {K : PySem.W.Frag} {mg : Str → Option Value} {base : Heap}
def s_Book__init : Stmt := inClass (top 58) 0
abbrev N_Book__init : List Str := ["self", "calendar", "deals", "found", "deal", "name"]
theorem sc_Book__init : FnScope N_Book__init ["self", "calendar", "deals"] (defScope s_Book__init) := C8.fnScope_by (by decide +kernel)
theorem ok_Book__init {f : Addr} {fd : FuncData} (T : Tx K mg) (F : DefAt K "__init__" "Book.__init__" s_Book__init f fd) (M : Mk K (cBook K) f) (hm : mg "Book" = some (.ref (cBook K))) (c_want_deals : Cf P w K mg base 3 "want_deals" (sp_want_deals K mg)) (c_Deal_name : Prp P w K mg base 1 (cDeal K) "name" (sp_Deal_name K mg)) (c_clauses_of : Cf P w K mg base 2 "clauses_of" (sp_clauses_of K mg)) (c_some_dates : Cf P w K mg base 4 "some_dates" (sp_some_dates K mg)) (c_Calendar_moments : Cm P w K mg base 1 (cCalendar K) "moments" (sp_Calendar_moments K mg)) : Cn P w K mg base 5 "Book" (cBook K) (sp_Book__init K mg) := by
  refine mak_mk F M hm sc_Book__init (fun vs H Q E => ?_) (fun _ _ _ _ _ _ us hl => match us, hl with | [_, _, _], _ => rfl) (fun cdv A outer s H vs Q E hr h => ?_)
  · walk_at "ln"
  · obtain ⟨b, dx, c, dl, ms, cs, ds0, rfl, o, C, G0, L, G, ha, h⟩ := h
    refine ⟨_, (pss_cons (ps_if (pt_not (pt_val (pe_callB (cr_isC T.is_Calendar) (by rfl) T.f_isinstance (by decide +kernel) (pa_cons (pv 1) (pa_cons (C8.pe_gc (by rfl) T.g_Calendar) pa_nil))))) (pss_one ps_never) pss_nil)
      (pss_cons (ps_expr (pe_f c_want_deals hr (by decide) (by rfl) (pa_cons (pv 1) (pa_cons (pv 2) pa_nil))))
      (pss_cons (ps_set (i := 3) sc_Book__init.nd rfl (Or.inr rfl) (pe_dc (own := [("deal", 4)]) rfl sc_Book__init.nd (pi_list (pv 2)) (blkOk_by (own := [("deal", 4)]) (N := N_Book__init) (sc := defScope s_Book__init) (by decide +kernel)) (fun _ _ _ _ _ => (pg_name (i := 4) sc_Book__init.nd rfl (Or.inl rfl))) (fun _ _ _ _ _ => pts_nil) (fun _ _ _ _ _ => (pe_pr c_Deal_name hr (by decide) (pv 4) rfl)) (fun _ _ _ _ _ => (pv 4))))
      (pss_cons (ps_fld (pv 0) (pv 1) rfl)
      (pss_cons (ps_fld (pv 0) (pe_dc (own := [("name", 5)]) rfl sc_Book__init.nd (pi_list (pe_callB (cr_sortedDK rfl) (by rfl) T.f_sorted (by decide +kernel) (pa_cons (pv 3) pa_nil))) (blkOk_by (own := [("name", 5)]) (N := N_Book__init) (sc := defScope s_Book__init) (by decide +kernel)) (fun _ _ _ _ _ => (pg_name (i := 5) sc_Book__init.nd rfl (Or.inl rfl))) (fun _ _ _ _ _ => pts_nil) (fun _ _ _ _ _ => (pv 5)) (fun _ _ _ _ _ => (pe_dget (hu_of hr) (pv 3) (pv 5) (fun _ _ => rfl)))) rfl)
      (pss_cons (ps_fld (pv 0) (pe_f c_clauses_of hr (by decide) (by rfl) (pa_cons (pv 1) (pa_cons (pe_listVals rfl (pe_fld (pv 0) rfl) (by rfl) T.f_list (by decide +kernel)) pa_nil))) rfl)
      (pss_cons (ps_if (pt_cmpR op_isNo (pe_f c_some_dates hr (by decide) (by rfl) (pa_cons (pe_m0 c_Calendar_moments hr (by decide) (pv 1)) (pa_cons (pe_fld (pv 0) rfl) pa_nil))) pe_non (nomark _)) (pss_one ps_never) pss_nil)
      (pss_cons (ps_if (pt_cmpR op_gt (pe_callB cr_lenD (by rfl) T.f_len (by decide +kernel) (pa_cons (pv 3) pa_nil)) (C8.pe_gc (by rfl) T.g_MOST_DEALS) (nomark _)) (pss_one ps_never) pss_nil)
      (pss_one (ps_if (pt_cmpR op_gt (pe_callB cr_len (by rfl) T.f_len (by decide +kernel) (pa_cons (pe_fld (pv 0) rfl) pa_nil)) (pe_clsCon T.kc_Calendar_MOST_CLAUSES T.g_Calendar (by rfl)) (nomark _)) (pss_one ps_never) pss_nil)))))))))), ?_⟩
    walk_at "nk"
    have u_cl_Book := T.cl_Book; have u_na_Book_own_calendar := T.na_Book_own_calendar; have u_na_Book_own_clauses := T.na_Book_own_clauses; have u_na_Book_own_deals := T.na_Book_own_deals
    obtain ⟨cx, am, cl, oc, em, LC⟩ := id C.ex
    have ncb : c ≠ b := fun z => by
      rw [z, o] at oc
      have := Option.some.inj oc
      injection this with _ _ h3
      cases h3
    walk_at "go"
    refine ⟨_, _, ms, cs, ds0, rfl, C, L, G, fun H1 s1 => ?_⟩
    obtain ⟨xs, el, al⟩ := L.same (DealX.pers K) s1
    have lz := al.len
    have dl10 := G.len
    walk_at "go"
    refine dcL el (zip_al al) (fun c => some (c.2.name, c.1)) ?_ ?_ (fun x q H' hq ex sm => ?_) (fun f H2 hf s2 ef => ?_)
    · rw [List.length_zip]; exact szl (by omega)
    · refine nodup_out (key := fun c => c.2.name) (fun c p e => by cases e; rfl) ?_
      rw [zip_keys lz]
      exact G.nd
    · intro Qo Qn ho hn
      obtain ⟨rfl, X⟩ := ex
      obtain ⟨a, dxa, pf, pl, pw, pb, pe, e1, oa, _⟩ := id (X.same sm)
      rw [e1]
      walk_at "go"
      rw [← e1]
      refine ⟨_, q.2, rfl, X.same sm, ?_⟩
      walk_at "go"
      exact ho _ _ _ rfl (Same.refl' _)
    · have al2 : All2 (NmV K H2) ((xs.zip ds0).filterMap fun c => some (c.2.name, c.1)) ds0 := (zip_nm al).mono fun p D h => ⟨h.1, h.2.same s2⟩
      generalize ((xs.zip ds0).filterMap fun c => some (c.2.name, c.1)) = kvs at ef al2
      have s02 := Same.trans' s1 s2
      have o2 := s02 _ _ o
      have nfb : f ≠ b := fun z => by rw [z, o2] at ef; cases ef
      walk_at "go"
      generalize hE : upd H2 b _ = H3
      have o3 : H3 b = some (.ins (cBook K) dx [("own_calendar", .ref c)]) := by rw [← hE]; exact upd_same
      have k3 : ∀ x o, x ≠ b → H2 x = some o → H3 x = some o := fun x o n e => by rw [← hE]; exact up_ne n e
      clear hE
      have al3 : All2 (NmV K H3) kvs ds0 := al2.mono fun p D h => ⟨h.1, h.2.off o2 (by decide) k3⟩
      have C3 : CalX K H3 c ms cs := (C.same s02).off o2 ncb k3
      have f3 := k3 _ _ nfb ef
      refine go_sortedDK f3 (ks := ds0.map (·.name)) (by rw [← nm_keys al2]; unfold dS; rw [List.map_map, List.map_map]; rfl) (by rw [List.length_map]; omega) (fun ys p pm so hp => ?_)
      obtain ⟨ds, pd, eys⟩ := perm_lift (·.name) pm ds0 rfl
      subst eys
      have Gd := G.perm pd
      obtain ⟨Ga, nr⟩ := ha ds pd
      refine dcL (cs := ds) (R := fun v D => v = V.str D.name) upd_same (by rw [List.map_map]; exact All2.of_map (R := fun v (D : DealD) => v = V.str D.name) (f := fun D => V.str D.name) (fun _ => rfl) ds) (fun D => some (D.name, (kvs.lookup D.name).getD .non)) (szl (by have := Gd.len; omega)) (nodup_out (key := fun D => D.name) (fun c p e => by cases e; rfl) Gd.nd) (fun x D H' hD ex sm => ?_) (fun e H4 he s4 ee => ?_)
      · intro Qo Qn ho hn
        subst ex
        obtain ⟨v, lk, X⟩ := nm_lookup al3 G.nd (pd.mem_iff.mp hD)
        have lk2 : valV (dS kvs) (.inr D.name) = some v := by rw [valV_dS, lk]
        have f4 := sm _ _ (up_old hp f3)
        walk_at "go"
        exact ho _ _ _ (by rw [lk]; rfl) (Same.refl' _)
      · have sp := same_new (o := .lst ((ds.map (·.name)).map V.str)) hp
        have s34 := Same.trans' sp s4
        have o4 := s34 _ _ o3
        have neb : e ≠ b := fun z => by rw [z, o4] at ee; cases ee
        have al4 : All2 (NmV K H4) (ds.filterMap fun D => some (D.name, (kvs.lookup D.name).getD .non)) ds := by
          have hm : ∀ D ∈ ds, D ∈ ds0 := fun D h => pd.mem_iff.mp h
          have key : ∀ es : List DealD, (∀ D ∈ es, D ∈ ds0) → All2 (NmV K H4) (es.filterMap fun D => some (D.name, (kvs.lookup D.name).getD .non)) es := by
            intro es
            induction es with
            | nil => intro _; exact .nil
            | cons D es ih =>
              intro hm
              obtain ⟨v, lk, X⟩ := nm_lookup al3 G.nd (hm D List.mem_cons_self)
              refine .cons ⟨rfl, ?_⟩ (ih fun E h => hm E (List.mem_cons_of_mem _ h))
              show DealX K H4 ((kvs.lookup D.name).getD .non) D
              rw [lk]
              exact X.same s34
          exact key ds hm
        generalize (ds.filterMap fun D => some (D.name, (kvs.lookup D.name).getD .non)) = kvt at ee al4
        have C4 := C3.same s34
        have f4 := s34 _ _ f3
        walk_at "go"
        generalize hE : upd H4 b _ = H5
        have o5 : H5 b = some (.ins (cBook K) dx [("own_calendar", .ref c), ("own_deals", .ref e)]) := by rw [← hE]; exact upd_same
        have k5 : ∀ x o, x ≠ b → H4 x = some o → H5 x = some o := fun x o n e => by rw [← hE]; exact up_ne n e
        clear hE
        have e5 := k5 _ _ neb ee
        have f5 := k5 _ _ nfb f4
        have C5 := C4.off o4 ncb k5
        have al5 : All2 (NmV K H5) kvt ds := al4.mono fun p D h => ⟨h.1, h.2.off o4 (by simp) k5⟩
        walk_at "go"
        intro q hq
        have sq := same_new (o := .lst ((dS kvt).map (·.2))) hq
        walk_at "go"
        refine ⟨_, _, ms, cs, ds, rfl, C5.same sq, G0, ⟨_, upd_same, (nm_vals al5).mono fun v D h => h.same sq⟩, Gd, fun H6 r s6 hr L6 => ?_⟩
        have s56 := Same.trans' sq s6
        have o6 := s56 _ _ o5
        have C6 := C5.same s56
        have nrb : r ≠ b := fun z => by rw [z, sq _ _ o5] at hr; cases hr
        have f6 := s56 _ _ f5
        walk_at "go"
        generalize hE : upd H6 b _ = H7
        have o7 : H7 b = some (.ins (cBook K) dx [("own_calendar", .ref c), ("own_deals", .ref e), ("own_clauses", .ref r)]) := by rw [← hE]; exact upd_same
        have k7 : ∀ x o, x ≠ b → H6 x = some o → H7 x = some o := fun x o n e => by rw [← hE]; exact up_ne n e
        clear hE
        have C7 := C6.off o6 ncb k7
        have L7 := L6.off o6 k7
        have e7 := k7 _ _ neb (s56 _ _ e5)
        have f7 := k7 _ _ nfb f6
        have al7 : All2 (NmV K H7) kvt ds := al5.mono fun p D h => ⟨h.1, (h.2.same s56).off o6 (by simp) k7⟩
        obtain ⟨cx7, am7, cl7, oc7, em7, _⟩ := id C7.ex
        obtain ⟨ys7, er7, ay7⟩ := id L7
        walk_at "go"
        refine ⟨_, ms, cs, rfl, C7, fun t ht => ?_⟩
        have st := same_new (o := .lst (ms.map V.str)) ht
        have o8 := st _ _ o7
        walk_at "go"
        refine ⟨_, _, ms, _, rfl, upd_same, L7.same ClV.pers st, Ga, nr, fun H8 t2 s8 => ?_⟩
        have s78 := Same.trans' st s8
        have o9 := s78 _ _ o7
        have f9 := s78 _ _ f7
        have er9 := s78 _ _ er7
        have lk2 : (dS kvs).length ≤ 10 := by
          have := al2.len
          unfold dS
          rw [List.length_map]
          omega
        have ly : ys7.length ≤ 40 := by rw [ay7.len]; exact Ga.cz
        walk_at "go"
        refine h _ ds pd so ⟨dx, c, e, r, kvt, o9, C7.same s78, s78 _ _ e7, al7.mono fun p D h => ⟨h.1, h.2.same s78⟩, L7.same ClV.pers s78⟩ fun x o n e => s78 _ _ (k7 _ _ n (s56 _ _ (k5 _ _ n (s34 _ _ (k3 _ _ n (s02 _ _ e))))))
end
end Ld
namespace Ld
open PySem PySem.Spec PyProof.Rows L2
/-! ### pairs -/
structure Fin (ms : List Str) (cs : List Clause) (B : Str → Str → Int) : Prop where
  good : Good ms cs
  nr : NoRing ms cs
  bd : ∀ x ∈ ms ++ [dayS], ∀ y ∈ ms ++ [dayS], ∃ n gf, Settles cs n (one0 x) gf ∧ gf y = some (B x y)
theorem Fin.perm {ms ms' : List Str} {cs : List Clause} {B : Str → Str → Int} (F : Fin ms cs B) (p : ms'.Perm ms) : Fin ms' cs B := by
  have mm : ∀ s, s ∈ ms' ++ [dayS] ↔ s ∈ ms ++ [dayS] := fun s => by rw [List.mem_append, List.mem_append, p.mem_iff]
  refine ⟨⟨fun s h => F.good.nm s (p.mem_iff.mp h), p.nodup_iff.mpr F.good.nd, by rw [p.length_eq]; exact F.good.len, fun c hc => ?_, F.good.cn, F.good.cz⟩, ?_, fun x hx y hy => F.bd x ((mm x).mp hx) y ((mm y).mp hy)⟩
  · have := F.good.cl c hc
    exact ⟨(mm _).mpr this.1, (mm _).mpr this.2.1, this.2.2⟩
  · unfold NoRing
    rw [p.length_eq]
    exact F.nr
def MoD (ms : List Str) (D : DealD) : Prop := D.bm ∈ ms ++ [dayS] ∧ D.em ∈ ms ++ [dayS]
theorem MoD.perm {ms ms' : List Str} {D : DealD} (h : MoD ms D) (p : ms'.Perm ms) : MoD ms' D := by
  have mm : ∀ s, s ∈ ms ++ [dayS] → s ∈ ms' ++ [dayS] := fun s => by rw [List.mem_append, List.mem_append, p.mem_iff]; exact id
  exact ⟨mm _ h.1, mm _ h.2⟩
def gapB (B : Str → Str → Int) (D E : DealD) : Int := B D.em E.bm + D.en - E.bn
def apart (B : Str → Str → Int) (D E : DealD) : Prop := gapB B D E ≤ -1 ∨ gapB B E D ≤ -1
instance (B : Str → Str → Int) (D E : DealD) : Decidable (apart B D E) := by unfold apart; exact inferInstance
def slB (B : Str → Str → Int) (D E : DealD) : Option Int := if gapB B D E ≥ 0 then none else some (-gapB B D E - 1)
def openP (B : Str → Str → Int) (ds : List DealD) : List (DealD × DealD) := (touchP ds).filter fun q => !decide (apart B q.1 q.2)
def nm2 (q : DealD × DealD) : Pair := (q.1.name, q.2.name)
theorem touchP_mem {ds : List DealD} {q : DealD × DealD} (h : q ∈ touchP ds) : q.1 ∈ ds ∧ q.2 ∈ ds := by
  induction ds with
  | nil => cases h
  | cons D r ih =>
    rcases List.mem_append.mp h with z | z
    · obtain ⟨E, hE, rfl⟩ := List.mem_map.mp z
      exact ⟨List.mem_cons_self, List.mem_cons_of_mem _ (List.mem_filter.mp hE).1⟩
    · exact ⟨List.mem_cons_of_mem _ (ih z).1, List.mem_cons_of_mem _ (ih z).2⟩
theorem touchP_len (ds : List DealD) : (touchP ds).length ≤ ds.length * ds.length := by
  induction ds with
  | nil => exact Nat.le_refl _
  | cons D r ih =>
    have h1 := List.length_filter_le (fun E => touchD D E) r
    show (((r.filter fun E => touchD D E).map (fun E => (D, E))) ++ touchP r).length ≤ _
    rw [List.length_append, List.length_map, List.length_cons, Nat.add_mul, Nat.mul_add]
    omega
def sp_most_behind (K : PySem.W.Frag) (mg : Str → Option Value) : Sp := fun vs H Q _ => ∃ (c p q : Addr) (ms : List Str) (cs : List Clause) (B : Str → Str → Int) (a b : Str) (i j : Int), vs = [.ref c, .ref p, .ref q] ∧ CalX K H c ms cs ∧ Fin ms cs B ∧ H p = some (.tup [.str a, .int i]) ∧ H q = some (.tup [.str b, .int j]) ∧ a ∈ ms ++ [dayS] ∧ b ∈ ms ++ [dayS] ∧ ∀ H', Same H H' → Q (.int (B a b + i - j)) H'
def sp_is_at_most (K : PySem.W.Frag) (mg : Str → Option Value) : Sp := fun vs H Q _ => ∃ i j : Int, vs = [.int i, .int j] ∧ Q (.bl (decide (i ≤ j))) H
def sp_is_surely_ahead (K : PySem.W.Frag) (mg : Str → Option Value) : Sp := fun vs H Q _ => ∃ (c : Addr) (v u : V) (ms : List Str) (cs : List Clause) (B : Str → Str → Int) (D E : DealD), vs = [.ref c, v, u] ∧ CalX K H c ms cs ∧ Fin ms cs B ∧ DealX K H v D ∧ DealX K H u E ∧ MoD ms D ∧ MoD ms E ∧ ∀ H', Same H H' → Q (.bl (decide (gapB B D E ≤ -1))) H'
def sp_word_in (K : PySem.W.Frag) (mg : Str → Option Value) : Sp := fun vs H Q _ => ∃ (c : Addr) (v u : V) (ms : List Str) (cs : List Clause) (B : Str → Str → Int) (D E : DealD), vs = [.ref c, v, u] ∧ CalX K H c ms cs ∧ Fin ms cs B ∧ DealX K H v D ∧ DealX K H u E ∧ MoD ms D ∧ MoD ms E ∧ ∀ H' (s : Str), Same H H' → (s = ("never" : Str) ↔ apart B D E) → Q (.str s) H'
def sp_open_pairs (K : PySem.W.Frag) (mg : Str → Option Value) : Sp := fun vs H Q _ => ∃ (b : Addr) (ms : List Str) (cs : List Clause) (ds : List DealD) (B : Str → Str → Int), vs = [.ref b] ∧ BookX K H b ms cs ds ∧ DealsOk ms ds ∧ Fin ms (allC cs ds) B ∧ ∀ H' p, Same H H' → H p = none → LAt PairV H' p ((openP B ds).map nm2) → Q (.ref p) H'
def sp_slack_in (K : PySem.W.Frag) (mg : Str → Option Value) : Sp := fun vs H Q _ => ∃ (c : Addr) (v u : V) (ms : List Str) (cs : List Clause) (B : Str → Str → Int) (D E : DealD), vs = [.ref c, v, u] ∧ CalX K H c ms cs ∧ Fin ms cs B ∧ DealX K H v D ∧ DealX K H u E ∧ MoD ms D ∧ MoD ms E ∧ ∀ H', Same H H' → Q (optI (slB B D E)) H'
def sp_slack (K : PySem.W.Frag) (mg : Str → Option Value) : Sp := fun vs H Q _ => ∃ (b : Addr) (ms : List Str) (cs : List Clause) (ds : List DealD) (B : Str → Str → Int) (D E : DealD), vs = [.ref b, .str D.name, .str E.name] ∧ BookX K H b ms cs ds ∧ DealsOk ms ds ∧ Fin ms (allC cs ds) B ∧ D ∈ ds ∧ E ∈ ds ∧ ∀ H', Same H H' → Q (optI (if D.name = E.name then none else slB B D E)) H'
section
variable {P : Program} {w : World} {K : PySem.W.Frag} {mg : Str → Option Value} {base : Heap}
def s_most_behind : Stmt := top 67
abbrev N_most_behind : List Str := ["calendar", "point", "other", "found"]
theorem sc_most_behind : FnScope N_most_behind ["calendar", "point", "other"] (defScope s_most_behind) := C8.fnScope_by (by decide +kernel)
theorem ok_most_behind {f : Addr} {fd : FuncData} (T : Tx K mg) (F : DefAt K "most_behind" "most_behind" s_most_behind f fd) (hm : mg "most_behind" = some (.ref f)) (c_bound : Cf P w K mg base 8 "bound" (sp_bound K mg)) : Cf P w K mg base 9 "most_behind" (sp_most_behind K mg) := by
  refine cal_mk F hm sc_most_behind (fun vs H Q E => ?_) (fun _ _ _ _ _ _ us hl => match us, hl with | [_, _, _], _ => rfl) (fun cdv A outer s H vs Q E hr h => ?_)
  · walk_at "ln"
  · obtain ⟨c, p, q, ms, cs, B, a, b, i, j, rfl, C, F, ep, eq, ha, hb, h⟩ := h
    refine ⟨_, (pss_cons (ps_set (i := 3) sc_most_behind.nd rfl (Or.inl rfl) (pe_f c_bound hr (by decide) (by rfl) (pa_cons (pv 0) (pa_cons (pe_ix ix_tup (pv 1) pe_int (fun _ _ => rfl)) (pa_cons (pe_ix ix_tup (pv 2) pe_int (fun _ _ => rfl)) pa_nil)))))
      (pss_one (ps_ret (pe_ifExp (pt_cmpR op_isNo (pv 3) pe_non (nomark _)) pe_non (pe_op op_sub (pe_op op_add (pv 3) (pe_ix ix_tup (pv 1) pe_int (fun _ _ => rfl))) (pe_ix ix_tup (pv 2) pe_int (fun _ _ => rfl))))))), ?_⟩
    walk_at "nk"
    obtain ⟨n, gf, st, eg⟩ := F.bd a ha b hb
    walk_at "go"
    refine ⟨_, ms, cs, a, b, n, gf, rfl, C, F.good, F.nr, ha, hb, st, fun H1 s1 => ?_⟩
    rw [eg]
    have ep1 := s1 _ _ ep
    have eq1 := s1 _ _ eq
    walk_at "go"
    exact h _ s1
def s_is_at_most : Stmt := top 68
abbrev N_is_at_most : List Str := ["number", "most"]
theorem sc_is_at_most : FnScope N_is_at_most ["number", "most"] (defScope s_is_at_most) := C8.fnScope_by (by decide +kernel)
theorem ok_is_at_most {f : Addr} {fd : FuncData} (T : Tx K mg) (F : DefAt K "is_at_most" "is_at_most" s_is_at_most f fd) (hm : mg "is_at_most" = some (.ref f)) : Cf P w K mg base 1 "is_at_most" (sp_is_at_most K mg) := by
  refine cal_mk F hm sc_is_at_most (fun vs H Q E => ?_) (fun _ _ _ _ _ _ us hl => match us, hl with | [_, _], _ => rfl) (fun cdv A outer s H vs Q E hr h => ?_)
  · walk_at "ln"
  · obtain ⟨i, j, rfl, h⟩ := h
    refine ⟨_, (pss_one (ps_ret (pe_and (pe_cmpR op_notNo (pv 0) pe_non (nomark _)) (pe_one (pe_cmpR op_le (pv 0) (pv 1) (nomark _)))))), ?_⟩
    walk_at "nk"
    walk_at "go"
    exact h
def s_is_surely_ahead : Stmt := top 69
abbrev N_is_surely_ahead : List Str := ["calendar", "one", "other"]
theorem sc_is_surely_ahead : FnScope N_is_surely_ahead ["calendar", "one", "other"] (defScope s_is_surely_ahead) := C8.fnScope_by (by decide +kernel)
theorem ok_is_surely_ahead {f : Addr} {fd : FuncData} (T : Tx K mg) (F : DefAt K "is_surely_ahead" "is_surely_ahead" s_is_surely_ahead f fd) (hm : mg "is_surely_ahead" = some (.ref f)) (c_is_at_most : Cf P w K mg base 1 "is_at_most" (sp_is_at_most K mg)) (c_most_behind : Cf P w K mg base 9 "most_behind" (sp_most_behind K mg)) (c_Deal_begin : Prp P w K mg base 1 (cDeal K) "begin" (sp_Deal_begin K mg)) (c_Deal_end : Prp P w K mg base 1 (cDeal K) "end" (sp_Deal_end K mg)) : Cf P w K mg base 10 "is_surely_ahead" (sp_is_surely_ahead K mg) := by
  refine cal_mk F hm sc_is_surely_ahead (fun vs H Q E => ?_) (fun _ _ _ _ _ _ us hl => match us, hl with | [_, _, _], _ => rfl) (fun cdv A outer s H vs Q E hr h => ?_)
  · walk_at "ln"
  · obtain ⟨c, v, u, ms, cs, B, D, E, rfl, C, F, X, Y, mD, mE, h⟩ := h
    refine ⟨_, (pss_one (ps_ret (pe_f c_is_at_most hr (by decide) (by rfl) (pa_cons (pe_f c_most_behind hr (by decide) (by rfl) (pa_cons (pv 0) (pa_cons (pe_pr c_Deal_end hr (by decide) (pv 1) rfl) (pa_cons (pe_pr c_Deal_begin hr (by decide) (pv 2) rfl) pa_nil)))) (pa_cons (pe_un un_neg pe_int) pa_nil))))), ?_⟩
    walk_at "nk"
    obtain ⟨a, dxa, pf, pl, pw, pb, pe, rfl, o, _⟩ := id X
    obtain ⟨a2, dxa2, pf2, pl2, pw2, pb2, pe2, rfl, o2, _⟩ := id Y
    walk_at "go"
    refine ⟨_, D, rfl, X, fun p ep => ?_⟩
    walk_at "go"
    refine ⟨_, E, rfl, Y, fun q eq => ?_⟩
    walk_at "go"
    refine ⟨_, _, _, ms, cs, B, _, _, _, _, rfl, C, F, ep, eq, mD.2, mE.1, fun H1 s1 => ?_⟩
    walk_at "go"
    exact ⟨_, _, rfl, h _ s1⟩
def s_word_in : Stmt := top 70
abbrev N_word_in : List Str := ["calendar", "one", "other", "leads", "lead"]
theorem sc_word_in : FnScope N_word_in ["calendar", "one", "other"] (defScope s_word_in) := C8.fnScope_by (by decide +kernel)
theorem ok_word_in {f : Addr} {fd : FuncData} (T : Tx K mg) (F : DefAt K "word_in" "word_in" s_word_in f fd) (hm : mg "word_in" = some (.ref f)) (c_is_surely_ahead : Cf P w K mg base 10 "is_surely_ahead" (sp_is_surely_ahead K mg)) (c_most_behind : Cf P w K mg base 9 "most_behind" (sp_most_behind K mg)) (c_Deal_end : Prp P w K mg base 1 (cDeal K) "end" (sp_Deal_end K mg)) (c_Deal_begin : Prp P w K mg base 1 (cDeal K) "begin" (sp_Deal_begin K mg)) (c_is_at_most : Cf P w K mg base 1 "is_at_most" (sp_is_at_most K mg)) : Cf P w K mg base 11 "word_in" (sp_word_in K mg) := by
  refine cal_mk F hm sc_word_in (fun vs H Q E => ?_) (fun _ _ _ _ _ _ us hl => match us, hl with | [_, _, _], _ => rfl) (fun cdv A outer s H vs Q E hr h => ?_)
  · walk_at "ln"
  · obtain ⟨c, v, u, ms, cs, B, D, E, rfl, C, F, X, Y, mD, mE, h⟩ := h
    refine ⟨_, (pss_cons (ps_if (PW.pt (pw_or (pt_val (pe_f c_is_surely_ahead hr (by decide) (by rfl) (pa_cons (pv 0) (pa_cons (pv 1) (pa_cons (pv 2) pa_nil))))) (pw_or1 (pt_val (pe_f c_is_surely_ahead hr (by decide) (by rfl) (pa_cons (pv 0) (pa_cons (pv 2) (pa_cons (pv 1) pa_nil)))))))) (pss_one (ps_ret (C8.pe_gc (by rfl) T.g_NEVER))) pss_nil)
      (pss_cons (ps_set (i := 3) sc_word_in.nd rfl (Or.inl rfl) (pe_lst (pa_cons (pe_f c_most_behind hr (by decide) (by rfl) (pa_cons (pv 0) (pa_cons (pe_pr c_Deal_begin hr (by decide) (pv 1) rfl) (pa_cons (pe_pr c_Deal_end hr (by decide) (pv 2) rfl) pa_nil)))) (pa_cons (pe_f c_most_behind hr (by decide) (by rfl) (pa_cons (pv 0) (pa_cons (pe_pr c_Deal_begin hr (by decide) (pv 2) rfl) (pa_cons (pe_pr c_Deal_end hr (by decide) (pv 1) rfl) pa_nil)))) pa_nil))))
      (pss_one (ps_ret (pe_ifExp (pt_val (pe_callB (cr_all rfl) (by rfl) T.f_all (by decide +kernel) (pa_cons (pe_lc (own := [("lead", 4)]) rfl sc_word_in.nd (pi_list (pv 3)) (blkOk_by (own := [("lead", 4)]) (N := N_word_in) (sc := defScope s_word_in) (by decide +kernel)) (fun _ _ _ _ _ => (pg_name (i := 4) sc_word_in.nd rfl (Or.inl rfl))) (fun _ _ _ _ _ => pts_nil) (fun _ _ _ _ _ => (pe_f c_is_at_most hr (by decide) (by rfl) (pa_cons (pv 4) (pa_cons pe_int pa_nil)))) ) pa_nil))) (C8.pe_gc (by rfl) T.g_SURELY) (C8.pe_gc (by rfl) T.g_PERHAPS)))))), ?_⟩
    walk_at "nk"
    obtain ⟨a, dxa, pf, pl, pw, pb, pe, rfl, o, _⟩ := id X
    obtain ⟨a2, dxa2, pf2, pl2, pw2, pb2, pe2, rfl, o2, _⟩ := id Y
    walk_at "go"
    refine ⟨_, _, _, ms, cs, B, D, E, rfl, C, F, X, Y, mD, mE, fun H1 s1 => ?_⟩
    by_cases k1 : gapB B D E ≤ -1
    · walk_at "go"
      exact h _ _ s1 ⟨fun _ => .inl k1, fun _ => rfl⟩
    · walk_at "go"
      refine ⟨_, _, _, ms, cs, B, E, D, rfl, C.same s1, F, Y.same s1, X.same s1, mE, mD, fun H2 s2 => ?_⟩
      have s12 := Same.trans' s1 s2
      by_cases k2 : gapB B E D ≤ -1
      · walk_at "go"
        exact h _ _ s12 ⟨fun _ => .inr k2, fun _ => rfl⟩
      · have na : ¬ apart B D E := fun z => z.elim k1 k2
        have X2 := X.same s12
        have Y2 := Y.same s12
        have C2 := C.same s12
        have ox := s12 _ _ o
        have oy := s12 _ _ o2
        walk_at "go"
        refine ⟨_, D, rfl, X2, fun p ep => ?_⟩
        walk_at "go"
        refine ⟨_, E, rfl, Y2, fun q eq => ?_⟩
        walk_at "go"
        refine ⟨_, _, _, ms, cs, B, _, _, _, _, rfl, C2, F, ep, eq, mD.1, mE.2, fun H3 s3 => ?_⟩
        have X3 := X2.same s3
        have Y3 := Y2.same s3
        have ox3 := s3 _ _ ox
        have oy3 := s3 _ _ oy
        walk_at "go"
        refine ⟨_, E, rfl, Y3, fun p3 ep3 => ?_⟩
        walk_at "go"
        refine ⟨_, D, rfl, X3, fun q3 eq3 => ?_⟩
        walk_at "go"
        refine ⟨_, _, _, ms, cs, B, _, _, _, _, rfl, C2.same s3, F, ep3, eq3, mE.1, mD.2, fun H4 s4 => ?_⟩
        have s14 := Same.trans' s12 (Same.trans' s3 s4)
        walk_at "go"
        intro l hl
        walk_at "go"
        refine lcL (cs := [B D.bm E.em + D.bn - E.en, B E.bm D.em + E.bn - D.en]) upd_same (All2.raw V.int [B D.bm E.em + D.bn - E.en, B E.bm D.em + E.bn - D.en]) (fun i => some (decide (i ≤ 0))) (fun _ v b => v = .bl b) (fun _ _ _ _ _ h => h) (szl (by simp)) (fun x i H' hi ex sm => ?_) (fun D1 H5 ys hD1 s5 eD al => ?_)
        · intro Qo Qn ho hn
          subst ex
          walk_at "go"
          refine ⟨_, _, rfl, ?_⟩
          exact ho _ _ _ rfl (Same.refl' _) rfl
        · have e := All2.eq_map al
          subst e
          walk_at "go"
          have s15 := Same.trans' s14 (Same.trans' (same_new hl) s5)
          have n1 : ("surely" : Str) ≠ ("never" : Str) := by decide
          have n2 : ("perhaps" : Str) ≠ ("never" : Str) := by decide
          cases hb : ((List.filterMap (fun i => some (decide (i ≤ 0))) [B D.bm E.em + D.bn - E.en, B E.bm D.em + E.bn - D.en]).all id) with
          | true =>
            walk_at "go"
            exact h _ _ s15 ⟨fun z => (n1 z).elim, fun z => (na z).elim⟩
          | false =>
            walk_at "go"
            exact h _ _ s15 ⟨fun z => (n2 z).elim, fun z => (na z).elim⟩
def s_open_pairs : Stmt := top 72
abbrev N_open_pairs : List Str := ["book", "calendar", "one", "other"]
theorem sc_open_pairs : FnScope N_open_pairs ["book"] (defScope s_open_pairs) := C8.fnScope_by (by decide +kernel)
theorem ok_open_pairs {f : Addr} {fd : FuncData} (T : Tx K mg) (F : DefAt K "open_pairs" "open_pairs" s_open_pairs f fd) (hm : mg "open_pairs" = some (.ref f)) (c_Book_full : Cm P w K mg base 7 (cBook K) "full" (sp_Book_full K mg)) (c_Book_touching : Cm P w K mg base 4 (cBook K) "touching" (sp_Book_touching K mg)) (c_word_in : Cf P w K mg base 11 "word_in" (sp_word_in K mg)) (c_Book__getitem : Cm P w K mg base 3 (cBook K) "__getitem__" (sp_Book__getitem K mg)) : Cf P w K mg base 12 "open_pairs" (sp_open_pairs K mg) := by
  refine cal_mk F hm sc_open_pairs (fun vs H Q E => ?_) (fun _ _ _ _ _ _ us hl => match us, hl with | [_], _ => rfl) (fun cdv A outer s H vs Q E hr h => ?_)
  · walk_at "ln"
  · obtain ⟨b, ms, cs, ds, B, rfl, X, G, F, h⟩ := h
    refine ⟨_, (pss_cons (ps_set (i := 1) sc_open_pairs.nd rfl (Or.inr rfl) (pe_m0 c_Book_full hr (by decide) (pv 0)))
      (pss_one (ps_ret (pe_lc (own := [("one", 2), ("other", 3)]) rfl sc_open_pairs.nd (pi_list (pe_m0 c_Book_touching hr (by decide) (pv 0))) (blkOk_by (own := [("one", 2), ("other", 3)]) (N := N_open_pairs) (sc := defScope s_open_pairs) (by decide +kernel)) (fun _ _ _ _ _ => (pg_tupB (K := K) (n := 2) rfl (pgs_cons (pg_name (i := 2) sc_open_pairs.nd rfl (Or.inl rfl)) (pgs_cons (pg_name (i := 3) sc_open_pairs.nd rfl (Or.inl rfl)) pgs_nil)))) (fun _ _ _ _ _ => (pts_one (pt_cmpR op_ne (pe_f c_word_in hr (by decide) (by rfl) (pa_cons (pv 1) (pa_cons (pe_gi c_Book__getitem hr (by decide) (pv 0) (pv 2) T.gi_Book (fun _ _ => rfl)) (pa_cons (pe_gi c_Book__getitem hr (by decide) (pv 0) (pv 3) T.gi_Book (fun _ _ => rfl)) pa_nil)))) (C8.pe_gc (by rfl) T.g_NEVER) (nomark _)))) (fun _ _ _ _ _ => (pe_tup (pa_cons (pv 2) (pa_cons (pv 3) pa_nil)))) )))), ?_⟩
    walk_at "nk"
    obtain ⟨dx, cal, dd, cl, kvs, o, _⟩ := id X.ex
    walk_at "go"
    refine ⟨_, ms, cs, ds, rfl, X, F.good, fun H1 c ms' pm s1 C1 => ?_⟩
    have F1 := F.perm pm
    have o1 := s1 _ _ o
    walk_at "go"
    refine ⟨_, ms, cs, ds, rfl, X.same s1, G, fun H2 p s2 hp L2 => ?_⟩
    obtain ⟨xs, el, al⟩ := id L2
    have al' : All2 (fun v q => PairV H2 v (nm2 q) ∧ q ∈ touchP ds) xs (touchP ds) := al.of_mapR.with_mem
    have hz : (touchP ds).length < sizeLine := by
      have := touchP_len ds
      have l10 := G.len
      have : ds.length * ds.length ≤ 10 * 10 := Nat.mul_le_mul l10 l10
      exact szl (by omega)
    refine lcL el al' (fun q => if apart B q.1 q.2 then none else some (nm2 q)) PairV PairV.pers hz (fun x q H' hq ex sm => ?_) (fun D1 H5 ys hD1 s5 eD al => ?_)
    · intro Qo Qn ho hn
      obtain ⟨⟨t, rfl, et, okt⟩, _⟩ := ex
      obtain ⟨q1, q2⟩ := touchP_mem hq
      have s3 := Same.trans' s1 (Same.trans' s2 sm)
      have X3 := X.same s3
      have et3 := sm _ _ et
      have o3 := s3 _ _ o
      have G1 := X.same s3
      walk_at "go"
      refine ⟨_, ms, cs, ds, q.1, rfl, G1, G, q1, fun v V1 => ?_⟩
      walk_at "go"
      refine ⟨_, ms, cs, ds, q.2, rfl, G1, G, q2, fun u V2 => ?_⟩
      walk_at "go"
      refine ⟨_, _, _, ms', _, B, q.1, q.2, rfl, C1.same (Same.trans' s2 sm), F1, V1, V2, MoD.perm (G.mo _ q1) pm, MoD.perm (G.mo _ q2) pm, fun H6 s s6 hs => ?_⟩
      by_cases k : apart B q.1 q.2
      · have ks := hs.mpr k
        subst ks
        walk_at "go"
        exact hn (if_pos k) _ s6
      · have ks : V.str s ≠ V.str "never" := fun z => k (hs.mp (V.str.inj z))
        walk_at "go"
        intro p7 hp7
        exact ho _ _ _ (if_neg k) (Same.trans' s6 (same_new hp7)) ⟨p7, rfl, upd_same, (G.ok _ q1).name.ok, (G.ok _ q2).name.ok⟩
    · refine h _ _ (Same.trans' s1 (Same.trans' s2 s5)) (none_back s1 (none_back s2 hD1)) ⟨ys, eD, ?_⟩
      rw [show (openP B ds).map nm2 = (touchP ds).filterMap fun q => if apart B q.1 q.2 then none else some (nm2 q) from by
        unfold openP
        rw [← List.filterMap_eq_filter, List.map_filterMap]
        congr 1
        funext q
        by_cases k : apart B q.1 q.2 <;> simp [Option.guard, k]]
      exact al
def s_slack_in : Stmt := top 74
abbrev N_slack_in : List Str := ["calendar", "one", "other", "found"]
theorem sc_slack_in : FnScope N_slack_in ["calendar", "one", "other"] (defScope s_slack_in) := C8.fnScope_by (by decide +kernel)
theorem ok_slack_in {f : Addr} {fd : FuncData} (T : Tx K mg) (F : DefAt K "slack_in" "slack_in" s_slack_in f fd) (hm : mg "slack_in" = some (.ref f)) (c_most_behind : Cf P w K mg base 9 "most_behind" (sp_most_behind K mg)) (c_Deal_begin : Prp P w K mg base 1 (cDeal K) "begin" (sp_Deal_begin K mg)) (c_Deal_end : Prp P w K mg base 1 (cDeal K) "end" (sp_Deal_end K mg)) : Cf P w K mg base 10 "slack_in" (sp_slack_in K mg) := by
  refine cal_mk F hm sc_slack_in (fun vs H Q E => ?_) (fun _ _ _ _ _ _ us hl => match us, hl with | [_, _, _], _ => rfl) (fun cdv A outer s H vs Q E hr h => ?_)
  · walk_at "ln"
  · obtain ⟨c, v, u, ms, cs, B, D, E, rfl, C, F, X, Y, mD, mE, h⟩ := h
    refine ⟨_, (pss_cons (ps_set (i := 3) sc_slack_in.nd rfl (Or.inl rfl) (pe_f c_most_behind hr (by decide) (by rfl) (pa_cons (pv 0) (pa_cons (pe_pr c_Deal_end hr (by decide) (pv 1) rfl) (pa_cons (pe_pr c_Deal_begin hr (by decide) (pv 2) rfl) pa_nil)))))
      (pss_one (ps_ret (pe_ifExp (PW.pt (pw_or (pt_cmpR op_isNo (pv 3) pe_non (nomark _)) (pw_or1 (pt_cmpR op_ge (pv 3) pe_int (nomark _))))) pe_non (pe_op op_sub (pe_un un_neg (pv 3)) pe_int))))), ?_⟩
    walk_at "nk"
    obtain ⟨a, dxa, pf, pl, pw, pb, pe, rfl, o, _⟩ := id X
    obtain ⟨a2, dxa2, pf2, pl2, pw2, pb2, pe2, rfl, o2, _⟩ := id Y
    walk_at "go"
    refine ⟨_, D, rfl, X, fun p ep => ?_⟩
    walk_at "go"
    refine ⟨_, E, rfl, Y, fun q eq => ?_⟩
    walk_at "go"
    refine ⟨_, _, _, ms, cs, B, _, _, _, _, rfl, C, F, ep, eq, mD.2, mE.1, fun H1 s1 => ?_⟩
    have hh := h _ s1
    unfold slB gapB at hh
    walk_at "go"
    by_cases k : B D.em E.bm + D.en - E.bn ≥ 0
    · rw [if_pos k] at hh
      walk_at "go"
      exact hh
    · rw [if_neg k] at hh
      walk_at "go"
      exact hh
def s_slack : Stmt := top 75
abbrev N_slack : List Str := ["book", "one", "other", "first", "second"]
theorem sc_slack : FnScope N_slack ["book", "one", "other"] (defScope s_slack) := C8.fnScope_by (by decide +kernel)
theorem ok_slack {f : Addr} {fd : FuncData} (T : Tx K mg) (F : DefAt K "slack" "slack" s_slack f fd) (hm : mg "slack" = some (.ref f)) (c_Book__getitem : Cm P w K mg base 3 (cBook K) "__getitem__" (sp_Book__getitem K mg)) (c_slack_in : Cf P w K mg base 10 "slack_in" (sp_slack_in K mg)) (c_Book_full : Cm P w K mg base 7 (cBook K) "full" (sp_Book_full K mg)) : Cf P w K mg base 11 "slack" (sp_slack K mg) := by
  refine cal_mk F hm sc_slack (fun vs H Q E => ?_) (fun _ _ _ _ _ _ us hl => match us, hl with | [_, _, _], _ => rfl) (fun cdv A outer s H vs Q E hr h => ?_)
  · walk_at "ln"
  · obtain ⟨b, ms, cs, ds, B, D, E, rfl, X, G, F, hD, hE, h⟩ := h
    refine ⟨_, (pss_cons (ps_par (i := 3) (j := 4) rfl sc_slack.nd rfl rfl (by decide) rfl rfl (pa_cons (pe_gi c_Book__getitem hr (by decide) (pv 0) (pv 1) T.gi_Book (fun _ _ => rfl)) (pa_cons (pe_gi c_Book__getitem hr (by decide) (pv 0) (pv 2) T.gi_Book (fun _ _ => rfl)) pa_nil)) (by rfl))
      (pss_one (ps_ret (pe_ifExp (pt_cmpR op_eq (pv 1) (pv 2) (nomark _)) pe_non (pe_f c_slack_in hr (by decide) (by rfl) (pa_cons (pe_m0 c_Book_full hr (by decide) (pv 0)) (pa_cons (pv 3) (pa_cons (pv 4) pa_nil)))))))), ?_⟩
    walk_at "nk"
    obtain ⟨dx, cal, dd, cl, kvs, o, _⟩ := id X.ex
    walk_at "go"
    refine ⟨_, ms, cs, ds, D, rfl, X, G, hD, fun v V1 => ?_⟩
    walk_at "go"
    refine ⟨_, ms, cs, ds, E, rfl, X, G, hE, fun u V2 => ?_⟩
    walk_at "go"
    by_cases k : D.name = E.name
    · have k1 : V.str D.name = V.str E.name := by rw [k]
      have hh := h _ (Same.refl' _)
      rw [if_pos k] at hh
      walk_at "go"
      exact hh
    · have k1 : V.str D.name ≠ V.str E.name := fun z => k (V.str.inj z)
      rw [if_neg k] at h
      walk_at "go"
      refine ⟨_, ms, cs, ds, rfl, X, F.good, fun H1 c ms' pm s1 C1 => ?_⟩
      walk_at "go"
      exact ⟨_, _, _, ms', _, B, D, E, rfl, C1, F.perm pm, V1.same s1, V2.same s1, MoD.perm (G.mo _ hD) pm, MoD.perm (G.mo _ hE) pm, fun H2 s2 => h _ (Same.trans' s1 s2)⟩
end
end Ld
namespace Ld
open PySem PySem.Spec PyProof.Rows L2
/-! ### slacks, room -/
def putG (g : Pair → Option Int) (k : Pair) : Option Int → Pair → Option Int
  | none => g
  | some i => fun j => if j = k then some i else g j
def slStep (B : Str → Str → Int) (g : Pair → Option Int) (q : DealD × DealD) : Pair → Option Int := putG (putG g (nm2 q) (slB B q.1 q.2)) (q.2.name, q.1.name) (slB B q.2 q.1)
def slG (B : Str → Str → Int) (ds : List DealD) : Pair → Option Int := (touchP ds).foldl (slStep B) (fun _ => none)
/-- a dict that has just what g says -/
def SlS (H : Hp) (a : Addr) (g : Pair → Option Int) (n : Nat) : Prop := ∃ m, H a = some (.dT (dP m)) ∧ (∀ k, m.lookup k = g k) ∧ (m.map (·.1)).Nodup ∧ m.length ≤ n
/-- its pairs in their order -/
def SlOk (g : Pair → Option Int) (m : List (Pair × Int)) : Prop := ∃ ks : List Pair, ks.Nodup ∧ (∀ k, k ∈ ks ↔ (g k).isSome = true) ∧ m = (srtP ks).map fun k => (k, (g k).getD 0)
theorem lookup_mem {m : List (Pair × Int)} {k : Pair} : k ∈ m.map (·.1) ↔ (m.lookup k).isSome = true := by
  induction m with
  | nil => simp
  | cons p m ih =>
    obtain ⟨j, v⟩ := p
    rw [List.map_cons, List.mem_cons, List.lookup_cons]
    by_cases h : k = j
    · subst h; simp
    · rw [beq_eq_false_iff_ne.mpr h]
      simp only [h, false_or]
      exact ih
theorem putP_nd {m : List (Pair × Int)} (h : (m.map (·.1)).Nodup) (k : Pair) (v : Int) : ((putP m k v).map (·.1)).Nodup := by
  rcases keys_putP m k v with ⟨_, e⟩ | ⟨hn, e⟩
  · rw [e]; exact h
  · rw [e, List.nodup_append]
    exact ⟨h, by simp, fun a ha b hb => by rintro rfl; rw [List.mem_singleton] at hb; exact hn (hb ▸ ha)⟩
theorem putP_len (m : List (Pair × Int)) (k : Pair) (v : Int) : (putP m k v).length ≤ m.length + 1 := by
  have h := length_putK (dP m) (kP k) (.int v)
  rw [putK_dP, length_dP, length_dP] at h
  exact h
theorem SlS.put {H : Hp} {a : Addr} {g : Pair → Option Int} {n : Nat} {m : List (Pair × Int)} (hl : ∀ k, m.lookup k = g k) (nd : (m.map (·.1)).Nodup) (hz : m.length ≤ n) (k : Pair) (i : Int) : SlS (upd H a (.dT (dP (putP m k i)))) a (putG g k (some i)) (n + 1) :=
  ⟨_, upd_same, fun j => by rw [lookup_putP, hl]; rfl, putP_nd nd k i, Nat.le_trans (putP_len m k i) (Nat.succ_le_succ hz)⟩
theorem SlS.same {H H' : Hp} {a : Addr} {g : Pair → Option Int} {n n' : Nat} (h : SlS H a g n) (s : Same H H') (hn : n ≤ n') : SlS H' a g n' := by
  obtain ⟨m, e, h1, h2, h3⟩ := h
  exact ⟨m, s _ _ e, h1, h2, Nat.le_trans h3 hn⟩
theorem srtP_perm (ks : List Pair) : (srtP ks).Perm ks := List.mergeSort_perm ks leP
def sp_slacks (K : PySem.W.Frag) (mg : Str → Option Value) : Sp := fun vs H Q _ => ∃ (b : Addr) (ms : List Str) (cs : List Clause) (ds : List DealD) (B : Str → Str → Int), vs = [.ref b] ∧ BookX K H b ms cs ds ∧ DealsOk ms ds ∧ Fin ms (allC cs ds) B ∧ ∀ H' p m, Same H H' → H p = none → H' p = some (.dT (dP m)) → SlOk (slG B ds) m → m.length ≤ 1000 → Q (.ref p) H'
section
variable {P : Program} {w : World} {K : PySem.W.Frag} {mg : Str → Option Value} {base : Heap}
def s_slacks : Stmt := top 76
abbrev N_slacks : List Str := ["book", "calendar", "found", "one", "other", "pair", "number"]
theorem sc_slacks : FnScope N_slacks ["book"] (defScope s_slacks) := C8.fnScope_by (by decide +kernel)
theorem ok_slacks {f : Addr} {fd : FuncData} (T : Tx K mg) (F : DefAt K "slacks" "slacks" s_slacks f fd) (hm : mg "slacks" = some (.ref f)) (c_Book_full : Cm P w K mg base 7 (cBook K) "full" (sp_Book_full K mg)) (c_Book_touching : Cm P w K mg base 4 (cBook K) "touching" (sp_Book_touching K mg)) (c_slack_in : Cf P w K mg base 10 "slack_in" (sp_slack_in K mg)) (c_Book__getitem : Cm P w K mg base 3 (cBook K) "__getitem__" (sp_Book__getitem K mg)) : Cf P w K mg base 11 "slacks" (sp_slacks K mg) := by
  refine cal_mk F hm sc_slacks (fun vs H Q E => ?_) (fun _ _ _ _ _ _ us hl => match us, hl with | [_], _ => rfl) (fun cdv A outer s H vs Q E hr h => ?_)
  · walk_at "ln"
  · obtain ⟨b, ms, cs, ds, B, rfl, X, G, F, h⟩ := h
    refine ⟨_, (pss_cons (ps_asg (pe_tup (pa_cons (pe_m0 c_Book_full hr (by decide) (pv 0)) (pa_cons pe_dnewT pa_nil))) (pg_tup (n := 2) rfl (pgs_cons (pg_name (i := 1) sc_slacks.nd rfl (Or.inl rfl)) (pgs_cons (pg_name (i := 2) sc_slacks.nd rfl (Or.inr rfl)) pgs_nil))))
      (pss_cons (ps_for PassesOwn.never rfl (pi_list (pe_m0 c_Book_touching hr (by decide) (pv 0))) (pg_tup (n := 2) rfl (pgs_cons (pg_name (i := 3) sc_slacks.nd rfl (Or.inl rfl)) (pgs_cons (pg_name (i := 4) sc_slacks.nd rfl (Or.inl rfl)) pgs_nil))) (pss_one (ps_for PassesOwn.never rfl (pi_tup (pe_tup (pa_cons (pe_tup (pa_cons (pv 3) (pa_cons (pv 4) pa_nil))) (pa_cons (pe_tup (pa_cons (pv 4) (pa_cons (pv 3) pa_nil))) pa_nil)))) (pg_name (i := 5) sc_slacks.nd rfl (Or.inl rfl)) (pss_cons (ps_set (i := 6) sc_slacks.nd rfl (Or.inl rfl) (pe_f c_slack_in hr (by decide) (by rfl) (pa_cons (pv 1) (pa_cons (pe_gi c_Book__getitem hr (by decide) (pv 0) (pe_ix ix_tup (pv 5) pe_int (fun _ _ => rfl)) T.gi_Book (fun _ _ => rfl)) (pa_cons (pe_gi c_Book__getitem hr (by decide) (pv 0) (pe_ix ix_tup (pv 5) pe_int (fun _ _ => rfl)) T.gi_Book (fun _ _ => rfl)) pa_nil)))))
      (pss_one (ps_if (pt_cmpR op_notNo (pv 6) pe_non (nomark _)) (pss_one (ps_dput (hu_of hr) (pv 2) (pv 5) (pv 6) rfl)) pss_nil))))))
      (pss_one (ps_ret (pe_dcT (hu0 hr) (own := [("pair", 5)]) rfl sc_slacks.nd (pi_list (pe_callB (cr_sortedDT rfl hr.units) (by rfl) T.f_sorted (by decide +kernel) (pa_cons (pv 2) pa_nil))) (blkOk_by (own := [("pair", 5)]) (N := N_slacks) (sc := defScope s_slacks) (by decide +kernel)) (fun _ _ _ _ _ => (pg_name (i := 5) sc_slacks.nd rfl (Or.inl rfl))) (fun _ _ _ _ _ => pts_nil) (fun _ _ _ _ _ => (pv 5)) (fun _ _ _ _ _ => (pe_dget (hu_of hr) (pv 2) (pv 5) (fun _ _ => rfl)))))))), ?_⟩
    walk_at "nk"
    obtain ⟨dx, cal, dd, cl, kvs, o, _⟩ := id X.ex
    walk_at "go"
    refine ⟨_, ms, cs, ds, rfl, X, F.good, fun H1 c ms' pm s1 C1 => ?_⟩
    have F1 := F.perm pm
    walk_at "go"
    intro fd hfd
    walk_at "go"
    intro t ht
    obtain ⟨ntf, ht1⟩ := none_up ht
    have sa : Same H1 (upd (upd H1 fd (.dT [])) t (.tup [.ref c, .ref fd])) := Same.trans' (same_new hfd) (same_new ht)
    have S0 : SlS (upd (upd H1 fd (.dT [])) t (.tup [.ref c, .ref fd])) fd (fun _ => none) 0 := ⟨[], up_old ht upd_same, fun _ => rfl, List.nodup_nil, Nat.le_refl _⟩
    have s2 := Same.trans' s1 sa
    have o2 := s2 _ _ o
    walk_at "go"
    generalize upd (upd H1 fd (.dT [])) t (.tup [.ref c, .ref fd]) = H2 at sa S0 s2 o2 ⊢
    have hfd0 := none_back s1 hfd
    refine ⟨_, ms, cs, ds, rfl, X.same s2, G, fun H3 p s3 hp L3 => ?_⟩
    have hp0 := none_back s2 hp
    obtain ⟨xs, el, al⟩ := id L3
    have npf : p ≠ fd := fun z => by
      obtain ⟨m, e, _⟩ := S0
      rw [z, e] at hp
      cases hp
    have lz : (touchP ds).length ≤ 100 := by
      have h1 := touchP_len ds
      have h2 : ds.length * ds.length ≤ 10 * 10 := Nat.mul_le_mul G.len G.len
      omega
    obtain ⟨m0, e0, _⟩ := id S0
    have e03 := s3 _ _ e0
    refine forL (al.of_mapR.with_mem) (fun d σ H' => (∃ x y z u, σ = [some (.ref b), some (.ref c), some (.ref fd), x, y, z, u]) ∧ Same H1 H' ∧ (∀ x o, x ≠ fd → H3 x = some o → H' x = some o) ∧ SlS H' fd (d.foldl (slStep B) (fun _ => none)) (2 * d.length))
      ⟨⟨_, _, _, _, rfl⟩, Same.trans' sa s3, fun x o _ e => e, S0.same s3 (Nat.zero_le _)⟩ (fun d σ H' q => q.2.2.1 _ _ npf el) (fun d q r x σ H4 e ex hq => ?_) (fun σ H4 hq => ?_)
    · obtain ⟨⟨x1, y1, z1, u1, rfl⟩, s4, k4, S4⟩ := hq
      obtain ⟨⟨tp, rfl, etp, _⟩, hqm⟩ := ex
      obtain ⟨q1, q2⟩ := touchP_mem hqm
      have dlen : d.length ≤ 100 := by rw [e] at lz; simp at lz; omega
      have etp4 := k4 _ _ (fun z => by rw [z, e03] at etp; cases etp) etp
      have etp4' : H4 tp = some (.tup [.str q.1.name, .str q.2.name]) := etp4
      walk_at "go"
      intro t1 ht1
      walk_at "go"
      intro t2 ht2
      walk_at "go"
      intro t3 ht3
      have st : Same H4 (upd (upd (upd H4 t1 (.tup [.str q.1.name, .str q.2.name])) t2 (.tup [.str q.2.name, .str q.1.name])) t3 (.tup [.ref t1, .ref t2])) := Same.trans' (same_new ht1) (Same.trans' (same_new ht2) (same_new ht3))
      have e1 : (upd (upd (upd H4 t1 (.tup [.str q.1.name, .str q.2.name])) t2 (.tup [.str q.2.name, .str q.1.name])) t3 (.tup [.ref t1, .ref t2])) t1 = some (.tup [.str q.1.name, .str q.2.name]) := up_old ht3 (up_old ht2 upd_same)
      have e2 : (upd (upd (upd H4 t1 (.tup [.str q.1.name, .str q.2.name])) t2 (.tup [.str q.2.name, .str q.1.name])) t3 (.tup [.ref t1, .ref t2])) t2 = some (.tup [.str q.2.name, .str q.1.name]) := up_old ht3 upd_same
      have e3 : (upd (upd (upd H4 t1 (.tup [.str q.1.name, .str q.2.name])) t2 (.tup [.str q.2.name, .str q.1.name])) t3 (.tup [.ref t1, .ref t2])) t3 = some (.tup [.ref t1, .ref t2]) := upd_same
      generalize (upd (upd (upd H4 t1 (.tup [.str q.1.name, .str q.2.name])) t2 (.tup [.str q.2.name, .str q.1.name])) t3 (.tup [.ref t1, .ref t2])) = H5 at st e1 e2 e3 ⊢
      have s5 := Same.trans' s4 st
      have k5 : ∀ x o, x ≠ fd → H3 x = some o → H5 x = some o := fun x o n e => st _ _ (k4 _ _ n e)
      have S5 := S4.same st (Nat.le_refl _)
      obtain ⟨m5, ef5, _⟩ := id S5
      have AL : All2 (fun v (z : DealD × DealD) => ∃ tt, v = V.ref tt ∧ H5 tt = some (.tup [.str z.1.name, .str z.2.name]) ∧ z.1 ∈ ds ∧ z.2 ∈ ds) [V.ref t1, V.ref t2] [(q.1, q.2), (q.2, q.1)] := .cons ⟨t1, rfl, e1, q1, q2⟩ (.cons ⟨t2, rfl, e2, q2, q1⟩ .nil)
      walk_at "go"
      refine forT AL (fun d2 σ H' => (∃ z u, σ = [some (.ref b), some (.ref c), some (.ref fd), some (.str q.1.name), some (.str q.2.name), z, u]) ∧ Same H1 H' ∧ (∀ x o, x ≠ fd → H5 x = some o → H' x = some o) ∧ SlS H' fd (d2.foldl (fun g z => putG g (nm2 z) (slB B z.1 z.2)) (d.foldl (slStep B) (fun _ => none))) (2 * d.length + d2.length))
        ⟨⟨_, _, rfl⟩, s5, fun x o _ e => e, S5⟩ (fun d2 σ H' k => k.2.2.1 _ _ (fun z => by rw [z, ef5] at e3; cases e3) e3) (fun d2 z r2 x σ H6 e6 ex k => ?_) (fun σ H6 k => ?_)
      · obtain ⟨⟨z1, u1, rfl⟩, s6, k6, m6, ef6, hl6, nd6, hz6⟩ := k
        obtain ⟨tt, rfl, ett, hz1, hz2⟩ := ex
        have ett6 := k6 _ _ (fun z => by rw [z, ef5] at ett; cases ett) ett
        have X6 := X.same (Same.trans' s1 s6)
        have o6 := (Same.trans' s1 s6) _ _ o
        have d2len : d2.length ≤ 1 := by
          have := congrArg List.length e6
          simp at this
          omega
        walk_at "go"
        refine ⟨_, ms, cs, ds, z.1, rfl, X6, G, hz1, fun v V1 => ?_⟩
        walk_at "go"
        refine ⟨_, ms, cs, ds, z.2, rfl, X6, G, hz2, fun u V2 => ?_⟩
        walk_at "go"
        refine ⟨_, _, _, ms', _, B, z.1, z.2, rfl, C1.same s6, F1, V1, V2, MoD.perm (G.mo _ hz1) pm, MoD.perm (G.mo _ hz2) pm, fun H7 s7 => ?_⟩
        have ef7 := s7 _ _ ef6
        have ett7 := s7 _ _ ett6
        simp only [List.foldl_append, List.foldl_cons, List.foldl_nil]
        have nz6 : m6.length < sizeLine := szl (by omega)
        cases hs : slB B z.1 z.2 with
        | none =>
          walk_at "go"
          exact ⟨⟨_, _, rfl⟩, Same.trans' s6 s7, fun x o n e => s7 _ _ (k6 _ _ n e), m6, ef7, hl6, nd6, by simp; omega⟩
        | some i =>
          rw [show optI (some i) = V.int i from rfl]
          walk_at "go"
          refine ⟨⟨_, _, rfl⟩, fun x o e => up_ne (ne_of_none e hfd) (s7 _ _ (s6 _ _ e)), fun x o n e => up_ne n (s7 _ _ (k6 _ _ n e)), ?_⟩
          have := SlS.put (H := H7) (a := fd) hl6 nd6 hz6 (nm2 z) i
          rw [List.length_append]
          exact this
      · obtain ⟨⟨z1, u1, rfl⟩, s6, k6, S6⟩ := k
        rw [List.foldl_append]
        exact ⟨⟨_, _, _, _, rfl⟩, s6, fun x o n e => k6 _ _ n (k5 _ _ n e), by rw [List.length_append]; exact S6⟩
    · obtain ⟨⟨x1, y1, z1, u1, rfl⟩, s4, k4, m, efd, hl, nd, hz⟩ := hq
      walk_at "go"
      refine go_sortedDT efd (by omega) fun zs q hq al2 => ?_
      have sq := same_new (o := .lst zs) hq
      have pm2 := srtP_perm (m.map (·.1))
      refine dcTL upd_same (al2.mono fun v c h => by obtain ⟨b, e1, e2⟩ := h; exact ⟨b, e1, sq _ _ e2⟩) (fun k => (slG B ds k).getD 0) (by rw [pm2.length_eq, List.length_map]; omega) (pm2.nodup_iff.mpr nd) (fun x k H' hk ex sm => ?_) (fun D H' hD sm eD => ?_)
      · intro Qo Qn ho
        obtain ⟨b1, rfl, eb1⟩ := ex
        have eb2 := sm _ _ eb1
        have ef2 := sm _ _ (sq _ _ efd)
        have lk : m.lookup (k.1, k.2) = some ((slG B ds k).getD 0) := by
          have h1 := lookup_mem.mp (pm2.mem_iff.mp hk)
          have h2 := hl k
          show m.lookup k = _
          rw [h2] at h1 ⊢
          obtain ⟨i, hi⟩ := Option.isSome_iff_exists.mp h1
          show slG B ds k = _
          have hi' : slG B ds k = some i := hi
          rw [hi']
          rfl
        walk_at "go"
        exact ho _ _ ⟨b1, rfl, eb2⟩ (Same.refl' _)
      · refine h _ D _ (Same.trans' s1 (Same.trans' s4 (Same.trans' sq sm))) (none_back s1 (none_back s4 (none_back sq hD))) eD ⟨m.map (·.1), nd, fun k => ?_, rfl⟩ (by rw [List.length_map, pm2.length_eq, List.length_map]; omega)
        rw [lookup_mem, hl]
        exact Iff.rfl
end
end Ld
namespace Ld
open PySem PySem.Spec PyProof.Rows L2
/-! ### a comprehension over a dict's keys, pairs of texts -/
section
variable {γ : Type} {g : TG} {σ : St} {H : Hp} {tt : TT} {te td : TE} {own : List Nat} {Q : VK} {d : Addr} {o : Obj} {m : List (Pair × Int)}
def CKT (g : TG) (tt : TT) (te : TE) (own : List Nat) (σ : St) (Q : VK) : VK := fun x H1 => ∃ d o, x = .ref d ∧ ((∃ kvs, H1 d = some (.frz o (.dK kvs)) ∧ lcK (Itk d o kvs) g tt te own σ Q H1) ∨ ∃ kvs, H1 d = some (.frz o (.dT kvs)) ∧ lcK (Itkt d o kvs) g tt te own σ Q H1)
theorem go_lcK (q : td σ H (CKT g tt te own σ Q)) : tLc (iKeys td) g tt te own σ H Q := q
theorem lcKT (h : H d = some (.frz o (.dT (dP m)))) (hn : m.length ≤ 1000) (out : Pair → Option γ) (S : Hp → V → γ → Prop) (pers : ∀ H H' v c, SameN H H' → S H v c → S H' v c)
    (hs : ∀ b c H', c ∈ m.map (·.1) → H' b = some (.tup [.str c.1, .str c.2]) → Same H H' → LcTurn g tt te own σ H' H' (.ref b) (out c) S)
    (hd : ∀ D H' ys, H D = none → Same H H' → H' D = some (.lst ys) → All2 (S H') ys ((m.map (·.1)).filterMap out) → Q (.ref D) H') : CKT g tt te own σ Q (.ref d) H := by
  refine ⟨d, o, rfl, .inr ⟨_, h, fun D hD => ?_⟩⟩
  have hn' : (dP m).length < sizeLine := by rw [length_dP]; exact szl (by omega)
  refine lc_core' walk_keysT (fun i => ((m.map (·.1))[i]?).bind out) S pers hn' hD (fun H' sm => sm _ _ h) (fun i H' x H2 y => by obtain ⟨rfl, _⟩ := y; exact Same.refl' _) (fun i x H' H2 hi sm y => ?_) (fun H' ys sm eD al => hd D H' ys hD sm eD (by rw [length_dP, ← List.length_map (f := (·.1)), range_out] at al; exact al))
  obtain ⟨rfl, k, v, q, e, rfl, eq⟩ := y
  rw [length_dP] at hi
  have em : (dP m)[i]? = some (kP m[i].1, .int m[i].2) := by
    unfold dP
    rw [List.getElem?_map]
    simp [hi]
  rw [em] at e
  cases e
  have ec : (m.map (·.1))[i]? = some m[i].1 := by simp [hi]
  have := hs q m[i].1 _ (List.mem_of_getElem? ec) eq sm
  rw [show (((m.map (·.1))[i]?).bind out) = out m[i].1 from by rw [ec]; rfl]
  exact this
theorem go_lockE {t : TE} {u : HO} (h : H d = some u) (mu : Mut (some u)) (q : ∀ od, t σ (upd H d (.frz od u)) fun v H' => H' d = some (.frz od u) ∧ Q v (upd H' d u)) : tLockE t σ H Q := ⟨d, u, h, mu, q⟩
end
/-! ### room_by, the safe road of room -/
def earlyO (m : List (Pair × Int)) (x : Str) : Option Int := minO ((m.map (·.1)).filterMap fun c => if c.2 = x then m.lookup c else none)
def lateO (m : List (Pair × Int)) (x : Str) : Option Int := minO ((m.map (·.1)).filterMap fun c => if c.1 = x then m.lookup c else none)
def sp_room_by (K : PySem.W.Frag) (mg : Str → Option Value) : Sp := fun vs H Q _ => ∃ (d : Addr) (m : List (Pair × Int)) (x : Str), vs = [.ref d, .str x] ∧ H d = some (.dT (dP m)) ∧ m.length ≤ 1000 ∧ ∀ H' p, Same H H' → H p = none → H' p = some (.tup [optI (earlyO m x), optI (lateO m x)]) → Q (.ref p) H'
def sp_want_safe (K : PySem.W.Frag) (mg : Str → Option Value) : Sp := fun vs H Q _ => ∃ (b : Addr) (ms : List Str) (cs : List Clause) (ds : List DealD) (B : Str → Str → Int), vs = [.ref b] ∧ BookX K H b ms cs ds ∧ DealsOk ms ds ∧ Fin ms (allC cs ds) B ∧ openP B ds = [] ∧ ∀ H', Same H H' → Q .non H'
def sp_room (K : PySem.W.Frag) (mg : Str → Option Value) : Sp := fun vs H Q _ => ∃ (b : Addr) (ms : List Str) (cs : List Clause) (ds : List DealD) (B : Str → Str → Int) (D : DealD), vs = [.ref b, .str D.name] ∧ BookX K H b ms cs ds ∧ DealsOk ms ds ∧ Fin ms (allC cs ds) B ∧ openP B ds = [] ∧ D ∈ ds ∧ ∀ H' p m, Same H H' → H p = none → SlOk (slG B ds) m → H' p = some (.tup [optI (earlyO m D.name), optI (lateO m D.name)]) → Q (.ref p) H'
section
variable {P : Program} {w : World} {K : PySem.W.Frag} {mg : Str → Option Value} {base : Heap}
def s_room_by : Stmt := top 78
abbrev N_room_by : List Str := ["found", "name", "early", "late", "pair"]
theorem sc_room_by : FnScope N_room_by ["found", "name"] (defScope s_room_by) := C8.fnScope_by (by decide +kernel)
theorem ok_room_by {f : Addr} {fd : FuncData} (T : Tx K mg) (F : DefAt K "room_by" "room_by" s_room_by f fd) (hm : mg "room_by" = some (.ref f)) : Cf P w K mg base 1 "room_by" (sp_room_by K mg) := by
  refine cal_mk F hm sc_room_by (fun vs H Q E => ?_) (fun _ _ _ _ _ _ us hl => match us, hl with | [_, _], _ => rfl) (fun cdv A outer s H vs Q E hr h => ?_)
  · walk_at "ln"
  · obtain ⟨d, m, x, rfl, ed, hz, h⟩ := h
    refine ⟨_, (pss_cons (ps_set (i := 2) sc_room_by.nd rfl (Or.inl rfl) (pe_callBK (cr_minDef rfl hr.units) (by rfl) T.f_min (by decide +kernel) (pa_cons (pe_lock (pe_lc (own := [("pair", 4)]) rfl sc_room_by.nd (pi_keys (pv 0)) (blkOk_by (own := [("pair", 4)]) (N := N_room_by) (sc := defScope s_room_by) (by decide +kernel)) (fun _ _ _ _ _ => (pg_name (i := 4) sc_room_by.nd rfl (Or.inl rfl))) (fun _ _ _ _ _ => (pts_one (pt_cmpR op_eq (pe_ix (ix_tupB (K := K)) (pv 4) pe_int (fun _ _ => rfl)) (pv 1) (nomark _)))) (fun _ _ _ _ _ => (pe_dget (hu_of hr) (pv 0) (pv 4) (fun _ _ => rfl))) )) pa_nil) (pk_cons pe_non pk_nil)))
      (pss_cons (ps_set (i := 3) sc_room_by.nd rfl (Or.inl rfl) (pe_callBK (cr_minDef rfl hr.units) (by rfl) T.f_min (by decide +kernel) (pa_cons (pe_lock (pe_lc (own := [("pair", 4)]) rfl sc_room_by.nd (pi_keys (pv 0)) (blkOk_by (own := [("pair", 4)]) (N := N_room_by) (sc := defScope s_room_by) (by decide +kernel)) (fun _ _ _ _ _ => (pg_name (i := 4) sc_room_by.nd rfl (Or.inl rfl))) (fun _ _ _ _ _ => (pts_one (pt_cmpR op_eq (pe_ix (ix_tupB (K := K)) (pv 4) pe_int (fun _ _ => rfl)) (pv 1) (nomark _)))) (fun _ _ _ _ _ => (pe_dget (hu_of hr) (pv 0) (pv 4) (fun _ _ => rfl))) )) pa_nil) (pk_cons pe_non pk_nil)))
      (pss_one (ps_ret (pe_tup (pa_cons (pv 2) (pa_cons (pv 3) pa_nil))))))), ?_⟩
    walk_at "nk"
    walk_at "go"
    have body : ∀ (H0 : Hp), H0 d = some (.dT (dP m)) → ∀ (out : Pair → Bool) (tq : TT) (o : Obj) (σ0 σ1 : St) (QQ : VK),
        (∀ b (c : Pair) H' (QT : Bool → Hp → Prop), H' b = some (.tup [.str c.1, .str c.2]) → QT (out c) H' → tq ((wipe σ0 [4]).set 4 (some (.ref b))) H' QT) → wipe ((wipe σ0 [4])) [4] = wipe σ0 [4] → ((wipe σ0 [4]))[0]? = some (some (.ref d)) → 4 < (wipe σ0 [4]).length →
        (∀ H2 D, Same H0 H2 → H0 D = none → H2 D = some (.lst (((m.map (·.1)).filterMap fun c => if out c then m.lookup c else none).map V.int)) → QQ (.ref D) H2) →
        CKT (gName 4) tq (tDGet (tVar 0) (tVar 4)) [4] σ0 (fun v H' => H' d = some (.frz o (.dT (dP m))) ∧ QQ v (upd H' d (.dT (dP m)))) (.ref d) (upd H0 d (.frz o (.dT (dP m)))) := by
      intro H0 e0 out tq o σ0 σ1 QQ hq hw h0 h4 hQ
      refine lcKT upd_same hz (fun c => if out c then m.lookup c else none) (fun _ v i => v = .int i) (fun _ _ _ _ _ h => h) (fun b c H' hc eb sm => ?_) (fun D H' ys hD sm eD al => ?_)
      · intro Qo Qn ho hn
        have ed' := sm _ _ (upd_same (H := H0) (a := d) (o := .frz o (.dT (dP m))))
        refine go_gN ⟨?_, hq b c H' _ eb ?_⟩
        · show wipe ((wipe σ0 [4]).set 4 (some (.ref b))) [4] = wipe σ0 [4]
          simp only [wipe, List.set_set]
        · obtain ⟨i, hi⟩ := Option.isSome_iff_exists.mp (lookup_mem.mp hc)
          cases hb : out c with
          | true =>
            refine go_ifT rfl (go_dget (go_var (by rw [List.getElem?_set_ne (by decide)]; exact h0) (go_var (List.getElem?_set_self h4) ?_)))
            refine go_dgetPf (x := c.1) (y := c.2) ed' eb hi ?_
            exact ho i _ _ (by rw [hb]; exact hi) (Same.refl' _) rfl
          | false => exact go_ifF rfl (hn (by rw [hb]; rfl) _ (Same.refl' _))
      · have e := All2.eq_map al
        subst e
        obtain ⟨nD, hD0⟩ := none_up hD
        refine ⟨sm _ _ upd_same, hQ _ D (fun x u e => ?_) hD0 (up_ne nD eD)⟩
        by_cases z : x = d
        · subst z; rw [e0] at e; cases e; exact upd_same
        · exact up_ne z (sm _ _ (up_ne z e))
    refine go_lockE ed True.intro fun od => ?_
    walk_at "go"
    refine go_lcK ?_
    walk_at "go"
    refine body H ed (fun c => decide (c.2 = x)) _ od _ [] (fun v H' => _) (fun b c H' QT eb hq => ?_) rfl rfl (Nat.le_of_ble_eq_true rfl) (fun H2 D2 s2 hD2 e2 => ?_)
    · walk_at "go"
      by_cases z : c.2 = x
      · have z1 : V.str c.2 = V.str x := by rw [z]
        rw [decide_eq_true z] at hq
        walk_at "go"
        rw [decide_eq_true z1]
        exact hq
      · have z1 : ¬ V.str c.2 = V.str x := fun e => z (V.str.inj e)
        rw [decide_eq_false z] at hq
        walk_at "go"
        rw [decide_eq_false z1]
        exact hq
    · have ed2 := s2 _ _ ed
      rw [show ((m.map (·.1)).filterMap fun c => if decide (c.2 = x) then m.lookup c else none) = (m.map (·.1)).filterMap fun c => if c.2 = x then m.lookup c else none from by simp only [decide_eq_true_eq]] at e2
      walk_at "go"
      refine go_lockE ed2 True.intro fun od2 => ?_
      walk_at "go"
      refine go_lcK ?_
      walk_at "go"
      refine body H2 ed2 (fun c => decide (c.1 = x)) _ od2 _ [] (fun v H' => _) (fun b c H' QT eb hq => ?_) rfl rfl (Nat.le_of_ble_eq_true rfl) (fun H3 D3 s3 hD3 e3 => ?_)
      · walk_at "go"
        by_cases z : c.1 = x
        · have z1 : V.str c.1 = V.str x := by rw [z]
          rw [decide_eq_true z] at hq
          walk_at "go"
          rw [decide_eq_true z1]
          exact hq
        · have z1 : ¬ V.str c.1 = V.str x := fun e => z (V.str.inj e)
          rw [decide_eq_false z] at hq
          walk_at "go"
          rw [decide_eq_false z1]
          exact hq
      · rw [show ((m.map (·.1)).filterMap fun c => if decide (c.1 = x) then m.lookup c else none) = (m.map (·.1)).filterMap fun c => if c.1 = x then m.lookup c else none from by simp only [decide_eq_true_eq]] at e3
        walk_at "go"
        intro p hp
        exact h _ _ (Same.trans' s2 (Same.trans' s3 (same_new hp))) (none_back s2 (none_back s3 hp)) upd_same
def s_want_safe : Stmt := top 77
abbrev N_want_safe : List Str := ["book", "pairs"]
theorem sc_want_safe : FnScope N_want_safe ["book"] (defScope s_want_safe) := C8.fnScope_by (by decide +kernel)
theorem ok_want_safe {f : Addr} {fd : FuncData} (T : Tx K mg) (F : DefAt K "want_safe" "want_safe" s_want_safe f fd) (hm : mg "want_safe" = some (.ref f)) (c_open_pairs : Cf P w K mg base 12 "open_pairs" (sp_open_pairs K mg)) : Cf P w K mg base 13 "want_safe" (sp_want_safe K mg) := by
  refine cal_mk F hm sc_want_safe (fun vs H Q E => ?_) (fun _ _ _ _ _ _ us hl => match us, hl with | [_], _ => rfl) (fun cdv A outer s H vs Q E hr h => ?_)
  · walk_at "ln"
  · obtain ⟨b, ms, cs, ds, B, rfl, X, G, F, hop, h⟩ := h
    refine ⟨_, (pss_cons (ps_set (i := 1) sc_want_safe.nd rfl (Or.inl rfl) (pe_f c_open_pairs hr (by decide) (by rfl) (pa_cons (pv 0) pa_nil)))
      (pss_one (ps_if (pt_cmpR (op_neD hr.units) (pv 1) (pe_lst pa_nil) (nomark _)) (pss_one ps_never) pss_nil))), ?_⟩
    walk_at "nk"
    walk_at "go"
    refine ⟨_, ms, cs, ds, B, rfl, X, G, F, fun H1 p s1 hp L => ?_⟩
    rw [hop] at L
    walk_at "go"
    intro q hq
    have sq := same_new (o := .lst []) hq
    refine go_neL encPair (cs := []) (ds := []) (L.same PairV.pers sq) ⟨[], upd_same, .nil⟩ ?_
    walk_at "go"
    exact h _ (Same.trans' s1 sq)
def s_room : Stmt := top 79
abbrev N_room : List Str := ["book", "name"]
theorem sc_room : FnScope N_room ["book", "name"] (defScope s_room) := C8.fnScope_by (by decide +kernel)
theorem ok_room {f : Addr} {fd : FuncData} (T : Tx K mg) (F : DefAt K "room" "room" s_room f fd) (hm : mg "room" = some (.ref f)) (c_Book_want_name : Cm P w K mg base 2 (cBook K) "want_name" (sp_Book_want_name K mg)) (c_want_safe : Cf P w K mg base 13 "want_safe" (sp_want_safe K mg)) (c_room_by : Cf P w K mg base 1 "room_by" (sp_room_by K mg)) (c_slacks : Cf P w K mg base 11 "slacks" (sp_slacks K mg)) : Cf P w K mg base 14 "room" (sp_room K mg) := by
  refine cal_mk F hm sc_room (fun vs H Q E => ?_) (fun _ _ _ _ _ _ us hl => match us, hl with | [_, _], _ => rfl) (fun cdv A outer s H vs Q E hr h => ?_)
  · walk_at "ln"
  · obtain ⟨b, ms, cs, ds, B, D, rfl, X, G, F, hop, hD, h⟩ := h
    refine ⟨_, (pss_cons (ps_expr (pe_m c_Book_want_name hr (by decide) (pv 0) (pa_cons (pv 1) pa_nil)))
      (pss_cons (ps_expr (pe_f c_want_safe hr (by decide) (by rfl) (pa_cons (pv 0) pa_nil)))
      (pss_one (ps_ret (pe_f c_room_by hr (by decide) (by rfl) (pa_cons (pe_f c_slacks hr (by decide) (by rfl) (pa_cons (pv 0) pa_nil)) (pa_cons (pv 1) pa_nil))))))), ?_⟩
    walk_at "nk"
    obtain ⟨dx, cal, dd, cl, kvs, o, _⟩ := id X.ex
    walk_at "go"
    refine ⟨_, ms, cs, ds, D, rfl, X, G, hD, ?_⟩
    walk_at "go"
    refine ⟨_, ms, cs, ds, B, rfl, X, G, F, hop, fun H1 s1 => ?_⟩
    walk_at "go"
    refine ⟨_, ms, cs, ds, B, rfl, X.same s1, G, F, fun H2 p m s2 hp ep so hz => ?_⟩
    walk_at "go"
    exact ⟨_, m, _, rfl, ep, hz, fun H3 q s3 hq eq => h _ _ m (Same.trans' s1 (Same.trans' s2 s3)) (none_back s1 (none_back s2 hq)) so eq⟩
end
end Ld
namespace Ld
open PySem PySem.Spec PyProof.Rows L2
/-! ### pots of digits: what is drawn is any small number -/
theorem erase_map {α β : Type} (f : α → β) : ∀ (l : List α) (j : Nat), (l.map f).eraseIdx j = (l.eraseIdx j).map f
  | [], _ => rfl
  | _ :: _, 0 => rfl
  | x :: l, j + 1 => by simp only [List.map_cons, List.eraseIdx_cons_succ, erase_map f l j]
theorem erase_perm {α : Type} : ∀ (l : List α) (j : Nat) (h : j < l.length), (l[j] :: l.eraseIdx j).Perm l
  | [], _, h => absurd h (Nat.not_lt_zero _)
  | _ :: _, 0, _ => .refl _
  | x :: l, j + 1, h => (List.Perm.swap x (l[j]'(Nat.lt_of_succ_lt_succ h)) _).trans ((erase_perm l j (Nat.lt_of_succ_lt_succ h)).cons x)
def PotAt (H : Hp) (a : Addr) : Prop := ∃ x y : Int, H a = some (.lst [.int x, .int y]) ∧ 0 ≤ y ∧ y < 2147483648
/-- all but the pot at a stays -/
structure OffP (a : Addr) (H H' : Hp) : Prop where
  k : ∀ b o, b ≠ a → H b = some o → H' b = some o
  p : PotAt H' a
theorem OffP.refl {a : Addr} {H : Hp} (p : PotAt H a) : OffP a H H := ⟨fun _ _ _ e => e, p⟩
theorem OffP.trans {a : Addr} {H H1 H2 : Hp} (x : OffP a H H1) (y : OffP a H1 H2) : OffP a H H2 := ⟨fun b o n e => y.k b o n (x.k b o n e), y.p⟩
theorem OffP.same {a : Addr} {H H' : Hp} (p : PotAt H a) (s : Same H H') : OffP a H H' := ⟨fun b o _ e => s b o e, by obtain ⟨x, y, e, h⟩ := p; exact ⟨x, y, s _ _ e, h⟩⟩
theorem OffP.new {a p : Addr} {H H' : Hp} {o : HO} (x : OffP a H H') (h : H' p = none) : OffP a H (upd H' p o) := x.trans (.same x.p (same_new h))
theorem OffP.ne {a b : Addr} {H H' : Hp} {o : HO} (x : OffP a H H') (e : H b = some o) (n : ∀ xs, o ≠ .lst xs) (p : PotAt H a) : H' b = some o := x.k b o (fun z => by obtain ⟨i, j, k, _⟩ := p; rw [z, k] at e; cases e; exact n _ rfl) e
theorem OffP.none {a p : Addr} {H H' : Hp} (x : OffP a H H') (q : PotAt H a) (h : H' p = none) : H p = none := by
  cases e : H p with
  | none => rfl
  | some u =>
    by_cases z : p = a
    · subst z
      obtain ⟨i, j, k, _⟩ := x.p
      rw [k] at h
      cases h
    · rw [x.k _ _ z e] at h
      cases h
def sp_law_pot (K : PySem.W.Frag) (mg : Str → Option Value) : Sp := fun vs H Q _ => ∃ (s : Addr) (xs : List Int) (k : Nat), vs = [.ref s, .int k] ∧ SqL K H s (xs.map V.int) ∧ k < 3 ∧ ∀ p x y, H p = none → 0 ≤ y → y < 2147483648 → Q (.ref p) (upd H p (.lst [.int x, .int y]))
def sp_law_draw (K : PySem.W.Frag) (mg : Str → Option Value) : Sp := fun vs H Q _ => ∃ (a : Addr) (n : Int), vs = [.ref a, .int n] ∧ PotAt H a ∧ 0 < n ∧ n < 1000 ∧ ∀ H' i, 0 ≤ i → i < n → OffP a H H' → Q (.int i) H'
def sp_law_pick (K : PySem.W.Frag) (mg : Str → Option Value) : Sp := fun vs H Q _ => ∃ (a l : Addr) (xs : List V), vs = [.ref a, .ref l] ∧ PotAt H a ∧ H l = some (.lst xs) ∧ a ≠ l ∧ 1 ≤ xs.length ∧ xs.length < 100 ∧ ∀ H' v, v ∈ xs → OffP a H H' → Q v H'
def sp_law_some (K : PySem.W.Frag) (mg : Str → Option Value) : Sp := fun vs H Q _ => ∃ (a l : Addr) (ss : List Str) (n : Nat), vs = [.ref a, .ref l, .int n] ∧ PotAt H a ∧ H l = some (.lst (ss.map V.str)) ∧ ss.Nodup ∧ n ≤ ss.length ∧ ss.length < 100 ∧ ∀ H' p (ts : List Str), ts.Nodup → ts.length = n → (∀ t ∈ ts, t ∈ ss) → OffP a H H' → H p = none → H' p = some (.lst (ts.map V.str)) → Q (.ref p) H'
section
variable {P : Program} {w : World} {K : PySem.W.Frag} {mg : Str → Option Value} {base : Heap}
def s_law_draw : Stmt := top 82
abbrev N_law_draw : List Str := ["_law_pot_here", "_law_many", "_law_digit"]
theorem sc_law_draw : FnScope N_law_draw ["_law_pot_here", "_law_many"] (defScope s_law_draw) := C8.fnScope_by (by decide +kernel)
theorem ok_law_draw {f : Addr} {fd : FuncData} (T : Tx K mg) (F : DefAt K "_law_draw" "_law_draw" s_law_draw f fd) (hm : mg "_law_draw" = some (.ref f)) : Cf P w K mg base 1 "_law_draw" (sp_law_draw K mg) := by
  refine cal_mk F hm sc_law_draw (fun vs H Q E => ?_) (fun _ _ _ _ _ _ us hl => match us, hl with | [_, _], _ => rfl) (fun cdv A outer s H vs Q E hr h => ?_)
  · walk_at "ln"
  · obtain ⟨a, n, rfl, ⟨x, y, ea, hy0, hy1⟩, hn0, hn1, h⟩ := h
    refine ⟨_, (pss_cons (ps_if (pt_cmpR op_gt (pe_ix ix_list (pv 0) pe_int (fun _ _ => rfl)) pe_int (nomark _)) (pss_cons (ps_asg (pe_callB cr_divmod (by rfl) T.f_divmod (by decide +kernel) (pa_cons (pe_ix ix_list (pv 0) pe_int (fun _ _ => rfl)) (pa_cons (pv 1) pa_nil))) (pg_tup (n := 2) rfl (pgs_cons (pg_sub (pv 0) pe_int set_list) (pgs_cons (pg_name (i := 2) sc_law_draw.nd rfl (Or.inl rfl)) pgs_nil))))
      (pss_one (ps_ret (pv 2)))) pss_nil)
      (pss_cons (ps_asg (pe_op op_mod (pe_callTy cr_int1 (by rfl) T.f_int (by decide +kernel) (pa_cons (pe_op op_add (pe_op op_mul (pe_ix ix_list (pv 0) pe_int (fun _ _ => rfl)) pe_int) pe_int) pa_nil)) pe_int) (pg_sub (pv 0) pe_int set_list))
      (pss_one (ps_ret (pe_op op_mod (pe_callTy cr_int1 (by rfl) T.f_int (by decide +kernel) (pa_cons (pe_op op_fdiv (pe_op op_mod (pe_callTy cr_int1 (by rfl) T.f_int (by decide +kernel) (pa_cons (pe_op op_mul (pe_ix ix_list (pv 0) pe_int (fun _ _ => rfl)) (pe_ix ix_list (pv 0) pe_int (fun _ _ => rfl))) pa_nil)) pe_int) pe_int) pa_nil)) (pv 1)))))), ?_⟩
    walk_at "nk"
    walk_at "go"
    by_cases hx : 0 < x
    · walk_at "go"
      refine go_divmod hn0 (by omega) fun p hp => ?_
      have nap := ne_of_none ea hp
      walk_at "go"
      exact h _ _ (Int.emod_nonneg _ (by omega)) (Int.emod_lt_of_pos _ hn0) ⟨fun b o n e => up_ne n (up_old hp e), _, _, upd_same, hy0, hy1⟩
    · walk_at "go"
      have e2 : upd H a (.lst (List.set [V.int x, V.int y] 1 (.int ((y * 39373 + 14033) % 2147483629)))) a = some (.lst [V.int x, .int ((y * 39373 + 14033) % 2147483629)]) := upd_same
      have b0 : 0 ≤ (y * 39373 + 14033) % 2147483629 := Int.emod_nonneg _ (by decide)
      have b1 : (y * 39373 + 14033) % 2147483629 < 2147483629 := Int.emod_lt_of_pos _ (by decide)
      have fr : OffP a H (upd H a (.lst (List.set [V.int x, V.int y] 1 (.int ((y * 39373 + 14033) % 2147483629))))) := ⟨fun b o n e => up_ne n e, _, _, e2, b0, by omega⟩
      generalize (y * 39373 + 14033) % 2147483629 = z at e2 b0 b1 fr ⊢
      walk_at "go"
      exact h _ _ (Int.emod_nonneg _ (by omega)) (Int.emod_lt_of_pos _ hn0) fr
def s_law_pot : Stmt := top 81
abbrev N_law_pot : List Str := ["_law_script", "_law_k", "_law_taken"]
theorem sc_law_pot : FnScope N_law_pot ["_law_script", "_law_k"] (defScope s_law_pot) := C8.fnScope_by (by decide +kernel)
theorem ok_law_pot {f : Addr} {fd : FuncData} (T : Tx K mg) (F : DefAt K "_law_pot" "_law_pot" s_law_pot f fd) (hm : mg "_law_pot" = some (.ref f)) : Cf P w K mg base 1 "_law_pot" (sp_law_pot K mg) := by
  refine cal_mk F hm sc_law_pot (fun vs H Q E => ?_) (fun _ _ _ _ _ _ us hl => match us, hl with | [_, _], _ => rfl) (fun cdv A outer s H vs Q E hr h => ?_)
  · walk_at "ln"
  · obtain ⟨s, xs, k, rfl, es, hk, h⟩ := h
    refine ⟨_, (pss_cons (ps_set (i := 2) sc_law_pot.nd rfl (Or.inl rfl) (pe_op op_add (pe_op op_mul pe_int (pv 1)) pe_int))
      (pss_cons (ps_if (pt_cmpR op_lt (pv 1) (pe_callB cr_len (by rfl) T.f_len (by decide +kernel) (pa_cons (pv 0) pa_nil)) (nomark _)) (pss_one (ps_set (i := 2) sc_law_pot.nd rfl (Or.inl rfl) (pe_callB cr_abs (by rfl) T.f_abs (by decide +kernel) (pa_cons (pe_ix ix_list (pv 0) (pv 1) (fun _ _ => rfl)) pa_nil)))) pss_nil)
      (pss_one (ps_ret (pe_lst (pa_cons (pe_callB (cr_max2 rfl) (by rfl) T.f_max (by decide +kernel) (pa_cons pe_int (pa_cons (pe_op op_sub (pv 2) (pe_op op_pow pe_int pe_int)) pa_nil))) (pa_cons (pe_op op_add (pe_op op_mod (pe_op op_mul (pe_callTy cr_int1 (by rfl) T.f_int (by decide +kernel) (pa_cons (pe_op op_add (pe_op op_mod (pe_callTy cr_int1 (by rfl) T.f_int (by decide +kernel) (pa_cons (pv 2) pa_nil)) pe_int) pe_int) pa_nil)) (pe_op op_pow (pe_op op_add (pe_op op_mul pe_int (pv 1)) pe_int) pe_int)) pe_int) pe_int) pa_nil))))))), ?_⟩
    walk_at "nk"
    walk_at "go"
    refine ⟨s, _, rfl, .inl es, ?_⟩
    walk_at "go"
    by_cases hk2 : k < xs.length
    · have hat : atI (xs.map V.int) (k : Int) = some (.int xs[k]) := by rw [atI_nat]; simp [hk2]
      walk_at "go"
      refine ⟨s, _, _, _, rfl, rfl, es, hat, ?_⟩
      walk_at "go"
      exact fun p hp => h p _ _ hp (emod_b _).1 (emod_b _).2
    · walk_at "go"
      exact fun p hp => h p _ _ hp (emod_b _).1 (emod_b _).2
def s_law_pick : Stmt := top 83
abbrev N_law_pick : List Str := ["_law_pot_here", "_law_some_here"]
theorem sc_law_pick : FnScope N_law_pick ["_law_pot_here", "_law_some_here"] (defScope s_law_pick) := C8.fnScope_by (by decide +kernel)
theorem ok_law_pick {f : Addr} {fd : FuncData} (T : Tx K mg) (F : DefAt K "_law_pick" "_law_pick" s_law_pick f fd) (hm : mg "_law_pick" = some (.ref f)) (c_law_draw : Cf P w K mg base 1 "_law_draw" (sp_law_draw K mg)) : Cf P w K mg base 2 "_law_pick" (sp_law_pick K mg) := by
  refine cal_mk F hm sc_law_pick (fun vs H Q E => ?_) (fun _ _ _ _ _ _ us hl => match us, hl with | [_, _], _ => rfl) (fun cdv A outer s H vs Q E hr h => ?_)
  · walk_at "ln"
  · obtain ⟨a, l, xs, rfl, pa, el, nal, h1, h2, h⟩ := h
    refine ⟨_, (pss_one (ps_ret (pe_ix ix_list (pv 1) (pe_f c_law_draw hr (by decide) (by rfl) (pa_cons (pv 0) (pa_cons (pe_callB cr_len (by rfl) T.f_len (by decide +kernel) (pa_cons (pv 1) pa_nil)) pa_nil))) (fun _ _ => rfl)))), ?_⟩
    walk_at "nk"
    walk_at "go"
    refine ⟨a, _, rfl, pa, by omega, by omega, fun H1 i hi0 hi1 f1 => ?_⟩
    have el1 := f1.k _ _ nal.symm el
    obtain ⟨n, rfl⟩ := Int.eq_ofNat_of_zero_le hi0
    have hn : n < xs.length := by omega
    refine go_ixL (v := xs[n]) el1 ?_ ?_
    · rw [atI_nat]; simp [hn]
    · exact h _ _ (List.getElem_mem hn) f1
def s_law_some : Stmt := top 84
abbrev N_law_some : List Str := ["_law_pot_here", "_law_pool", "_law_many", "_law_rest", "_law_found", "_law_turn"]
theorem sc_law_some : FnScope N_law_some ["_law_pot_here", "_law_pool", "_law_many"] (defScope s_law_some) := C8.fnScope_by (by decide +kernel)
theorem ok_law_some {f : Addr} {fd : FuncData} (T : Tx K mg) (F : DefAt K "_law_some" "_law_some" s_law_some f fd) (hm : mg "_law_some" = some (.ref f)) (c_law_draw : Cf P w K mg base 1 "_law_draw" (sp_law_draw K mg)) : Cf P w K mg base 2 "_law_some" (sp_law_some K mg) := by
  refine cal_mk F hm sc_law_some (fun vs H Q E => ?_) (fun _ _ _ _ _ _ us hl => match us, hl with | [_, _, _], _ => rfl) (fun cdv A outer s H vs Q E hr h => ?_)
  · walk_at "ln"
  · obtain ⟨a, l, ss, n, rfl, pa, el, nd, hn, hz, h⟩ := h
    refine ⟨_, (pss_cons (ps_par (i := 3) (j := 4) rfl sc_law_some.nd rfl rfl (by decide) rfl rfl (pa_cons (pe_callTy cr_list (by rfl) T.f_list (by decide +kernel) (pa_cons (pv 1) pa_nil)) (pa_cons (pe_lst pa_nil) pa_nil)) (by rfl))
      (pss_cons (ps_for PassesOwn.never rfl (pi_range1 (by rfl) T.f_range (pa_cons (pv 2) pa_nil)) (pg_name (i := 5) sc_law_some.nd rfl (Or.inl rfl)) (pss_one (ps_expr (pe_bm PySem.F.plainAttrs_list PySem.F.slot_list_append PySem.F.type_list_append mt_append (pv 4) (pa_cons (pe_bm PySem.F.plainAttrs_list PySem.F.slot_list_pop PySem.F.type_list_pop mt_popAt (pv 3) (pa_cons (pe_f c_law_draw hr (by decide) (by rfl) (pa_cons (pv 0) (pa_cons (pe_callB cr_len (by rfl) T.f_len (by decide +kernel) (pa_cons (pv 3) pa_nil)) pa_nil))) pa_nil)) pa_nil)))))
      (pss_one (ps_ret (pv 4))))), ?_⟩
    walk_at "nk"
    walk_at "go"
    intro r hr
    walk_at "go"
    intro f hf
    obtain ⟨nfr, hf0⟩ := none_up hf
    have nar : a ≠ r := by obtain ⟨x, y, e, _⟩ := pa; exact ne_of_none e hr
    have naf : a ≠ f := by obtain ⟨x, y, e, _⟩ := pa; exact ne_of_none e hf0
    have f0 : OffP a H (upd (upd H r (.lst (ss.map V.str))) f (.lst [])) := (OffP.refl pa).new hr |>.new hf
    walk_at "go"
    refine forR (n := n) rfl (by omega) (fun i σ H' => ∃ t rest found, σ = [some (.ref a), some (.ref l), some (.int n), some (.ref r), some (.ref f), t] ∧ OffP a H H' ∧ H' r = some (.lst (rest.map V.str)) ∧ H' f = some (.lst (found.map V.str)) ∧ found.length = i ∧ (found ++ rest).Perm ss)
      ⟨none, ss, [], rfl, f0, up_old hf upd_same, upd_same, rfl, .refl _⟩ (fun i σ H1 hi hp => ?_) (fun σ H1 hp => ?_)
    · obtain ⟨t, rest, found, rfl, f1, er, ef, hl, pm⟩ := hp
      have pl := pm.length_eq
      rw [List.length_append] at pl
      have lr : 0 < rest.length := by omega
      have lrz : rest.length < 100 := by omega
      walk_at "go"
      refine ⟨a, _, rfl, f1.p, by rw [List.length_map]; omega, by rw [List.length_map]; omega, fun H2 j hj0 hj1 f2 => ?_⟩
      rw [List.length_map] at hj1
      obtain ⟨j, rfl⟩ := Int.eq_ofNat_of_zero_le hj0
      have hj : j < rest.length := by omega
      have er2 := f2.k _ _ nar.symm er
      have ef2 := f2.k _ _ naf.symm ef
      walk_at "go"
      refine ⟨r, _, j, j, .str rest[j], rfl, rfl, er2, by omega, by omega, ?_, by simp [hj], ?_⟩
      · have k : ¬ (j : Int) < 0 := by omega
        unfold seqIndex?
        simp [hj, k]
      · have hz2 : (found.map V.str).length < sizeLine := by rw [List.length_map]; exact szl (by omega)
        walk_at "go"
        refine ⟨_, rest.eraseIdx j, found ++ [rest[j]], rfl, ?_, ?_, ?_, by simp [hl], ?_⟩
        · exact ⟨fun b o n e => up_ne (ne_of_none e hf0) (up_ne (ne_of_none e hr) (f2.k _ _ n (f1.k _ _ n e))), by obtain ⟨x, y, e, h⟩ := f2.p; exact ⟨x, y, up_ne naf (up_ne nar e), h⟩⟩
        · rw [upd_ne nfr.symm, upd_same, erase_map]
        · rw [upd_same, List.map_append]; rfl
        · refine .trans ?_ pm
          rw [List.append_assoc]
          exact List.Perm.append_left _ (erase_perm rest j hj)
    · obtain ⟨t, rest, found, rfl, f1, er, ef, hl, pm⟩ := hp
      walk_at "go"
      have nd2 := pm.nodup_iff.mpr nd
      rw [List.nodup_append] at nd2
      exact h _ f found nd2.1 hl (fun t ht => pm.mem_iff.mp (List.mem_append_left _ ht)) f1 hf0 ef
end
end Ld
namespace Ld
open PySem PySem.Spec PyProof.Rows L2
/-! ### charts -/
def phi (φ : Str → Int) : Str → Int := fun s => if s = dayS then 0 else φ s
structure ChartD where
  tags : List Str
  φ : Str → Int
  rules : List Clause
def spotsL (tags : List Str) (φ : Str → Int) : List (Str × Int) := (dayS, 0) :: tags.map fun t => (t, φ t)
structure ChartX (K : PySem.W.Frag) (H : Hp) (c pt ps pr : Addr) (C : ChartD) : Prop where
  o : H c = some (.dK [(.inr "tags", .ref pt), (.inr "spots", .ref ps), (.inr "rules", .ref pr)])
  t : H pt = some (.lst (C.tags.map V.str))
  s : H ps = some (.dK (dI (spotsL C.tags C.φ)))
  r : LAt ClV H pr C.rules
structure ChartOk (C : ChartD) (wide : Int) : Prop where
  nm : ∀ t ∈ C.tags, NameS t
  nd : C.tags.Nodup
  lo : 1 ≤ C.tags.length
  hi : C.tags.length ≤ 2
  sp : ∀ t ∈ C.tags, 0 ≤ C.φ t ∧ C.φ t < wide
  cl : ∀ c ∈ C.rules, c.1 ∈ C.tags ++ [dayS] ∧ c.2.1 ∈ C.tags ++ [dayS] ∧ c.1 ≠ c.2.1 ∧ phi C.φ c.1 ≤ phi C.φ c.2.1 + c.2.2
  cn : C.rules.Nodup
theorem lookup_spots {tags : List Str} {φ : Str → Int} (nm : ∀ t ∈ tags, NameS t) {s : Str} (h : s ∈ tags ++ [dayS]) : (spotsL tags φ).lookup s = some (phi φ s) := by
  unfold spotsL phi
  by_cases e : s = dayS
  · subst e
    rw [List.lookup_cons_self, if_pos rfl]
  · rw [List.lookup_cons, beq_eq_false_iff_ne.mpr e, if_neg e]
    have : s ∈ tags := by
      rcases List.mem_append.mp h with z | z
      · exact z
      · rw [List.mem_singleton] at z; exact (e z).elim
    exact lookup_dmap φ this
theorem spots_put {d : List Str} {φ : Str → Int} {t : Str} (ht : NameS t) (hn : ¬ t ∈ d) (i : Int) : put (spotsL d φ) t i = spotsL (d ++ [t]) (updD φ t i) := by
  have e : (spotsL d φ).any (fun p => decide (p.1 = t)) = false := by
    rw [List.any_eq_false]
    intro p hp
    unfold spotsL at hp
    rcases List.mem_cons.mp hp with z | z
    · rw [z]; simp; exact fun e => ht.2.2.2 e.symm
    · obtain ⟨s, hs, rfl⟩ := List.mem_map.mp z
      simp
      rintro rfl
      exact hn hs
  unfold put
  rw [if_neg (by rw [e]; decide)]
  unfold spotsL
  rw [List.map_append, List.cons_append]
  congr 1
  congr 1
  · apply List.map_congr_left
    intro s hs
    have : s ≠ t := fun z => hn (z ▸ hs)
    simp [updD, this]
  · simp [updD]
def pool8 : List Str := ["m", "a", "show", "zzzzzz", "b", "x", "days", "first"]
theorem name_by {s : Str} (h : (decide (1 ≤ s.length) && decide (s.length ≤ 6) && s.cps.toList.all (fun c => LETS.cps.toList.contains c) && decide (s ≠ dayS)) = true) : NameS s := by
  simp only [Bool.and_eq_true, decide_eq_true_eq, List.all_eq_true, List.contains_iff_mem] at h
  obtain ⟨⟨⟨h1, h2⟩, h3⟩, h4⟩ := h
  exact ⟨h1, h2, h3, h4⟩
theorem names_by {ss : List Str} (h : (ss.all fun s => (decide (1 ≤ s.length) && decide (s.length ≤ 6) && s.cps.toList.all (fun c => LETS.cps.toList.contains c) && decide (s ≠ dayS))) = true) : ∀ s ∈ ss, NameS s := fun s hs => name_by (List.all_eq_true.mp h s hs)
theorem pool8_nm : ∀ s ∈ pool8, NameS s := names_by (by decide +kernel)
theorem pool8_nd : pool8.Nodup := by decide +kernel
theorem nodup_day {tags : List Str} (nm : ∀ t ∈ tags, NameS t) (nd : tags.Nodup) : (tags ++ [dayS]).Nodup := by
  rw [List.nodup_append]
  exact ⟨nd, by simp, fun a ha b hb => by rintro rfl; rw [List.mem_singleton] at hb; exact (nm _ ha).2.2.2 hb⟩
theorem ClV.offP {a : Addr} {H H' : Hp} {v : V} {c : Clause} (h : ClV H v c) (p : PotAt H a) (f : OffP a H H') : ClV H' v c := by
  obtain ⟨q, e1, e2, e3⟩ := h
  exact ⟨q, e1, f.ne e2 (fun xs z => by cases z) p, e3⟩
theorem LAt.offP {a l : Addr} {H H' : Hp} {cs : List Clause} (h : LAt ClV H l cs) (n : l ≠ a) (p : PotAt H a) (f : OffP a H H') : LAt ClV H' l cs := by
  obtain ⟨vs, e, al⟩ := h
  exact ⟨vs, f.k _ _ n e, al.mono fun v c q => q.offP p f⟩
def sp_law_chart (K : PySem.W.Frag) (mg : Str → Option Value) : Sp := fun vs H Q _ => ∃ (a : Addr) (many wide more : Int), vs = [.ref a, .int many, .int wide, .int more] ∧ PotAt H a ∧ 1 ≤ many ∧ many ≤ 2 ∧ 1 ≤ wide ∧ wide < 100 ∧ 0 ≤ more ∧ more ≤ 2 ∧
  ∀ H' c pt ps pr C, OffP a H H' → H c = none → H pt = none → H ps = none → H pr = none → ChartX K H' c pt ps pr C → ChartOk C wide → C.rules.length ≤ 2 → Q (.ref c) H'
section
variable {P : Program} {w : World} {K : PySem.W.Frag} {mg : Str → Option Value} {base : Heap}
def s_law_chart : Stmt := top 85
abbrev N_law_chart : List Str := ["_law_pot_here", "_law_many", "_law_wide", "_law_more", "_law_tags", "_law_chart_here", "_law_tag", "_law_turn", "_law_here", "_law_there", "_law_gap"]
theorem sc_law_chart : FnScope N_law_chart ["_law_pot_here", "_law_many", "_law_wide", "_law_more"] (defScope s_law_chart) := C8.fnScope_by (by decide +kernel)
theorem ok_law_chart {f : Addr} {fd : FuncData} (T : Tx K mg) (F : DefAt K "_law_chart" "_law_chart" s_law_chart f fd) (hm : mg "_law_chart" = some (.ref f)) (c_law_some : Cf P w K mg base 2 "_law_some" (sp_law_some K mg)) (c_law_draw : Cf P w K mg base 1 "_law_draw" (sp_law_draw K mg)) (c_law_pick : Cf P w K mg base 2 "_law_pick" (sp_law_pick K mg)) : Cf P w K mg base 3 "_law_chart" (sp_law_chart K mg) := by
  refine cal_mk F hm sc_law_chart (fun vs H Q E => ?_) (fun _ _ _ _ _ _ us hl => match us, hl with | [_, _, _, _], _ => rfl) (fun cdv A outer s H vs Q E hr h => ?_)
  · walk_at "ln"
  · obtain ⟨a, many, wide, more, rfl, pa, hm1, hm2, hw1, hw2, hr1, hr2, h⟩ := h
    refine ⟨_, (pss_cons (ps_set (i := 4) sc_law_chart.nd rfl (Or.inl rfl) (pe_f c_law_some hr (by decide) (by rfl) (pa_cons (pv 0) (pa_cons (pe_lst (pa_cons pe_str (pa_cons pe_str (pa_cons pe_str (pa_cons pe_str (pa_cons pe_str (pa_cons pe_str (pa_cons pe_str (pa_cons pe_str pa_nil))))))))) (pa_cons (pv 1) pa_nil)))))
      (pss_cons (ps_set (i := 5) sc_law_chart.nd rfl (Or.inl rfl) (pe_disp (pps_cons pe_str (pv 4) (pps_cons pe_str (pe_disp (pps_cons pe_str pe_int pps_nil) (by rfl) (by rfl) (fun z => by cases z) (by decide)) (pps_cons pe_str (pe_lst pa_nil) pps_nil))) (by rfl) (by rfl) (fun z => by cases z) (by decide)))
      (pss_cons (ps_for PassesOwn.never rfl (pi_list (pv 4)) (pg_name (i := 6) sc_law_chart.nd rfl (Or.inl rfl)) (pss_one (ps_dput (hu_of hr) (pe_dget (hu_of hr) (pv 5) pe_str (fun _ _ => rfl)) (pv 6) (pe_f c_law_draw hr (by decide) (by rfl) (pa_cons (pv 0) (pa_cons (pv 2) pa_nil))) rfl)))
      (pss_cons (ps_for PassesOwn.never rfl (pi_range1 (by rfl) T.f_range (pa_cons (pe_ifExp (pt_cmpR op_gt (pv 1) pe_int (nomark _)) (pv 3) pe_int) pa_nil)) (pg_name (i := 7) sc_law_chart.nd rfl (Or.inl rfl)) (pss_cons (ps_asg (pe_f c_law_some hr (by decide) (by rfl) (pa_cons (pv 0) (pa_cons (pe_op op_cat (pv 4) (pe_lst (pa_cons pe_str pa_nil))) (pa_cons pe_int pa_nil)))) (pg_unl (n := 2) rfl (pgs_cons (pg_name (i := 8) sc_law_chart.nd rfl (Or.inl rfl)) (pgs_cons (pg_name (i := 9) sc_law_chart.nd rfl (Or.inl rfl)) pgs_nil))))
      (pss_cons (ps_set (i := 10) sc_law_chart.nd rfl (Or.inl rfl) (pe_op op_add (pe_op op_sub (pe_dget (hu_of hr) (pe_dget (hu_of hr) (pv 5) pe_str (fun _ _ => rfl)) (pv 8) (fun _ _ => rfl)) (pe_dget (hu_of hr) (pe_dget (hu_of hr) (pv 5) pe_str (fun _ _ => rfl)) (pv 9) (fun _ _ => rfl))) (pe_f c_law_pick hr (by decide) (by rfl) (pa_cons (pv 0) (pa_cons (pe_lst (pa_cons pe_int (pa_cons pe_int (pa_cons pe_int (pa_cons pe_int (pa_cons (pv 2) pa_nil)))))) pa_nil)))))
      (pss_one (ps_if (pt_cmpR (op_notInD (hu65 hr)) (pe_tup (pa_cons (pv 8) (pa_cons (pv 9) (pa_cons (pv 10) pa_nil)))) (pe_dget (hu_of hr) (pv 5) pe_str (fun _ _ => rfl)) (by rfl)) (pss_one (ps_expr (pe_bm PySem.F.plainAttrs_list PySem.F.slot_list_append PySem.F.type_list_append mt_append (pe_dget (hu_of hr) (pv 5) pe_str (fun _ _ => rfl)) (pa_cons (pe_tup (pa_cons (pv 8) (pa_cons (pv 9) (pa_cons (pv 10) pa_nil)))) pa_nil)))) pss_nil)))))
      (pss_one (ps_ret (pv 5))))))), ?_⟩
    walk_at "nk"
    walk_at "go"
    intro p8 hp8
    have f8 : OffP a H (upd H p8 (.lst [V.str "m", V.str "a", V.str "show", V.str "zzzzzz", V.str "b", V.str "x", V.str "days", V.str "first"])) := (OffP.refl pa).new hp8
    obtain ⟨many, rfl⟩ := Int.eq_ofNat_of_zero_le (show 0 ≤ many by omega)
    walk_at "go"
    refine ⟨a, p8, pool8, many, rfl, f8.p, upd_same, pool8_nd, by show many ≤ 8; omega, by decide, fun H1 pt tags nd hl hin f1 hpt e1 => ?_⟩
    have nm : ∀ t ∈ tags, NameS t := fun t ht => pool8_nm t (hin t ht)
    have f01 := f8.trans f1
    have hpt0 : H pt = none := (none_up hpt).2
    walk_at "go"
    intro c hc
    walk_at "go"
    intro ps hps
    walk_at "go"
    refine ⟨upd_same, [(.inr "day", .int 0)], rfl, by simp, ?_⟩
    walk_at "go"
    intro pr hpr
    walk_at "go"
    obtain ⟨npc, hps1⟩ := none_up hps
    obtain ⟨nrs, hpr⟩ := none_up hpr
    obtain ⟨_, hpr⟩ := none_up hpr
    obtain ⟨nrc, hpr1⟩ := none_up hpr
    refine ⟨by walk_at "hp", [(.inr "tags", .ref pt), (.inr "spots", .ref ps), (.inr "rules", .ref pr)], rfl, by simp, ?_⟩
    walk_at "go"
    have npt : pt ≠ c := ne_of_none e1 hc
    have npr : pt ≠ pr := ne_of_none e1 hpr1
    have nps : pt ≠ ps := ne_of_none e1 hps1
    obtain ⟨x1, y1, ea1, _⟩ := id f1.p
    have nac : a ≠ c := ne_of_none ea1 hc
    have nas : a ≠ ps := ne_of_none ea1 hps1
    have nar : a ≠ pr := ne_of_none ea1 hpr1
    have hc0 : H c = none := f01.none pa hc
    have nat : a ≠ pt := by obtain ⟨x, y, e, _⟩ := pa; exact ne_of_none e hpt0
    have hps0 : H ps = none := f01.none pa hps1
    have hpr0 : H pr = none := f01.none pa hpr1
    generalize hE : upd _ c (.dK (mergeK [] [(.inr "tags", .ref pt), (.inr "spots", .ref ps), (.inr "rules", .ref pr)])) = H2
    have k2 : ∀ b o, b ≠ c → b ≠ ps → b ≠ pr → H1 b = some o → H2 b = some o := fun b o n1 n2 n3 e => by rw [← hE]; exact up_ne n1 (up_ne n3 (up_ne n2 (up_ne n2 (up_ne n1 e))))
    have c2 : H2 c = some (.dK [(.inr "tags", .ref pt), (.inr "spots", .ref ps), (.inr "rules", .ref pr)]) := by rw [← hE]; exact upd_same
    have s2 : H2 ps = some (.dK (dI (spotsL [] (fun _ => 0)))) := by rw [← hE]; exact up_ne npc (up_ne nrs.symm upd_same)
    have r2 : H2 pr = some (.lst []) := by rw [← hE]; exact up_ne nrc upd_same
    have t2 := k2 _ _ npt nps npr e1
    have f2 : OffP a H H2 := ⟨fun b o n e => k2 b o (ne_of_none e hc0) (ne_of_none e hps0) (ne_of_none e hpr0) (f01.k b o n e), _, _, k2 _ _ nac nas nar ea1, by assumption⟩
    clear hE
    refine forL (All2.raw V.str tags) (fun d σ H' => ∃ x φ, σ = [some (.ref a), some (.int many), some (.int wide), some (.int more), some (.ref pt), some (.ref c), x, none, none, none, none] ∧ OffP a H H' ∧ H' c = some (.dK [(.inr "tags", .ref pt), (.inr "spots", .ref ps), (.inr "rules", .ref pr)]) ∧ H' pt = some (.lst (tags.map V.str)) ∧ H' ps = some (.dK (dI (spotsL d φ))) ∧ H' pr = some (.lst []) ∧ ∀ t ∈ d, 0 ≤ φ t ∧ φ t < wide)
      ⟨_, fun _ => 0, rfl, f2, c2, t2, s2, r2, fun t ht => by cases ht⟩ (fun d σ H' p => by obtain ⟨_, _, _, _, _, p, _⟩ := p; exact p) (fun d t r x σ H3 e ex hp => ?_) (fun σ H3 hp => ?_)
    · obtain ⟨x, φ, rfl, f3, c3, t3, s3, r3, hφ⟩ := hp
      subst ex
      walk_at "go"
      refine ⟨a, _, rfl, f3.p, by omega, by omega, fun H4 i hi0 hi1 f4 => ?_⟩
      have nt : NameS t := nm t (by simp [e])
      have ntd : ¬ t ∈ d := by
        rw [e, List.nodup_append] at nd
        exact fun z => nd.2.2 t z t (by simp) rfl
      have dlen : d.length ≤ 1 := by have := congrArg List.length e; simp at this; omega
      have c4 := f4.k _ _ nac.symm c3
      have s4 := f4.k _ _ nas.symm s3
      have zs : (spotsL d φ).length < sizeLine := by unfold spotsL; simp; exact szl (by omega)
      walk_at "go"
      rw [spots_put nt ntd]
      refine ⟨_, updD φ t i, rfl, ⟨fun b o n e => up_ne (ne_of_none e hps0) (f4.k _ _ n (f3.k _ _ n e)), by obtain ⟨x, y, e, h⟩ := f4.p; exact ⟨x, y, up_ne nas e, h⟩⟩, up_ne npc.symm c4, up_ne nps (f4.k _ _ nat.symm t3), upd_same, up_ne nrs (f4.k _ _ nar.symm r3), fun s hs => ?_⟩
      by_cases z : s = t
      · subst z; simp [updD, hi0, hi1]
      · have : s ∈ d := by
          rcases List.mem_append.mp hs with y | y
          · exact y
          · rw [List.mem_singleton] at y; exact (z y).elim
        simp [updD, z]
        exact hφ s this
    · obtain ⟨x, φ, rfl, f3, c3, t3, s3, r3, hφ⟩ := hp
      have zm : V.int many ≠ .int 0 := by intro z; have := V.int.inj z; omega
      obtain ⟨more, rfl⟩ := Int.eq_ofNat_of_zero_le hr1
      walk_at "go"
      refine forR (n := more) rfl (by omega) (fun i σ H' => ∃ t h th g cs, σ = [some (.ref a), some (.int many), some (.int wide), some (.int more), some (.ref pt), some (.ref c), x, t, h, th, g] ∧ OffP a H H' ∧ H' c = some (.dK [(.inr "tags", .ref pt), (.inr "spots", .ref ps), (.inr "rules", .ref pr)]) ∧ H' pt = some (.lst (tags.map V.str)) ∧ H' ps = some (.dK (dI (spotsL tags φ))) ∧ LAt ClV H' pr cs ∧ cs.length ≤ i ∧ cs.Nodup ∧ ∀ c ∈ cs, c.1 ∈ tags ++ [dayS] ∧ c.2.1 ∈ tags ++ [dayS] ∧ c.1 ≠ c.2.1 ∧ phi φ c.1 ≤ phi φ c.2.1 + c.2.2)
        ⟨_, _, _, _, [], rfl, f3, c3, t3, s3, ⟨[], r3, .nil⟩, Nat.zero_le _, List.nodup_nil, fun c hc => by cases hc⟩ (fun i σ H4 hi hp => ?_) (fun σ H4 hp => ?_)
      · obtain ⟨t, hh, th, g, cs, rfl, f4, c4, t4, s4, L4, hl4, nd4, hc4⟩ := hp
        walk_at "go"
        intro p5 hp5
        walk_at "go"
        intro p6 hp6
        walk_at "go"
        have f6 := (f4.new (o := .lst [V.str "day"]) hp5).new (o := .lst (tags.map V.str ++ [V.str "day"])) hp6
        have g6 : OffP a H4 _ := ((OffP.refl f4.p).new (o := .lst [V.str "day"]) hp5).new (o := .lst (tags.map V.str ++ [V.str "day"])) hp6
        refine ⟨a, p6, tags ++ [dayS], 2, rfl, f6.p, by rw [upd_same, List.map_append]; rfl, nodup_day nm nd, by simp; omega, by simp; omega, fun H7 p7 ts nd7 hl7 hin7 f7 hp7 e7 => ?_⟩
        have g7 := g6.trans f7
        have f47 := f4.trans g7
        match ts, hl7, hin7, nd7, e7 with
        | [u, v], _, hin7, nd7, e7 =>
          have hu : u ∈ tags ++ [dayS] := hin7 u (by simp)
          have hv : v ∈ tags ++ [dayS] := hin7 v (by simp)
          have huv : u ≠ v := by simp at nd7; exact nd7
          have lu := lookup_spots (φ := φ) nm hu
          have lv := lookup_spots (φ := φ) nm hv
          have c7 := g7.k _ _ nac.symm c4
          have t7 := g7.k _ _ nat.symm t4
          have s7 := g7.k _ _ nas.symm s4
          have L7 := L4.offP nar.symm f4.p g7
          have e7' : H7 p7 = some (.lst [V.str u, V.str v]) := e7
          walk_at "go"
          intro p8 hp8
          walk_at "go"
          have g8 : OffP a H7 (upd H7 p8 (.lst [V.int 0, V.int 0, V.int 1, V.int 2, V.int wide])) := (OffP.refl f7.p).new hp8
          have nap8 : a ≠ p8 := by obtain ⟨x, y, e, _⟩ := f7.p; exact ne_of_none e hp8
          refine ⟨a, p8, _, rfl, g8.p, upd_same, nap8, by simp, by simp, fun H9 w hw f9 => ?_⟩
          have g9 := g8.trans f9
          obtain ⟨gg, hg0, rfl⟩ : ∃ g : Int, 0 ≤ g ∧ w = .int g := by
            simp only [List.mem_cons, List.not_mem_nil, or_false] at hw
            rcases hw with rfl | rfl | rfl | rfl | rfl
            · exact ⟨0, by decide, rfl⟩
            · exact ⟨0, by decide, rfl⟩
            · exact ⟨1, by decide, rfl⟩
            · exact ⟨2, by decide, rfl⟩
            · exact ⟨wide, by omega, rfl⟩
          have c9 := g9.k _ _ nac.symm c7
          have t9 := g9.k _ _ nat.symm t7
          have s9 := g9.k _ _ nas.symm s7
          have L9 := L7.offP nar.symm f7.p g9
          have f49 := f47.trans g9
          have hle : phi φ u ≤ phi φ v + (phi φ u - phi φ v + gg) := by omega
          walk_at "go"
          generalize phi φ u - phi φ v + gg = gap at hle ⊢
          intro p10 hp10
          have s10 := same_new (o := .tup [V.str u, V.str v, V.int gap]) hp10
          have V10 : ClV (upd H9 p10 (.tup [V.str u, V.str v, V.int gap])) (.ref p10) (u, v, gap) := ⟨p10, rfl, upd_same, (mom_of nm hu).ok, (mom_of nm hv).ok⟩
          have c10 := s10 _ _ c9
          have L10 := L9.same ClV.pers s10
          walk_at "go"
          refine go_niD encCl V10 L10 ?_
          have f10 : OffP a H _ := f49.trans (.same f9.p s10)
          by_cases k : (u, v, gap) ∈ cs
          · walk_at "go"
            exact ⟨_, _, _, _, cs, rfl, f10, c10, s10 _ _ t9, s10 _ _ s9, L10, by omega, nd4, hc4⟩
          · obtain ⟨ws, ew, aw⟩ := id L10
            have lw := aw.len
            have hzw : ws.length < sizeLine := szl (by omega)
            walk_at "go"
            intro p11 hp11
            have s11 := same_new (o := .tup [V.str u, V.str v, V.int gap]) hp11
            have ew11 := s11 _ _ ew
            walk_at "go"
            have hpr11 : ∀ b o, b ≠ a → H b = some o → b ≠ pr := fun b o _ e => ne_of_none e hpr0
            have pn := SameN.lst (ys := ws ++ [.ref p11]) ew11
            refine ⟨_, _, _, _, cs ++ [(u, v, gap)], rfl, ⟨fun b o n e => up_ne (ne_of_none e hpr0) (s11 _ _ (f10.k _ _ n e)), by obtain ⟨x, y, e, h⟩ := f10.p; exact ⟨x, y, up_ne nar (s11 _ _ e), h⟩⟩, up_ne nrc.symm (s11 _ _ c10), up_ne npr (s11 _ _ (s10 _ _ t9)), up_ne nrs.symm (s11 _ _ (s10 _ _ s9)), ⟨ws ++ [.ref p11], upd_same, ?_⟩, by simp; omega, ?_, fun c hc => ?_⟩
            · exact (aw.mono fun v c h => ClV.pers _ _ _ _ pn (ClV.pers _ _ _ _ (SameN.of s11) h)).snoc (ClV.pers _ _ _ _ pn ⟨p11, rfl, upd_same, (mom_of nm hu).ok, (mom_of nm hv).ok⟩)
            · rw [List.nodup_append]
              exact ⟨nd4, by simp, fun x hx y hy => by rintro rfl; rw [List.mem_singleton] at hy; exact k (hy ▸ hx)⟩
            · rcases List.mem_append.mp hc with z | z
              · exact hc4 c z
              · rw [List.mem_singleton] at z
                subst z
                exact ⟨hu, hv, huv, hle⟩
      · obtain ⟨t, hh, th, g, cs, rfl, f4, c4, t4, s4, L4, hl4, nd4, hc4⟩ := hp
        walk_at "go"
        exact h _ c pt ps pr ⟨tags, φ, cs⟩ f4 hc0 hpt0 hps0 hpr0 ⟨c4, t4, s4, L4⟩ ⟨nm, nd, by show 1 ≤ tags.length; omega, by show tags.length ≤ 2; omega, hφ, hc4, nd4⟩ (by show cs.length ≤ 2; omega)
end
end Ld
namespace Ld
open PySem PySem.Spec PyProof.Rows L2
/-! ### pacts: dicts that tell a deal -/
def pactK (D : DealD) (pf pl pw pb pe : Addr) : List (Key × V) := [(.inr "tag", .str D.name), (.inr "firm", .str D.house), (.inr "shows", .ref pf), (.inr "lands", .ref pl), (.inr "roads", .ref pw), (.inr "head", .ref pb), (.inr "tail", .ref pe), (.inr "sole", .bl D.alone), (.inr "fee", .int D.price)]
def PactX (a : Addr) (H : Hp) (v : V) (D : DealD) : Prop := ∃ p pf pl pw pb pe, v = .ref p ∧ H p = some (.dK (pactK D pf pl pw pb pe)) ∧ H pf = some (.lst (D.films.map V.str)) ∧ H pl = some (.lst (D.lands.map V.str)) ∧ H pw = some (.lst (D.ways.map V.str)) ∧
  H pb = some (.tup [.str D.bm, .int D.bn]) ∧ H pe = some (.tup [.str D.em, .int D.en]) ∧ a ≠ pf ∧ a ≠ pl ∧ a ≠ pw
theorem PactX.offP {a : Addr} {H H' : Hp} {v : V} {D : DealD} (h : PactX a H v D) (q : PotAt H a) (f : OffP a H H') : PactX a H' v D := by
  obtain ⟨p, pf, pl, pw, pb, pe, rfl, h0, h1, h2, h3, h4, h5, n1, n2, n3⟩ := h
  exact ⟨p, pf, pl, pw, pb, pe, rfl, f.ne h0 (fun xs z => by cases z) q, f.k _ _ n1.symm h1, f.k _ _ n2.symm h2, f.k _ _ n3.symm h3, f.ne h4 (fun xs z => by cases z) q, f.ne h5 (fun xs z => by cases z) q, n1, n2, n3⟩
theorem PactX.same {a : Addr} {H H' : Hp} {v : V} {D : DealD} (h : PactX a H v D) (s : Same H H') : PactX a H' v D := by
  obtain ⟨p, pf, pl, pw, pb, pe, rfl, h0, h1, h2, h3, h4, h5, n⟩ := h
  exact ⟨p, pf, pl, pw, pb, pe, rfl, s _ _ h0, s _ _ h1, s _ _ h2, s _ _ h3, s _ _ h4, s _ _ h5, n⟩
structure PactOk (C : ChartD) (D : DealD) : Prop where
  ok : DealOk D
  bm : D.bm ∈ C.tags ++ [dayS]
  em : D.em ∈ C.tags ++ [dayS]
  ph : phi C.φ D.bm + D.bn ≤ phi C.φ D.em + D.en
  bd : -1000 ≤ D.bn ∧ D.bn ≤ 1000 ∧ -1000 ≤ D.en ∧ D.en ≤ 1000
theorem ChartOk.phi_b {C : ChartD} {wide : Int} (O : ChartOk C wide) {s : Str} (h : s ∈ C.tags ++ [dayS]) : 0 ≤ phi C.φ s ∧ phi C.φ s < wide := by
  obtain ⟨t, ht⟩ : ∃ t, t ∈ C.tags := List.exists_mem_of_length_pos O.lo
  have w := O.sp t ht
  unfold phi
  by_cases e : s = dayS
  · rw [if_pos e]; omega
  · rw [if_neg e]
    rcases List.mem_append.mp h with z | z
    · exact O.sp s z
    · rw [List.mem_singleton] at z; exact (e z).elim
def sp_law_pact (K : PySem.W.Frag) (mg : Str → Option Value) : Sp := fun vs H Q _ => ∃ (a c pt ps pr : Addr) (C : ChartD) (tag : Str) (wide w8 : Int), vs = [.ref a, .ref c, .str tag, .int wide] ∧ PotAt H a ∧ ChartX K H c pt ps pr C ∧ ChartOk C w8 ∧ w8 ≤ 100 ∧ a ≠ pt ∧ a ≠ pr ∧ NameS tag ∧ 1 ≤ wide ∧ wide < 100 ∧
  ∀ H' p D, OffP a H H' → H p = none → PactX a H' (.ref p) D → D.name = tag → PactOk C D → Q (.ref p) H'
section
variable {P : Program} {w : World} {K : PySem.W.Frag} {mg : Str → Option Value} {base : Heap}
theorem ChartX.offP {a c pt ps pr : Addr} {H H' : Hp} {C : ChartD} (X : ChartX K H c pt ps pr C) (q : PotAt H a) (f : OffP a H H') (n1 : a ≠ pt) (n2 : a ≠ pr) : ChartX K H' c pt ps pr C :=
  ⟨f.ne X.o (fun xs z => by cases z) q, f.k _ _ n1.symm X.t, f.ne X.s (fun xs z => by cases z) q, X.r.offP n2.symm q f⟩
theorem ChartX.same {c pt ps pr : Addr} {H H' : Hp} {C : ChartD} (X : ChartX K H c pt ps pr C) (s : Same H H') : ChartX K H' c pt ps pr C := ⟨s _ _ X.o, s _ _ X.t, s _ _ X.s, X.r.same ClV.pers s⟩
def s_law_pact : Stmt := top 87
abbrev N_law_pact : List Str := ["_law_pot_here", "_law_chart_here", "_law_tag", "_law_wide", "_law_pact_here", "_law_here", "_law_there", "_law_first", "_law_last"]
theorem sc_law_pact : FnScope N_law_pact ["_law_pot_here", "_law_chart_here", "_law_tag", "_law_wide"] (defScope s_law_pact) := C8.fnScope_by (by decide +kernel)
theorem ok_law_pact {f : Addr} {fd : FuncData} (T : Tx K mg) (F : DefAt K "_law_pact" "_law_pact" s_law_pact f fd) (hm : mg "_law_pact" = some (.ref f)) (c_law_pick : Cf P w K mg base 2 "_law_pick" (sp_law_pick K mg)) (c_law_some : Cf P w K mg base 2 "_law_some" (sp_law_some K mg)) (c_law_draw : Cf P w K mg base 1 "_law_draw" (sp_law_draw K mg)) : Cf P w K mg base 3 "_law_pact" (sp_law_pact K mg) := by
  refine cal_mk F hm sc_law_pact (fun vs H Q E => ?_) (fun _ _ _ _ _ _ us hl => match us, hl with | [_, _, _, _], _ => rfl) (fun cdv A outer s H vs Q E hr h => ?_)
  · walk_at "ln"
  · obtain ⟨a, c, pt, ps, pr, C, tag, wide, w8, rfl, pa, X, CO, hw8, npt, npr, ht, hw1, hw2, h⟩ := h
    refine ⟨_, (pss_cons (ps_set (i := 4) sc_law_pact.nd rfl (Or.inl rfl) (pe_disp (pps_cons pe_str (pv 2) (pps_cons pe_str (pe_f c_law_pick hr (by decide) (by rfl) (pa_cons (pv 0) (pa_cons (pe_lst (pa_cons pe_str (pa_cons pe_str (pa_cons pe_str pa_nil)))) pa_nil))) pps_nil)) (by rfl) (by rfl) (fun z => by cases z) (by decide)))
      (pss_cons (ps_dput (hu_of hr) (pv 4) pe_str (pe_f c_law_some hr (by decide) (by rfl) (pa_cons (pv 0) (pa_cons (pe_lst (pa_cons pe_str (pa_cons pe_str (pa_cons pe_str pa_nil)))) (pa_cons (pe_op op_add pe_int (pe_f c_law_draw hr (by decide) (by rfl) (pa_cons (pv 0) (pa_cons pe_int pa_nil)))) pa_nil)))) rfl)
      (pss_cons (ps_dput (hu_of hr) (pv 4) pe_str (pe_f c_law_some hr (by decide) (by rfl) (pa_cons (pv 0) (pa_cons (pe_lst (pa_cons pe_str (pa_cons pe_str (pa_cons pe_str pa_nil)))) (pa_cons (pe_op op_add pe_int (pe_f c_law_draw hr (by decide) (by rfl) (pa_cons (pv 0) (pa_cons pe_int pa_nil)))) pa_nil)))) rfl)
      (pss_cons (ps_dput (hu_of hr) (pv 4) pe_str (pe_f c_law_some hr (by decide) (by rfl) (pa_cons (pv 0) (pa_cons (pe_lst (pa_cons pe_str (pa_cons pe_str pa_nil))) (pa_cons (pe_op op_add pe_int (pe_f c_law_draw hr (by decide) (by rfl) (pa_cons (pv 0) (pa_cons pe_int pa_nil)))) pa_nil)))) rfl)
      (pss_cons (ps_par (i := 5) (j := 6) rfl sc_law_pact.nd rfl rfl (by decide) rfl rfl (pa_cons (pe_f c_law_pick hr (by decide) (by rfl) (pa_cons (pv 0) (pa_cons (pe_op op_cat (pe_dget (hu_of hr) (pv 1) pe_str (fun _ _ => rfl)) (pe_lst (pa_cons pe_str pa_nil))) pa_nil))) (pa_cons (pe_f c_law_pick hr (by decide) (by rfl) (pa_cons (pv 0) (pa_cons (pe_op op_cat (pe_dget (hu_of hr) (pv 1) pe_str (fun _ _ => rfl)) (pe_lst (pa_cons pe_str pa_nil))) pa_nil))) pa_nil)) (by rfl))
      (pss_cons (ps_set (i := 7) sc_law_pact.nd rfl (Or.inl rfl) (pe_op op_sub (pe_f c_law_draw hr (by decide) (by rfl) (pa_cons (pv 0) (pa_cons (pe_op op_mul pe_int (pv 3)) pa_nil))) (pv 3)))
      (pss_cons (ps_set (i := 8) sc_law_pact.nd rfl (Or.inl rfl) (pe_op op_sub (pe_op op_add (pe_op op_add (pv 7) (pe_dget (hu_of hr) (pe_dget (hu_of hr) (pv 1) pe_str (fun _ _ => rfl)) (pv 5) (fun _ _ => rfl))) (pe_f c_law_pick hr (by decide) (by rfl) (pa_cons (pv 0) (pa_cons (pe_lst (pa_cons pe_int (pa_cons pe_int (pa_cons pe_int (pa_cons pe_int (pa_cons (pv 3) pa_nil)))))) pa_nil)))) (pe_dget (hu_of hr) (pe_dget (hu_of hr) (pv 1) pe_str (fun _ _ => rfl)) (pv 6) (fun _ _ => rfl))))
      (pss_cons (ps_asg (pe_tup (pa_cons (pe_tup (pa_cons (pv 5) (pa_cons (pv 7) pa_nil))) (pa_cons (pe_tup (pa_cons (pv 6) (pa_cons (pv 8) pa_nil))) pa_nil))) (pg_tup (n := 2) rfl (pgs_cons (pg_sub (pv 4) pe_str (set_dict (hu_of hr))) (pgs_cons (pg_sub (pv 4) pe_str (set_dict (hu_of hr))) pgs_nil))))
      (pss_cons (ps_asg (pe_tup (pa_cons (pe_cmpR op_gt (pe_f c_law_draw hr (by decide) (by rfl) (pa_cons (pv 0) (pa_cons pe_int pa_nil))) pe_int (nomark _)) (pa_cons (pe_f c_law_draw hr (by decide) (by rfl) (pa_cons (pv 0) (pa_cons pe_int pa_nil))) pa_nil))) (pg_tup (n := 2) rfl (pgs_cons (pg_sub (pv 4) pe_str (set_dict (hu_of hr))) (pgs_cons (pg_sub (pv 4) pe_str (set_dict (hu_of hr))) pgs_nil))))
      (pss_one (ps_ret (pv 4)))))))))))), ?_⟩
    walk_at "nk"
    walk_at "go"
    intro p hp
    walk_at "go"
    intro l1 hl1
    walk_at "go"
    have np1 : a ≠ p := by obtain ⟨x, y, e, _⟩ := pa; exact ne_of_none e hp
    have f1 : OffP a H _ := ((OffP.refl pa).new (o := .dK []) hp).new (o := .lst [V.str "odeon", V.str "h", V.str "wire"]) hl1
    have ep1 : (upd (upd H p (.dK [])) l1 (.lst [V.str "odeon", V.str "h", V.str "wire"])) p = some (.dK []) := up_old hl1 upd_same
    have nl1 : a ≠ l1 := by obtain ⟨x, y, e, _⟩ := pa; exact ne_of_none e (none_up hl1).2
    have el1 : (upd (upd H p (.dK [])) l1 (.lst [V.str "odeon", V.str "h", V.str "wire"])) l1 = some (.lst [V.str "odeon", V.str "h", V.str "wire"]) := upd_same
    generalize upd (upd H p (.dK [])) l1 (.lst [V.str "odeon", V.str "h", V.str "wire"]) = H1 at f1 ep1 el1 ⊢
    refine ⟨a, l1, _, rfl, f1.p, el1, nl1, by simp, by simp, fun H2 v hv f2 => ?_⟩
    obtain ⟨firm, hf, rfl⟩ : ∃ s, NameS s ∧ v = .str s := by
      simp only [List.mem_cons, List.not_mem_nil, or_false] at hv
      rcases hv with rfl | rfl | rfl
      · exact ⟨_, name_by (by decide +kernel), rfl⟩
      · exact ⟨_, name_by (by decide +kernel), rfl⟩
      · exact ⟨_, name_by (by decide +kernel), rfl⟩
    have ep2 := f2.k _ _ np1.symm ep1
    walk_at "go"
    refine ⟨ep2, [(.inr "tag", .str tag), (.inr "firm", .str firm)], rfl, by simp, ?_⟩
    have f02 := f1.trans f2
    have f3 : OffP a H (upd H2 p (.dK (mergeK [] [(.inr "tag", .str tag), (.inr "firm", .str firm)]))) := ⟨fun b o n e => up_ne (ne_of_none e hp) (f02.k _ _ n e), by obtain ⟨x, y, e, h⟩ := f02.p; exact ⟨x, y, up_ne np1 e, h⟩⟩
    have ep3 : (upd H2 p (.dK (mergeK [] [(.inr "tag", .str tag), (.inr "firm", .str firm)]))) p = some (.dK [(.inr "tag", .str tag), (.inr "firm", .str firm)]) := upd_same
    generalize upd H2 p (.dK (mergeK [] [(.inr "tag", .str tag), (.inr "firm", .str firm)])) = H3 at f3 ep3 ⊢
    walk_at "go"
    intro l3 hl3
    walk_at "go"
    have nl3 : a ≠ l3 := by obtain ⟨x, y, e, _⟩ := f3.p; exact ne_of_none e hl3
    have fa3 := f3.new (o := .lst [V.str "f", V.str "g", V.str "film"]) hl3
    have epa3 : (upd H3 l3 (.lst [V.str "f", V.str "g", V.str "film"])) p = some (.dK [(.inr "tag", .str tag), (.inr "firm", .str firm)]) := up_old hl3 ep3
    have ela3 : (upd H3 l3 (.lst [V.str "f", V.str "g", V.str "film"])) l3 = some (.lst ([("f" : Str), ("g" : Str), ("film" : Str)].map V.str)) := upd_same
    have lst3 : ∀ b o, b ≠ a → H3 b = some o → (upd H3 l3 (.lst [V.str "f", V.str "g", V.str "film"])) b = some o := fun b o _ e => up_old hl3 e
    generalize upd H3 l3 (.lst [V.str "f", V.str "g", V.str "film"]) = Ha3 at fa3 epa3 ela3 lst3 ⊢
    refine ⟨a, _, rfl, fa3.p, by omega, by omega, fun Hb3 j3 hj0 hj1 fb3 => ?_⟩
    obtain ⟨j3, rfl⟩ := Int.eq_ofNat_of_zero_le hj0
    walk_at "go"
    refine ⟨a, l3, [("f" : Str), ("g" : Str), ("film" : Str)], 1 + j3, by rw [show (1 : Int) + (j3 : Nat) = ((1 + j3 : Nat) : Int) by omega], fb3.p, fb3.k _ _ nl3.symm ela3, by decide +kernel, by show 1 + j3 ≤ 3; omega, by decide, fun Hc3 q3 ts3 nd3 ln3 in3 fc3 hq3 eq3 => ?_⟩
    have fbc3 := fb3.trans fc3
    have nq3 : a ≠ q3 := by obtain ⟨x, y, e, _⟩ := fb3.p; exact ne_of_none e hq3
    have epc3 := fbc3.k _ _ np1.symm epa3
    have nqp3 : q3 ≠ p := fun z => by have e := fb3.k _ _ np1.symm epa3; rw [← z, hq3] at e; cases e
    walk_at "go"
    have Nm3 : Names ts3 4 := ⟨fun s hs => (names_by (ss := [("f" : Str), ("g" : Str), ("film" : Str)]) (by decide +kernel)) s (in3 s hs), nd3, by omega, by omega⟩
    have f4 : OffP a H (upd Hc3 p (.dK (putK [(.inr "tag", .str tag), (.inr "firm", .str firm)] (.inr "shows") (.ref q3)))) := ⟨fun b o n e => up_ne (ne_of_none e hp) (fbc3.k _ _ n (fa3.k _ _ n e)), by obtain ⟨x, y, e, h⟩ := fc3.p; exact ⟨x, y, up_ne np1 e, h⟩⟩
    have ep4 : (upd Hc3 p (.dK (putK [(.inr "tag", .str tag), (.inr "firm", .str firm)] (.inr "shows") (.ref q3)))) p = some (.dK [(.inr "tag", .str tag), (.inr "firm", .str firm), (.inr "shows", .ref q3)]) := upd_same
    have k4 : ∀ b o, b ≠ a → b ≠ p → H3 b = some o → (upd Hc3 p (.dK (putK [(.inr "tag", .str tag), (.inr "firm", .str firm)] (.inr "shows") (.ref q3)))) b = some o := fun b o n1 n2 e => up_ne n2 (fbc3.k _ _ n1 (lst3 _ _ n1 e))
    have eq4' : (upd Hc3 p (.dK (putK [(.inr "tag", .str tag), (.inr "firm", .str firm)] (.inr "shows") (.ref q3)))) q3 = some (.lst (ts3.map V.str)) := up_ne nqp3 eq3
    generalize upd Hc3 p (.dK (putK [(.inr "tag", .str tag), (.inr "firm", .str firm)] (.inr "shows") (.ref q3))) = H4 at f4 ep4 k4 eq4' ⊢
    walk_at "go"
    intro l4 hl4
    walk_at "go"
    have nl4 : a ≠ l4 := by obtain ⟨x, y, e, _⟩ := f4.p; exact ne_of_none e hl4
    have fa4 := f4.new (o := .lst [V.str "be", V.str "nl", V.str "x"]) hl4
    have epa4 : (upd H4 l4 (.lst [V.str "be", V.str "nl", V.str "x"])) p = some (.dK [(.inr "tag", .str tag), (.inr "firm", .str firm), (.inr "shows", .ref q3)]) := up_old hl4 ep4
    have ela4 : (upd H4 l4 (.lst [V.str "be", V.str "nl", V.str "x"])) l4 = some (.lst ([("be" : Str), ("nl" : Str), ("x" : Str)].map V.str)) := upd_same
    have lst4 : ∀ b o, b ≠ a → H4 b = some o → (upd H4 l4 (.lst [V.str "be", V.str "nl", V.str "x"])) b = some o := fun b o _ e => up_old hl4 e
    generalize upd H4 l4 (.lst [V.str "be", V.str "nl", V.str "x"]) = Ha4 at fa4 epa4 ela4 lst4 ⊢
    refine ⟨a, _, rfl, fa4.p, by omega, by omega, fun Hb4 j4 hj0 hj1 fb4 => ?_⟩
    obtain ⟨j4, rfl⟩ := Int.eq_ofNat_of_zero_le hj0
    walk_at "go"
    refine ⟨a, l4, [("be" : Str), ("nl" : Str), ("x" : Str)], 1 + j4, by rw [show (1 : Int) + (j4 : Nat) = ((1 + j4 : Nat) : Int) by omega], fb4.p, fb4.k _ _ nl4.symm ela4, by decide +kernel, by show 1 + j4 ≤ 3; omega, by decide, fun Hc4 q4 ts4 nd4 ln4 in4 fc4 hq4 eq4 => ?_⟩
    have fbc4 := fb4.trans fc4
    have nq4 : a ≠ q4 := by obtain ⟨x, y, e, _⟩ := fb4.p; exact ne_of_none e hq4
    have epc4 := fbc4.k _ _ np1.symm epa4
    have nqp4 : q4 ≠ p := fun z => by have e := fb4.k _ _ np1.symm epa4; rw [← z, hq4] at e; cases e
    walk_at "go"
    have Nm4 : Names ts4 4 := ⟨fun s hs => (names_by (ss := [("be" : Str), ("nl" : Str), ("x" : Str)]) (by decide +kernel)) s (in4 s hs), nd4, by omega, by omega⟩
    have f5 : OffP a H (upd Hc4 p (.dK (putK [(.inr "tag", .str tag), (.inr "firm", .str firm), (.inr "shows", .ref q3)] (.inr "lands") (.ref q4)))) := ⟨fun b o n e => up_ne (ne_of_none e hp) (fbc4.k _ _ n (fa4.k _ _ n e)), by obtain ⟨x, y, e, h⟩ := fc4.p; exact ⟨x, y, up_ne np1 e, h⟩⟩
    have ep5 : (upd Hc4 p (.dK (putK [(.inr "tag", .str tag), (.inr "firm", .str firm), (.inr "shows", .ref q3)] (.inr "lands") (.ref q4)))) p = some (.dK [(.inr "tag", .str tag), (.inr "firm", .str firm), (.inr "shows", .ref q3), (.inr "lands", .ref q4)]) := upd_same
    have k5 : ∀ b o, b ≠ a → b ≠ p → H4 b = some o → (upd Hc4 p (.dK (putK [(.inr "tag", .str tag), (.inr "firm", .str firm), (.inr "shows", .ref q3)] (.inr "lands") (.ref q4)))) b = some o := fun b o n1 n2 e => up_ne n2 (fbc4.k _ _ n1 (lst4 _ _ n1 e))
    have eq5' : (upd Hc4 p (.dK (putK [(.inr "tag", .str tag), (.inr "firm", .str firm), (.inr "shows", .ref q3)] (.inr "lands") (.ref q4)))) q4 = some (.lst (ts4.map V.str)) := up_ne nqp4 eq4
    generalize upd Hc4 p (.dK (putK [(.inr "tag", .str tag), (.inr "firm", .str firm), (.inr "shows", .ref q3)] (.inr "lands") (.ref q4))) = H5 at f5 ep5 k5 eq5' ⊢
    walk_at "go"
    intro l5 hl5
    walk_at "go"
    have nl5 : a ≠ l5 := by obtain ⟨x, y, e, _⟩ := f5.p; exact ne_of_none e hl5
    have fa5 := f5.new (o := .lst [V.str "hall", V.str "disc"]) hl5
    have epa5 : (upd H5 l5 (.lst [V.str "hall", V.str "disc"])) p = some (.dK [(.inr "tag", .str tag), (.inr "firm", .str firm), (.inr "shows", .ref q3), (.inr "lands", .ref q4)]) := up_old hl5 ep5
    have ela5 : (upd H5 l5 (.lst [V.str "hall", V.str "disc"])) l5 = some (.lst ([("hall" : Str), ("disc" : Str)].map V.str)) := upd_same
    have lst5 : ∀ b o, b ≠ a → H5 b = some o → (upd H5 l5 (.lst [V.str "hall", V.str "disc"])) b = some o := fun b o _ e => up_old hl5 e
    generalize upd H5 l5 (.lst [V.str "hall", V.str "disc"]) = Ha5 at fa5 epa5 ela5 lst5 ⊢
    refine ⟨a, _, rfl, fa5.p, by omega, by omega, fun Hb5 j5 hj0 hj1 fb5 => ?_⟩
    obtain ⟨j5, rfl⟩ := Int.eq_ofNat_of_zero_le hj0
    walk_at "go"
    refine ⟨a, l5, [("hall" : Str), ("disc" : Str)], 1 + j5, by rw [show (1 : Int) + (j5 : Nat) = ((1 + j5 : Nat) : Int) by omega], fb5.p, fb5.k _ _ nl5.symm ela5, by decide +kernel, by show 1 + j5 ≤ 2; omega, by decide, fun Hc5 q5 ts5 nd5 ln5 in5 fc5 hq5 eq5 => ?_⟩
    have fbc5 := fb5.trans fc5
    have nq5 : a ≠ q5 := by obtain ⟨x, y, e, _⟩ := fb5.p; exact ne_of_none e hq5
    have epc5 := fbc5.k _ _ np1.symm epa5
    have nqp5 : q5 ≠ p := fun z => by have e := fb5.k _ _ np1.symm epa5; rw [← z, hq5] at e; cases e
    walk_at "go"
    have Nm5 : Names ts5 3 := ⟨fun s hs => (names_by (ss := [("hall" : Str), ("disc" : Str)]) (by decide +kernel)) s (in5 s hs), nd5, by omega, by omega⟩
    have f6 : OffP a H (upd Hc5 p (.dK (putK [(.inr "tag", .str tag), (.inr "firm", .str firm), (.inr "shows", .ref q3), (.inr "lands", .ref q4)] (.inr "roads") (.ref q5)))) := ⟨fun b o n e => up_ne (ne_of_none e hp) (fbc5.k _ _ n (fa5.k _ _ n e)), by obtain ⟨x, y, e, h⟩ := fc5.p; exact ⟨x, y, up_ne np1 e, h⟩⟩
    have ep6 : (upd Hc5 p (.dK (putK [(.inr "tag", .str tag), (.inr "firm", .str firm), (.inr "shows", .ref q3), (.inr "lands", .ref q4)] (.inr "roads") (.ref q5)))) p = some (.dK [(.inr "tag", .str tag), (.inr "firm", .str firm), (.inr "shows", .ref q3), (.inr "lands", .ref q4), (.inr "roads", .ref q5)]) := upd_same
    have k6 : ∀ b o, b ≠ a → b ≠ p → H5 b = some o → (upd Hc5 p (.dK (putK [(.inr "tag", .str tag), (.inr "firm", .str firm), (.inr "shows", .ref q3), (.inr "lands", .ref q4)] (.inr "roads") (.ref q5)))) b = some o := fun b o n1 n2 e => up_ne n2 (fbc5.k _ _ n1 (lst5 _ _ n1 e))
    have eq6' : (upd Hc5 p (.dK (putK [(.inr "tag", .str tag), (.inr "firm", .str firm), (.inr "shows", .ref q3), (.inr "lands", .ref q4)] (.inr "roads") (.ref q5)))) q5 = some (.lst (ts5.map V.str)) := up_ne nqp5 eq5
    generalize upd Hc5 p (.dK (putK [(.inr "tag", .str tag), (.inr "firm", .str firm), (.inr "shows", .ref q3), (.inr "lands", .ref q4)] (.inr "roads") (.ref q5))) = H6 at f6 ep6 k6 eq6' ⊢
    walk_at "go"
    have X6 := X.offP pa f6 npt npr
    have hXo6 := X6.o
    have hXt6 := X6.t
    have hz6 := CO.hi
    walk_at "go"
    intro la6 hla6
    walk_at "go"
    intro lb6 hlb6
    walk_at "go"
    have fa6 := (f6.new (o := .lst [V.str "day"]) hla6).new (o := .lst (C.tags.map V.str ++ [V.str "day"])) hlb6
    have nlb6 : a ≠ lb6 := by obtain ⟨x, y, e, _⟩ := f6.p; exact ne_of_none e (none_up hlb6).2
    have elb6 : (upd (upd H6 la6 (.lst [V.str "day"])) lb6 (.lst (C.tags.map V.str ++ [V.str "day"]))) lb6 = some (.lst (C.tags.map V.str ++ [V.str "day"])) := upd_same
    have ka6 : ∀ b o, H6 b = some o → (upd (upd H6 la6 (.lst [V.str "day"])) lb6 (.lst (C.tags.map V.str ++ [V.str "day"]))) b = some o := fun b o e => up_old hlb6 (up_old hla6 e)
    generalize (upd (upd H6 la6 (.lst [V.str "day"])) lb6 (.lst (C.tags.map V.str ++ [V.str "day"]))) = Ha6 at fa6 elb6 ka6 ⊢
    refine ⟨a, lb6, _, rfl, fa6.p, elb6, nlb6, by simp, by simp; omega, fun H7 v6 hv6 fb6 => ?_⟩
    obtain ⟨here, hhere, rfl⟩ : ∃ s : Str, s ∈ C.tags ++ [dayS] ∧ v6 = .str s := by
      rcases List.mem_append.mp hv6 with z | z
      · obtain ⟨s, hs, rfl⟩ := List.mem_map.mp z
        exact ⟨s, List.mem_append_left _ hs, rfl⟩
      · rw [List.mem_singleton] at z; exact ⟨dayS, by simp, z⟩
    have f7 := fa6.trans fb6
    have k7 : ∀ b o, b ≠ a → H6 b = some o → H7 b = some o := fun b o n1 e => fb6.k _ _ n1 (ka6 _ _ e)
    walk_at "go"
    have X7 := X.offP pa f7 npt npr
    have hXo7 := X7.o
    have hXt7 := X7.t
    have hz7 := CO.hi
    walk_at "go"
    intro la7 hla7
    walk_at "go"
    intro lb7 hlb7
    walk_at "go"
    have fa7 := (f7.new (o := .lst [V.str "day"]) hla7).new (o := .lst (C.tags.map V.str ++ [V.str "day"])) hlb7
    have nlb7 : a ≠ lb7 := by obtain ⟨x, y, e, _⟩ := f7.p; exact ne_of_none e (none_up hlb7).2
    have elb7 : (upd (upd H7 la7 (.lst [V.str "day"])) lb7 (.lst (C.tags.map V.str ++ [V.str "day"]))) lb7 = some (.lst (C.tags.map V.str ++ [V.str "day"])) := upd_same
    have ka7 : ∀ b o, H7 b = some o → (upd (upd H7 la7 (.lst [V.str "day"])) lb7 (.lst (C.tags.map V.str ++ [V.str "day"]))) b = some o := fun b o e => up_old hlb7 (up_old hla7 e)
    generalize (upd (upd H7 la7 (.lst [V.str "day"])) lb7 (.lst (C.tags.map V.str ++ [V.str "day"]))) = Ha7 at fa7 elb7 ka7 ⊢
    refine ⟨a, lb7, _, rfl, fa7.p, elb7, nlb7, by simp, by simp; omega, fun H8 v7 hv7 fb7 => ?_⟩
    obtain ⟨there, hthere, rfl⟩ : ∃ s : Str, s ∈ C.tags ++ [dayS] ∧ v7 = .str s := by
      rcases List.mem_append.mp hv7 with z | z
      · obtain ⟨s, hs, rfl⟩ := List.mem_map.mp z
        exact ⟨s, List.mem_append_left _ hs, rfl⟩
      · rw [List.mem_singleton] at z; exact ⟨dayS, by simp, z⟩
    have f8 := fa7.trans fb7
    have k8 : ∀ b o, b ≠ a → H7 b = some o → H8 b = some o := fun b o n1 e => fb7.k _ _ n1 (ka7 _ _ e)
    walk_at "go"
    refine ⟨a, _, rfl, f8.p, by omega, by omega, fun H9 fi hfi0 hfi1 fb8 => ?_⟩
    have f9 := f8.trans fb8
    have X9 := X.offP pa f9 npt npr
    have hXo9 := X9.o
    have hXs9 := X9.s
    have lu := lookup_spots (φ := C.φ) CO.nm hhere
    have lv := lookup_spots (φ := C.φ) CO.nm hthere
    walk_at "go"
    intro l9 hl9
    walk_at "go"
    have fa9 := f9.new (o := .lst [V.int 0, V.int 0, V.int 1, V.int 2, V.int wide]) hl9
    have nl9 : a ≠ l9 := by obtain ⟨x, y, e, _⟩ := f9.p; exact ne_of_none e hl9
    refine ⟨a, l9, _, rfl, fa9.p, upd_same, nl9, by simp, by simp, fun H10 w10 hw10 fb10 => ?_⟩
    have f10 := fa9.trans fb10
    obtain ⟨gg, hg0, hg1, rfl⟩ : ∃ g : Int, 0 ≤ g ∧ g ≤ 100 ∧ w10 = .int g := by
      simp only [List.mem_cons, List.not_mem_nil, or_false] at hw10
      rcases hw10 with rfl | rfl | rfl | rfl | rfl
      · exact ⟨0, by decide, by decide, rfl⟩
      · exact ⟨0, by decide, by decide, rfl⟩
      · exact ⟨1, by decide, by decide, rfl⟩
      · exact ⟨2, by decide, by decide, rfl⟩
      · exact ⟨wide, by omega, by omega, rfl⟩
    have X10 := X.offP pa f10 npt npr
    have hXo10 := X10.o
    have hXs10 := X10.s
    have k10 : ∀ b o, b ≠ a → H6 b = some o → H10 b = some o := fun b o n e => fb10.k _ _ n (up_old hl9 (fb8.k _ _ n (k8 _ _ n (k7 _ _ n e))))
    have ep10 := k10 _ _ np1.symm ep6
    have hle : phi C.φ here + (fi - wide) ≤ phi C.φ there + (fi - wide + phi C.φ here + gg - phi C.φ there) := by omega
    have hb1 := CO.phi_b hhere
    have hb2 := CO.phi_b hthere
    have hbl : -1000 ≤ fi - wide + phi C.φ here + gg - phi C.φ there ∧ fi - wide + phi C.φ here + gg - phi C.φ there ≤ 1000 := by omega
    have hbf : -1000 ≤ fi - wide ∧ fi - wide ≤ 1000 := by omega
    walk_at "go"
    generalize fi - wide + phi C.φ here + gg - phi C.φ there = la at hle hbl ⊢
    generalize fi - wide = fr at hle hbf ⊢
    intro t1 ht1
    walk_at "go"
    intro t2 ht2
    walk_at "go"
    intro t3 ht3
    walk_at "go"
    generalize hF : upd _ p _ = H10b
    have ep10b : H10b p = some (.dK [(.inr "tag", .str tag), (.inr "firm", .str firm), (.inr "shows", .ref q3), (.inr "lands", .ref q4), (.inr "roads", .ref q5), (.inr "head", .ref t1)]) := by rw [← hF]; exact upd_same
    walk_at "go"
    generalize hE : upd H10b p _ = H11
    rw [← hF] at hE
    clear hF ep10b
    have ep11 : H11 p = some (.dK [(.inr "tag", .str tag), (.inr "firm", .str firm), (.inr "shows", .ref q3), (.inr "lands", .ref q4), (.inr "roads", .ref q5), (.inr "head", .ref t1), (.inr "tail", .ref t2)]) := by rw [← hE]; exact upd_same
    have n1p : t1 ≠ p := (ne_of_none ep10 ht1).symm
    have n2p : t2 ≠ p := (ne_of_none (up_old ht1 ep10) ht2).symm
    have et1 : H11 t1 = some (.tup [.str here, .int fr]) := by rw [← hE]; exact up_ne n1p (up_ne n1p (up_old ht3 (up_old ht2 upd_same)))
    have et2 : H11 t2 = some (.tup [.str there, .int la]) := by rw [← hE]; exact up_ne n2p (up_ne n2p (up_old ht3 upd_same))
    have k11 : ∀ b o, b ≠ p → H10 b = some o → H11 b = some o := fun b o n e => by rw [← hE]; exact up_ne n (up_ne n (up_old ht3 (up_old ht2 (up_old ht1 e))))
    have f11 : OffP a H H11 := ⟨fun b o n e => k11 _ _ (ne_of_none e hp) (f10.k _ _ n e), by obtain ⟨x, y, e, h⟩ := f10.p; exact ⟨x, y, k11 _ _ np1 e, h⟩⟩
    clear hE
    walk_at "go"
    refine ⟨a, 3, rfl, f11.p, by decide, by decide, fun H12 b hb0 hb1 fb12 => ?_⟩
    walk_at "go"
    refine ⟨a, 5, rfl, fb12.p, by decide, by decide, fun H13 fee hfe0 hfe1 fb13 => ?_⟩
    have g13 := fb12.trans fb13
    have ep13 := g13.k _ _ np1.symm ep11
    walk_at "go"
    intro t4 ht4
    walk_at "go"
    generalize hF : upd _ p _ = H13b
    have ep13b : H13b p = some (.dK [(.inr "tag", .str tag), (.inr "firm", .str firm), (.inr "shows", .ref q3), (.inr "lands", .ref q4), (.inr "roads", .ref q5), (.inr "head", .ref t1), (.inr "tail", .ref t2), (.inr "sole", .bl (decide (0 < b)))]) := by rw [← hF]; exact upd_same
    walk_at "go"
    generalize hE : upd H13b p _ = H14
    rw [← hF] at hE
    clear hF ep13b
    have ep14 : H14 p = some (.dK [(.inr "tag", .str tag), (.inr "firm", .str firm), (.inr "shows", .ref q3), (.inr "lands", .ref q4), (.inr "roads", .ref q5), (.inr "head", .ref t1), (.inr "tail", .ref t2), (.inr "sole", .bl (decide (0 < b))), (.inr "fee", .int fee)]) := by rw [← hE]; exact upd_same
    have k14 : ∀ b o, b ≠ p → H13 b = some o → H14 b = some o := fun b o n e => by rw [← hE]; exact up_ne n (up_ne n (up_old ht4 e))
    clear hE
    have k1114 : ∀ b o, b ≠ a → b ≠ p → H11 b = some o → H14 b = some o := fun b o n1 n2 e => k14 _ _ n2 (g13.k _ _ n1 e)
    have k614 : ∀ b o, b ≠ a → b ≠ p → H6 b = some o → H14 b = some o := fun b o n1 n2 e => k1114 _ _ n1 n2 (k11 _ _ n2 (k10 _ _ n1 e))
    have f14 : OffP a H H14 := ⟨fun b o n e => k1114 _ _ n (ne_of_none e hp) (f11.k _ _ n e), by obtain ⟨x, y, e, h⟩ := g13.p; exact ⟨x, y, k14 _ _ np1 e, h⟩⟩
    have eq3e := k614 _ _ nq3.symm nqp3 (k6 _ _ nq3.symm nqp3 (k5 _ _ nq3.symm nqp3 eq4'))
    have eq4e := k614 _ _ nq4.symm nqp4 (k6 _ _ nq4.symm nqp4 eq5')
    have eq5e := k614 _ _ nq5.symm nqp5 eq6'
    have nt1 : a ≠ t1 := fun z => by obtain ⟨x, y, e, _⟩ := f11.p; rw [z, et1] at e; cases e
    have nt2 : a ≠ t2 := fun z => by obtain ⟨x, y, e, _⟩ := f11.p; rw [z, et2] at e; cases e
    refine h H14 p ⟨tag, firm, ts3, ts4, ts5, here, fr, there, la, decide (0 < b), fee⟩ f14 hp ⟨p, q3, q4, q5, t1, t2, rfl, ep14, eq3e, eq4e, eq5e, k1114 _ _ nt1.symm n1p et1, k1114 _ _ nt2.symm n2p et2, nq3, nq4, nq5⟩ rfl ⟨⟨ht, hf, Nm3, Nm4, Nm5, mom_of CO.nm hhere, mom_of CO.nm hthere, fun z => ?_, hfe0⟩, hhere, hthere, hle, hbf.1, hbf.2, hbl.1, hbl.2⟩
    have z : here = there := z
    subst z
    show fr ≤ la
    omega
end
end Ld
namespace Ld
open PySem PySem.Spec PyProof.Rows L2
/-! ### from pacts to a book -/
def PactV (H : Hp) (v : V) (D : DealD) : Prop := ∃ p pf pl pw pb pe, v = .ref p ∧ H p = some (.dK (pactK D pf pl pw pb pe)) ∧ H pf = some (.lst (D.films.map V.str)) ∧ H pl = some (.lst (D.lands.map V.str)) ∧ H pw = some (.lst (D.ways.map V.str)) ∧
  H pb = some (.tup [.str D.bm, .int D.bn]) ∧ H pe = some (.tup [.str D.em, .int D.en])
theorem PactX.v {a : Addr} {H : Hp} {v : V} {D : DealD} (h : PactX a H v D) : PactV H v D := by
  obtain ⟨p, pf, pl, pw, pb, pe, rfl, h0, h1, h2, h3, h4, h5, _⟩ := h
  exact ⟨p, pf, pl, pw, pb, pe, rfl, h0, h1, h2, h3, h4, h5⟩
theorem PactV.same {H H' : Hp} {v : V} {D : DealD} (h : PactV H v D) (s : Same H H') : PactV H' v D := by
  obtain ⟨p, pf, pl, pw, pb, pe, rfl, h0, h1, h2, h3, h4, h5⟩ := h
  exact ⟨p, pf, pl, pw, pb, pe, rfl, s _ _ h0, s _ _ h1, s _ _ h2, s _ _ h3, s _ _ h4, s _ _ h5⟩
structure SortOf (D E : DealD) : Prop where
  name : E.name = D.name
  house : E.house = D.house
  films : E.films.Perm D.films
  lands : E.lands.Perm D.lands
  ways : E.ways.Perm D.ways
  sf : sortedS E.films = true
  sl : sortedS E.lands = true
  sw : sortedS E.ways = true
  bm : E.bm = D.bm
  bn : E.bn = D.bn
  em : E.em = D.em
  en : E.en = D.en
  alone : E.alone = D.alone
  price : E.price = D.price
theorem Names.perm {ss ts : List Str} {n : Nat} (N : Names ss n) (p : ts.Perm ss) : Names ts n := ⟨fun s h => N.nm s (p.mem_iff.mp h), p.nodup_iff.mpr N.nd, by rw [p.length_eq]; exact N.lo, by rw [p.length_eq]; exact N.hi⟩
theorem SortOf.ok {D E : DealD} (s : SortOf D E) (h : DealOk D) : DealOk E :=
  ⟨s.name ▸ h.name, s.house ▸ h.house, h.films.perm s.films, h.lands.perm s.lands, h.ways.perm s.ways, s.bm ▸ h.bm, s.em ▸ h.em, by rw [s.bm, s.em, s.bn, s.en]; exact h.own, s.price ▸ h.price⟩
section
variable {β : Type} {K : PySem.W.Frag} {a : Addr} {vs : List V} {cs : List β} {R : V → β → Prop} {g : TG} {σ : St} {H : Hp} {tt : TT} {te : TE} {own : List Nat} {Q : VK}
/-- a comprehension over a list, with one's own invariant -/
theorem lcLI (hp : All2 R vs cs) (ha : H a = some (.lst vs)) (hq : ∀ D, H D = none → ∃ Pv : List β → Hp → Prop, Pv [] (upd H D (.lst [])) ∧ (∀ d H', Pv d H' → H' a = some (.lst vs)) ∧
    (∀ d c r x H', cs = d ++ c :: r → R x c → Pv d H' → g x (wipe σ own) H' fun σ2 H2 => wipe σ2 own = wipe σ own ∧ tt σ2 H2 fun b H3 =>
      if b = true then te σ2 H3 fun y H4 => ∃ acc, H4 D = some (.lst acc) ∧ acc.length < sizeLine ∧ Pv (d ++ [c]) (upd H4 D (.lst (acc ++ [y]))) else Pv (d ++ [c]) H3) ∧ ∀ H', Pv cs H' → Q (.ref D) H') : CL K g tt te own σ Q (.ref a) H := by
  refine ⟨a, rfl, ⟨vs, SqL.of ha⟩, fun D hD => ?_⟩
  obtain ⟨Pv, h0, hl, hs, hd⟩ := hq D hD
  refine ⟨fun i m H' => i ≤ vs.length ∧ m = vs.length - i ∧ Pv (cs.take i) H', ⟨_, Nat.zero_le _, rfl, by simpa using h0⟩, fun i m H' ⟨hi, hm, p⟩ => ?_⟩
  have e := hl _ _ p
  have len := hp.len
  by_cases hz : i = vs.length
  · left
    exact ⟨⟨vs, SqL.of e, by omega⟩, hd _ (by rw [hz, hp.len, List.take_length] at p; exact p)⟩
  · right
    have hi' : i < vs.length := by omega
    have hic : i < cs.length := by omega
    refine ⟨⟨vs, vs[i], SqL.of e, by simp [hi']⟩, fun H2 => Pv (cs.take (i + 1)) H2, fun H2 q => ⟨vs.length - (i + 1), by omega, by omega, rfl, q⟩, fun x H2 y => ?_⟩
    obtain ⟨rfl, ex⟩ := y
    have ex := ex _ (SqL.of e)
    have ec : cs = cs.take i ++ cs[i] :: cs.drop (i + 1) := by simp
    have hl2 : (cs.take i).length = i := by rw [List.length_take]; omega
    obtain ⟨x', e', r⟩ := All2.at_pre (R := R) (vs := vs) (by rw [← ec]; exact hp)
    rw [hl2] at e'
    rw [e'] at ex
    cases ex
    have := hs _ _ _ x _ ec r p
    rw [show cs.take i ++ [cs[i]] = cs.take (i + 1) from by simp] at this
    exact this
end
def sp_law_deal (K : PySem.W.Frag) (mg : Str → Option Value) : Sp := fun vs H Q _ => ∃ (v : V) (D : DealD), vs = [v] ∧ PactV H v D ∧ DealOk D ∧ ∀ H' r E, SortOf D E → Same H H' → H r = none → DealX K H' (.ref r) E → Q (.ref r) H'
def sp_law_calendar (K : PySem.W.Frag) (mg : Str → Option Value) : Sp := fun vs H Q _ => ∃ (c pt ps pr : Addr) (C : ChartD), vs = [.ref c] ∧ ChartX K H c pt ps pr C ∧ Good C.tags C.rules ∧ ∀ H' r ms, ms.Perm C.tags → sortedS ms = true → CalX K H' r ms C.rules → Same H H' → H r = none → Q (.ref r) H'
section
variable {P : Program} {w : World} {K : PySem.W.Frag} {mg : Str → Option Value} {base : Heap}
def s_law_deal : Stmt := top 89
abbrev N_law_deal : List Str := ["_law_pact_here", "_law_lists"]
theorem sc_law_deal : FnScope N_law_deal ["_law_pact_here"] (defScope s_law_deal) := C8.fnScope_by (by decide +kernel)
theorem ok_law_deal {f : Addr} {fd : FuncData} (T : Tx K mg) (F : DefAt K "_law_deal" "_law_deal" s_law_deal f fd) (hm : mg "_law_deal" = some (.ref f)) (c_Deal__init : MkK P w K mg base 5 "Deal" (cDeal K) 7 ["alone", "price"] (sp_Deal__init K mg)) : Cf P w K mg base 7 "_law_deal" (sp_law_deal K mg) := by
  refine cal_mk F hm sc_law_deal (fun vs H Q E => ?_) (fun _ _ _ _ _ _ us hl => match us, hl with | [_], _ => rfl) (fun cdv A outer s H vs Q E hr h => ?_)
  · walk_at "ln"
  · obtain ⟨v, D, rfl, ⟨p, pf, pl, pw, pb, pe, rfl, h0, h1, h2, h3, h4, h5⟩, ok, h⟩ := h
    unfold pactK at h0
    refine ⟨_, (pss_cons (ps_set (i := 1) sc_law_deal.nd rfl (Or.inl rfl) (pe_lst (pa_cons (pe_dget (hu_of hr) (pv 0) pe_str (fun _ _ => rfl)) (pa_cons (pe_dget (hu_of hr) (pv 0) pe_str (fun _ _ => rfl)) (pa_cons (pe_dget (hu_of hr) (pv 0) pe_str (fun _ _ => rfl)) pa_nil)))))
      (pss_one (ps_ret (pe_mkK c_Deal__init hr (by decide) (by rfl) (pa_cons (pe_dget (hu_of hr) (pv 0) pe_str (fun _ _ => rfl)) (pa_cons (pe_dget (hu_of hr) (pv 0) pe_str (fun _ _ => rfl)) (pa_cons (pe_ix ix_list (pv 1) pe_int (fun _ _ => rfl)) (pa_cons (pe_ix ix_list (pv 1) pe_int (fun _ _ => rfl)) (pa_cons (pe_ix ix_list (pv 1) pe_int (fun _ _ => rfl)) (pa_cons (pe_dget (hu_of hr) (pv 0) pe_str (fun _ _ => rfl)) (pa_cons (pe_dget (hu_of hr) (pv 0) pe_str (fun _ _ => rfl)) pa_nil))))))) (pk_cons (pe_dget (hu_of hr) (pv 0) pe_str (fun _ _ => rfl)) (pk_cons (pe_dget (hu_of hr) (pv 0) pe_str (fun _ _ => rfl)) pk_nil)))))), ?_⟩
    walk_at "nk"
    walk_at "go"
    intro l hl
    walk_at "go"
    refine ⟨rfl, rfl, fun x dx hx hdx n => ?_⟩
    have s1 : Same H (upd H l (.lst [.ref pf, .ref pl, .ref pw])) := same_new hl
    have s2 := s1.trans (same_new (o := .own x) hdx)
    have hx2 : (upd (upd H l (.lst [.ref pf, .ref pl, .ref pw])) dx (.own x)) x = none := by rw [upd_ne n.symm]; exact hx
    have s3 := s2.trans (same_new (o := .ins (cDeal K) dx []) hx2)
    refine ⟨x, dx, pf, pl, pw, pb, pe, D, rfl, upd_same, s3 _ _ h1, s3 _ _ h2, s3 _ _ h3, s3 _ _ h4, s3 _ _ h5, ok, fun H' fs ls ws p1 q1 p2 q2 p3 q3 X k => ⟨rfl, ?_⟩⟩
    exact h H' x { D with films := fs, lands := ls, ways := ws } ⟨rfl, rfl, p1, p2, p3, q1, q2, q3, rfl, rfl, rfl, rfl, rfl, rfl⟩ (fun b o e => k _ _ (ne_of_none (s2 _ _ e) hx2) (s3 _ _ e)) (none_up hx).2 X
def s_law_calendar : Stmt := top 86
abbrev N_law_calendar : List Str := ["_law_chart_here"]
theorem sc_law_calendar : FnScope N_law_calendar ["_law_chart_here"] (defScope s_law_calendar) := C8.fnScope_by (by decide +kernel)
theorem ok_law_calendar {f : Addr} {fd : FuncData} (T : Tx K mg) (F : DefAt K "_law_calendar" "_law_calendar" s_law_calendar f fd) (hm : mg "_law_calendar" = some (.ref f)) (c_Calendar__init : Cn P w K mg base 5 "Calendar" (cCalendar K) (sp_Calendar__init K mg)) : Cf P w K mg base 7 "_law_calendar" (sp_law_calendar K mg) := by
  refine cal_mk F hm sc_law_calendar (fun vs H Q E => ?_) (fun _ _ _ _ _ _ us hl => match us, hl with | [_], _ => rfl) (fun cdv A outer s H vs Q E hr h => ?_)
  · walk_at "ln"
  · obtain ⟨c, pt, ps, pr, C, rfl, X, G, h⟩ := h
    have xo := X.o
    refine ⟨_, (pss_one (ps_ret (pe_mk0 c_Calendar__init hr (by decide) (by rfl) (pa_cons (pe_dget (hu_of hr) (pv 0) pe_str (fun _ _ => rfl)) (pa_cons (pe_dget (hu_of hr) (pv 0) pe_str (fun _ _ => rfl)) pa_nil))))), ?_⟩
    walk_at "nk"
    walk_at "go"
    intro x dx hx hdx n
    have s2 : Same H (upd H dx (.own x)) := same_new hdx
    have hx2 : (upd H dx (.own x)) x = none := by rw [upd_ne n.symm]; exact hx
    have s3 := s2.trans (same_new (o := .ins (cCalendar K) dx []) hx2)
    exact ⟨x, dx, pt, pr, C.tags, C.rules, rfl, upd_same, s3 _ _ X.t, X.r.same ClV.pers s3, G, fun H' ms pm sr CX k => ⟨rfl, h H' x ms pm sr CX (fun b o e => k _ _ (ne_of_none (s2 _ _ e) hx2) (s3 _ _ e)) hx⟩⟩
def sp_law_book (K : PySem.W.Frag) (mg : Str → Option Value) : Sp := fun vs H Q _ => ∃ (c dl pt ps pr : Addr) (C : ChartD) (Ds : List DealD), vs = [.ref c, .ref dl] ∧ ChartX K H c pt ps pr C ∧ Good C.tags C.rules ∧ LAt PactV H dl Ds ∧ (∀ D ∈ Ds, DealOk D) ∧ Ds.length ≤ 10 ∧
  (∀ ms ds0, ms.Perm C.tags → All2 SortOf Ds ds0 → Good ms C.rules ∧ DealsOk ms ds0 ∧ ∀ ds : List DealD, ds.Perm ds0 → Good ms (allC C.rules ds) ∧ NoRing ms (allC C.rules ds)) ∧
  ∀ H' r ms ds ds0, ms.Perm C.tags → sortedS ms = true → All2 SortOf Ds ds0 → ds.Perm ds0 → sortedS (ds.map (·.name)) = true → BookX K H' r ms C.rules ds → Same H H' → H r = none → Q (.ref r) H'
def SortX (K : PySem.W.Frag) (H : Hp) (v : V) (D : DealD) : Prop := ∃ E, SortOf D E ∧ DealX K H v E
theorem SortX.pers (K : PySem.W.Frag) : Pers (SortX K) := fun _ _ _ _ s ⟨E, h, x⟩ => ⟨E, h, DealX.pers K _ _ _ _ s x⟩
theorem sort_split {K : PySem.W.Frag} {H : Hp} {ys : List V} {Ds : List DealD} (h : All2 (SortX K H) ys Ds) : ∃ ds0, All2 SortOf Ds ds0 ∧ All2 (DealX K H) ys ds0 := by
  induction h with
  | nil => exact ⟨[], .nil, .nil⟩
  | cons p _ ih =>
    obtain ⟨E, a, b⟩ := p
    obtain ⟨ds, c, d⟩ := ih
    exact ⟨E :: ds, .cons a c, .cons b d⟩
def s_law_book : Stmt := top 90
abbrev N_law_book : List Str := ["_law_chart_here", "_law_pacts_here", "_law_pact_here"]
theorem sc_law_book : FnScope N_law_book ["_law_chart_here", "_law_pacts_here"] (defScope s_law_book) := C8.fnScope_by (by decide +kernel)
theorem ok_law_book {f : Addr} {fd : FuncData} (T : Tx K mg) (F : DefAt K "_law_book" "_law_book" s_law_book f fd) (hm : mg "_law_book" = some (.ref f)) (c_Book__init : Cn P w K mg base 5 "Book" (cBook K) (sp_Book__init K mg)) (c_law_deal : Cf P w K mg base 7 "_law_deal" (sp_law_deal K mg)) (c_law_calendar : Cf P w K mg base 7 "_law_calendar" (sp_law_calendar K mg)) : Cf P w K mg base 8 "_law_book" (sp_law_book K mg) := by
  refine cal_mk F hm sc_law_book (fun vs H Q E => ?_) (fun _ _ _ _ _ _ us hl => match us, hl with | [_, _], _ => rfl) (fun cdv A outer s H vs Q E hr h => ?_)
  · walk_at "ln"
  · obtain ⟨c, dl, pt, ps, pr, C, Ds, rfl, X, G, ⟨vs, el, al⟩, ok, hz, hg, h⟩ := h
    refine ⟨_, (pss_one (ps_ret (pe_mk0 c_Book__init hr (by decide) (by rfl) (pa_cons (pe_f c_law_calendar hr (by decide) (by rfl) (pa_cons (pv 0) pa_nil)) (pa_cons (pe_lc (own := [("_law_pact_here", 2)]) rfl sc_law_book.nd (pi_list (pv 1)) (blkOk_by (own := [("_law_pact_here", 2)]) (N := N_law_book) (sc := defScope s_law_book) (by decide +kernel)) (fun _ _ _ _ _ => (pg_name (i := 2) sc_law_book.nd rfl (Or.inl rfl))) (fun _ _ _ _ _ => pts_nil) (fun _ _ _ _ _ => (pe_f c_law_deal hr (by decide) (by rfl) (pa_cons (pv 2) pa_nil))) ) pa_nil))))), ?_⟩
    walk_at "nk"
    walk_at "go"
    refine ⟨c, pt, ps, pr, C, rfl, X, G, fun H1 r ms pm sm CX s1 hr1 => ?_⟩
    walk_at "go"
    have el1 := s1 _ _ el
    refine lcL el1 al some (SortX K) (SortX.pers K) (szl (by omega)) (fun x D H' hD px sm' => ?_) (fun L H2 ys hL s2 eL al2 => ?_)
    · intro Qo Qn ho hn
      walk_at "go"
      refine ⟨x, D, rfl, px.same (Same.trans' s1 sm'), ok D hD, fun H2 y E se s2 hy dx => ?_⟩
      walk_at "go"
      exact ho _ _ _ rfl s2 ⟨E, se, dx⟩
    · obtain ⟨ds0, so, ad⟩ := sort_split (by rw [List.filterMap_some] at al2; exact al2)
      have gs := hg ms ds0 pm so
      have CX2 := CX.same s2
      walk_at "go"
      intro x dx hx hdx n
      have s3 : Same H2 (upd H2 dx (.own x)) := same_new hdx
      have hx2 : (upd H2 dx (.own x)) x = none := by rw [upd_ne n.symm]; exact hx
      have s4 := s3.trans (same_new (o := .ins (cBook K) dx []) hx2)
      refine ⟨x, dx, r, L, ms, C.rules, ds0, rfl, upd_same, CX2.same s4, gs.1, ⟨ys, s4 _ _ eL, ad.mono fun v D q => q.same s4⟩, gs.2.1, gs.2.2, fun H' ds pd sd BX k => ⟨rfl, ?_⟩⟩
      have s5 : Same H2 H' := fun b o e => k _ _ (ne_of_none (s3 _ _ e) hx2) (s4 _ _ e)
      have s15 := Same.trans' s1 (Same.trans' s2 s5)
      refine h H' x ms ds ds0 pm sm so pd sd BX s15 ?_
      cases e : H x with
      | none => rfl
      | some u => rw [s2 _ _ (s1 _ _ e)] at hx; cases hx
def sp_law_pacts (K : PySem.W.Frag) (mg : Str → Option Value) : Sp := fun vs H Q _ => ∃ (a c pt ps pr : Addr) (C : ChartD) (n : Nat) (wide w8 : Int), vs = [.ref a, .ref c, .int n, .int wide] ∧ PotAt H a ∧ ChartX K H c pt ps pr C ∧ ChartOk C w8 ∧ w8 ≤ 100 ∧ a ≠ pt ∧ a ≠ pr ∧ n ≤ 4 ∧ 1 ≤ wide ∧ wide < 100 ∧
  ∀ H' l vs Ds, OffP a H H' → H l = none → H' l = some (.lst vs) → All2 (PactX a H') vs Ds → (∀ p, V.ref p ∈ vs → H p = none) → (Ds.map (·.name)).Nodup → Ds.length = n → (∀ D ∈ Ds, PactOk C D) → Q (.ref l) H'
theorem All2.snoc' {α β : Type} {R : α → β → Prop} {as : List α} {bs : List β} {a : α} {b : β} (h : All2 R as bs) (r : R a b) : All2 R (as ++ [a]) (bs ++ [b]) := by
  induction h with
  | nil => exact .cons r .nil
  | cons p _ ih => exact .cons p ih
theorem PactX.notL {a L : Addr} {H : Hp} {ss : List Str} {ys : List V} {Ds : List DealD} (e : H L = some (.lst ys)) (al : All2 (PactX a H) ys Ds) {b : Addr} (h : H b = some (.lst (ss.map V.str))) (lo : 1 ≤ ss.length) : b ≠ L := by
  rintro rfl
  rw [h] at e
  cases e
  match ss, lo with
  | s :: ss, _ =>
    cases al with
    | cons p _ => obtain ⟨_, _, _, _, _, _, z, _⟩ := p; cases z
theorem PactX.updL {a L : Addr} {H : Hp} {v : V} {D : DealD} {o : HO} {ys : List V} {Ds : List DealD} (h : PactX a H v D) (ok : DealOk D) (e : H L = some (.lst ys)) (al : All2 (PactX a H) ys Ds) : PactX a (upd H L o) v D := by
  obtain ⟨p, pf, pl, pw, pb, pe, rfl, h0, h1, h2, h3, h4, h5, n⟩ := h
  have k : ∀ b u, H b = some u → (∀ xs, u ≠ .lst xs) → b ≠ L := fun b u z q y => by rw [y, e] at z; cases z; exact q _ rfl
  exact ⟨p, pf, pl, pw, pb, pe, rfl, up_ne (k _ _ h0 (fun xs z => by cases z)) h0, up_ne (PactX.notL e al h1 ok.films.lo) h1, up_ne (PactX.notL e al h2 ok.lands.lo) h2, up_ne (PactX.notL e al h3 ok.ways.lo) h3, up_ne (k _ _ h4 (fun xs z => by cases z)) h4, up_ne (k _ _ h5 (fun xs z => by cases z)) h5, n⟩
theorem PactX.updAll {a L : Addr} {H : Hp} {o : HO} {ys zs : List V} {Ds Es : List DealD} (al : All2 (PactX a H) ys Ds) (h : All2 (PactX a H) zs Es) (ok : ∀ D ∈ Es, DealOk D) (e : H L = some (.lst ys)) : All2 (PactX a (upd H L o)) zs Es := by
  induction h with
  | nil => exact .nil
  | cons p _ ih => exact .cons (p.updL (ok _ (by simp)) e al) (ih fun D hD => ok D (by simp [hD]))
def s_law_pacts : Stmt := top 88
abbrev N_law_pacts : List Str := ["_law_pot_here", "_law_chart_here", "_law_many", "_law_wide", "_law_tags", "_law_tag"]
theorem sc_law_pacts : FnScope N_law_pacts ["_law_pot_here", "_law_chart_here", "_law_many", "_law_wide"] (defScope s_law_pacts) := C8.fnScope_by (by decide +kernel)
theorem ok_law_pacts {f : Addr} {fd : FuncData} (T : Tx K mg) (F : DefAt K "_law_pacts" "_law_pacts" s_law_pacts f fd) (hm : mg "_law_pacts" = some (.ref f)) (c_law_some : Cf P w K mg base 2 "_law_some" (sp_law_some K mg)) (c_law_pact : Cf P w K mg base 3 "_law_pact" (sp_law_pact K mg)) : Cf P w K mg base 4 "_law_pacts" (sp_law_pacts K mg) := by
  refine cal_mk F hm sc_law_pacts (fun vs H Q E => ?_) (fun _ _ _ _ _ _ us hl => match us, hl with | [_, _, _, _], _ => rfl) (fun cdv A outer s H vs Q E hr h => ?_)
  · walk_at "ln"
  · obtain ⟨a, c, pt, ps, pr, C, n, wide, w8, rfl, pa, X, CO, hw8, npt, npr, hn, hw1, hw2, h⟩ := h
    refine ⟨_, (pss_cons (ps_set (i := 4) sc_law_pacts.nd rfl (Or.inl rfl) (pe_f c_law_some hr (by decide) (by rfl) (pa_cons (pv 0) (pa_cons (pe_lst (pa_cons pe_str (pa_cons pe_str (pa_cons pe_str (pa_cons pe_str (pa_cons pe_str (pa_cons pe_str (pa_cons pe_str (pa_cons pe_str (pa_cons pe_str (pa_cons pe_str pa_nil))))))))))) (pa_cons (pv 2) pa_nil)))))
      (pss_one (ps_ret (pe_lc (own := [("_law_tag", 5)]) rfl sc_law_pacts.nd (pi_list (pv 4)) (blkOk_by (own := [("_law_tag", 5)]) (N := N_law_pacts) (sc := defScope s_law_pacts) (by decide +kernel)) (fun _ _ _ _ _ => (pg_name (i := 5) sc_law_pacts.nd rfl (Or.inl rfl))) (fun _ _ _ _ _ => pts_nil) (fun _ _ _ _ _ => (pe_f c_law_pact hr (by decide) (by rfl) (pa_cons (pv 0) (pa_cons (pv 1) (pa_cons (pv 5) (pa_cons (pv 3) pa_nil)))))) )))), ?_⟩
    walk_at "nk"
    walk_at "go"
    intro l0 hl0
    have f0 : OffP a H (upd H l0 (.lst [V.str "a", V.str "b", V.str "c", V.str "net", V.str "show", V.str "q", V.str "r", V.str "disc", V.str "hall", V.str "zz"])) := (OffP.refl pa).new hl0
    walk_at "go"
    refine ⟨a, l0, [("a" : Str), ("b" : Str), ("c" : Str), ("net" : Str), ("show" : Str), ("q" : Str), ("r" : Str), ("disc" : Str), ("hall" : Str), ("zz" : Str)], n, rfl, f0.p, upd_same, by decide +kernel, by show n ≤ 10; omega, by decide, fun H1 q ts nd hl hin f1 hq eq => ?_⟩
    have nm : ∀ s ∈ ts, NameS s := fun s hs => (names_by (ss := [("a" : Str), ("b" : Str), ("c" : Str), ("net" : Str), ("show" : Str), ("q" : Str), ("r" : Str), ("disc" : Str), ("hall" : Str), ("zz" : Str)]) (by decide +kernel)) s (hin s hs)
    have f01 := f0.trans f1
    have hq0 : H q = none := (none_up hq).2
    have naq : a ≠ q := by obtain ⟨x, y, e, _⟩ := pa; exact ne_of_none e hq0
    walk_at "go"
    refine lcLI (All2.raw V.str ts) eq fun L hL => ⟨fun d H' => OffP a H H' ∧ H' q = some (.lst (ts.map V.str)) ∧ ∃ ys Ds, H' L = some (.lst ys) ∧ All2 (PactX a H') ys Ds ∧ (∀ p, V.ref p ∈ ys → H p = none) ∧ Ds.map (·.name) = d ∧ ∀ D ∈ Ds, PactOk C D, ?_, fun d H' p => p.2.1, fun d t r x H' e ex p => ?_, fun H' p => ?_⟩
    · exact ⟨f01.new hL, up_old hL eq, [], [], upd_same, .nil, fun p h => (by cases h), rfl, fun D h => by cases h⟩
    · obtain ⟨f2, eq2, ys, Ds, eL, al, hnw, hd, hok⟩ := p
      subst ex
      have X2 := X.offP pa f2 npt npr
      walk_at "go"
      refine ⟨a, c, pt, ps, pr, C, t, wide, w8, rfl, f2.p, X2, CO, hw8, npt, npr, nm t (by simp [e]), hw1, hw2, fun H2 p D f3 hp X3 dn ok => ?_⟩
      have naL : a ≠ L := by obtain ⟨x, y, e, _⟩ := f01.p; exact ne_of_none e hL
      have nqL : q ≠ L := ne_of_none eq hL
      have hL0 : H L = none := f01.none pa hL
      have eL2 := f3.k _ _ naL.symm eL
      have al2 : All2 (PactX a H2) ys Ds := al.mono fun v D h => h.offP f2.p f3
      have ly : ys.length = d.length := by rw [al.len, ← hd, List.length_map]
      have lt : d.length < ts.length := by rw [e]; simp
      refine ⟨ys, eL2, szl (by omega), ⟨fun b o n e => up_ne (ne_of_none e hL0) (f3.k _ _ n (f2.k _ _ n e)), by obtain ⟨x, y, e, h⟩ := f3.p; exact ⟨x, y, up_ne naL e, h⟩⟩, up_ne nqL (f3.k _ _ naq.symm eq2), ys ++ [.ref p], Ds ++ [D], upd_same, ?_, fun r hr => ?_, by simp [hd, dn], fun E hE => ?_⟩
      · exact (PactX.updAll al2 al2 (fun D h => (hok D h).ok) eL2).snoc' (X3.updL ok.ok eL2 al2)
      · rcases List.mem_append.mp hr with z | z
        · exact hnw r z
        · rw [List.mem_singleton] at z
          cases z
          exact f2.none pa hp
      · rcases List.mem_append.mp hE with z | z
        · exact hok E z
        · rw [List.mem_singleton] at z; exact z ▸ ok
    · obtain ⟨f2, eq2, ys, Ds, eL, al, hnw, hd, hok⟩ := p
      have hL0 : H L = none := f01.none pa hL
      walk_at "go"
      exact h H' L ys Ds f2 hL0 eL al hnw (by rw [hd]; exact nd) (by rw [← hl, ← hd, List.length_map]) hok
end
end Ld
namespace Ld
open PySem PySem.Spec PyProof.Rows L2
/-! ### dates as dicts, and what the law reads from them -/
def SpX (tags : List Str) (H : Hp) (v : V) (φ : Str → Int) : Prop := ∃ p, v = .ref p ∧ H p = some (.dK (dI (spotsL tags φ)))
theorem SpX.same {tags : List Str} {H H' : Hp} {v : V} {φ : Str → Int} (h : SpX tags H v φ) (s : Same H H') : SpX tags H' v φ := by
  obtain ⟨p, e, h⟩ := h
  exact ⟨p, e, s _ _ h⟩
def begE (φ : Str → Int) (D : DealD) : Int := phi φ D.bm + D.bn
def endE (φ : Str → Int) (D : DealD) : Int := phi φ D.em + D.en
structure Onn (tags : List Str) (D : DealD) : Prop where
  bm : D.bm ∈ tags ++ [dayS]
  em : D.em ∈ tags ++ [dayS]
def keepB (cs : List Clause) (φ : Str → Int) : Bool := cs.all fun c => decide (phi φ c.1 ≤ phi φ c.2.1 + c.2.2)
def sp_law_stretch (K : PySem.W.Frag) (mg : Str → Option Value) : Sp := fun vs H Q _ => ∃ (v u : V) (tags : List Str) (φ : Str → Int) (D : DealD), vs = [v, u] ∧ (∀ t ∈ tags, NameS t) ∧ SpX tags H v φ ∧ PactV H u D ∧ Onn tags D ∧ ∀ H' p, Same H H' → H p = none → H' p = some (.tup [.int (begE φ D), .int (endE φ D)]) → Q (.ref p) H'
def sp_law_keep (K : PySem.W.Frag) (mg : Str → Option Value) : Sp := fun vs H Q _ => ∃ (v : V) (l : Addr) (tags : List Str) (φ : Str → Int) (cs : List Clause), vs = [v, .ref l] ∧ (∀ t ∈ tags, NameS t) ∧ SpX tags H v φ ∧ LAt ClV H l cs ∧ cs.length ≤ 1000 ∧ (∀ c ∈ cs, c.1 ∈ tags ++ [dayS] ∧ c.2.1 ∈ tags ++ [dayS]) ∧ ∀ H', Same H H' → Q (.bl (keepB cs φ)) H'
def sp_law_may_meet (K : PySem.W.Frag) (mg : Str → Option Value) : Sp := fun vs H Q _ => ∃ (g : Addr) (u u2 : V) (tags : List Str) (φs : List (Str → Int)) (D E : DealD) (i j : Int), vs = [.ref g, u, u2, .int i, .int j] ∧ (∀ t ∈ tags, NameS t) ∧ LAt (SpX tags) H g φs ∧ PactV H u D ∧ PactV H u2 E ∧ Onn tags D ∧ Onn tags E ∧
  ∀ H', Same H H' → Q (.bl (φs.any fun φ => decide (begE φ D - i ≤ endE φ E) && decide (begE φ E ≤ endE φ D + j))) H'
section
variable {P : Program} {w : World} {K : PySem.W.Frag} {mg : Str → Option Value} {base : Heap}
def s_law_stretch : Stmt := top 98
abbrev N_law_stretch : List Str := ["_law_spots", "_law_pact_here"]
theorem sc_law_stretch : FnScope N_law_stretch ["_law_spots", "_law_pact_here"] (defScope s_law_stretch) := C8.fnScope_by (by decide +kernel)
theorem ok_law_stretch {f : Addr} {fd : FuncData} (T : Tx K mg) (F : DefAt K "_law_stretch" "_law_stretch" s_law_stretch f fd) (hm : mg "_law_stretch" = some (.ref f)) : Cf P w K mg base 1 "_law_stretch" (sp_law_stretch K mg) := by
  refine cal_mk F hm sc_law_stretch (fun vs H Q E => ?_) (fun _ _ _ _ _ _ us hl => match us, hl with | [_, _], _ => rfl) (fun cdv A outer s H vs Q E hr h => ?_)
  · walk_at "ln"
  · obtain ⟨v, u, tags, φ, D, rfl, nm, ⟨a, rfl, ha⟩, ⟨p, pf, pl, pw, pb, pe, rfl, h0, h1, h2, h3, h4, h5⟩, on, h⟩ := h
    unfold pactK at h0
    have lb := lookup_spots (φ := φ) nm on.bm
    have le := lookup_spots (φ := φ) nm on.em
    refine ⟨_, (pss_one (ps_ret (pe_tup (pa_cons (pe_op op_add (pe_dget (hu_of hr) (pv 0) (pe_ix ix_tup (pe_dget (hu_of hr) (pv 1) pe_str (fun _ _ => rfl)) pe_int (fun _ _ => rfl)) (fun _ _ => rfl)) (pe_ix ix_tup (pe_dget (hu_of hr) (pv 1) pe_str (fun _ _ => rfl)) pe_int (fun _ _ => rfl))) (pa_cons (pe_op op_add (pe_dget (hu_of hr) (pv 0) (pe_ix ix_tup (pe_dget (hu_of hr) (pv 1) pe_str (fun _ _ => rfl)) pe_int (fun _ _ => rfl)) (fun _ _ => rfl)) (pe_ix ix_tup (pe_dget (hu_of hr) (pv 1) pe_str (fun _ _ => rfl)) pe_int (fun _ _ => rfl))) pa_nil))))), ?_⟩
    walk_at "nk"
    walk_at "go"
    exact fun q hq => h _ _ (same_new hq) hq upd_same
def s_law_keep : Stmt := top 96
abbrev N_law_keep : List Str := ["_law_spots", "_law_rules_here", "_law_here", "_law_there", "_law_gap"]
theorem sc_law_keep : FnScope N_law_keep ["_law_spots", "_law_rules_here"] (defScope s_law_keep) := C8.fnScope_by (by decide +kernel)
theorem ok_law_keep {f : Addr} {fd : FuncData} (T : Tx K mg) (F : DefAt K "_law_keep" "_law_keep" s_law_keep f fd) (hm : mg "_law_keep" = some (.ref f)) : Cf P w K mg base 1 "_law_keep" (sp_law_keep K mg) := by
  refine cal_mk F hm sc_law_keep (fun vs H Q E => ?_) (fun _ _ _ _ _ _ us hl => match us, hl with | [_, _], _ => rfl) (fun cdv A outer s H vs Q E hr h => ?_)
  · walk_at "ln"
  · obtain ⟨v, l, tags, φ, cs, rfl, nm, ⟨a, rfl, ha⟩, ⟨vs, el, al⟩, hz, hc, h⟩ := h
    refine ⟨_, (pss_one (ps_ret (pe_callB (cr_all rfl) (by rfl) T.f_all (by decide +kernel) (pa_cons (pe_lc (own := [("_law_here", 2), ("_law_there", 3), ("_law_gap", 4)]) rfl sc_law_keep.nd (pi_list (pv 1)) (blkOk_by (own := [("_law_here", 2), ("_law_there", 3), ("_law_gap", 4)]) (N := N_law_keep) (sc := defScope s_law_keep) (by decide +kernel)) (fun _ _ _ _ _ => (pg_tupB (K := K) (n := 3) rfl (pgs_cons (pg_name (i := 2) sc_law_keep.nd rfl (Or.inl rfl)) (pgs_cons (pg_name (i := 3) sc_law_keep.nd rfl (Or.inl rfl)) (pgs_cons (pg_name (i := 4) sc_law_keep.nd rfl (Or.inl rfl)) pgs_nil))))) (fun _ _ _ _ _ => pts_nil) (fun _ _ _ _ _ => (pe_cmpR op_le (pe_dget (hu_of hr) (pv 0) (pv 2) (fun _ _ => rfl)) (pe_op op_add (pe_dget (hu_of hr) (pv 0) (pv 3) (fun _ _ => rfl)) (pv 4)) (nomark _))) ) pa_nil)))), ?_⟩
    walk_at "nk"
    walk_at "go"
    refine lcL el al (fun c => some (decide (phi φ c.1 ≤ phi φ c.2.1 + c.2.2))) (fun _ v b => v = .bl b) (fun _ _ _ _ _ h => h) (szl (by omega)) (fun x c H' hcs hx sm => ?_) (fun L H2 ys hL s2 eL al2 => ?_)
    · intro Qo Qn ho hn
      obtain ⟨q, rfl, eq, _⟩ := hx
      have eq1 := sm _ _ eq
      have ha1 := sm _ _ ha
      have lb := lookup_spots (φ := φ) nm (hc c hcs).1
      have le := lookup_spots (φ := φ) nm (hc c hcs).2
      walk_at "go"
      exact ho _ _ _ rfl (Same.refl' _) rfl
    · have e := All2.eq_map al2
      subst e
      walk_at "go"
      have s3 := h H2 s2
      unfold keepB at s3
      rw [show (List.filterMap (fun c : Clause => some (decide (phi φ c.1 ≤ phi φ c.2.1 + c.2.2))) cs).all id = cs.all fun c => decide (phi φ c.1 ≤ phi φ c.2.1 + c.2.2) from by rw [List.filterMap_eq_map', List.all_map]; rfl]
      exact s3
def s_law_may_meet : Stmt := top 102
abbrev N_law_may_meet : List Str := ["_law_good_here", "_law_pact_here", "_law_mate", "_law_early", "_law_late", "_law_spots", "_law_here", "_law_there"]
theorem sc_law_may_meet : FnScope N_law_may_meet ["_law_good_here", "_law_pact_here", "_law_mate", "_law_early", "_law_late"] (defScope s_law_may_meet) := C8.fnScope_by (by decide +kernel)
theorem ok_law_may_meet {f : Addr} {fd : FuncData} (T : Tx K mg) (F : DefAt K "_law_may_meet" "_law_may_meet" s_law_may_meet f fd) (hm : mg "_law_may_meet" = some (.ref f)) (c_law_stretch : Cf P w K mg base 1 "_law_stretch" (sp_law_stretch K mg)) : Cf P w K mg base 2 "_law_may_meet" (sp_law_may_meet K mg) := by
  refine cal_mk F hm sc_law_may_meet (fun vs H Q E => ?_) (fun _ _ _ _ _ _ us hl => match us, hl with | [_, _, _, _, _], _ => rfl) (fun cdv A outer s H vs Q E hr h => ?_)
  · walk_at "ln"
  · obtain ⟨g, u, u2, tags, φs, D, E', i, j, rfl, nm, ⟨vs, eg, al⟩, pD, pE, oD, oE, h⟩ := h
    refine ⟨_, (pss_cons (ps_for PassesOwn.never rfl (pi_list (pv 0)) (pg_name (i := 5) sc_law_may_meet.nd rfl (Or.inl rfl)) (pss_cons (ps_par (i := 6) (j := 7) rfl sc_law_may_meet.nd rfl rfl (by decide) rfl rfl (pa_cons (pe_f c_law_stretch hr (by decide) (by rfl) (pa_cons (pv 5) (pa_cons (pv 1) pa_nil))) (pa_cons (pe_f c_law_stretch hr (by decide) (by rfl) (pa_cons (pv 5) (pa_cons (pv 2) pa_nil))) pa_nil)) (by rfl))
      (pss_one (ps_if (PW.pt (pw_and (pt_cmpR op_le (pe_op op_sub (pe_ix ix_tup (pv 6) pe_int (fun _ _ => rfl)) (pv 3)) (pe_ix ix_tup (pv 7) pe_int (fun _ _ => rfl)) (nomark _)) (pw_and1 (pt_cmpR op_le (pe_ix ix_tup (pv 7) pe_int (fun _ _ => rfl)) (pe_op op_add (pe_ix ix_tup (pv 6) pe_int (fun _ _ => rfl)) (pv 4)) (nomark _))))) (pss_one (ps_ret pe_bl)) pss_nil))))
      (pss_one (ps_ret pe_bl))), ?_⟩
    walk_at "nk"
    walk_at "go"
    refine forL al (fun d σ H' => Same H H' ∧ ∃ x y z, σ = [some (.ref g), some u, some u2, some (.int i), some (.int j), x, y, z] ∧ ∀ φ ∈ d, (decide (begE φ D - i ≤ endE φ E') && decide (begE φ E' ≤ endE φ D + j)) = false)
      ⟨Same.refl' _, _, _, _, rfl, fun φ h => by cases h⟩ (fun d σ H' p => p.1 _ _ eg) (fun d φ r x σ H' e hx p => ?_) (fun σ H' p => ?_)
    · obtain ⟨s1, x1, y1, z1, rfl, hn⟩ := p
      walk_at "go"
      refine ⟨x, u, tags, φ, D, rfl, nm, hx.same s1, pD.same s1, oD, fun H2 p s2 hp ep => ?_⟩
      have s12 := Same.trans' s1 s2
      walk_at "go"
      refine ⟨x, u2, tags, φ, E', rfl, nm, hx.same s12, pE.same s12, oE, fun H3 q s3 hq eq => ?_⟩
      have s13 := Same.trans' s12 s3
      have ep3 := s3 _ _ ep
      walk_at "go"
      by_cases k1 : begE φ D - i ≤ endE φ E'
      · by_cases k2 : begE φ E' ≤ endE φ D + j
        · walk_at "go"
          have z : (φs.any fun φ => decide (begE φ D - i ≤ endE φ E') && decide (begE φ E' ≤ endE φ D + j)) = true := by
            rw [List.any_eq_true]
            exact ⟨φ, by simp [e], by simp [k1, k2]⟩
          have := h H3 s13
          rw [z] at this
          exact this
        · walk_at "go"
          refine ⟨s13, _, _, _, rfl, fun ψ hψ => ?_⟩
          rcases List.mem_append.mp hψ with y | y
          · exact hn ψ y
          · rw [List.mem_singleton] at y; subst y; simp [k2]
      · walk_at "go"
        refine ⟨s13, _, _, _, rfl, fun ψ hψ => ?_⟩
        rcases List.mem_append.mp hψ with y | y
        · exact hn ψ y
        · rw [List.mem_singleton] at y; subst y; simp [k1]
    · obtain ⟨s1, x1, y1, z1, rfl, hn⟩ := p
      walk_at "go"
      have z : (φs.any fun φ => decide (begE φ D - i ≤ endE φ E') && decide (begE φ E' ≤ endE φ D + j)) = false := by
        rw [List.any_eq_false]
        intro φ hφ
        rw [hn φ hφ]
        decide
      have := h H' s1
      rw [z] at this
      exact this
end
end Ld
namespace Ld
open PySem PySem.Spec PyProof.Rows L2
/-! ### the least gap over dates -/
def gapsL (φs : List (Str → Int)) (D E : DealD) : List Int := φs.map fun φ => begE φ E - endE φ D - 1
def sp_law_least (K : PySem.W.Frag) (mg : Str → Option Value) : Sp := fun vs H Q _ => ∃ (g : Addr) (u u2 : V) (tags : List Str) (φs : List (Str → Int)) (D E : DealD), vs = [.ref g, u, u2] ∧ (∀ t ∈ tags, NameS t) ∧ LAt (SpX tags) H g φs ∧ φs ≠ [] ∧ φs.length ≤ 100000 ∧ PactV H u D ∧ PactV H u2 E ∧ Onn tags D ∧ Onn tags E ∧
  ∀ H' M, Same H H' → M ∈ gapsL φs D E → (∀ x ∈ gapsL φs D E, M ≤ x) → Q (optI (if 0 ≤ M then some M else none)) H'
section
variable {P : Program} {w : World} {K : PySem.W.Frag} {mg : Str → Option Value} {base : Heap}
def s_law_least : Stmt := top 101
abbrev N_law_least : List Str := ["_law_good_here", "_law_pact_here", "_law_mate", "_law_found", "_law_spots"]
theorem sc_law_least : FnScope N_law_least ["_law_good_here", "_law_pact_here", "_law_mate"] (defScope s_law_least) := C8.fnScope_by (by decide +kernel)
theorem ok_law_least {f : Addr} {fd : FuncData} (T : Tx K mg) (F : DefAt K "_law_least" "_law_least" s_law_least f fd) (hm : mg "_law_least" = some (.ref f)) (c_law_stretch : Cf P w K mg base 1 "_law_stretch" (sp_law_stretch K mg)) : Cf P w K mg base 2 "_law_least" (sp_law_least K mg) := by
  refine cal_mk F hm sc_law_least (fun vs H Q E => ?_) (fun _ _ _ _ _ _ us hl => match us, hl with | [_, _, _], _ => rfl) (fun cdv A outer s H vs Q E hr h => ?_)
  · walk_at "ln"
  · obtain ⟨g, u, u2, tags, φs, D, E', rfl, nm, ⟨vs, eg, al⟩, hne, hz, pD, pE, oD, oE, h⟩ := h
    refine ⟨_, (pss_cons (ps_setLc (i := 3) (own := [("_law_spots", 4)]) rfl sc_law_least.nd rfl rfl (sw_true rfl rfl rfl (by decide +kernel)) (pi_list (pv 0)) (blkOk_by (own := [("_law_spots", 4)]) (N := N_law_least) (sc := defScope s_law_least) (by decide +kernel)) (fun _ _ _ _ _ => (pg_name (i := 4) sc_law_least.nd rfl (Or.inl rfl))) (fun _ _ _ _ _ => pts_nil) (fun _ _ _ _ _ => (pe_op op_sub (pe_op op_sub (pe_ix (ix_tupB (K := K)) (pe_f c_law_stretch hr (by decide) (by rfl) (pa_cons (pv 4) (pa_cons (pv 2) pa_nil))) pe_int (fun _ _ => rfl)) (pe_ix (ix_tupB (K := K)) (pe_f c_law_stretch hr (by decide) (by rfl) (pa_cons (pv 4) (pa_cons (pv 1) pa_nil))) pe_int (fun _ _ => rfl))) pe_int)) )
      (pss_one (ps_ret (pe_ifExp (pt_cmpR op_ge (pe_callB (cr_min rfl) (by rfl) T.f_min (by decide +kernel) (pa_cons (pv 3) pa_nil)) pe_int (nomark _)) (pe_callB (cr_min rfl) (by rfl) T.f_min (by decide +kernel) (pa_cons (pv 3) pa_nil)) pe_non)))), ?_⟩
    walk_at "nk"
    walk_at "go"
    refine lcL eg al (fun φ => some (begE φ E' - endE φ D - 1)) (fun _ v i => v = .int i) (fun _ _ _ _ _ h => h) (szl (by omega)) (fun x φ H' hφ hx sm => ?_) (fun L H2 ys hL s2 eL al2 => ?_)
    · intro Qo Qn ho hn
      walk_at "go"
      refine ⟨x, u2, tags, φ, E', rfl, nm, hx.same sm, pE.same sm, oE, fun H2 p s2 hp ep => ?_⟩
      have s12 := Same.trans' sm s2
      walk_at "go"
      refine ⟨x, u, tags, φ, D, rfl, nm, hx.same s12, pD.same s12, oD, fun H3 q s3 hq eq => ?_⟩
      have ep3 := s3 _ _ ep
      walk_at "go"
      exact ho _ _ _ rfl (Same.trans' s2 s3) rfl
    · have e := All2.eq_map al2
      subst e
      rw [List.filterMap_eq_map'] at eL
      have eL' : H2 L = some (.lst ((gapsL φs D E').map V.int)) := eL
      have gne : 0 < (gapsL φs D E').length := by unfold gapsL; rw [List.length_map]; exact List.length_pos_iff.mpr hne
      walk_at "go"
      refine ⟨L, _, rfl, .of eL', gne, fun M hM hl => ?_⟩
      walk_at "go"
      by_cases k : 0 ≤ M
      · walk_at "go"
        walk_at "go"
        refine ⟨L, _, rfl, .of eL', gne, fun N hN hl2 => ?_⟩
        have e : N = M := by have := hl N hN; have := hl2 M hM; omega
        subst e
        have := h H2 N s2 hM hl
        rw [if_pos k] at this
        exact this
      · walk_at "go"
        walk_at "go"
        have := h H2 M s2 hM hl
        rw [if_neg k] at this
        exact this
end
end Ld
namespace Ld
open PySem PySem.Spec PyProof.Rows L2
/-! ### the cells of a pact -/
def InC (F L W : List Str) (c : Cell) : Prop := c.1 ∈ F ∧ c.2.1 ∈ L ∧ c.2.2 ∈ W
def sp_law_cells (K : PySem.W.Frag) (mg : Str → Option Value) : Sp := fun vs H Q _ => ∃ (v : V) (D : DealD), vs = [v] ∧ PactV H v D ∧ DealOk D ∧ ∀ H' p cs, Same H H' → H p = none → (∀ c, c ∈ cs ↔ InC D.films D.lands D.ways c) → cs.length ≤ 48 → LAt CellV H' p cs → Q (.ref p) H'
section
variable {P : Program} {w : World} {K : PySem.W.Frag} {mg : Str → Option Value} {base : Heap}
def s_law_cells : Stmt := top 93
abbrev N_law_cells : List Str := ["_law_pact_here", "_law_found", "_law_show", "_law_ground", "_law_road"]
theorem sc_law_cells : FnScope N_law_cells ["_law_pact_here"] (defScope s_law_cells) := C8.fnScope_by (by decide +kernel)
theorem ok_law_cells {f : Addr} {fd : FuncData} (T : Tx K mg) (F : DefAt K "_law_cells" "_law_cells" s_law_cells f fd) (hm : mg "_law_cells" = some (.ref f)) : Cf P w K mg base 1 "_law_cells" (sp_law_cells K mg) := by
  refine cal_mk F hm sc_law_cells (fun vs H Q E => ?_) (fun _ _ _ _ _ _ us hl => match us, hl with | [_], _ => rfl) (fun cdv A outer s H vs Q E hr h => ?_)
  · walk_at "ln"
  · obtain ⟨v, D, rfl, ⟨a, pf, pl, pw, pb, pe, rfl, h0, h1, h2, h3, _⟩, G, h⟩ := h
    unfold pactK at h0
    refine ⟨_, (pss_cons (ps_set (i := 1) sc_law_cells.nd rfl (Or.inl rfl) (pe_lst pa_nil))
      (pss_cons (ps_for PassesOwn.never rfl (pi_list (pe_callB cr_sortedS (by rfl) T.f_sorted (by decide +kernel) (pa_cons (pe_dget (hu_of hr) (pv 0) pe_str (fun _ _ => rfl)) pa_nil))) (pg_name (i := 2) sc_law_cells.nd rfl (Or.inr rfl)) (pss_one (ps_for PassesOwn.never rfl (pi_list (pe_callB cr_sortedS (by rfl) T.f_sorted (by decide +kernel) (pa_cons (pe_dget (hu_of hr) (pv 0) pe_str (fun _ _ => rfl)) pa_nil))) (pg_name (i := 3) sc_law_cells.nd rfl (Or.inr rfl)) (pss_one (ps_expr (pe_bm PySem.F.plainAttrs_list PySem.F.slot_list_extend PySem.F.type_list_extend mt_extend (pv 1) (pa_cons (pe_lc (own := [("_law_road", 4)]) rfl sc_law_cells.nd (pi_list (pe_callB cr_sortedS (by rfl) T.f_sorted (by decide +kernel) (pa_cons (pe_dget (hu_of hr) (pv 0) pe_str (fun _ _ => rfl)) pa_nil))) (blkOk_by (own := [("_law_road", 4)]) (N := N_law_cells) (sc := defScope s_law_cells) (by decide +kernel)) (fun _ _ _ _ _ => (pg_name (i := 4) sc_law_cells.nd rfl (Or.inl rfl))) (fun _ _ _ _ _ => pts_nil) (fun _ _ _ _ _ => (pe_tup (pa_cons (pv 2) (pa_cons (pv 3) (pa_cons (pv 4) pa_nil))))) ) pa_nil)))))))
      (pss_one (ps_ret (pv 1))))), ?_⟩
    walk_at "nk"
    walk_at "go"
    intro l hl
    have s0 : Same H (upd H l (.lst [])) := same_new hl
    have hzf : D.films.length < 64 := by have := G.films.hi; omega
    have hzl : D.lands.length < 64 := by have := G.lands.hi; omega
    have hzw : D.ways.length < 64 := by have := G.ways.hi; omega
    walk_at "go"
    have h1' := s0 _ _ h1
    refine go_sorted h1' hzf fun fs qf pf0 sf0 hqf => ?_
    have nql : qf ≠ l := by rintro rfl; rw [upd_same] at hqf; cases hqf
    have lfs := pf0.length_eq
    have hfi := G.films.hi
    walk_at "go"
    refine forL (All2.raw V.str fs) (fun d σ H' => ∃ x y z vs L, σ = [some (.ref a), some (.ref l), x, y, z] ∧ Same H H' ∧ H' qf = some (.lst (fs.map V.str)) ∧ H' l = some (.lst vs) ∧ All2 (CellV H') vs L ∧ vs.length ≤ 12 * d.length ∧ ∀ c, c ∈ L ↔ InC d D.lands D.ways c)
      ⟨_, _, _, [], [], rfl, s0.trans (same_new hqf), upd_same, up_old hqf upd_same, .nil, Nat.zero_le _, fun c => by simp [InC]⟩ (fun d σ H' p => by obtain ⟨_, _, _, _, _, _, _, p, _⟩ := p; exact p) (fun d f r x σ H1 e ex hp => ?_) (fun σ H1 hp => ?_)
    · obtain ⟨x1, y1, z1, ws, L, rfl, s1, eq, el, al, hz, hL⟩ := hp
      subst ex
      have o1 := s1 _ _ h0
      have l1 := s1 _ _ h2
      have lf : d.length < 4 := by
        have := congrArg List.length e
        simp at this
        omega
      have okf : Ok f := (G.films.nm f (pf0.mem_iff.mp (by simp [e]))).ok
      walk_at "go"
      refine go_sorted l1 hzl fun ls ql pl0 sl0 hql => ?_
      have nqll : ql ≠ l := by rintro rfl; rw [el] at hql; cases hql
      have lls := pl0.length_eq
      have hla := G.lands.hi
      have s1q : Same H1 (upd H1 ql (.lst (ls.map V.str))) := same_new hql
      walk_at "go"
      refine forL (All2.raw V.str ls) (fun d2 σ H' => ∃ y z vs L2, σ = [some (.ref a), some (.ref l), some (.str f), y, z] ∧ Same H H' ∧ H' qf = some (.lst (fs.map V.str)) ∧ H' ql = some (.lst (ls.map V.str)) ∧ H' l = some (.lst vs) ∧ All2 (CellV H') vs (L ++ L2) ∧ vs.length ≤ 12 * d.length + 3 * d2.length ∧ ∀ c, c ∈ L2 ↔ InC [f] d2 D.ways c)
        ⟨_, _, _, [], rfl, s1.trans s1q, s1q _ _ eq, upd_same, s1q _ _ el, by simpa using al.mono fun v c h => CellV.pers _ _ _ _ (SameN.of s1q) h, by simpa using hz, fun c => by simp [InC]⟩ (fun d σ H' p => by obtain ⟨_, _, _, _, _, _, _, p, _⟩ := p; exact p) (fun d2 k r2 x σ H2 e2 ex hp => ?_) (fun σ H2 hp => ?_)
      · obtain ⟨y2, z2, us, L2, rfl, s2, eq2, eql2, el2, al2, hz2, hL2⟩ := hp
        subst ex
        have o2 := s2 _ _ h0
        have w2 := s2 _ _ h3
        have lf2 : d2.length < 4 := by
          have := congrArg List.length e2
          simp at this
          omega
        have okk : Ok k := (G.lands.nm k (pl0.mem_iff.mp (by simp [e2]))).ok
        walk_at "go"
        refine go_sorted w2 hzw fun wys qw pw0 sw0 hqw => ?_
        have sw : Same H2 (upd H2 qw (.lst (wys.map V.str))) := same_new hqw
        have lws := pw0.length_eq
        have hwa := G.ways.hi
        walk_at "go"
        refine lcL upd_same (All2.raw V.str wys) (fun w => some (f, k, w)) CellV CellV.pers (szl (by omega)) (fun x w H' hw ex sm => ?_) (fun D1 H3 ys hD sm eD al3 => ?_)
        · intro Qo Qn ho hn
          subst ex
          walk_at "go"
          intro p hp
          exact ho _ _ _ rfl (same_new hp) ⟨p, rfl, upd_same, okf, okk, (G.ways.nm w (pw0.mem_iff.mp hw)).ok⟩
        · have smm := sw.trans sm
          have el3 := smm _ _ el2
          have ly := al3.len
          have lw : (wys.filterMap fun w => some (f, k, w)).length ≤ 3 := Nat.le_trans (List.length_filterMap_le _ _) (by omega)
          have hz3 : us.length + ys.length ≤ sizeLine := sz (by omega)
          walk_at "go"
          have pe := SameN.lst (ys := us ++ ys) el3
          refine ⟨_, _, us ++ ys, L2 ++ wys.map fun w => (f, k, w), rfl, fun x o e => up_ne (ne_of_none e hl) (smm _ _ (s2 _ _ e)), up_ne nql (smm _ _ eq2), up_ne nqll (smm _ _ eql2), upd_same, ?_, by simp; omega, fun c => ?_⟩
          · rw [← List.append_assoc]
            refine ((al2.mono fun v c h => CellV.pers _ _ _ _ pe (CellV.pers _ _ _ _ (SameN.of smm) h))).append ?_
            rw [show (wys.filterMap fun w => some (f, k, w)) = wys.map fun w => (f, k, w) from by simp] at al3
            exact al3.mono fun v c h => CellV.pers _ _ _ _ pe h
          · obtain ⟨c1, c2, c3⟩ := c
            rw [List.mem_append, hL2]
            simp only [InC, List.mem_map, List.mem_append, List.mem_singleton, Prod.mk.injEq]
            constructor
            · rintro (⟨g1, g2, g3⟩ | ⟨w, hw, e1, e2, e3⟩)
              · exact ⟨g1, .inl g2, g3⟩
              · exact ⟨e1.symm, .inr e2.symm, e3 ▸ pw0.mem_iff.mp hw⟩
            · rintro ⟨g1, g2 | g2, g3⟩
              · exact .inl ⟨g1, g2, g3⟩
              · exact .inr ⟨c3, pw0.mem_iff.mpr g3, g1.symm, g2.symm, rfl⟩
      · obtain ⟨y2, z2, us, L2, rfl, s2, eq2, eql2, el2, al2, hz2, hL2⟩ := hp
        refine ⟨_, _, _, us, L ++ L2, rfl, s2, eq2, el2, al2, by simp; omega, fun c => ?_⟩
        obtain ⟨c1, c2, c3⟩ := c
        rw [List.mem_append, hL, hL2]
        simp only [InC, List.mem_append, List.mem_singleton, pl0.mem_iff]
        constructor
        · rintro (⟨g1, g2, g3⟩ | ⟨g1, g2, g3⟩)
          · exact ⟨.inl g1, g2, g3⟩
          · exact ⟨.inr g1, g2, g3⟩
        · rintro ⟨g1 | g1, g2, g3⟩
          · exact .inl ⟨g1, g2, g3⟩
          · exact .inr ⟨g1, g2, g3⟩
    · obtain ⟨x1, y1, z1, ws, L, rfl, s1, eq, el, al, hz, hL⟩ := hp
      walk_at "go"
      refine h _ _ L s1 hl (fun c => ?_) (by rw [← al.len]; omega) ⟨ws, el, al⟩
      rw [hL]
      simp only [InC, pf0.mem_iff]
end
end Ld
namespace Ld
open PySem PySem.Spec PyProof.Rows L2
theorem mem_cellsD {D : DealD} {c : Cell} : c ∈ cellsD D ↔ InC D.films D.lands D.ways c := by
  obtain ⟨c1, c2, c3⟩ := c
  unfold cellsD InC
  simp only [List.mem_flatMap, List.mem_map, Prod.mk.injEq]
  constructor
  · rintro ⟨f, hf, l, hl, w, hw, e1, e2, e3⟩
    exact ⟨e1 ▸ hf, e2 ▸ hl, e3 ▸ hw⟩
  · rintro ⟨h1, h2, h3⟩
    exact ⟨_, h1, _, h2, _, h3, rfl, rfl, rfl⟩
def touchL (D E : DealD) : Bool := (D.alone || E.alone) && (cellsD D).any fun c => decide (c ∈ cellsD E)
def sp_law_do_touch (K : PySem.W.Frag) (mg : Str → Option Value) : Sp := fun vs H Q _ => ∃ (v u : V) (D E : DealD), vs = [v, u] ∧ PactV H v D ∧ PactV H u E ∧ DealOk D ∧ DealOk E ∧ ∀ H', Same H H' → Q (.bl (touchL D E)) H'
section
variable {P : Program} {w : World} {K : PySem.W.Frag} {mg : Str → Option Value} {base : Heap}
def s_law_do_touch : Stmt := top 94
abbrev N_law_do_touch : List Str := ["_law_pact_here", "_law_mate", "_law_spot"]
theorem sc_law_do_touch : FnScope N_law_do_touch ["_law_pact_here", "_law_mate"] (defScope s_law_do_touch) := C8.fnScope_by (by decide +kernel)
theorem ok_law_do_touch {f : Addr} {fd : FuncData} (T : Tx K mg) (F : DefAt K "_law_do_touch" "_law_do_touch" s_law_do_touch f fd) (hm : mg "_law_do_touch" = some (.ref f)) (c_law_cells : Cf P w K mg base 1 "_law_cells" (sp_law_cells K mg)) : Cf P w K mg base 2 "_law_do_touch" (sp_law_do_touch K mg) := by
  refine cal_mk F hm sc_law_do_touch (fun vs H Q E => ?_) (fun _ _ _ _ _ _ us hl => match us, hl with | [_, _], _ => rfl) (fun cdv A outer s H vs Q E hr h => ?_)
  · walk_at "ln"
  · obtain ⟨v, u, D, E', rfl, pD, pE, oD, oE, h⟩ := h
    obtain ⟨a, pf, pl, pw, pb, pe, rfl, h0, _⟩ := id pD
    obtain ⟨b, qf, ql, qw, qb, qe, rfl, k0, _⟩ := id pE
    unfold pactK at h0 k0
    refine ⟨_, (pss_one (ps_ret (pe_and (pe_or (pe_dget (hu_of hr) (pv 0) pe_str (fun _ _ => rfl)) (pe_one (pe_dget (hu_of hr) (pv 1) pe_str (fun _ _ => rfl)))) (pe_one (pe_callB (cr_any rfl) (by rfl) T.f_any (by decide +kernel) (pa_cons (pe_lc (own := [("_law_spot", 2)]) rfl sc_law_do_touch.nd (pi_list (pe_f c_law_cells hr (by decide) (by rfl) (pa_cons (pv 0) pa_nil))) (blkOk_by (own := [("_law_spot", 2)]) (N := N_law_do_touch) (sc := defScope s_law_do_touch) (by decide +kernel)) (fun _ _ _ _ _ => (pg_name (i := 2) sc_law_do_touch.nd rfl (Or.inl rfl))) (fun _ _ _ _ _ => pts_nil) (fun _ _ _ _ _ => (pe_cmpR (op_inDB (K := K) (hu65 hr)) (pv 2) (pe_f c_law_cells hr (by decide) (by rfl) (pa_cons (pv 1) pa_nil)) (by rfl))) ) pa_nil)))))), ?_⟩
    walk_at "nk"
    cases hD : D.alone with
    | true =>
      rw [hD] at h0
      have HH : (D.alone || E'.alone) = true := by rw [hD]; rfl
      walk_at "go"
      try (refine ⟨_, rfl, ?_⟩; rw [if_pos rfl]; walk_at "go")
      refine ⟨_, D, rfl, pD, oD, fun H1 p cs s1 hp mc lc L1 => ?_⟩
      obtain ⟨ws, ew, aw⟩ := id L1
      walk_at "go"
      refine lcL ew aw (fun c => some (decide (c ∈ cellsD E'))) (fun _ v b => v = .bl b) (fun _ _ _ _ _ h => h) (szl (by omega)) (fun x c H' hc hx sm => ?_) (fun L H2 ys hL s2 eL al2 => ?_)
      · intro Qo Qn ho hn
        walk_at "go"
        have s12 := Same.trans' s1 sm
        refine ⟨_, E', rfl, pE.same s12, oE, fun H2 q es s2 hq me le L2 => ?_⟩
        have hx2 : CellV H2 x c := CellV.pers _ _ _ _ (SameN.of (Same.trans' sm s2)) (CellV.pers _ _ _ _ (SameN.of (Same.refl' _)) hx)
        walk_at "go"
        show rInD K x (.ref q) H2 fun y H4 => Qo y H4
        refine go_inD encCell hx2 L2 ?_
        have z : ∀ b1 : Bool, (b1 = true ↔ c ∈ es) → Qo (.bl b1) H2 := fun b1 hb => by
          have e : b1 = decide (c ∈ cellsD E') := by rw [Bool.eq_iff_iff, hb, decide_eq_true_eq, me, mem_cellsD]
          rw [e]
          exact ho _ _ _ rfl s2 rfl
        exact z _ (@decide_eq_true_iff _ (_))
      · have e := All2.eq_map al2
        subst e
        walk_at "go"
        have s12 := Same.trans' s1 s2
        have z : (cs.filterMap fun c => some (decide (c ∈ cellsD E'))).any id = (cellsD D).any fun c => decide (c ∈ cellsD E') := by
          rw [List.filterMap_eq_map', List.any_map]
          apply Bool.eq_iff_iff.mpr
          simp only [List.any_eq_true, Function.comp, id]
          constructor
          · rintro ⟨c, h1, h2⟩
            exact ⟨c, mem_cellsD.mpr ((mc c).mp h1), h2⟩
          · rintro ⟨c, h1, h2⟩
            exact ⟨c, (mc c).mpr (mem_cellsD.mp h1), h2⟩
        have := h H2 s12
        unfold touchL at this
        rw [HH, ← z] at this
        exact this
    | false =>
      rw [hD] at h0
      cases hE : E'.alone with
      | true =>
        rw [hE] at k0
        have HH : (D.alone || E'.alone) = true := by rw [hD, hE]; rfl
        walk_at "go"
        try (refine ⟨_, rfl, ?_⟩; rw [if_pos rfl]; walk_at "go")
        refine ⟨_, D, rfl, pD, oD, fun H1 p cs s1 hp mc lc L1 => ?_⟩
        obtain ⟨ws, ew, aw⟩ := id L1
        walk_at "go"
        refine lcL ew aw (fun c => some (decide (c ∈ cellsD E'))) (fun _ v b => v = .bl b) (fun _ _ _ _ _ h => h) (szl (by omega)) (fun x c H' hc hx sm => ?_) (fun L H2 ys hL s2 eL al2 => ?_)
        · intro Qo Qn ho hn
          walk_at "go"
          have s12 := Same.trans' s1 sm
          refine ⟨_, E', rfl, pE.same s12, oE, fun H2 q es s2 hq me le L2 => ?_⟩
          have hx2 : CellV H2 x c := CellV.pers _ _ _ _ (SameN.of (Same.trans' sm s2)) (CellV.pers _ _ _ _ (SameN.of (Same.refl' _)) hx)
          walk_at "go"
          show rInD K x (.ref q) H2 fun y H4 => Qo y H4
          refine go_inD encCell hx2 L2 ?_
          have z : ∀ b1 : Bool, (b1 = true ↔ c ∈ es) → Qo (.bl b1) H2 := fun b1 hb => by
            have e : b1 = decide (c ∈ cellsD E') := by rw [Bool.eq_iff_iff, hb, decide_eq_true_eq, me, mem_cellsD]
            rw [e]
            exact ho _ _ _ rfl s2 rfl
          exact z _ (@decide_eq_true_iff _ (_))
        · have e := All2.eq_map al2
          subst e
          walk_at "go"
          have s12 := Same.trans' s1 s2
          have z : (cs.filterMap fun c => some (decide (c ∈ cellsD E'))).any id = (cellsD D).any fun c => decide (c ∈ cellsD E') := by
            rw [List.filterMap_eq_map', List.any_map]
            apply Bool.eq_iff_iff.mpr
            simp only [List.any_eq_true, Function.comp, id]
            constructor
            · rintro ⟨c, h1, h2⟩
              exact ⟨c, mem_cellsD.mpr ((mc c).mp h1), h2⟩
            · rintro ⟨c, h1, h2⟩
              exact ⟨c, (mc c).mpr (mem_cellsD.mp h1), h2⟩
          have := h H2 s12
          unfold touchL at this
          rw [HH, ← z] at this
          exact this
      | false =>
        rw [hE] at k0
        walk_at "go"
        try (refine ⟨_, rfl, ?_⟩; rw [if_neg (by decide)])
        have := h H (Same.refl' _)
        unfold touchL at this
        rw [hD, hE] at this
        exact this
end
end Ld
namespace Ld
open PySem PySem.Spec PyProof.Rows L2
/-! ### all dates, and those that keep the clauses -/
structure AllDates (tags : List Str) (n : Nat) (φs : List (Str → Int)) : Prop where
  len : φs.length ≤ 64
  rng : ∀ φ ∈ φs, ∀ t ∈ tags, 0 ≤ φ t ∧ φ t ≤ n
  all : ∀ d : Str → Int, (∀ t ∈ tags, 0 ≤ d t ∧ d t ≤ n) → ∃ φ ∈ φs, ∀ t ∈ tags, φ t = d t
structure GoodDates (tags : List Str) (n : Nat) (cs : List Clause) (φs : List (Str → Int)) : Prop where
  len : φs.length ≤ 64
  rng : ∀ φ ∈ φs, ∀ t ∈ tags, 0 ≤ φ t ∧ φ t ≤ n
  keep : ∀ φ ∈ φs, keepB cs φ = true
  all : ∀ d : Str → Int, (∀ t ∈ tags, 0 ≤ d t ∧ d t ≤ n) → keepB cs d = true → ∃ φ ∈ φs, ∀ t ∈ tags, φ t = d t
theorem phi_agree {tags : List Str} {φ d : Str → Int} (h : ∀ t ∈ tags, φ t = d t) {s : Str} (hs : s ∈ tags ++ [dayS]) : phi φ s = phi d s := by
  unfold phi
  by_cases e : s = dayS
  · rw [if_pos e, if_pos e]
  · rw [if_neg e, if_neg e]
    rcases List.mem_append.mp hs with z | z
    · exact h s z
    · rw [List.mem_singleton] at z; exact (e z).elim
theorem keep_agree {tags : List Str} {cs : List Clause} {φ d : Str → Int} (h : ∀ t ∈ tags, φ t = d t) (hc : ∀ c ∈ cs, c.1 ∈ tags ++ [dayS] ∧ c.2.1 ∈ tags ++ [dayS]) : keepB cs φ = keepB cs d := by
  unfold keepB
  rw [Bool.eq_iff_iff, List.all_eq_true, List.all_eq_true]
  constructor
  · intro k c m
    have := k c m
    rw [phi_agree h (hc c m).1, phi_agree h (hc c m).2] at this
    exact this
  · intro k c m
    have := k c m
    rw [← phi_agree h (hc c m).1, ← phi_agree h (hc c m).2] at this
    exact this
theorem AllDates.good {tags : List Str} {n : Nat} {cs : List Clause} {φs : List (Str → Int)} (A : AllDates tags n φs) (hc : ∀ c ∈ cs, c.1 ∈ tags ++ [dayS] ∧ c.2.1 ∈ tags ++ [dayS]) : GoodDates tags n cs (φs.filter (keepB cs)) where
  len := Nat.le_trans (List.length_filter_le _ _) A.len
  rng := fun φ h => A.rng φ (List.mem_filter.mp h).1
  keep := fun φ h => (List.mem_filter.mp h).2
  all := fun d hd k => by
    obtain ⟨φ, h1, h2⟩ := A.all d hd
    exact ⟨φ, List.mem_filter.mpr ⟨h1, by rw [keep_agree h2 hc]; exact k⟩, h2⟩
theorem filter_some {α : Type} (p : α → Bool) : ∀ xs : List α, (xs.filterMap fun x => if p x = true then some x else none) = xs.filter p
  | [] => rfl
  | x :: xs => by
    rw [List.filterMap_cons, List.filter_cons]
    by_cases k : p x = true
    · simp only [if_pos k]
      rw [filter_some p xs]
    · simp only [if_neg k]
      exact filter_some p xs
def sp_law_all_spots (K : PySem.W.Frag) (mg : Str → Option Value) : Sp := fun vs H Q _ => ∃ (pt : Addr) (tags : List Str) (n : Nat), vs = [.ref pt, .int 0, .int n] ∧ H pt = some (.lst (tags.map V.str)) ∧ (∀ t ∈ tags, NameS t) ∧ tags.Nodup ∧ tags.length ≤ 2 ∧ n ≤ 7 ∧ ∀ H' g φs, Same H H' → H g = none → LAt (SpX tags) H' g φs → AllDates tags n φs → Q (.ref g) H'
def sp_law_good (K : PySem.W.Frag) (mg : Str → Option Value) : Sp := fun vs H Q _ => ∃ (c pt ps pr r : Addr) (C : ChartD) (cs : List Clause) (n : Nat), vs = [.ref c, .ref r, .int n] ∧ ChartX K H c pt ps pr C ∧ (∀ t ∈ C.tags, NameS t) ∧ C.tags.Nodup ∧ C.tags.length ≤ 2 ∧ n ≤ 7 ∧ LAt ClV H r cs ∧ cs.length ≤ 1000 ∧ (∀ c ∈ cs, c.1 ∈ C.tags ++ [dayS] ∧ c.2.1 ∈ C.tags ++ [dayS]) ∧
  ∀ H' g φs, Same H H' → H g = none → LAt (SpX C.tags) H' g φs → GoodDates C.tags n cs φs → Q (.ref g) H'
section
variable {P : Program} {w : World} {K : PySem.W.Frag} {mg : Str → Option Value} {base : Heap}
def s_law_good : Stmt := top 100
abbrev N_law_good : List Str := ["_law_chart_here", "_law_rules_here", "_law_wide", "_law_spots"]
theorem sc_law_good : FnScope N_law_good ["_law_chart_here", "_law_rules_here", "_law_wide"] (defScope s_law_good) := C8.fnScope_by (by decide +kernel)
theorem ok_law_good {f : Addr} {fd : FuncData} (T : Tx K mg) (F : DefAt K "_law_good" "_law_good" s_law_good f fd) (hm : mg "_law_good" = some (.ref f)) (c_law_all_spots : Cf P w K mg base 1 "_law_all_spots" (sp_law_all_spots K mg)) (c_law_keep : Cf P w K mg base 1 "_law_keep" (sp_law_keep K mg)) : Cf P w K mg base 2 "_law_good" (sp_law_good K mg) := by
  refine cal_mk F hm sc_law_good (fun vs H Q E => ?_) (fun _ _ _ _ _ _ us hl => match us, hl with | [_, _, _], _ => rfl) (fun cdv A outer s H vs Q E hr h => ?_)
  · walk_at "ln"
  · obtain ⟨c, pt, ps, pr, r, C, cs, n, rfl, X, nm, nd, hl, hn, L, hz, hc, h⟩ := h
    have xo := X.o
    refine ⟨_, (pss_one (ps_ret (pe_lc (own := [("_law_spots", 3)]) rfl sc_law_good.nd (pi_list (pe_f c_law_all_spots hr (by decide) (by rfl) (pa_cons (pe_dget (hu_of hr) (pv 0) pe_str (fun _ _ => rfl)) (pa_cons pe_int (pa_cons (pv 2) pa_nil))))) (blkOk_by (own := [("_law_spots", 3)]) (N := N_law_good) (sc := defScope s_law_good) (by decide +kernel)) (fun _ _ _ _ _ => (pg_name (i := 3) sc_law_good.nd rfl (Or.inl rfl))) (fun _ _ _ _ _ => (pts_one (pt_val (pe_f c_law_keep hr (by decide) (by rfl) (pa_cons (pv 3) (pa_cons (pv 1) pa_nil)))))) (fun _ _ _ _ _ => (pv 3)) ))), ?_⟩
    walk_at "nk"
    walk_at "go"
    refine ⟨pt, C.tags, n, rfl, X.t, nm, nd, hl, hn, fun H1 g φs s1 hg G A => ?_⟩
    obtain ⟨vs, eg, al⟩ := G
    have hz64 := A.len
    walk_at "go"
    refine lcL eg al (fun φ => if keepB cs φ = true then some φ else none) (SpX C.tags) (fun _ _ _ _ s q => by obtain ⟨p, e, k⟩ := q; exact ⟨p, e, s _ _ rfl k⟩) (szl (by omega)) (fun x φ H' hφ hx sm => ?_) (fun L2 H2 ys hL s2 eL al2 => ?_)
    · intro Qo Qn ho hn
      have s12 := Same.trans' s1 sm
      walk_at "go"
      refine ⟨x, r, C.tags, φ, cs, rfl, nm, hx.same sm, L.same ClV.pers s12, hz, hc, fun H3 s3 => ?_⟩
      walk_at "go"
      by_cases k : keepB cs φ = true
      · walk_at "go"
        exact ho φ _ _ (by rw [if_pos k]) s3 ((hx.same sm).same s3)
      · walk_at "go"
        rw [if_neg k]
        exact hn (by rw [if_neg k]) _ s3
    · walk_at "go"
      have e := filter_some (keepB cs) φs
      rw [e] at al2
      refine h H2 L2 _ (Same.trans' s1 s2) ?_ ⟨ys, eL, al2⟩ (A.good hc)
      cases e : H L2 with
      | none => rfl
      | some u => rw [s1 _ _ e] at hL; cases hL
end
end Ld
namespace Ld
open PySem PySem.Spec PyProof.Rows L2
theorem str_ext {a b : Str} (h : a.cps.toList = b.cps.toList) : a = b := by
  cases a; cases b
  simp only [Str.mk.injEq]
  exact Array.ext' h
def leT (x y : Str) : Prop := x.cps.toList ≤ y.cps.toList
theorem leT_trans {x y z : Str} (a : leT x y) (b : leT y z) : leT x z := List.le_trans a b
theorem leT_anti {x y : Str} (a : leT x y) (b : leT y x) : x = y := str_ext (List.le_antisymm a b)
theorem rising_pw : ∀ (ss : List Str) (p : Str), risingS p ss = true → (p :: ss).Pairwise leT
  | [], p, _ => by simp
  | x :: r, p, h => by
    have e : risingS p (x :: r) = (!ltCps x.cps.toList p.cps.toList && risingS x r) := rfl
    rw [e, Bool.and_eq_true, ltCps_eq] at h
    obtain ⟨h1, h2⟩ := h
    have le : leT p x := by
      have : ¬ (x.cps.toList < p.cps.toList) := by simpa using h1
      exact List.not_lt.mp this
    have ih := rising_pw r x h2
    rw [List.pairwise_cons]
    refine ⟨fun y hy => ?_, ih⟩
    rcases List.mem_cons.mp hy with z | z
    · exact z ▸ le
    · exact leT_trans le ((List.pairwise_cons.mp ih).1 y z)
theorem sorted_pw {ss : List Str} (h : sortedS ss = true) : ss.Pairwise leT := by
  cases ss with
  | nil => exact .nil
  | cons x r => exact rising_pw r x h
theorem pw_unique : ∀ {xs ys : List Str}, xs.Perm ys → xs.Pairwise leT → ys.Pairwise leT → xs = ys
  | [], ys, p, _, _ => by rw [List.nil_perm.mp p]
  | x :: xs, [], p, _, _ => by have := p.length_eq; simp at this
  | x :: xs, y :: ys, p, hx, hy => by
    have e : x = y := by
      have mx : x ∈ y :: ys := p.mem_iff.mp (by simp)
      have my : y ∈ x :: xs := p.mem_iff.mpr (by simp)
      rcases List.mem_cons.mp mx with z | z
      · exact z
      · rcases List.mem_cons.mp my with u | u
        · exact u.symm
        · exact leT_anti ((List.pairwise_cons.mp hx).1 y u) ((List.pairwise_cons.mp hy).1 x z)
    subst e
    rw [pw_unique (List.Perm.cons_inv p) (List.pairwise_cons.mp hx).2 (List.pairwise_cons.mp hy).2]
theorem sorted_unique {xs ys : List Str} (p : xs.Perm ys) (hx : sortedS xs = true) (hy : sortedS ys = true) : xs = ys := pw_unique p (sorted_pw hx) (sorted_pw hy)
end Ld
namespace Ld
open PySem PySem.Spec PyProof.Rows L2
theorem dataLt_ss (x y x' y' : Str) : PySem.W.dataLt (.tuple [.str x, .str y]) (.tuple [.str x', .str y']) = decide (x.cps.toList < x'.cps.toList ∨ (x = x' ∧ y.cps.toList < y'.cps.toList)) := by
  rw [PySem.W.dataLt_pair (by simp [PySem.W.alike]) (by simp [PySem.W.alike]), PySem.W.dataLt_str, PySem.W.dataLt_str]
  simp only [PyData.eqv, beq_iff_eq]
  by_cases h1 : x = x'
  · subst h1
    have n : ¬ x.cps.toList < x.cps.toList := List.lt_irrefl _
    by_cases h2 : y = y'
    · subst h2
      have n2 : ¬ y.cps.toList < y.cps.toList := List.lt_irrefl _
      simp [n, n2]
    · simp [h2, n]
  · simp [h1]
def ltQ (p q : Pair) : Prop := p.1.cps.toList < q.1.cps.toList ∨ (p.1 = q.1 ∧ p.2.cps.toList < q.2.cps.toList)
theorem leP_iff (p q : Pair) : leP p q = true ↔ ¬ ltQ q p := by
  have e : leP p q = !PySem.W.dataLt (.tuple [.str q.1, .str q.2]) (.tuple [.str p.1, .str p.2]) := rfl
  rw [e, dataLt_ss, Bool.not_eq_true', decide_eq_false_iff_not]
  exact Iff.rfl
theorem ltT_tri (x y : Str) : x.cps.toList < y.cps.toList ∨ x = y ∨ y.cps.toList < x.cps.toList := by
  by_cases h : x.cps.toList < y.cps.toList
  · exact .inl h
  · by_cases k : y.cps.toList < x.cps.toList
    · exact .inr (.inr k)
    · exact .inr (.inl (leT_anti (List.not_lt.mp k) (List.not_lt.mp h)))
theorem ltQ_tri (p q : Pair) : ltQ p q ∨ p = q ∨ ltQ q p := by
  obtain ⟨a, b⟩ := p
  obtain ⟨c, d⟩ := q
  unfold ltQ
  rcases ltT_tri a c with h | h | h
  · exact .inl (.inl h)
  · rcases ltT_tri b d with k | k | k
    · exact .inl (.inr ⟨h, k⟩)
    · exact .inr (.inl (by rw [h, k]))
    · exact .inr (.inr (.inr ⟨h.symm, k⟩))
  · exact .inr (.inr (.inl h))
theorem ltQ_trans {p q r : Pair} (a : ltQ p q) (b : ltQ q r) : ltQ p r := by
  unfold ltQ at *
  rcases a with a | ⟨a, a'⟩ <;> rcases b with b | ⟨b, b'⟩
  · exact .inl (List.lt_trans a b)
  · exact .inl (by rw [← b]; exact a)
  · exact .inl (by rw [a]; exact b)
  · exact .inr ⟨a.trans b, List.lt_trans a' b'⟩
theorem ltQ_irr (p : Pair) : ¬ ltQ p p := by
  unfold ltQ
  rintro (h | ⟨_, h⟩) <;> exact List.lt_irrefl _ h
theorem leP_total (p q : Pair) : (leP p q || leP q p) = true := by
  rw [Bool.or_eq_true, leP_iff, leP_iff]
  by_cases h : ltQ q p
  · exact .inr fun k => ltQ_irr _ (ltQ_trans h k)
  · exact .inl h
theorem leP_anti {p q : Pair} (a : leP p q = true) (b : leP q p = true) : p = q := by
  rw [leP_iff] at a b
  rcases ltQ_tri p q with h | h | h
  · exact (b h).elim
  · exact h
  · exact (a h).elim
theorem leP_trans (p q r : Pair) (a : leP p q = true) (b : leP q r = true) : leP p r = true := by
  rw [leP_iff] at *
  intro k
  rcases ltQ_tri p q with h | h | h
  · exact b (ltQ_trans k h)
  · subst h; exact b k
  · exact a h
theorem pw_uniqueP : ∀ {xs ys : List Pair}, xs.Perm ys → xs.Pairwise (fun a b => leP a b = true) → ys.Pairwise (fun a b => leP a b = true) → xs = ys
  | [], ys, p, _, _ => by rw [List.nil_perm.mp p]
  | x :: xs, [], p, _, _ => by have := p.length_eq; simp at this
  | x :: xs, y :: ys, p, hx, hy => by
    have e : x = y := by
      have mx : x ∈ y :: ys := p.mem_iff.mp (by simp)
      have my : y ∈ x :: xs := p.mem_iff.mpr (by simp)
      rcases List.mem_cons.mp mx with z | z
      · exact z
      · rcases List.mem_cons.mp my with u | u
        · exact u.symm
        · exact leP_anti ((List.pairwise_cons.mp hx).1 y u) ((List.pairwise_cons.mp hy).1 x z)
    subst e
    rw [pw_uniqueP (List.Perm.cons_inv p) (List.pairwise_cons.mp hx).2 (List.pairwise_cons.mp hy).2]
theorem srtP_pw (l : List Pair) : (srtP l).Pairwise (fun a b => leP a b = true) := List.pairwise_mergeSort leP_trans leP_total l
theorem srtP_eqP {xs ys : List Pair} (p : xs.Perm ys) : srtP xs = srtP ys :=
  pw_uniqueP ((List.mergeSort_perm xs leP).trans (p.trans (List.mergeSort_perm ys leP).symm)) (srtP_pw xs) (srtP_pw ys)
end Ld
namespace Ld
open PySem PySem.Spec PyProof.Rows L2
/-! ### the sums settle -/
def Keeps (cs : List Clause) (d : Str → Int) : Prop := ∀ c ∈ cs, d c.1 ≤ d c.2.1 + c.2.2
def Above (b : Str) (d : Str → Int) (g : Str → Option Int) : Prop := ∀ k v, g k = some v → d b - d k ≤ v
theorem above_take {b : Str} {d : Str → Int} {g : Str → Option Int} {c : Clause} (h : Above b d g) (hc : d c.1 ≤ d c.2.1 + c.2.2) : Above b d (takeF g c).2 := by
  unfold takeF
  cases e1 : g c.1 with
  | none => exact h
  | some x =>
    have hx := h _ _ e1
    have key : Above b d (upf g c.2.1 (x + c.2.2)) := fun k v e => by
      unfold upf at e
      split at e
      · rename_i z; cases e; subst z; omega
      · exact h k v e
    cases e2 : g c.2.1 with
    | none => exact key
    | some y =>
      show Above b d (if y ≤ x + c.2.2 then (false, g) else (true, upf g c.2.1 (x + c.2.2))).2
      split
      · exact h
      · exact key
theorem above_turns {b : Str} {d : Str → Int} : ∀ (cs : List Clause) (s : Bool × (Str → Option Int)), Keeps cs d → Above b d s.2 → Above b d (cs.foldl turnF s).2
  | [], _, _, h => h
  | c :: cs, s, hk, h => above_turns cs (turnF s c) (fun c' m => hk c' (List.mem_cons_of_mem _ m)) (above_take h (hk c (by simp)))
/-- what a round lowers -/
def nonesOf (ns : List Str) (g : Str → Option Int) : Nat := (ns.map fun k => if g k = none then 1 else 0).sum
def excOf (lb : Str → Int) (ns : List Str) (g : Str → Option Int) : Nat := (ns.map fun k => match g k with | some v => (v - lb k).toNat | none => 0).sum
theorem sum_le {α : Type} (f h : α → Nat) : ∀ xs : List α, (∀ x ∈ xs, f x ≤ h x) → (xs.map f).sum ≤ (xs.map h).sum
  | [], _ => Nat.le_refl _
  | x :: xs, k => by
    have a := k x (by simp)
    have b := sum_le f h xs fun y m => k y (List.mem_cons_of_mem _ m)
    simp only [List.map_cons, List.sum_cons]
    omega
theorem sum_lt {α : Type} (f h : α → Nat) : ∀ xs : List α, (∀ x ∈ xs, f x ≤ h x) → (∃ x ∈ xs, f x < h x) → (xs.map f).sum < (xs.map h).sum
  | [], _, ⟨_, m, _⟩ => by cases m
  | x :: xs, k, ⟨y, m, l⟩ => by
    have a := k x (by simp)
    have b := sum_le f h xs fun y m => k y (List.mem_cons_of_mem _ m)
    simp only [List.map_cons, List.sum_cons]
    rcases List.mem_cons.mp m with z | z
    · subst z; omega
    · have := sum_lt f h xs (fun y m => k y (List.mem_cons_of_mem _ m)) ⟨y, z, l⟩
      omega
def LexLt (a b : Nat × Nat) : Prop := a.1 < b.1 ∨ (a.1 = b.1 ∧ a.2 < b.2)
theorem LexLt.trans {a b c : Nat × Nat} (x : LexLt a b) (y : LexLt b c) : LexLt a c := by
  unfold LexLt at *
  omega
def mea (lb : Str → Int) (ns : List Str) (g : Str → Option Int) : Nat × Nat := (nonesOf ns g, excOf lb ns g)
theorem mea_take {b : Str} {d : Str → Int} {ns : List Str} {g : Str → Option Int} {c : Clause} (h : Above b d g) (hc : d c.1 ≤ d c.2.1 + c.2.2) (hn : c.2.1 ∈ ns) :
    ((takeF g c).1 = false ∧ (takeF g c).2 = g) ∨ ((takeF g c).1 = true ∧ LexLt (mea (fun k => d b - d k) ns (takeF g c).2) (mea (fun k => d b - d k) ns g)) := by
  unfold takeF
  cases e1 : g c.1 with
  | none => exact .inl ⟨rfl, rfl⟩
  | some x =>
    have hx := h _ _ e1
    cases e2 : g c.2.1 with
    | none =>
      refine .inr ⟨rfl, .inl (sum_lt _ _ ns (fun k _ => ?_) ⟨c.2.1, hn, ?_⟩)⟩
      · simp only [upf]
        by_cases z : k = c.2.1
        · simp [z]
        · simp [z]
      · simp [upf, e2]
    | some y =>
      have hy := h _ _ e2
      show ((if y ≤ x + c.2.2 then (false, g) else (true, upf g c.2.1 (x + c.2.2))).1 = false ∧ (if y ≤ x + c.2.2 then (false, g) else (true, upf g c.2.1 (x + c.2.2))).2 = g) ∨ ((if y ≤ x + c.2.2 then (false, g) else (true, upf g c.2.1 (x + c.2.2))).1 = true ∧ LexLt (mea (fun k => d b - d k) ns (if y ≤ x + c.2.2 then (false, g) else (true, upf g c.2.1 (x + c.2.2))).2) (mea (fun k => d b - d k) ns g))
      by_cases l : y ≤ x + c.2.2
      · rw [if_pos l]; exact .inl ⟨rfl, rfl⟩
      · rw [if_neg l]
        refine .inr ⟨rfl, .inr ⟨?_, sum_lt _ _ ns (fun k _ => ?_) ⟨c.2.1, hn, ?_⟩⟩⟩
        · show nonesOf ns _ = nonesOf ns g
          unfold nonesOf
          congr 1
          apply List.map_congr_left
          intro k _
          by_cases z : k = c.2.1
          · subst z; simp [upf, e2]
          · simp [upf, z]
        · by_cases z : k = c.2.1
          · subst z; simp [upf, e2]; omega
          · simp [upf, z]
        · simp [upf, e2]; omega
theorem mea_turns {b : Str} {d : Str → Int} {ns : List Str} : ∀ (cs : List Clause) (s : Bool × (Str → Option Int)), Keeps cs d → (∀ c ∈ cs, c.2.1 ∈ ns) → Above b d s.2 →
    ((cs.foldl turnF s).2 = s.2 ∧ (cs.foldl turnF s).1 = s.1) ∨ ((cs.foldl turnF s).1 = true ∧ LexLt (mea (fun k => d b - d k) ns (cs.foldl turnF s).2) (mea (fun k => d b - d k) ns s.2))
  | [], s, _, _, _ => .inl ⟨rfl, rfl⟩
  | c :: cs, s, hk, hn, h => by
    have hc := hk c (by simp)
    have ih := mea_turns cs (turnF s c) (fun c' m => hk c' (List.mem_cons_of_mem _ m)) (fun c' m => hn c' (List.mem_cons_of_mem _ m)) (above_take h hc)
    show ((cs.foldl turnF (turnF s c)).2 = s.2 ∧ (cs.foldl turnF (turnF s c)).1 = s.1) ∨ ((cs.foldl turnF (turnF s c)).1 = true ∧ LexLt (mea (fun k => d b - d k) ns (cs.foldl turnF (turnF s c)).2) (mea (fun k => d b - d k) ns s.2))
    have e1 : (turnF s c).1 = ((takeF s.2 c).1 || s.1) := rfl
    have e2 : (turnF s c).2 = (takeF s.2 c).2 := rfl
    rcases mea_take (ns := ns) h hc (hn c (by simp)) with ⟨p, q⟩ | ⟨p, q⟩
    · rw [e1, e2, p, q, Bool.false_or] at ih
      exact ih
    · rw [e1, e2, p, Bool.true_or] at ih
      rcases ih with ⟨u, v⟩ | ⟨u, v⟩
      · exact .inr ⟨v, by rw [u]; exact q⟩
      · exact .inr ⟨u, v.trans q⟩
theorem settles {b : Str} {d : Str → Int} {ns : List Str} {cs : List Clause} (hk : Keeps cs d) (hn : ∀ c ∈ cs, c.2.1 ∈ ns) : ∀ (m e : Nat) (g : Str → Option Int), Above b d g → (mea (fun k => d b - d k) ns g).1 = m → (mea (fun k => d b - d k) ns g).2 = e → ∃ n gf, Settles cs n g gf ∧ Above b d gf := by
  intro m
  induction m using Nat.strongRecOn with
  | ind m ihm =>
    intro e
    induction e using Nat.strongRecOn with
    | ind e ihe =>
      intro g ha hm he
      have ha2 : Above b d (roundF cs g).2 := above_turns cs (false, g) hk ha
      rcases mea_turns (ns := ns) cs (false, g) hk hn ha with ⟨p, q⟩ | ⟨p, q⟩
      · exact ⟨0, _, .done q, ha2⟩
      · have p' : (roundF cs g).1 = true := p
        rcases q with q | ⟨q1, q2⟩
        · obtain ⟨n, gf, S, A⟩ := ihm _ (by rw [← hm]; exact q) _ (roundF cs g).2 ha2 rfl rfl
          exact ⟨n + 1, gf, .step p' S, A⟩
        · obtain ⟨n, gf, S, A⟩ := ihe _ (by rw [← he]; exact q2) (roundF cs g).2 ha2 (by rw [← hm]; exact q1) rfl
          exact ⟨n + 1, gf, .step p' S, A⟩
/-- at the end no clause moves a sum -/
theorem still_take {g : Str → Option Int} {c : Clause} (h : (takeF g c).1 = false) : (takeF g c).2 = g ∧ ∀ x, g c.1 = some x → ∃ y, g c.2.1 = some y ∧ y ≤ x + c.2.2 := by
  unfold takeF at h ⊢
  cases e1 : g c.1 with
  | none => exact ⟨rfl, fun x e => by cases e⟩
  | some x =>
    rw [e1] at h
    cases e2 : g c.2.1 with
    | none => rw [e2] at h; cases h
    | some y =>
      rw [e2] at h
      replace h : (if y ≤ x + c.2.2 then (false, g) else (true, upf g c.2.1 (x + c.2.2))).1 = false := h
      show (if y ≤ x + c.2.2 then (false, g) else (true, upf g c.2.1 (x + c.2.2))).2 = g ∧ _
      by_cases l : y ≤ x + c.2.2
      · rw [if_pos l]
        exact ⟨rfl, fun x' e => by cases e; exact ⟨y, rfl, l⟩⟩
      · rw [if_neg l] at h; cases h
theorem still_turns : ∀ (cs : List Clause) (s : Bool × (Str → Option Int)), (cs.foldl turnF s).1 = false → (cs.foldl turnF s).2 = s.2 ∧ s.1 = false ∧ ∀ c ∈ cs, (takeF s.2 c).1 = false
  | [], s, h => ⟨rfl, h, fun c m => by cases m⟩
  | c :: cs, s, h => by
    obtain ⟨a, e, k⟩ := still_turns cs (turnF s c) h
    have e1 : (turnF s c).1 = ((takeF s.2 c).1 || s.1) := rfl
    rw [e1, Bool.or_eq_false_iff] at e
    have st := (still_take e.1).1
    have e2 : (turnF s c).2 = s.2 := st
    refine ⟨by rw [show (c :: cs).foldl turnF s = cs.foldl turnF (turnF s c) from rfl, a, e2], e.2, fun c' m => ?_⟩
    rcases List.mem_cons.mp m with z | z
    · exact z ▸ e.1
    · have := k c' z
      rw [e2] at this
      exact this
theorem settled {cs : List Clause} {n : Nat} {g gf : Str → Option Int} (h : Settles cs n g gf) : ∀ c ∈ cs, ∀ x, gf c.1 = some x → ∃ y, gf c.2.1 = some y ∧ y ≤ x + c.2.2 := by
  induction h with
  | @done g e =>
    obtain ⟨a, _, k⟩ := still_turns cs (false, g) e
    intro c m
    rw [show (roundF cs g).2 = g from a]
    exact (still_take (k c m)).2
  | step _ _ ih => exact ih
/-- sums only fall -/
theorem falls_take {g : Str → Option Int} {c : Clause} (k : Str) (v : Int) (h : g k = some v) : ∃ u, (takeF g c).2 k = some u ∧ u ≤ v := by
  unfold takeF
  cases e1 : g c.1 with
  | none => exact ⟨v, h, Int.le_refl _⟩
  | some x =>
    cases e2 : g c.2.1 with
    | none =>
      refine ⟨v, ?_, Int.le_refl _⟩
      show upf g c.2.1 _ k = some v
      unfold upf
      rw [if_neg (fun z => by rw [z, e2] at h; cases h)]
      exact h
    | some y =>
      show ∃ u, (if y ≤ x + c.2.2 then (false, g) else (true, upf g c.2.1 (x + c.2.2))).2 k = some u ∧ u ≤ v
      by_cases l : y ≤ x + c.2.2
      · rw [if_pos l]; exact ⟨v, h, Int.le_refl _⟩
      · rw [if_neg l]
        by_cases z : k = c.2.1
        · subst z
          rw [e2] at h
          cases h
          exact ⟨x + c.2.2, by simp [upf], by omega⟩
        · exact ⟨v, by simp [upf, z, h], Int.le_refl _⟩
theorem falls_turns : ∀ (cs : List Clause) (s : Bool × (Str → Option Int)) (k : Str) (v : Int), s.2 k = some v → ∃ u, (cs.foldl turnF s).2 k = some u ∧ u ≤ v
  | [], s, k, v, h => ⟨v, h, Int.le_refl _⟩
  | c :: cs, s, k, v, h => by
    obtain ⟨u, e, l⟩ := falls_take (c := c) k v h
    obtain ⟨u2, e2, l2⟩ := falls_turns cs (turnF s c) k u e
    exact ⟨u2, e2, by omega⟩
theorem falls {cs : List Clause} {n : Nat} {g gf : Str → Option Int} (h : Settles cs n g gf) : ∀ k v, g k = some v → ∃ u, gf k = some u ∧ u ≤ v := by
  induction h with
  | @done g e => exact fun k v q => falls_turns cs (false, g) k v q
  | @step n g gf e _ ih =>
    intro k v q
    obtain ⟨u, a, b⟩ := falls_turns cs (false, g) k v q
    obtain ⟨u2, a2, b2⟩ := ih k u a
    exact ⟨u2, a2, by omega⟩
end Ld
namespace Ld
open PySem PySem.Spec PyProof.Rows L2
/-! ### bounds over all dates -/
structure Tied (tags : List Str) (w : Int) (cs : List Clause) : Prop where
  cl : ∀ c ∈ cs, c.1 ∈ tags ++ [dayS] ∧ c.2.1 ∈ tags ++ [dayS]
  lo : ∀ t ∈ tags, (dayS, t, (0 : Int)) ∈ cs
  hi : ∀ t ∈ tags, (t, dayS, w) ∈ cs
def IsDate (cs : List Clause) (d : Str → Int) : Prop := d dayS = 0 ∧ Keeps cs d
theorem above_one {b : Str} {d : Str → Int} : Above b d (one0 b) := fun k v e => by
  unfold one0 at e
  split at e
  · rename_i z; cases e; subst z; omega
  · cases e
theorem bound_ex {tags : List Str} {w : Int} {cs : List Clause} (T : Tied tags w cs) {d : Str → Int} (hd : Keeps cs d) {b : Str} (hb : b ∈ tags ++ [dayS]) :
    ∃ n gf, Settles cs n (one0 b) gf ∧ ∀ k ∈ tags ++ [dayS], ∃ v, gf k = some v := by
  obtain ⟨n, gf, S, A⟩ := settles (ns := tags ++ [dayS]) hd (fun c m => (T.cl c m).2) _ _ (one0 b) above_one rfl rfl
  refine ⟨n, gf, S, ?_⟩
  have st := settled S
  obtain ⟨v, e, _⟩ := falls S b 0 (by simp [one0])
  obtain ⟨vd, ed⟩ : ∃ vd, gf dayS = some vd := by
    rcases List.mem_append.mp hb with z | z
    · obtain ⟨y, ey, _⟩ := st _ (T.hi b z) v e
      exact ⟨y, ey⟩
    · rw [List.mem_singleton] at z; exact ⟨v, z ▸ e⟩
  intro k hk
  rcases List.mem_append.mp hk with z | z
  · obtain ⟨y, ey, _⟩ := st _ (T.lo k z) vd ed
    exact ⟨y, ey⟩
  · rw [List.mem_singleton] at z; exact ⟨vd, z ▸ ed⟩
/-- every way to settle gives the same: it is a computation -/
theorem settles_fun {cs : List Clause} {n : Nat} {g gf : Str → Option Int} (h : Settles cs n g gf) : ∀ {n' : Nat} {gf' : Str → Option Int}, Settles cs n' g gf' → gf = gf' := by
  induction h with
  | done e =>
    intro n' gf' h'
    cases h' with
    | done _ => rfl
    | step e' _ => rw [e] at e'; cases e'
  | step e _ ih =>
    intro n' gf' h'
    cases h' with
    | done e' => rw [e] at e'; cases e'
    | step _ S => exact ih S
/-- the bound from b to k is the greatest of d b - d k over all dates -/
theorem bound_max {tags : List Str} {w : Int} {cs : List Clause} (T : Tied tags w cs) {d0 : Str → Int} (hd0 : Keeps cs d0) {b : Str} (hb : b ∈ tags ++ [dayS]) {n : Nat} {gf : Str → Option Int} (S : Settles cs n (one0 b) gf) {k : Str} {v : Int} (e : gf k = some v) :
    (∀ d, Keeps cs d → d b - d k ≤ v) ∧ ∃ d, IsDate cs d ∧ d b - d k = v := by
  have ab : ∀ d, Keeps cs d → Above b d gf := fun d hd => by
    obtain ⟨n', gf', S', A⟩ := settles (ns := tags ++ [dayS]) hd (fun c m => (T.cl c m).2) _ _ (one0 b) above_one rfl rfl
    rw [settles_fun S S']
    exact A
  refine ⟨fun d hd => ab d hd k v e, ?_⟩
  obtain ⟨n2, gf2, S2, tot⟩ := bound_ex T hd0 hb
  rw [← settles_fun S S2] at tot
  have st := settled S
  obtain ⟨vb, eb, lb⟩ := falls S b 0 (by simp [one0])
  have zb := ab d0 hd0 b vb eb
  have vb0 : vb = 0 := by omega
  obtain ⟨vd, ed⟩ := tot dayS (by simp)
  refine ⟨fun j => match gf j with | some u => vd - u | none => 0, ⟨?_, fun c m => ?_⟩, ?_⟩
  · simp [ed]
  · obtain ⟨x, ex⟩ := tot c.1 (T.cl c m).1
    obtain ⟨y, ey, l⟩ := st c m x ex
    simp only [ex, ey]
    omega
  · simp only [eb, e]
    omega
end Ld
namespace Ld
open PySem PySem.Spec PyProof.Rows L2
/-! ### days come to rest: no ring -/
theorem stepD_cases (s : Option Str × (Str → Int)) (c : Clause) : (s.2 c.1 ≤ s.2 c.2.1 + c.2.2 ∧ stepD s c = s) ∨ (s.2 c.2.1 + c.2.2 < s.2 c.1 ∧ stepD s c = (some c.1, updD s.2 c.1 (s.2 c.2.1 + c.2.2))) := by
  unfold stepD
  by_cases h : s.2 c.1 > s.2 c.2.1 + c.2.2
  · rw [if_pos h]; exact .inr ⟨h, rfl⟩
  · rw [if_neg h]; exact .inl ⟨by omega, rfl⟩
def LeD (f d : Str → Int) : Prop := ∀ k, f k ≤ d k
/-- a date below stays below -/
theorem below_steps {f : Str → Int} : ∀ (cs : List Clause) (s : Option Str × (Str → Int)), Keeps cs f → LeD f s.2 → LeD f (cs.foldl stepD s).2
  | [], _, _, h => h
  | c :: cs, s, hk, h => by
    refine below_steps cs (stepD s c) (fun c' m => hk c' (List.mem_cons_of_mem _ m)) ?_
    rcases stepD_cases s c with ⟨_, e⟩ | ⟨_, e⟩
    · rw [e]; exact h
    · rw [e]
      intro k
      show f k ≤ updD s.2 c.1 _ k
      unfold updD
      split
      · rename_i z
        subst z
        have := hk c (by simp)
        have := h c.2.1
        omega
      · exact h k
/-- days only fall -/
theorem fall_steps : ∀ (cs : List Clause) (s : Option Str × (Str → Int)), LeD (cs.foldl stepD s).2 s.2
  | [], s => fun k => Int.le_refl _
  | c :: cs, s => fun k => by
    refine Int.le_trans (fall_steps cs (stepD s c) k) ?_
    rcases stepD_cases s c with ⟨_, e⟩ | ⟨l, e⟩
    · rw [e]; exact Int.le_refl _
    · rw [e]
      show updD s.2 c.1 _ k ≤ _
      unfold updD
      split
      · rename_i z; subst z; omega
      · exact Int.le_refl _
/-- after a round, what stood still on the far side has pulled -/
theorem pulled : ∀ (cs : List Clause) (s : Option Str × (Str → Int)), ∀ c ∈ cs, (cs.foldl stepD s).2 c.1 ≤ s.2 c.2.1 + c.2.2
  | [], _, c, m => by cases m
  | a :: cs, s, c, m => by
    show (cs.foldl stepD (stepD s a)).2 c.1 ≤ _
    rcases List.mem_cons.mp m with z | z
    · subst z
      refine Int.le_trans (fall_steps cs _ _) ?_
      rcases stepD_cases s c with ⟨l, e⟩ | ⟨_, e⟩
      · rw [e]; exact l
      · rw [e]; simp [updD]
    · have h1 := pulled cs (stepD s a) c z
      have h2 := fall_steps [a] s c.2.1
      have h3 : (stepD s a).2 c.2.1 ≤ s.2 c.2.1 := h2
      omega
/-- what keeps all clauses does not move -/
theorem rest_steps : ∀ (cs : List Clause) (s : Option Str × (Str → Int)), Keeps cs s.2 → cs.foldl stepD s = s
  | [], _, _ => rfl
  | c :: cs, s, h => by
    have e : stepD s c = s := by
      rcases stepD_cases s c with ⟨_, e⟩ | ⟨l, _⟩
      · exact e
      · have := h c (by simp); omega
    show cs.foldl stepD (stepD s c) = s
    rw [e]
    exact rest_steps cs s fun c' m => h c' (List.mem_cons_of_mem _ m)
def runD (cs : List Clause) : Nat → (Str → Int) → (Str → Int)
  | 0, d => d
  | n + 1, d => (roundD cs (runD cs n d)).2
theorem iter_run (cs : List Clause) (d : Str → Int) : ∀ n, (iterD cs n (none, d)).2 = runD cs n d
  | 0 => rfl
  | n + 1 => by
    show (roundD cs (iterD cs n (none, d)).2).2 = (roundD cs (runD cs n d)).2
    rw [iter_run cs d n]
theorem run_below {cs : List Clause} {f d : Str → Int} (hk : Keeps cs f) (n : Nat) (h : LeD f (runD cs n d)) : ∀ j, LeD f (runD cs (n + j) d)
  | 0 => h
  | j + 1 => below_steps cs (none, runD cs (n + j) d) hk (run_below hk n h j)
theorem run_rest {cs : List Clause} {d : Str → Int} {n : Nat} (h : Keeps cs (runD cs n d)) : ∀ j, runD cs (n + j) d = runD cs n d
  | 0 => rfl
  | j + 1 => by
    have ih := run_rest h j
    show (roundD cs (runD cs (n + j) d)).2 = _
    rw [ih]
    exact congrArg Prod.snd (rest_steps cs (none, runD cs n d) h)
theorem come_to_rest {cs : List Clause} {f d : Str → Int} {ns : List Str} (hk : Keeps cs f) (hn : ∀ c ∈ cs, c.1 ∈ ns ∧ c.2.1 ∈ ns) (hf : LeD f d) : ∀ (m r : Nat), (ns.map fun k => (runD cs r d k - f k).toNat).sum = m → ∃ R, Keeps cs (runD cs R d) := by
  intro m
  induction m using Nat.strongRecOn with
  | ind m ih =>
    intro r hm
    by_cases h : Keeps cs (runD cs r d)
    · exact ⟨r, h⟩
    · obtain ⟨c, hc, l⟩ : ∃ c ∈ cs, runD cs r d c.2.1 + c.2.2 < runD cs r d c.1 := by
        apply Classical.byContradiction
        intro z
        exact h fun c hc => by
          apply Classical.byContradiction
          intro y
          exact z ⟨c, hc, by omega⟩
      have p := pulled cs (none, runD cs r d) c hc
      have fl := fall_steps cs (none, runD cs r d)
      have b0 : LeD f (runD cs r d) := by have := run_below (d := d) hk 0 hf r; rwa [Nat.zero_add] at this
      have b1 := below_steps cs (none, runD cs r d) hk b0
      refine ih _ ?_ (r + 1) rfl
      rw [← hm]
      refine sum_lt _ _ ns (fun k _ => ?_) ⟨c.1, (hn c hc).1, ?_⟩
      · have a1 := fl k
        have a2 := b1 k
        show ((cs.foldl stepD (none, runD cs r d)).2 k - f k).toNat ≤ _
        have a1' : (cs.foldl stepD (none, runD cs r d)).2 k ≤ runD cs r d k := a1
        omega
      · have a2 := b1 c.1
        show ((cs.foldl stepD (none, runD cs r d)).2 c.1 - f c.1).toNat < _
        have p' : (cs.foldl stepD (none, runD cs r d)).2 c.1 ≤ runD cs r d c.2.1 + c.2.2 := p
        omega
def offN (ns : List Str) (e D : Str → Int) : Nat := (ns.map fun k => if e k = D k then 0 else 1).sum
theorem sum_zero : ∀ (xs : List Nat), xs.sum = 0 → ∀ x ∈ xs, x = 0
  | [], _, x, m => by cases m
  | y :: ys, h, x, m => by
    rw [List.sum_cons] at h
    rcases List.mem_cons.mp m with z | z
    · omega
    · exact sum_zero ys (by omega) x z
theorem sum_const {α : Type} (n : Nat) : ∀ xs : List α, (xs.map fun _ => n).sum = xs.length * n
  | [] => by simp
  | x :: xs => by
    rw [List.map_cons, List.sum_cons, sum_const n xs, List.length_cons, Nat.succ_mul]
    omega
theorem off_falls {cs : List Clause} {d D : Str → Int} {ns : List Str} {R : Nat} (hn : ∀ c ∈ cs, c.1 ∈ ns ∧ c.2.1 ∈ ns) (eD : D = runD cs R d) (kD : Keeps cs D) (lD : LeD D d) (r : Nat) (h : 0 < offN ns (runD cs r d) D) : offN ns (runD cs (r + 1) d) D < offN ns (runD cs r d) D := by
  have b0 : LeD D (runD cs r d) := by have := run_below (d := d) kD 0 lD r; rwa [Nat.zero_add] at this
  have b1 : LeD D (runD cs (r + 1) d) := below_steps cs (none, runD cs r d) kD b0
  have fl : LeD (runD cs (r + 1) d) (runD cs r d) := fall_steps cs (none, runD cs r d)
  have le : ∀ k ∈ ns, (if runD cs (r + 1) d k = D k then 0 else 1) ≤ (if runD cs r d k = D k then 0 else 1) := fun k _ => by
    have a := b0 k
    have b := b1 k
    have c := fl k
    split <;> split <;> omega
  by_cases ex : ∃ k ∈ ns, runD cs r d k ≠ D k ∧ runD cs (r + 1) d k = D k
  · obtain ⟨k, m, h1, h2⟩ := ex
    exact sum_lt _ _ ns le ⟨k, m, by rw [if_pos h2, if_neg h1]; decide⟩
  · exfalso
    have st : ∀ k ∈ ns, runD cs r d k ≠ D k → runD cs (r + 1) d k ≠ D k := fun k m h1 h2 => ex ⟨k, m, h1, h2⟩
    have kf : Keeps cs (fun k => if runD cs r d k = D k then D k else D k + 1) := fun c hc => by
      have a := kD c hc
      have p : runD cs (r + 1) d c.1 ≤ runD cs r d c.2.1 + c.2.2 := pulled cs (none, runD cs r d) c hc
      have b := b1 c.1
      have s := st c.1 (hn c hc).1
      show (if runD cs r d c.1 = D c.1 then D c.1 else D c.1 + 1) ≤ (if runD cs r d c.2.1 = D c.2.1 then D c.2.1 else D c.2.1 + 1) + c.2.2
      by_cases h1 : runD cs r d c.1 = D c.1
      · rw [if_pos h1]
        split <;> omega
      · rw [if_neg h1]
        have s1 := s h1
        by_cases h2 : runD cs r d c.2.1 = D c.2.1
        · rw [if_pos h2]; omega
        · rw [if_neg h2]; omega
    have lf : LeD (fun k => if runD cs r d k = D k then D k else D k + 1) (runD cs r d) := fun k => by
      have := b0 k
      show (if runD cs r d k = D k then D k else D k + 1) ≤ _
      split <;> omega
    have fin := run_below kf r lf R
    have rest := run_rest (cs := cs) (d := d) (n := R) (by rw [← eD]; exact kD) r
    rw [Nat.add_comm R r, ← eD] at rest
    rw [rest] at fin
    have z : offN ns (runD cs r d) D = 0 := by
      unfold offN
      have : ∀ k ∈ ns, (if runD cs r d k = D k then 0 else 1) = 0 := fun k _ => by
        have := fin k
        have this : (if runD cs r d k = D k then D k else D k + 1) ≤ D k := this
        by_cases h1 : runD cs r d k = D k
        · rw [if_pos h1]
        · rw [if_neg h1] at this; omega
      rw [List.map_congr_left this, sum_const]
      omega
    omega
theorem no_ring {ms : List Str} {cs : List Clause} {f : Str → Int} (hk : Keeps cs f) (hn : ∀ c ∈ cs, c.1 ∈ ms ++ [dayS] ∧ c.2.1 ∈ ms ++ [dayS]) (hf : ∀ k, f k ≤ 0) : NoRing ms cs := by
  obtain ⟨R, kD⟩ := come_to_rest (ns := ms ++ [dayS]) hk hn (d := fun _ => 0) hf _ 0 rfl
  generalize eD : runD cs R (fun _ => 0) = D at kD
  have lD : LeD D (fun _ => 0) := by
    intro k
    have : ∀ j, LeD (runD cs j (fun _ => 0)) (fun _ => 0) := fun j => by
      induction j with
      | zero => exact fun k => Int.le_refl _
      | succ j ih => exact fun k => Int.le_trans (fall_steps cs (none, runD cs j (fun _ => 0)) k) (ih k)
    rw [← eD]
    exact this R k
  have cnt : ∀ r, offN (ms ++ [dayS]) (runD cs r (fun _ => 0)) D ≤ (ms.length + 1) - r := by
    intro r
    induction r with
    | zero =>
      have := sum_le (fun k => if runD cs 0 (fun _ => 0) k = D k then 0 else 1) (fun _ => 1) (ms ++ [dayS]) (fun k _ => by split <;> omega)
      rw [sum_const, List.length_append] at this
      unfold offN
      simp only [List.length_cons, List.length_nil, Nat.mul_one] at this
      exact this
    | succ r ih =>
      by_cases h : 0 < offN (ms ++ [dayS]) (runD cs r (fun _ => 0)) D
      · have := off_falls hn eD.symm kD lD r h
        omega
      · have b0 : LeD D (runD cs r (fun _ => 0)) := by have := run_below (d := fun _ => 0) kD 0 lD r; rwa [Nat.zero_add] at this
        have b1 : LeD D (runD cs (r + 1) (fun _ => 0)) := below_steps cs (none, runD cs r (fun _ => 0)) kD b0
        have fl : LeD (runD cs (r + 1) (fun _ => 0)) (runD cs r (fun _ => 0)) := fall_steps cs (none, runD cs r (fun _ => 0))
        have : offN (ms ++ [dayS]) (runD cs (r + 1) (fun _ => 0)) D ≤ offN (ms ++ [dayS]) (runD cs r (fun _ => 0)) D := sum_le _ _ _ fun k _ => by
          have a := b0 k
          have b := b1 k
          have c := fl k
          split <;> split <;> omega
        omega
  have z := cnt (ms.length + 1)
  rw [Nat.sub_self] at z
  have on : ∀ k ∈ ms ++ [dayS], runD cs (ms.length + 1) (fun _ => 0) k = D k := fun k m => by
    have := sum_zero _ (Nat.le_zero.mp z) _ (List.mem_map.mpr ⟨k, m, rfl⟩)
    by_cases h : runD cs (ms.length + 1) (fun _ => 0) k = D k
    · exact h
    · rw [if_neg h] at this; cases this
  have kr : Keeps cs (runD cs (ms.length + 1) (fun _ => 0)) := fun c m => by
    rw [on _ (hn c m).1, on _ (hn c m).2]
    exact kD c m
  show (roundD cs (iterD cs (ms.length + 1) (none, fun _ => 0)).2).1 = none
  rw [iter_run]
  exact congrArg Prod.fst (rest_steps cs (none, runD cs (ms.length + 1) (fun _ => 0)) kr)
end Ld
namespace Ld
open PySem PySem.Spec PyProof.Rows L2
/-! ### between two dates -/
theorem keeps_min {cs : List Clause} {d e : Str → Int} (h : Keeps cs d) (k : Keeps cs e) (j : Int) : Keeps cs (fun x => min (d x) (e x + j)) := fun c m => by
  have a := h c m
  have b := k c m
  show min (d c.1) (e c.1 + j) ≤ min (d c.2.1) (e c.2.1 + j) + c.2.2
  omega
theorem keeps_add {cs : List Clause} {d : Str → Int} (h : Keeps cs d) (j : Int) : Keeps cs (fun x => d x + j) := fun c m => by
  have a := h c m
  show d c.1 + j ≤ d c.2.1 + j + c.2.2
  omega
/-- a number that moves by at most one from below v to v or more hits v -/
theorem hits (f : Nat → Int) (v : Int) : ∀ n : Nat, f 0 ≤ v → v ≤ f n → (∀ i, f (i + 1) ≤ f i + 1) → ∃ i, f i = v
  | 0, a, b, _ => ⟨0, by omega⟩
  | n + 1, a, b, s => by
    by_cases h : v ≤ f n
    · exact hits f v n a h s
    · exact ⟨n + 1, by have := s n; omega⟩
/-- two dates, the difference at (x, y) below v and above v: one date has it v -/
theorem between {cs : List Clause} {d e : Str → Int} (hd : Keeps cs d) (he : Keeps cs e) {x y : Str} {v : Int} (h1 : e x - e y ≤ v) (h2 : v ≤ d x - d y) : ∃ q, Keeps cs q ∧ q x - q y = v := by
  -- from far below, where the minimum is e shifted, to far above, where it is d
  obtain ⟨lo, hlo⟩ : ∃ lo : Int, lo ≤ d x - e x ∧ lo ≤ d y - e y := ⟨min (d x - e x) (d y - e y), by omega, by omega⟩
  obtain ⟨n, hn⟩ : ∃ n : Nat, d x - e x ≤ lo + n ∧ d y - e y ≤ lo + n := ⟨(max (d x - e x) (d y - e y) - lo).toNat, by omega, by omega⟩
  obtain ⟨i, hi⟩ := hits (fun i => min (d x) (e x + (lo + (i : Nat))) - min (d y) (e y + (lo + (i : Nat)))) v n (by show min (d x) (e x + (lo + (0 : Nat))) - min (d y) (e y + (lo + (0 : Nat))) ≤ v; omega) (by show v ≤ min (d x) (e x + (lo + (n : Nat))) - min (d y) (e y + (lo + (n : Nat))); omega) (fun i => by
    show min (d x) (e x + (lo + ((i + 1 : Nat) : Int))) - min (d y) (e y + (lo + ((i + 1 : Nat) : Int))) ≤ min (d x) (e x + (lo + (i : Nat))) - min (d y) (e y + (lo + (i : Nat))) + 1
    omega)
  exact ⟨fun z => min (d z) (e z + (lo + (i : Nat))), keeps_min hd he _, hi⟩
end Ld
namespace Ld
open PySem PySem.Spec PyProof.Rows L2
/-! ### the slack is the least gap -/
structure BMax (ns : List Str) (cs : List Clause) (B : Str → Str → Int) : Prop where
  le : ∀ x ∈ ns, ∀ y ∈ ns, ∀ d, Keeps cs d → d x - d y ≤ B x y
  at' : ∀ x ∈ ns, ∀ y ∈ ns, ∃ d, IsDate cs d ∧ d x - d y = B x y
theorem phi_date {d : Str → Int} (h : d dayS = 0) (k : Str) : phi d k = d k := by
  unfold phi
  split
  · rename_i z; rw [z, h]
  · rfl
theorem keepB_iff {cs : List Clause} {φ : Str → Int} : keepB cs φ = true ↔ Keeps cs (phi φ) := by
  unfold keepB Keeps
  rw [List.all_eq_true]
  exact ⟨fun h c m => of_decide_eq_true (h c m), fun h c m => decide_eq_true (h c m)⟩
theorem date_good {tags : List Str} {n : Nat} {cs : List Clause} {φs : List (Str → Int)} (T : Tied tags n cs) (G : GoodDates tags n cs φs) {d : Str → Int} (h : IsDate cs d) : ∃ φ ∈ φs, ∀ k ∈ tags ++ [dayS], phi φ k = d k := by
  obtain ⟨φ, m, a⟩ := G.all d (fun t ht => ⟨by have := h.2 _ (T.lo t ht); have := h.1; simp only at *; omega, by have := h.2 _ (T.hi t ht); have := h.1; simp only at *; omega⟩) (keepB_iff.mpr fun c m => by rw [phi_date h.1, phi_date h.1]; exact h.2 c m)
  exact ⟨φ, m, fun k hk => by rw [phi_agree a hk, phi_date h.1]⟩
theorem least_slack {tags : List Str} {n : Nat} {cs : List Clause} {φs : List (Str → Int)} {B : Str → Str → Int} {D E : DealD} {M : Int} (T : Tied tags n cs) (G : GoodDates tags n cs φs) (X : BMax (tags ++ [dayS]) cs B) (oD : Onn tags D) (oE : Onn tags E)
    (hM : M ∈ gapsL φs D E) (hl : ∀ x ∈ gapsL φs D E, M ≤ x) : (if 0 ≤ M then some M else none) = slB B D E := by
  have e : M = -gapB B D E - 1 := by
    obtain ⟨φ, m, e⟩ := List.mem_map.mp hM
    have a := X.le D.em oD.em E.bm oE.bm (phi φ) (keepB_iff.mp (G.keep φ m))
    obtain ⟨d, hd, q⟩ := X.at' D.em oD.em E.bm oE.bm
    obtain ⟨ψ, m2, q2⟩ := date_good T G hd
    have b := hl _ (List.mem_map.mpr ⟨ψ, m2, rfl⟩)
    have u := q2 _ oD.em
    have v := q2 _ oE.bm
    unfold begE endE at e b
    unfold gapB
    omega
  unfold slB
  subst e
  by_cases h : gapB B D E ≥ 0
  · rw [if_neg (by omega), if_pos h]
  · rw [if_pos (by omega), if_neg h]
end Ld
namespace Ld
open PySem PySem.Spec PyProof.Rows L2
/-! ### the bounds that the walk wants are the greatest differences -/
noncomputable def bB (cs : List Clause) (x y : Str) : Int := by
  classical exact if h : ∃ v : Int, (∀ d, Keeps cs d → d x - d y ≤ v) ∧ ∃ d, IsDate cs d ∧ d x - d y = v then Classical.choose h else 0
theorem bmax {tags : List Str} {w : Int} {cs : List Clause} (T : Tied tags w cs) {d0 : Str → Int} (hd : Keeps cs d0) : BMax (tags ++ [dayS]) cs (bB cs) ∧ ∀ x ∈ tags ++ [dayS], ∀ y ∈ tags ++ [dayS], ∃ n gf, Settles cs n (one0 x) gf ∧ gf y = some (bB cs x y) := by
  have key : ∀ x ∈ tags ++ [dayS], ∀ y ∈ tags ++ [dayS], ((∀ d, Keeps cs d → d x - d y ≤ bB cs x y) ∧ ∃ d, IsDate cs d ∧ d x - d y = bB cs x y) ∧ ∃ n gf, Settles cs n (one0 x) gf ∧ gf y = some (bB cs x y) := fun x hx y hy => by
    obtain ⟨n, gf, S, tot⟩ := bound_ex T hd hx
    obtain ⟨v, ev⟩ := tot y hy
    have mx := bound_max T hd hx S ev
    have ex : ∃ v : Int, (∀ d, Keeps cs d → d x - d y ≤ v) ∧ ∃ d, IsDate cs d ∧ d x - d y = v := ⟨v, mx⟩
    have sp := Classical.choose_spec ex
    have eb : bB cs x y = Classical.choose ex := by unfold bB; rw [dif_pos ex]
    rw [eb]
    refine ⟨sp, n, gf, S, ?_⟩
    obtain ⟨d1, k1, q1⟩ := mx.2
    obtain ⟨d2, k2, q2⟩ := sp.2
    have a := sp.1 d1 k1.2
    have b := mx.1 d2 k2.2
    rw [ev, show v = Classical.choose ex by omega]
  exact ⟨⟨fun x hx y hy => (key x hx y hy).1.1, fun x hx y hy => (key x hx y hy).1.2⟩, fun x hx y hy => (key x hx y hy).2⟩
theorem fin_of {tags : List Str} {w : Int} {cs : List Clause} (T : Tied tags w cs) (G : Good tags cs) (hw : 0 ≤ w) {d0 : Str → Int} (hd : IsDate cs d0) : Fin tags cs (bB cs) := by
  refine ⟨G, ?_, (bmax T hd.2).2⟩
  have r : ∀ k ∈ tags ++ [dayS], d0 k ≤ w := fun k hk => by
    rcases List.mem_append.mp hk with z | z
    · have := hd.2 _ (T.hi k z)
      have := hd.1
      simp only at *
      omega
    · rw [List.mem_singleton] at z; rw [z, hd.1]; exact hw
  refine no_ring (f := fun k => if k ∈ tags ++ [dayS] then d0 k - w else 0) (fun c m => ?_) (fun c m => T.cl c m) (fun k => ?_)
  · have a := hd.2 c m
    have b := T.cl c m
    show (if c.1 ∈ tags ++ [dayS] then d0 c.1 - w else 0) ≤ (if c.2.1 ∈ tags ++ [dayS] then d0 c.2.1 - w else 0) + c.2.2
    rw [if_pos b.1, if_pos b.2]
    omega
  · show (if k ∈ tags ++ [dayS] then d0 k - w else 0) ≤ 0
    by_cases h : k ∈ tags ++ [dayS]
    · rw [if_pos h]; have := r k h; omega
    · rw [if_neg h]; exact Int.le_refl _
end Ld
namespace Ld
open PySem PySem.Spec PyProof.Rows L2
/-! ### an open pair may meet -/
theorem shift_date {cs : List Clause} {q : Str → Int} (h : Keeps cs q) : IsDate cs (fun z => q z + -q dayS) := ⟨by show q dayS + -q dayS = 0; omega, keeps_add h _⟩
theorem meet_iff {tags : List Str} {n : Nat} {cs : List Clause} {φs : List (Str → Int)} {B : Str → Str → Int} {D E : DealD} (T : Tied tags n cs) (G : GoodDates tags n cs φs) (X : BMax (tags ++ [dayS]) cs B) (oD : Onn tags D) (oE : Onn tags E)
    (wD : ∀ d, Keeps cs d → d D.bm + D.bn ≤ d D.em + D.en) (wE : ∀ d, Keeps cs d → d E.bm + E.bn ≤ d E.em + E.en) :
    (φs.any fun φ => decide (begE φ D - 0 ≤ endE φ E) && decide (begE φ E ≤ endE φ D + 0)) = true ↔ ¬ apart B D E := by
  rw [List.any_eq_true]
  unfold apart gapB
  constructor
  · rintro ⟨φ, m, h⟩
    rw [Bool.and_eq_true, decide_eq_true_eq, decide_eq_true_eq] at h
    have k := keepB_iff.mp (G.keep φ m)
    have a := X.le D.em oD.em E.bm oE.bm _ k
    have b := X.le E.em oE.em D.bm oD.bm _ k
    unfold begE endE at h
    omega
  · intro h
    have fin : ∀ q, Keeps cs q → 0 ≤ q D.em - q E.bm + D.en - E.bn → 0 ≤ q E.em - q D.bm + E.en - D.bn → ∃ φ ∈ φs, (decide (begE φ D - 0 ≤ endE φ E) && decide (begE φ E ≤ endE φ D + 0)) = true := fun q hq h1 h2 => by
      obtain ⟨φ, m, a⟩ := date_good T G (shift_date hq)
      refine ⟨φ, m, ?_⟩
      have a1 := a _ oD.em
      have a2 := a _ oD.bm
      have a3 := a _ oE.em
      have a4 := a _ oE.bm
      rw [Bool.and_eq_true, decide_eq_true_eq, decide_eq_true_eq]
      unfold begE endE
      omega
    obtain ⟨d1, k1, q1⟩ := X.at' D.em oD.em E.bm oE.bm
    obtain ⟨d2, k2, q2⟩ := X.at' E.em oE.em D.bm oD.bm
    by_cases c : 0 ≤ d2 D.em - d2 E.bm + D.en - E.bn
    · exact fin d2 k2.2 c (by omega)
    · obtain ⟨q, kq, eq⟩ := between k1.2 k2.2 (x := D.em) (y := E.bm) (v := E.bn - D.en) (by omega) (by omega)
      have u := wD q kq
      have v := wE q kq
      exact fin q kq (by omega) (by omega)
end Ld
namespace Ld
open PySem PySem.Spec PyProof.Rows L2
/-! ### the clauses with those of the deals -/
theorem mem_allC {c : Clause} : ∀ (ds : List DealD) (cs : List Clause), c ∈ allC cs ds ↔ c ∈ cs ∨ ∃ D ∈ ds, D.bm ≠ D.em ∧ c = clauseD D
  | [], cs => by simp [allC]
  | D :: ds, cs => by
    rw [show allC cs (D :: ds) = allC (addC cs D) ds from rfl, mem_allC ds (addC cs D)]
    have a : c ∈ addC cs D ↔ c ∈ cs ∨ (D.bm ≠ D.em ∧ c = clauseD D) := by
      unfold addC
      by_cases h : D.bm ≠ D.em ∧ ¬ clauseD D ∈ cs
      · rw [if_pos h, List.mem_append, List.mem_singleton]
        exact ⟨fun z => z.imp id fun e => ⟨h.1, e⟩, fun z => z.imp id fun e => e.2⟩
      · rw [if_neg h]
        refine ⟨.inl, fun z => ?_⟩
        rcases z with z | ⟨z1, z2⟩
        · exact z
        · apply Classical.byContradiction
          intro y
          exact h ⟨z1, fun w => y (z2 ▸ w)⟩
    rw [a]
    constructor
    · rintro ((z | z) | ⟨E, hE, z⟩)
      · exact .inl z
      · exact .inr ⟨D, by simp, z⟩
      · exact .inr ⟨E, List.mem_cons_of_mem _ hE, z⟩
    · rintro (z | ⟨E, hE, z⟩)
      · exact .inl (.inl z)
      · rcases List.mem_cons.mp hE with e | e
        · exact .inl (.inr (e ▸ z))
        · exact .inr ⟨E, e, z⟩
theorem allC_nodup : ∀ (ds : List DealD) (cs : List Clause), cs.Nodup → (allC cs ds).Nodup
  | [], _, h => h
  | D :: ds, cs, h => by
    refine allC_nodup ds (addC cs D) ?_
    unfold addC
    by_cases k : D.bm ≠ D.em ∧ ¬ clauseD D ∈ cs
    · rw [if_pos k, List.nodup_append]
      exact ⟨h, by simp, fun a ha b hb => by rintro rfl; rw [List.mem_singleton] at hb; exact k.2 (hb ▸ ha)⟩
    · rw [if_neg k]; exact h
end Ld
namespace Ld
open PySem PySem.Spec PyProof.Rows L2
/-! ### room: what may meet once the gap is narrowed -/
def meetB (φs : List (Str → Int)) (D E : DealD) (i j : Int) : Bool := φs.any fun φ => decide (begE φ D - i ≤ endE φ E) && decide (begE φ E ≤ endE φ D + j)
theorem meet_true {φs : List (Str → Int)} {D E : DealD} {i j : Int} : meetB φs D E i j = true ↔ ∃ φ ∈ φs, begE φ D - i ≤ endE φ E ∧ begE φ E ≤ endE φ D + j := by
  unfold meetB
  rw [List.any_eq_true]
  simp only [Bool.and_eq_true, decide_eq_true_eq]
section
variable {tags : List Str} {n : Nat} {cs : List Clause} {φs : List (Str → Int)} {B : Str → Str → Int} {D E : DealD}
/-- D surely ahead of E: never with room before D only -/
theorem ahead_never (G : GoodDates tags n cs φs) (X : BMax (tags ++ [dayS]) cs B) (oD : Onn tags D) (oE : Onn tags E) (h : gapB B D E ≤ -1) (i : Int) : meetB φs D E i 0 = false := by
  rw [Bool.eq_false_iff]
  intro z
  obtain ⟨φ, m, _, b⟩ := meet_true.mp z
  have a := X.le D.em oD.em E.bm oE.bm _ (keepB_iff.mp (G.keep φ m))
  unfold gapB at h
  unfold begE endE at b
  omega
/-- E surely ahead of D: meets when the room before D passes the slack -/
theorem behind_meets (T : Tied tags n cs) (G : GoodDates tags n cs φs) (X : BMax (tags ++ [dayS]) cs B) (oD : Onn tags D) (oE : Onn tags E)
    (wD : ∀ d, Keeps cs d → d D.bm + D.bn ≤ d D.em + D.en) (wE : ∀ d, Keeps cs d → d E.bm + E.bn ≤ d E.em + E.en) (h : gapB B E D ≤ -1) (i : Int) : meetB φs D E i 0 = true ↔ -gapB B E D ≤ i := by
  rw [meet_true]
  constructor
  · rintro ⟨φ, m, a, _⟩
    have k := X.le E.em oE.em D.bm oD.bm _ (keepB_iff.mp (G.keep φ m))
    unfold begE endE at a
    unfold gapB
    omega
  · intro l
    obtain ⟨d, kd, q⟩ := X.at' E.em oE.em D.bm oD.bm
    obtain ⟨φ, m, a⟩ := date_good T G kd
    refine ⟨φ, m, ?_⟩
    have a1 := a _ oD.em
    have a2 := a _ oD.bm
    have a3 := a _ oE.em
    have a4 := a _ oE.bm
    have u := wD d kd.2
    have v := wE d kd.2
    unfold begE endE
    unfold gapB at h l
    omega
/-- the mirror: E surely ahead of D, room behind D only: never -/
theorem behind_never (G : GoodDates tags n cs φs) (X : BMax (tags ++ [dayS]) cs B) (oD : Onn tags D) (oE : Onn tags E) (h : gapB B E D ≤ -1) (j : Int) : meetB φs D E 0 j = false := by
  rw [Bool.eq_false_iff]
  intro z
  obtain ⟨φ, m, a, _⟩ := meet_true.mp z
  have k := X.le E.em oE.em D.bm oD.bm _ (keepB_iff.mp (G.keep φ m))
  unfold gapB at h
  unfold begE endE at a
  omega
theorem ahead_meets (T : Tied tags n cs) (G : GoodDates tags n cs φs) (X : BMax (tags ++ [dayS]) cs B) (oD : Onn tags D) (oE : Onn tags E)
    (wD : ∀ d, Keeps cs d → d D.bm + D.bn ≤ d D.em + D.en) (wE : ∀ d, Keeps cs d → d E.bm + E.bn ≤ d E.em + E.en) (h : gapB B D E ≤ -1) (j : Int) : meetB φs D E 0 j = true ↔ -gapB B D E ≤ j := by
  rw [meet_true]
  constructor
  · rintro ⟨φ, m, _, b⟩
    have k := X.le D.em oD.em E.bm oE.bm _ (keepB_iff.mp (G.keep φ m))
    unfold begE endE at b
    unfold gapB
    omega
  · intro l
    obtain ⟨d, kd, q⟩ := X.at' D.em oD.em E.bm oE.bm
    obtain ⟨φ, m, a⟩ := date_good T G kd
    refine ⟨φ, m, ?_⟩
    have a1 := a _ oD.em
    have a2 := a _ oD.bm
    have a3 := a _ oE.em
    have a4 := a _ oE.bm
    have u := wD d kd.2
    have v := wE d kd.2
    unfold begE endE
    unfold gapB at h l
    omega
end
end Ld
namespace Ld
open PySem PySem.Spec PyProof.Rows L2
/-! ### all days of the moments -/
theorem paired_mono {α β : Type} {F G : α → β → Prop} {xs : List α} {ys : List β} (h : Paired F xs ys) (k : ∀ a b, F a b → G a b) : Paired G xs ys := by
  induction h with
  | nil => exact .nil
  | cons h _ ih => exact .cons (k _ _ h) ih
theorem paired_snoc {α β : Type} {F : α → β → Prop} {xs : List α} {ys : List β} {a : α} {b : β} (h : Paired F xs ys) (k : F a b) : Paired F (xs ++ [a]) (ys ++ [b]) := by
  induction h with
  | nil => exact .cons k .nil
  | cons h _ ih => exact .cons h ih
theorem putK_fresh {κ : Type} [DecidableEq κ] {kvs : List (κ × V)} {k : κ} {v : V} (h : ∀ p ∈ kvs, p.1 ≠ k) : putK kvs k v = kvs ++ [(k, v)] := by
  unfold putK
  rw [if_neg]
  rw [Bool.not_eq_true, List.any_eq_false]
  intro p hp
  simpa using h p hp
theorem mergeK_fresh : ∀ (more kvs : List (Key × V)), ((kvs ++ more).map (·.1)).Nodup → mergeK kvs more = kvs ++ more
  | [], kvs, _ => by simp [mergeK]
  | p :: more, kvs, h => by
    have e : mergeK kvs (p :: more) = mergeK (putK kvs p.1 p.2) more := rfl
    have nf : ∀ q ∈ kvs, q.1 ≠ p.1 := fun q hq => by
      rw [List.map_append, List.nodup_append] at h
      exact h.2.2 q.1 (List.mem_map.mpr ⟨q, hq, rfl⟩) p.1 (by simp)
    rw [e, putK_fresh nf, mergeK_fresh more _ (by rw [List.append_assoc]; exact h), List.append_assoc]
    rfl
theorem spots_snoc {d : List Str} {φ : Str → Int} {t : Str} (hn : ¬ t ∈ d) (i : Int) : spotsL d φ ++ [(t, i)] = spotsL (d ++ [t]) (updD φ t i) := by
  unfold spotsL
  rw [List.map_append, List.cons_append]
  congr 1
  congr 1
  · apply List.map_congr_left
    intro s hs
    have : s ≠ t := fun z => hn (z ▸ hs)
    simp [updD, this]
  · simp [updD]
theorem spots_keys {d : List Str} {φ : Str → Int} (nm : ∀ t ∈ d, NameS t) (nd : d.Nodup) : ((dI (spotsL d φ)).map (·.1)).Nodup := by
  have e : (dI (spotsL d φ)).map (·.1) = (dayS :: d).map Sum.inr := by
    unfold dI spotsL
    simp [List.map_map, Function.comp]
  rw [e]
  have h : (dayS :: d).Nodup := by
    rw [List.nodup_cons]
    exact ⟨fun z => (nm _ z).2.2.2 rfl, nd⟩
  exact List.pairwise_map.mpr (List.Pairwise.imp (fun k e => k (Sum.inr.inj e)) h)
structure AD (n : Nat) (d : List Str) (φs : List (Str → Int)) : Prop where
  len : φs.length = (n + 1) ^ d.length
  rng : ∀ φ ∈ φs, ∀ t ∈ d, 0 ≤ φ t ∧ φ t ≤ n
  all : ∀ e : Str → Int, (∀ t ∈ d, 0 ≤ e t ∧ e t ≤ n) → ∃ φ ∈ φs, ∀ t ∈ d, φ t = e t
def stepSp (n : Nat) (t : Str) (φ : Str → Int) : List (Str → Int) := (List.range (n + 1)).map fun i => updD φ t (i : Nat)
theorem flat_len_eq {α β : Type} {f : α → List β} {k : Nat} : ∀ {xs : List α}, (∀ x ∈ xs, (f x).length = k) → (xs.flatMap f).length = xs.length * k
  | [], _ => by simp
  | x :: xs, h => by
    rw [List.flatMap_cons, List.length_append, h x (by simp), flat_len_eq fun y hy => h y (List.mem_cons_of_mem _ hy), List.length_cons, Nat.succ_mul]
    omega
theorem AD.step {n : Nat} {d : List Str} {φs : List (Str → Int)} (A : AD n d φs) {t : Str} (ht : ¬ t ∈ d) : AD n (d ++ [t]) (φs.flatMap (stepSp n t)) where
  len := by
    rw [flat_len_eq (k := n + 1) (fun φ _ => by simp [stepSp]), A.len, List.length_append]
    exact (Nat.pow_succ ..).symm
  rng := fun ψ hψ s hs => by
    obtain ⟨φ, hφ, h2⟩ := List.mem_flatMap.mp hψ
    obtain ⟨i, hi, rfl⟩ := List.mem_map.mp h2
    rw [List.mem_range] at hi
    by_cases e : s = t
    · simp only [updD, if_pos e]; omega
    · simp only [updD, if_neg e]
      rcases List.mem_append.mp hs with z | z
      · exact A.rng φ hφ s z
      · rw [List.mem_singleton] at z; exact (e z).elim
  all := fun e he => by
    obtain ⟨φ, hφ, a⟩ := A.all e fun s hs => he s (List.mem_append_left _ hs)
    have b := he t (by simp)
    refine ⟨updD φ t ((e t).toNat : Nat), List.mem_flatMap.mpr ⟨φ, hφ, List.mem_map.mpr ⟨(e t).toNat, by rw [List.mem_range]; omega, rfl⟩⟩, fun s hs => ?_⟩
    by_cases z : s = t
    · subst z; simp only [updD, if_true]; omega
    · simp only [updD, if_neg z]
      rcases List.mem_append.mp hs with y | y
      · exact a s y
      · rw [List.mem_singleton] at y; exact (z y).elim
theorem AD.dates {n : Nat} {d : List Str} {φs : List (Str → Int)} (A : AD n d φs) (hn : n ≤ 7) (hl : d.length ≤ 2) : AllDates d n φs := by
  refine ⟨?_, A.rng, A.all⟩
  rw [A.len]
  have h1 : (n + 1) ^ d.length ≤ 8 ^ d.length := Nat.pow_le_pow_left (by omega) _
  have h2 : 8 ^ d.length ≤ 8 ^ 2 := Nat.pow_le_pow_right (by decide) hl
  omega
theorem SpX.pers (tags : List Str) : Pers (SpX tags) := fun _ _ _ _ s ⟨p, e, h⟩ => ⟨p, e, s _ _ rfl h⟩
theorem go_items {d : Addr} {m : List (Str × Int)} {H : Hp} {Q : VK} (h : H d = some (.dK (dI m))) (q : ∀ (H' : Hp) (p : Addr) (ts : List Addr), Same H H' → H p = none → (∀ t ∈ ts, H t = none) → p ∉ ts → H' p = some (.lst (ts.map V.ref)) → Paired (fun (t : Addr) (q : Key × V) => H' t = some (.tup [kV q.1, q.2])) ts (dI m) → Q (.ref p) H') : LiI.rItemsL (.ref d) H Q := ⟨d, _, rfl, h, q⟩
theorem go_dictP {K : PySem.W.Frag} {a : Addr} {ps : List Addr} {kvs : List (Key × V)} {H : Hp} {Q : VK} (h : H a = some (.lst (ps.map V.ref))) (hp : Paired (fun p kv => H p = some (.tup [kV kv.1, kv.2])) ps kvs) (q : ∀ p, H p = none → Q (.ref p) (upd H p (.dK (mergeK [] kvs)))) : rDictP K [.ref a] H Q :=
  ⟨a, ps, kvs, rfl, SqL.of h, paired_mono hp fun _ _ e => SqT.of e, q⟩
section
variable {P : Program} {w : World} {K : PySem.W.Frag} {mg : Str → Option Value} {base : Heap}
def s_law_all_spots : Stmt := top 95
abbrev N_law_all_spots : List Str := ["_law_tags", "_law_low", "_law_high", "_law_found", "_law_tag", "_law_longer", "_law_spots", "_law_spot"]
theorem sc_law_all_spots : FnScope N_law_all_spots ["_law_tags", "_law_low", "_law_high"] (defScope s_law_all_spots) := C8.fnScope_by (by decide +kernel)
theorem ok_law_all_spots {f : Addr} {fd : FuncData} (T : Tx K mg) (F : DefAt K "_law_all_spots" "_law_all_spots" s_law_all_spots f fd) (hm : mg "_law_all_spots" = some (.ref f)) : Cf P w K mg base 1 "_law_all_spots" (sp_law_all_spots K mg) := by
  refine cal_mk F hm sc_law_all_spots (fun vs H Q E => ?_) (fun _ _ _ _ _ _ us hl => match us, hl with | [_, _, _], _ => rfl) (fun cdv A outer s H vs Q E hr h => ?_)
  · walk_at "ln"
  · obtain ⟨pt, tags, n, rfl, et, nm, nd, hl, hn, h⟩ := h
    refine ⟨_, (pss_cons (ps_set (i := 3) sc_law_all_spots.nd rfl (Or.inl rfl) (pe_lst (pa_cons (pe_disp (pps_cons pe_str pe_int pps_nil) (by rfl) (by rfl) (fun z => by cases z) (by decide)) pa_nil)))
      (pss_cons (ps_for PassesOwn.never rfl (pi_list (pv 0)) (pg_name (i := 4) sc_law_all_spots.nd rfl (Or.inr rfl)) (pss_cons (ps_set (i := 5) sc_law_all_spots.nd rfl (Or.inl rfl) (pe_lst pa_nil))
      (pss_cons (ps_for PassesOwn.never rfl (pi_list (pe_callTy cr_list (by rfl) T.f_list (by decide +kernel) (pa_cons (pv 3) pa_nil))) (pg_name (i := 6) sc_law_all_spots.nd rfl (Or.inr rfl)) (pss_one (ps_expr (pe_bm PySem.F.plainAttrs_list PySem.F.slot_list_extend PySem.F.type_list_extend mt_extend (pv 5) (pa_cons (pe_lc (own := [("_law_spot", 7)]) rfl sc_law_all_spots.nd (pi_range2 (by rfl) T.f_range (pa_cons (pv 1) (pa_cons (pe_op op_add (pv 2) pe_int) pa_nil))) (blkOk_by (own := [("_law_spot", 7)]) (N := N_law_all_spots) (sc := defScope s_law_all_spots) (by decide +kernel)) (fun _ _ _ _ _ => (pg_name (i := 7) sc_law_all_spots.nd rfl (Or.inl rfl))) (fun _ _ _ _ _ => pts_nil) (fun _ _ _ _ _ => (pe_callTy (cr_dictP (K := K) rfl) (by rfl) T.f_dict (by decide +kernel) (pa_cons (pe_op op_cat (LiI.pe_listItems rfl (pv 6) (by rfl) T.f_list (by decide +kernel)) (pe_lst (pa_cons (pe_tup (pa_cons (pv 4) (pa_cons (pv 7) pa_nil))) pa_nil))) pa_nil))) ) pa_nil)))))
      (pss_one (ps_set (i := 3) sc_law_all_spots.nd rfl (Or.inl rfl) (pv 5))))))
      (pss_one (ps_ret (pv 3))))), ?_⟩
    walk_at "nk"
    walk_at "go"
    intro p0 hp0
    walk_at "go"
    refine ⟨upd_same, [(.inr dayS, .int 0)], rfl, by simp, ?_⟩
    walk_at "go"
    intro l0 hl0
    generalize hE : upd _ l0 _ = H1
    have s1 : Same H H1 := by
      rw [← hE]
      intro b o e
      have nb := ne_of_none e hp0
      exact up_old hl0 (up_ne nb (up_ne nb e))
    have e0 : H1 p0 = some (.dK (dI (spotsL [] fun _ => 0))) := by rw [← hE]; exact up_old hl0 upd_same
    have el0 : H1 l0 = some (.lst [.ref p0]) := by rw [← hE]; exact upd_same
    have hl00 : H l0 = none := (none_up (none_up hl0).2).2
    clear hE hl0
    have et1 := s1 _ _ et
    walk_at "go"
    refine forL (All2.raw V.str tags) (fun d σ H' => ∃ f x y z φs, σ = [some (.ref pt), some (.int 0), some (.int (n : Nat)), some (.ref f), x, y, z, none] ∧ Same H H' ∧ H f = none ∧ LAt (SpX d) H' f φs ∧ AD n d φs)
      ⟨l0, _, _, _, [fun _ => 0], rfl, s1, hl00, ⟨_, el0, .cons ⟨p0, rfl, e0⟩ .nil⟩, ⟨rfl, fun φ _ t ht => (by cases ht), fun e _ => ⟨_, List.mem_singleton_self _, fun t ht => (by cases ht)⟩⟩⟩ (fun d σ H' q => by obtain ⟨_, _, _, _, _, _, q, _⟩ := q; exact q _ _ et) (fun d t r x σ H2 e ex q => ?_) (fun σ H2 q => ?_)
    · obtain ⟨f, x1, y1, z1, φs, rfl, s2, hf, ⟨vs, ef, af⟩, A⟩ := q
      subst ex
      have ntd : ¬ t ∈ d := by
        rw [e, List.nodup_append] at nd
        exact fun z => nd.2.2 t z t (by simp) rfl
      have nmd : ∀ s ∈ d ++ [t], NameS s := fun s hs => nm s (by rw [e]; rcases List.mem_append.mp hs with z | z <;> simp_all)
      have ndd : (d ++ [t]).Nodup := by
        rw [e, show d ++ t :: r = (d ++ [t]) ++ r by simp, List.nodup_append] at nd
        exact nd.1
      have dl : d.length ≤ 1 := by have := congrArg List.length e; simp at this; omega
      have φl : φs.length ≤ 8 := by
        rw [A.len]
        have h1 : (n + 1) ^ d.length ≤ 8 ^ d.length := Nat.pow_le_pow_left (by omega) _
        have h2 : 8 ^ d.length ≤ 8 ^ 1 := Nat.pow_le_pow_right (by decide) dl
        omega
      walk_at "go"
      intro L hL
      walk_at "go"
      intro q hq
      have hL0 := none_back s2 hL
      obtain ⟨nqL, hq2⟩ := none_up hq
      have sL : Same H2 (upd (upd H2 L (.lst [])) q (.lst vs)) := Same.trans' (same_new hL) (same_new hq)
      have afm := af.with_mem
      refine forL af (fun d2 σ H' => ∃ z ys, σ = [some (.ref pt), some (.int 0), some (.int (n : Nat)), some (.ref f), some (.str t), some (.ref L), z, none] ∧ Same H2 H' ∧ H' q = some (.lst vs) ∧ H' L = some (.lst ys) ∧ All2 (SpX (d ++ [t]) H') ys (d2.flatMap (stepSp n t)))
        ⟨_, [], rfl, sL, upd_same, up_old hq upd_same, .nil⟩ (fun d σ H' k => by obtain ⟨_, _, _, _, k, _⟩ := k; exact k) (fun d2 φ r2 x σ H3 e2 ex k => ?_) (fun σ H3 k => ?_)
      · obtain ⟨z2, ys, rfl, s3, q3, l3, al3⟩ := k
        obtain ⟨px, rfl, epx⟩ := ex.same s3
        have ly := al3.len
        have lfl : (d2.flatMap (stepSp n t)).length = d2.length * (n + 1) := flat_len_eq (k := n + 1) fun φ _ => by simp [stepSp]
        have ld2 : d2.length < 8 := by have := congrArg List.length e2; simp at this; omega
        have lmul : d2.length * (n + 1) ≤ 7 * 8 := Nat.mul_le_mul (by omega) (by omega)
        walk_at "go"
        refine lcR2 (lo := 0) (n := n + 1) (Int.le_refl _) (by omega) (by omega) (fun i => some (updD φ t (i : Nat))) (SpX (d ++ [t])) (SpX.pers _) (by omega) (fun i H' hi sm => ?_) (fun D H4 zs hD s4 eD al4 => ?_)
        · intro Qo Qn ho hn'
          have ep' := sm _ _ epx
          walk_at "go"
          refine go_li ?_
          walk_at "go"
          refine go_items ep' fun H5 p ts k5 hp hts npts elp pr => ?_
          walk_at "go"
          intro u hu
          walk_at "go"
          intro l2 hl2
          walk_at "go"
          have nl2 : l2 ≠ u := (none_up hl2).1
          have e6 : ∀ b o, H5 b = some o → (upd (upd H5 u (.tup [.str t, .int (0 + (i : Nat))])) l2 (.lst [.ref u])) b = some o := fun b o e => up_old hl2 (up_old hu e)
          have elp6 := e6 _ _ elp
          have el26 : (upd (upd H5 u (.tup [.str t, .int (0 + (i : Nat))])) l2 (.lst [.ref u])) l2 = some (.lst [.ref u]) := upd_same
          have eu6 : (upd (upd H5 u (.tup [.str t, .int (0 + (i : Nat))])) l2 (.lst [.ref u])) u = some (.tup [.str t, .int (0 + (i : Nat))]) := up_old hl2 upd_same
          have s6 : Same H' (upd (upd H5 u (.tup [.str t, .int (0 + (i : Nat))])) l2 (.lst [.ref u])) := fun b o e => e6 _ _ (k5 _ _ e)
          have pr6 := paired_mono pr fun a b h => e6 _ _ h
          generalize (upd (upd H5 u (.tup [.str t, .int (0 + (i : Nat))])) l2 (.lst [.ref u])) = H6 at elp6 el26 eu6 s6 pr6 ⊢
          have lts : ts.length ≤ 100 := by
            rw [Paired.length pr6]
            unfold dI spotsL
            simp
            omega
          walk_at "go"
          intro l3' hl3'
          have s7 := same_new (o := .lst (ts.map V.ref ++ [.ref u])) hl3'
          walk_at "go"
          refine go_dictP (ps := ts ++ [u]) (kvs := dI (spotsL d φ) ++ [(.inr t, .int (i : Nat))]) (by rw [upd_same, List.map_append]; rfl) (paired_snoc (paired_mono pr6 fun a b h => s7 _ _ h) (by rw [s7 _ _ eu6]; simp [kV])) fun pd hpd => ?_
          have ek : dI (spotsL d φ) ++ [(Sum.inr t, V.int (i : Nat))] = dI (spotsL (d ++ [t]) (updD φ t (i : Nat))) := by
            rw [← spots_snoc ntd]
            unfold dI
            rw [List.map_append]
            rfl
          rw [ek, mergeK_fresh _ _ (by rw [List.nil_append]; exact spots_keys nmd ndd), List.nil_append]
          exact ho _ _ _ rfl (Same.trans' s6 (Same.trans' s7 (same_new hpd))) ⟨pd, rfl, upd_same⟩
        · have l4 := s4 _ _ l3
          have lz := al4.len
          have lz2 : ((List.range (n + 1)).filterMap fun i => some (updD φ t (i : Nat))).length ≤ n + 1 := by
            have := List.length_filterMap_le (fun i => some (updD φ t (i : Nat))) (List.range (n + 1))
            rw [List.length_range] at this
            exact this
          have nz : ys.length + zs.length ≤ sizeLine := sz (by omega)
          walk_at "go"
          have pn := SameN.lst (ys := ys ++ zs) l4
          refine ⟨_, ys ++ zs, rfl, fun b o e => up_ne (ne_of_none e hL) (s4 _ _ (s3 _ _ e)), up_ne nqL (s4 _ _ q3), upd_same, ?_⟩
          rw [List.flatMap_append]
          refine (al3.mono fun v c k => SpX.pers _ _ _ _ _ pn (SpX.pers _ _ _ _ _ (SameN.of s4) k)).append ?_
          simp only [List.flatMap_cons, List.flatMap_nil, List.append_nil]
          unfold stepSp
          rw [← List.filterMap_eq_map']
          exact al4.mono fun v c k => SpX.pers _ _ _ _ _ pn k
      · obtain ⟨z2, ys, rfl, s3, q3, l3, al3⟩ := k
        walk_at "go"
        exact ⟨L, _, _, _, φs.flatMap (stepSp n t), rfl, Same.trans' s2 s3, hL0, ⟨ys, l3, al3⟩, A.step ntd⟩
    · obtain ⟨f, x1, y1, z1, φs, rfl, s2, hf, Lf, A⟩ := q
      walk_at "go"
      exact h H2 f φs s2 hf Lf (A.dates hn hl)
end
end Ld
namespace Ld
open PySem PySem.Spec PyProof.Rows L2
/-! ### sorted(pacts, key=_law_by_tag): the key by a raw run of its def -/
def s_law_by_tag : Stmt := top 91
abbrev N_law_by_tag : List Str := ["_law_pact_here"]
theorem sc_law_by_tag : FnScope N_law_by_tag ["_law_pact_here"] (defScope s_law_by_tag) := C8.fnScope_by (by decide +kernel)

structure TagF (K : PySem.W.Frag) (mg : Str → Option Value) : Prop where
  ex : ∃ fd, DefAt K "_law_by_tag" "_law_by_tag" s_law_by_tag (He.ga K "_law_by_tag") fd
  m : mg "_law_by_tag" = some (.ref (He.ga K "_law_by_tag"))
theorem TagF.g {K : PySem.W.Frag} {mg : Str → Option Value} (c : TagF K mg) : ∃ u, mg "_law_by_tag" = some u ∧ RelV (.ref (He.ga K "_law_by_tag")) u := ⟨_, c.m, rfl⟩
/-- one call of it -/
theorem tag_call {P : Program} {w : World} {K : PySem.W.Frag} {f d : Addr} {fd : FuncData} {A : Around} {s : Shared} {kvs : List (Key × V)} {vs : List (Key × Value)} {z : Str} (F : DefAt K "_law_by_tag" "_law_by_tag" s_law_by_tag f fd) (KX : K.In s.heap) (lim : s.heap.NoLimit)
    (hdp : A.depth < recursionLimit) (rel : KV kvs vs) (dd : s.heap.DictOf (mixKind P w) d vs) (hz : valV kvs (.inr "tag") = some (.str z)) : wpAny (model P w) A (call (.ref f) [.ref d]) (PySem.W.KeyPure (.str z) s) (fun _ _ => False) s := by
  have hb := F.bindsN (ps := ["_law_pact_here"]) fun _ _ _ _ _ _ us hl => match us, hl with | [_], _ => rfl
  obtain ⟨oc, od, dV, kV', doc, pm, an, cdv, ct, osl, rfl, lk, hcd, _, _⟩ := F.ex
  have hkind : ∀ y ∈ (["_law_pact_here"] : List Str).zip [Value.ref d], (defScope s_law_by_tag).names.lookup y.1 = some .local ∨ ((defScope s_law_by_tag).names.lookup y.1 = some .cell ∧ ((cellsFrom (s.heap.objs.size + 1) (defScope s_law_by_tag).names []).lookup y.1).isSome = true) := fun y hy => by
    obtain rfl := List.mem_singleton.mp hy
    exact .inl rfl
  refine wpAny_call (codeAny_call_function hdp (KX _ _ lk) rfl sc_law_by_tag.co sc_law_by_tag.gen rfl (PySem.W.codeRec_of KX hcd) (hb s [.ref d] KX rfl _ _ _ _ ?_))
  refine wpAny_newFunctionEnv_cells sc_law_by_tag.kind hkind fun env he s1 x => ?_
  subst he
  refine ⟨lim.keeps x.toInCall.keep, codeAny_func ?_⟩
  obtain ⟨h1, tk, rfl, hk⟩ := x.done
  obtain ⟨w', hw, rw'⟩ := RelO.some_of (v := .str z) (o := valueAt vs (.inr "tag")) (by rw [← hz]; exact rel.val _)
  obtain ⟨t, rfl⟩ := (show ∃ t, w' = Value.str z t from rw')
  have dd1 : h1.DictOf (mixKind P w) d vs := dd.keep hk
  refine wpAny_execs_cons (wpAny_Return_some (subD_of PySem.F.slot_dict_getitem.lookup (fun _ _ => rfl) ?_))
  refine wpAny_Name (wpAny_loadName_local sc_law_by_tag.kind rfl x.toInCall.ns rfl ?_) (by decide)
  refine Calls.Constant_str ?_
  refine ⟨dd1.typeIs, wpAny_getItem_of (kV_is (k := .inr "tag") ⟨_, rfl⟩) dd1.mapOf hw ?_⟩
  exact ⟨h1, _, rfl, hk, .str _ _⟩
/-- sorted(xs, key=_law_by_tag) -/
def leT' (D E : DealD) : Bool := PySem.W.dataLe false (fun D : DealD => PyData.str D.name) D E
def rSortedTag (K : PySem.W.Frag) : List V → List V → Hp → VK → Prop := fun vs zs H Q => ∃ (a : Addr) (xs : List V) (Ds : List DealD), vs = [.ref a] ∧ zs = [.ref (He.ga K "_law_by_tag")] ∧ H a = some (.lst xs) ∧ ∃ H0, Same H0 H ∧ All2 (PactV H0) xs Ds ∧ Ds.length ≤ 1000 ∧
  ∀ (ys : List V) (p : Addr), H p = none → All2 (PactV H0) ys (Ds.mergeSort leT') → Q (.ref p) (upd H p (.lst ys))
theorem each_of2 {α β : Type} {R : α → β → Prop} {as : List α} {bs : List β} (h : All2 R as bs) : PySem.W.EachIs R as bs := by
  induction h with
  | nil => exact .nil
  | cons h _ ih => exact .cons h ih
theorem pact_each {H : Hp} : ∀ {out : List Value} {Es : List DealD}, PySem.W.EachIs (fun (v : Value) (D : DealD) => ∃ p, v = .ref p ∧ PactV H (.ref p) D) out Es → ∃ ys, Vals ys out ∧ All2 (PactV H) ys Es
  | _, _, .nil => ⟨[], .nil, .nil⟩
  | _, _, .cons h t => by
    obtain ⟨ys, r, al⟩ := pact_each t
    obtain ⟨p, rfl, hp⟩ := h
    exact ⟨.ref p :: ys, .cons rfl r, .cons hp al⟩
theorem pact_vals {H : Hp} : ∀ {xs : List V} {us : List Value} {Ds : List DealD}, Vals xs us → All2 (PactV H) xs Ds → PySem.W.EachIs (fun (v : Value) (D : DealD) => ∃ p, v = .ref p ∧ PactV H (.ref p) D) us Ds
  | _, _, _, .nil, .nil => .nil
  | _, _, _, .cons r rs, .cons h t => by
    obtain ⟨p, pf, pl, pw, pb, pe, rfl, k⟩ := id h
    cases r
    exact .cons ⟨p, rfl, h⟩ (pact_vals rs t)
theorem cr_sortedTag {X : Cx} {j : Nat} (c : TagF X.K X.mg) (hr : Room j X.A) (hc : X.calm = true := by rfl) : CallRK X (.builtin "sorted") [Str.ofString "key"] (rSortedTag X.K) := by
  intro pins s σ H vs zs us ws Q I r rz h
  obtain ⟨a, xs, Ds, rfl, rfl, ha, H0, s0, al, hz, q⟩ := h
  obtain rfl := Vals.ref1 r
  obtain ⟨w1, rfl, e1⟩ := vals1 rz
  obtain rfl : w1 = Value.ref (He.ga X.K "_law_by_tag") := e1
  obtain ⟨fd, F⟩ := c.ex
  obtain ⟨its, rv, hl, _⟩ := I.list (SqL.of ha)
  have ee := pact_vals rv al
  have hu := hr.un
  have hdp := hr.dp
  refine PySem.W.sorted_key_data (b := false) (fun D : DealD => PyData.str D.name) hl.isList ee (PySem.W.AllAlike.of fun _ _ => by simp [PySem.W.alike]) (PySem.W.Sortable.others fun D => ⟨by simp, fun xs => by simp⟩) (sz (by omega)) (fun D _ => ?_) (PyProof.Rows.ksk_s1 _ _) (fun _ => PyProof.Rows.ksk_l1 _ _) (fun _ => PyProof.Rows.ksk_t1 _ _) (fun v D hv hD h' tk kp => ?_) (fun out cc h' tk kp hf hD hlo eo => ?_)
  · simp only [PyData.depth]
    omega
  · obtain ⟨p, rfl, p', pf, pl, pw, pb, pe, e0, h0, _⟩ := hv
    cases e0
    have I1 : Inv X pins σ H { s with heap := h', toks := tk } := I.kept kp
    obtain ⟨_, _, vs', rel, dd⟩ := dk_of I1.hok (s0 _ _ h0)
    exact tag_call F I1.kIn I1.nolimit (by show X.A.depth < _; omega) rel dd rfl
  · obtain ⟨ys, ry, ay⟩ := pact_each eo
    have I1 : Inv X pins σ H { s with heap := h', toks := tk } := I.kept kp
    refine ⟨.ref _, upd H (s.heap.objs.size + 1) (.lst ys), ?_, rfl, q ys _ (I.hok.fresh (Nat.le_succ _)) ay⟩
    exact I.laid kp (Nat.le_succ _) (show ObjOk X.prog X.w _ _ _ (.lst ys) from ⟨by rw [ry.length, hlo]; exact sz (by omega), out, cc, ry, hD⟩)
theorem go_sortedTag {K : PySem.W.Frag} {a : Addr} {xs : List V} {Ds : List DealD} {H H0 : Hp} {Q : VK} (ha : H a = some (.lst xs)) (s0 : Same H0 H) (al : All2 (PactV H0) xs Ds) (hz : Ds.length ≤ 1000) (q : ∀ (ys : List V) (p : Addr), H p = none → All2 (PactV H0) ys (Ds.mergeSort leT') → Q (.ref p) (upd H p (.lst ys))) :
    rSortedTag K [.ref a] [.ref (He.ga K "_law_by_tag")] H Q := ⟨a, xs, Ds, rfl, rfl, ha, H0, s0, al, hz, q⟩
end Ld
namespace Ld
open PySem PySem.Spec PyProof.Rows L2
/-! ### the clauses of a book, in sequence -/
def sp_law_rules (K : PySem.W.Frag) (mg : Str → Option Value) : Sp := fun vs H Q _ => ∃ (c pt ps pr dl : Addr) (C : ChartD) (Ds : List DealD), vs = [.ref c, .ref dl] ∧ ChartX K H c pt ps pr C ∧ LAt PactV H dl Ds ∧ (∀ D ∈ Ds, DealOk D) ∧ Ds.length ≤ 10 ∧ C.rules.length ≤ 100 ∧
  ∀ H' p, Same H H' → H p = none → LAt ClV H' p (allC C.rules (Ds.mergeSort leT')) → Q (.ref p) H'
section
variable {P : Program} {w : World} {K : PySem.W.Frag} {mg : Str → Option Value} {base : Heap}
def s_law_rules : Stmt := top 92
abbrev N_law_rules : List Str := ["_law_chart_here", "_law_pacts_here", "_law_found", "_law_pact_here", "_law_own"]
theorem sc_law_rules : FnScope N_law_rules ["_law_chart_here", "_law_pacts_here"] (defScope s_law_rules) := C8.fnScope_by (by decide +kernel)
theorem ok_law_rules {f : Addr} {fd : FuncData} (T : Tx K mg) (F : DefAt K "_law_rules" "_law_rules" s_law_rules f fd) (hm : mg "_law_rules" = some (.ref f)) (c_law_by_tag : TagF K mg) : Cf P w K mg base 2 "_law_rules" (sp_law_rules K mg) := by
  refine cal_mk F hm sc_law_rules (fun vs H Q E => ?_) (fun _ _ _ _ _ _ us hl => match us, hl with | [_, _], _ => rfl) (fun cdv A outer s H vs Q E hr h => ?_)
  · walk_at "ln"
  · obtain ⟨c, pt, ps, pr, dl, C, Ds, rfl, X, ⟨vs, el, al⟩, ok, hz, hr1, h⟩ := h
    refine ⟨_, (pss_cons (ps_set (i := 2) sc_law_rules.nd rfl (Or.inl rfl) (pe_callTy cr_list (by rfl) T.f_list (by decide +kernel) (pa_cons (pe_dget (hu_of hr) (pv 0) pe_str (fun _ _ => rfl)) pa_nil)))
      (pss_cons (ps_for PassesOwn.never rfl (pi_list (pe_callBK (cr_sortedTag c_law_by_tag hr) (by rfl) T.f_sorted (by decide +kernel) (pa_cons (pv 1) pa_nil) (pk_cons (C8.pe_gc (by rfl) c_law_by_tag.g) pk_nil))) (pg_name (i := 3) sc_law_rules.nd rfl (Or.inl rfl)) (pss_cons (ps_set (i := 4) sc_law_rules.nd rfl (Or.inl rfl) (pe_tup (pa_cons (pe_ix ix_tup (pe_dget (hu_of hr) (pv 3) pe_str (fun _ _ => rfl)) pe_int (fun _ _ => rfl)) (pa_cons (pe_ix ix_tup (pe_dget (hu_of hr) (pv 3) pe_str (fun _ _ => rfl)) pe_int (fun _ _ => rfl)) (pa_cons (pe_op op_sub (pe_ix ix_tup (pe_dget (hu_of hr) (pv 3) pe_str (fun _ _ => rfl)) pe_int (fun _ _ => rfl)) (pe_ix ix_tup (pe_dget (hu_of hr) (pv 3) pe_str (fun _ _ => rfl)) pe_int (fun _ _ => rfl))) pa_nil)))))
      (pss_one (ps_if (PW.pt (pw_and (pt_cmpR op_ne (pe_ix ix_tup (pv 4) pe_int (fun _ _ => rfl)) (pe_ix ix_tup (pv 4) pe_int (fun _ _ => rfl)) (nomark _)) (pw_and1 (pt_cmpR (op_notInD (hu65 hr)) (pv 4) (pv 2) (by rfl))))) (pss_one (ps_expr (pe_bm PySem.F.plainAttrs_list PySem.F.slot_list_append PySem.F.type_list_append mt_append (pv 2) (pa_cons (pv 4) pa_nil)))) pss_nil))))
      (pss_one (ps_ret (pv 2))))), ?_⟩
    walk_at "nk"
    have xo := X.o
    obtain ⟨rs, er, ar⟩ := id X.r
    have lr := ar.len
    walk_at "go"
    intro l hl
    have sl := same_new (o := .lst rs) hl
    have el1 := sl _ _ el
    walk_at "go"
    refine go_sortedTag el1 sl al (by omega) fun ys p hp ay => ?_
    have sp := Same.trans' sl (same_new (o := .lst ys) hp)
    have pm := List.mergeSort_perm Ds leT'
    have lm := pm.length_eq
    obtain ⟨npl, hp0⟩ := none_up hp
    refine forL ay (fun d σ H' => ∃ x y, σ = [some (.ref c), some (.ref dl), some (.ref l), x, y] ∧ Same H H' ∧ H' p = some (.lst ys) ∧ LAt ClV H' l (allC C.rules d))
      ⟨_, _, rfl, sp, upd_same, rs, up_old hp upd_same, ar.mono fun v c q => ClV.pers _ _ _ _ (SameN.of sp) q⟩ (fun d σ H' q => by obtain ⟨_, _, _, _, q, _⟩ := q; exact q) (fun d D r x σ H2 e ex q => ?_) (fun σ H2 q => ?_)
    · obtain ⟨x1, y1, rfl, s2, p2, zs, l2, az⟩ := q
      have hD : D ∈ Ds := pm.mem_iff.mp (by simp [e])
      have okD := ok D hD
      obtain ⟨pa, pf, pl, pw, pb, pe, rfl, k0, k1, k2, k3, k4, k5⟩ := id (ex.same s2)
      unfold pactK at k0
      have lz : d.length ≤ 10 := by have := congrArg List.length e; simp at this; omega
      have lc := allC_len C.rules d
      have lzs := az.len
      have nz : zs.length < sizeLine := szl (by omega)
      rw [allC_snoc]
      walk_at "go"
      intro t ht
      have st := same_new (o := .tup [.str D.bm, .str D.em, .int (D.en - D.bn)]) ht
      have et : upd H2 t (.tup [.str D.bm, .str D.em, .int (D.en - D.bn)]) t = some (.tup [.str D.bm, .str D.em, .int (D.en - D.bn)]) := upd_same
      have VT : ClV (upd H2 t (.tup [.str D.bm, .str D.em, .int (D.en - D.bn)])) (.ref t) (clauseD D) := ⟨t, rfl, upd_same, okD.bm.ok, okD.em.ok⟩
      have L3 : LAt ClV (upd H2 t (.tup [.str D.bm, .str D.em, .int (D.en - D.bn)])) l (allC C.rules d) := LAt.same (S := ClV) ClV.pers ⟨zs, l2, az⟩ st
      have l3 := st _ _ l2
      have p3 := st _ _ p2
      walk_at "go"
      by_cases z : D.bm = D.em
      · have z1 : V.str D.bm = V.str D.em := by rw [z]
        walk_at "go"
        rw [show addC (allC C.rules d) D = allC C.rules d from if_neg fun k => k.1 z]
        exact ⟨_, _, rfl, Same.trans' s2 st, p3, L3⟩
      · have z1 : V.str D.bm ≠ V.str D.em := fun e => z (V.str.inj e)
        walk_at "go"
        refine go_niD encCl VT L3 ?_
        by_cases k : clauseD D ∈ allC C.rules d
        · walk_at "go"
          rw [show addC (allC C.rules d) D = allC C.rules d from if_neg fun k2 => k2.2 k]
          exact ⟨_, _, rfl, Same.trans' s2 st, p3, L3⟩
        · walk_at "go"
          rw [show addC (allC C.rules d) D = allC C.rules d ++ [clauseD D] from if_pos ⟨z, k⟩]
          have pn := SameN.lst (ys := zs ++ [.ref t]) l3
          exact ⟨_, _, rfl, fun x o e => up_ne (ne_of_none e hl) (st _ _ (s2 _ _ e)), up_ne npl p3, zs ++ [.ref t], upd_same, (az.mono fun v c h => ClV.pers _ _ _ _ pn (ClV.pers _ _ _ _ (SameN.of st) h)).snoc (ClV.pers _ _ _ _ pn VT)⟩
    · obtain ⟨x1, y1, rfl, s2, p2, L2⟩ := q
      walk_at "go"
      exact h _ _ s2 hl L2
end
end Ld
namespace Ld
open PySem PySem.Spec PyProof.Rows L2
/-! ### the least pair that touches and may be on together -/
def meetB0 (φs : List (Str → Int)) (D E : DealD) : Bool := φs.any fun φ => decide (begE φ D - 0 ≤ endE φ E) && decide (begE φ E ≤ endE φ D + 0)
def openL (φs : List (Str → Int)) (D E : DealD) : Bool := touchL D E && meetB0 φs D E
/-- the first pair, by rows -/
def firstIn (φs : List (Str → Int)) (D : DealD) (Es : List DealD) : Option Pair := (Es.find? fun E => openL φs D E).map fun E => (D.name, E.name)
def firstO (φs : List (Str → Int)) : List DealD → Option Pair
  | [] => none
  | D :: r => (firstIn φs D r).or (firstO φs r)
theorem firstIn_none {φs : List (Str → Int)} {D : DealD} {Es : List DealD} (h : ∀ E ∈ Es, openL φs D E = false) : firstIn φs D Es = none := by
  unfold firstIn
  rw [List.find?_eq_none.mpr fun E hE => by rw [h E hE]; decide]
  rfl
theorem firstIn_some {φs : List (Str → Int)} {D E : DealD} {d r : List DealD} (h : ∀ E ∈ d, openL φs D E = false) (k : openL φs D E = true) : firstIn φs D (d ++ E :: r) = some (D.name, E.name) := by
  unfold firstIn
  rw [List.find?_append, List.find?_eq_none.mpr fun E hE => by rw [h E hE]; decide, List.find?_cons, k]
  rfl
theorem firstO_skip {φs : List (Str → Int)} : ∀ {d r : List DealD}, (∀ a D b, d = a ++ D :: b → firstIn φs D (b ++ r) = none) → firstO φs (d ++ r) = firstO φs r
  | [], _, _ => rfl
  | D :: d, r, h => by
    show (firstIn φs D (d ++ r)).or (firstO φs (d ++ r)) = _
    rw [h [] D d rfl, firstO_skip (d := d) fun a E b e => h (D :: a) E b (by rw [e]; rfl)]
    rfl
def pairO : Option Pair → (Addr → HO → Prop) → V → Prop
  | none, _, v => v = .non
  | some q, k, v => ∃ p, v = .ref p ∧ k p (.tup [.str q.1, .str q.2])
def PairO (H : Hp) (v : V) : Option Pair → Prop
  | none => v = .non
  | some q => ∃ p, v = .ref p ∧ H p = some (.tup [.str q.1, .str q.2])
def sp_law_first_open (K : PySem.W.Frag) (mg : Str → Option Value) : Sp := fun vs H Q _ => ∃ (g dl : Addr) (tags : List Str) (φs : List (Str → Int)) (Ds : List DealD), vs = [.ref g, .ref dl] ∧ (∀ t ∈ tags, NameS t) ∧ LAt (SpX tags) H g φs ∧ LAt PactV H dl Ds ∧ (∀ D ∈ Ds, DealOk D ∧ Onn tags D) ∧ Ds.length ≤ 10 ∧
  ∀ H' v, Same H H' → PairO H' v (firstO φs (Ds.mergeSort leT')) → Q v H'
section
variable {P : Program} {w : World} {K : PySem.W.Frag} {mg : Str → Option Value} {base : Heap}
def s_law_first_open : Stmt := top 103
abbrev N_law_first_open : List Str := ["_law_good_here", "_law_pacts_here", "_law_some_here", "_law_at", "_law_pact_here", "_law_mate"]
theorem sc_law_first_open : FnScope N_law_first_open ["_law_good_here", "_law_pacts_here"] (defScope s_law_first_open) := C8.fnScope_by (by decide +kernel)
theorem ok_law_first_open {f : Addr} {fd : FuncData} (T : Tx K mg) (F : DefAt K "_law_first_open" "_law_first_open" s_law_first_open f fd) (hm : mg "_law_first_open" = some (.ref f)) (c_law_by_tag : TagF K mg) (c_law_may_meet : Cf P w K mg base 2 "_law_may_meet" (sp_law_may_meet K mg)) (c_law_do_touch : Cf P w K mg base 2 "_law_do_touch" (sp_law_do_touch K mg)) : Cf P w K mg base 3 "_law_first_open" (sp_law_first_open K mg) := by
  refine cal_mk F hm sc_law_first_open (fun vs H Q E => ?_) (fun _ _ _ _ _ _ us hl => match us, hl with | [_, _], _ => rfl) (fun cdv A outer s H vs Q E hr h => ?_)
  · walk_at "ln"
  · obtain ⟨g, dl, tags, φs, Ds, rfl, nm, G, ⟨vs, el, al⟩, ok, hz, h⟩ := h
    refine ⟨_, (pss_cons (ps_set (i := 2) sc_law_first_open.nd rfl (Or.inl rfl) (pe_callBK (cr_sortedTag c_law_by_tag hr) (by rfl) T.f_sorted (by decide +kernel) (pa_cons (pv 1) pa_nil) (pk_cons (C8.pe_gc (by rfl) c_law_by_tag.g) pk_nil)))
      (pss_cons (ps_for PassesOwn.never rfl (pi_enum (by rfl) T.f_enumerate (pa_cons (pv 2) pa_nil)) (pg_tup (n := 2) rfl (pgs_cons (pg_name (i := 3) sc_law_first_open.nd rfl (Or.inl rfl)) (pgs_cons (pg_name (i := 4) sc_law_first_open.nd rfl (Or.inl rfl)) pgs_nil))) (pss_one (ps_for PassesOwn.never rfl (pi_list (pe_slice sl_list (pv 2) (po_some (pe_op op_add (pv 3) pe_int)) po_none)) (pg_name (i := 5) sc_law_first_open.nd rfl (Or.inl rfl)) (pss_one (ps_if (PW.pt (pw_and (pt_val (pe_f c_law_do_touch hr (by decide) (by rfl) (pa_cons (pv 4) (pa_cons (pv 5) pa_nil)))) (pw_and1 (pt_val (pe_f c_law_may_meet hr (by decide) (by rfl) (pa_cons (pv 0) (pa_cons (pv 4) (pa_cons (pv 5) (pa_cons pe_int (pa_cons pe_int pa_nil)))))))))) (pss_one (ps_ret (pe_tup (pa_cons (pe_dget (hu_of hr) (pv 4) pe_str (fun _ _ => rfl)) (pa_cons (pe_dget (hu_of hr) (pv 5) pe_str (fun _ _ => rfl)) pa_nil))))) pss_nil)))))
      (pss_one (ps_ret pe_non)))), ?_⟩
    walk_at "nk"
    walk_at "go"
    refine go_sortedTag el (Same.refl' _) al (by omega) fun ys p hp ay => ?_
    have sp := same_new (o := .lst ys) hp
    have pm := List.mergeSort_perm Ds leT'
    have lm := pm.length_eq
    walk_at "go"
    refine forE ay (fun d σ H' => ∃ x y z, σ = [some (.ref g), some (.ref dl), some (.ref p), x, y, z] ∧ Same H H' ∧ H' p = some (.lst ys) ∧ ∀ r, Ds.mergeSort leT' = d ++ r → firstO φs (Ds.mergeSort leT') = firstO φs r)
      ⟨_, _, _, rfl, sp, upd_same, fun r e => by rw [e]; rfl⟩ (fun d σ H' q => by obtain ⟨_, _, _, _, _, q, _⟩ := q; exact q) (fun d D r x σ H2 t e ex ei q hT => ?_) (fun σ H2 q => ?_)
    · obtain ⟨x1, y1, z1, rfl, s2, p2, hf⟩ := q
      have hD := ok D (pm.mem_iff.mp (by simp [e]))
      have sT := same_new (o := .tup [.int (d.length : Nat), x]) hT
      have s3 := Same.trans' s2 sT
      have p3 := sT _ _ p2
      have lz : d.length ≤ 10 := by have := congrArg List.length e; simp at this; omega
      walk_at "go"
      intro q hq
      rw [cutV_drop1]
      have sq := same_new (o := .lst (ys.drop (d.length + 1))) hq
      have s4 := Same.trans' s3 sq
      have ar : All2 (PactV H) (ys.drop (d.length + 1)) r := by
        have := ay.drop (d.length + 1)
        rw [e, show d ++ D :: r = (d ++ [D]) ++ r by simp, List.drop_left' (by simp)] at this
        exact this
      walk_at "go"
      refine forL ar (fun d2 σ H' => ∃ z, σ = [some (.ref g), some (.ref dl), some (.ref p), some (.int (d.length : Nat)), some x, z] ∧ Same H H' ∧ H' p = some (.lst ys) ∧ H' q = some (.lst (ys.drop (d.length + 1))) ∧ ∀ E ∈ d2, openL φs D E = false)
        ⟨_, rfl, s4, sq _ _ p3, upd_same, fun E h => by cases h⟩ (fun d σ H' k => by obtain ⟨_, _, _, _, k, _⟩ := k; exact k) (fun d2 E r2 y σ H5 e2 ey k => ?_) (fun σ H5 k => ?_)
      · obtain ⟨z2, rfl, s5, p5, q5, hn⟩ := k
        have hE := ok E (pm.mem_iff.mp (by simp [e, e2]))
        walk_at "go"
        refine ⟨x, y, D, E, rfl, ex.same s5, ey.same s5, hD.1, hE.1, fun H6 s6 => ?_⟩
        have s56 := Same.trans' s5 s6
        cases ht : touchL D E with
        | false =>
          walk_at "go"
          refine ⟨_, rfl, s56, s6 _ _ p5, s6 _ _ q5, fun F hF => ?_⟩
          rcases List.mem_append.mp hF with z | z
          · exact hn F z
          · rw [List.mem_singleton] at z; subst z; unfold openL; rw [ht]; rfl
        | true =>
          walk_at "go"
          refine ⟨g, x, y, tags, φs, D, E, 0, 0, rfl, nm, ?_, ex.same s56, ey.same s56, hD.2, hE.2, fun H7 s7 => ?_⟩
          · obtain ⟨ws, eg, aw⟩ := G
            exact ⟨ws, s56 _ _ eg, aw.mono fun v φ h => h.same s56⟩
          · have s57 := Same.trans' s56 s7
            cases hm : (φs.any fun φ => decide (begE φ D - 0 ≤ endE φ E) && decide (begE φ E ≤ endE φ D + 0)) with
            | false =>
              walk_at "go"
              refine ⟨_, rfl, s57, s7 _ _ (s6 _ _ p5), s7 _ _ (s6 _ _ q5), fun F hF => ?_⟩
              rcases List.mem_append.mp hF with z | z
              · exact hn F z
              · rw [List.mem_singleton] at z; subst z; unfold openL meetB0; rw [hm, Bool.and_false]
            | true =>
              obtain ⟨pa, pf, pl, pw, pb, pe, rfl, k0, _⟩ := id (ex.same s57)
              obtain ⟨qa, qf, ql, qw, qb, qe, rfl, j0, _⟩ := id (ey.same s57)
              unfold pactK at k0 j0
              walk_at "go"
              intro u hu
              refine h _ _ (Same.trans' s57 (same_new hu)) ?_
              rw [hf _ e]
              show PairO _ _ ((firstIn φs D r).or _)
              rw [e2, firstIn_some hn (by unfold openL meetB0; rw [ht, hm]; rfl)]
              exact ⟨u, rfl, upd_same⟩
      · obtain ⟨z2, rfl, s5, p5, q5, hn⟩ := k
        refine ⟨_, _, _, rfl, s5, p5, fun r' e' => ?_⟩
        have er : r' = r := by
          rw [e] at e'
          have : d ++ D :: r = d ++ D :: r' := by rw [e']; simp
          have := List.append_cancel_left this
          injection this with _ this
          exact this.symm
        subst er
        rw [hf _ e]
        show (firstIn φs D r').or _ = _
        rw [firstIn_none hn]
        rfl
    · obtain ⟨x1, y1, z1, rfl, s2, p2, hf⟩ := q
      walk_at "go"
      refine h _ _ s2 ?_
      rw [hf [] (by simp)]
      rfl
end
end Ld
namespace Ld
open PySem PySem.Spec PyProof.Rows L2
/-! ### the window: a chart with days from 0 to 7, pacts mostly of one cell -/
theorem All2.of_get {α β : Type} {R : α → β → Prop} : ∀ {as : List α} {bs : List β}, as.length = bs.length → (∀ (i : Nat) (a : α) (b : β), as[i]? = some a → bs[i]? = some b → R a b) → All2 R as bs
  | [], [], _, _ => .nil
  | [], _ :: _, h, _ => by cases h
  | _ :: _, [], h, _ => by cases h
  | a :: as, b :: bs, h, k => .cons (k 0 a b rfl rfl) (All2.of_get (Nat.succ.inj h) fun i x y e1 e2 => k (i + 1) x y e1 e2)
theorem All2.at {α β : Type} {R : α → β → Prop} {as : List α} {bs : List β} (h : All2 R as bs) {i : Nat} {a : α} (e : as[i]? = some a) : ∃ b, bs[i]? = some b ∧ R a b := by
  induction h generalizing i with
  | nil => cases e
  | cons h _ ih =>
    cases i with
    | zero => cases e; exact ⟨_, rfl, h⟩
    | succ i => exact ih e
theorem All2.idx {α : Type} (vs : List α) : All2 (fun v i => vs[i]? = some v) vs (List.range vs.length) := All2.of_get (by simp) fun i a b e1 e2 => by
  have h : i < vs.length := by
    rcases Nat.lt_or_ge i vs.length with h | h
    · exact h
    · rw [List.getElem?_eq_none h] at e1; cases e1
  rw [List.getElem?_range h] at e2
  cases e2
  exact e1
theorem PactX.off2 {a p : Addr} {H H' : Hp} {v : V} {F : DealD} {k : List (Key × V)} (h : PactX a H v F) (q : PotAt H a) (hp : H p = some (.dK k)) (n : v ≠ .ref p) (s : ∀ b o, b ≠ a → b ≠ p → H b = some o → H' b = some o) : PactX a H' v F := by
  obtain ⟨r, pf, pl, pw, pb, pe, rfl, h0, h1, h2, h3, h4, h5, n1, n2, n3⟩ := h
  obtain ⟨x, y, ea, _⟩ := q
  have na : ∀ b o, H b = some o → (∀ xs, o ≠ .lst xs) → b ≠ a := fun b o e z w => by rw [w, ea] at e; cases e; exact z _ rfl
  have np : ∀ b o, H b = some o → (∀ xs, o ≠ .dK xs) → b ≠ p := fun b o e z w => by rw [w, hp] at e; cases e; exact z _ rfl
  exact ⟨r, pf, pl, pw, pb, pe, rfl, s _ _ (na _ _ h0 (fun xs z => by cases z)) (fun z => n (by rw [z])) h0, s _ _ n1.symm (np _ _ h1 (fun xs z => by cases z)) h1, s _ _ n2.symm (np _ _ h2 (fun xs z => by cases z)) h2, s _ _ n3.symm (np _ _ h3 (fun xs z => by cases z)) h3,
    s _ _ (na _ _ h4 (fun xs z => by cases z)) (np _ _ h4 (fun xs z => by cases z)) h4, s _ _ (na _ _ h5 (fun xs z => by cases z)) (np _ _ h5 (fun xs z => by cases z)) h5, n1, n2, n3⟩
theorem nodup_at {α : Type} : ∀ {l : List α}, l.Nodup → ∀ {i j : Nat} {x : α}, l[i]? = some x → l[j]? = some x → i = j
  | [], _, i, _, _, e, _ => by cases e
  | b :: l, h, i, j, x, e1, e2 => by
    obtain ⟨h1, h2⟩ := List.nodup_cons.mp h
    cases i with
    | zero =>
      cases j with
      | zero => rfl
      | succ j => cases e1; exact absurd (List.mem_of_getElem? (l := l) (i := j) e2) h1
    | succ i =>
      cases j with
      | zero => cases e2; exact absurd (List.mem_of_getElem? (l := l) (i := i) e1) h1
      | succ j => exact congrArg Nat.succ (nodup_at h2 (i := i) (j := j) e1 e2)
theorem set_self {α : Type} : ∀ {l : List α} {i : Nat} {x : α}, l[i]? = some x → l.set i x = l
  | [], _, _, e => by cases e
  | b :: l, 0, x, e => by cases e; rfl
  | b :: l, i + 1, x, e => congrArg (List.cons b) (set_self (l := l) (i := i) e)
def addDay (t : Str) (cs : List Clause) : List Clause := cs ++ [((dayS, t, 0) : Clause), (t, dayS, 7)].filter fun c => !decide (c ∈ cs)
theorem mem_addDay {t : Str} {cs : List Clause} {c : Clause} : c ∈ addDay t cs ↔ c ∈ cs ∨ c = (dayS, t, 0) ∨ c = (t, dayS, 7) := by
  unfold addDay
  rw [List.mem_append, List.mem_filter]
  simp only [List.mem_cons, List.not_mem_nil, or_false, Bool.not_eq_true', decide_eq_false_iff_not]
  constructor
  · rintro (h | ⟨h, _⟩)
    · exact .inl h
    · exact .inr h
  · rintro (h | h)
    · exact .inl h
    · by_cases k : c ∈ cs
      · exact .inl k
      · exact .inr ⟨h, k⟩
theorem addDay_len (t : Str) (cs : List Clause) : (addDay t cs).length ≤ cs.length + 2 := by
  unfold addDay
  have := List.length_filter_le (fun c => !decide (c ∈ cs)) [((dayS, t, 0) : Clause), (t, dayS, 7)]
  rw [List.length_append]
  simp only [List.length_cons, List.length_nil] at this
  omega
theorem ChartOk.day {C : ChartD} {cs : List Clause} (O : ChartOk { C with rules := cs } 8) {t : Str} (ht : t ∈ C.tags) : ChartOk { C with rules := addDay t cs } 8 := by
  refine ⟨O.nm, O.nd, O.lo, O.hi, O.sp, fun c hc => ?_, ?_⟩
  · have nt : t ≠ dayS := (O.nm t ht).2.2.2
    have sp : 0 ≤ C.φ t ∧ C.φ t < 8 := O.sp t ht
    have e1 : phi C.φ dayS = 0 := if_pos rfl
    have e2 : phi C.φ t = C.φ t := if_neg nt
    rcases mem_addDay.mp hc with z | rfl | rfl
    · exact O.cl c z
    · refine ⟨List.mem_append_right _ (by simp), List.mem_append_left _ ht, nt.symm, ?_⟩
      show phi C.φ dayS ≤ phi C.φ t + 0
      omega
    · refine ⟨List.mem_append_left _ ht, List.mem_append_right _ (by simp), nt, ?_⟩
      show phi C.φ t ≤ phi C.φ dayS + 7
      omega
  · show (addDay t cs).Nodup
    unfold addDay
    rw [List.nodup_append]
    refine ⟨O.cn, ?_, fun x hx y hy => ?_⟩
    · refine List.Pairwise.filter _ ?_
      have nt : t ≠ dayS := (O.nm t ht).2.2.2
      simp [nt.symm]
    · rintro rfl
      rw [List.mem_filter] at hy
      simp only [Bool.not_eq_true', decide_eq_false_iff_not] at hy
      exact hy.2 hx
structure WinOk (C : ChartD) (Ds : List DealD) : Prop where
  c : ChartOk C 8
  lo : ∀ t ∈ C.tags, ((dayS, t, 0) : Clause) ∈ C.rules
  hi : ∀ t ∈ C.tags, ((t, dayS, 7) : Clause) ∈ C.rules
  rl : C.rules.length ≤ 6
  nd : (Ds.map (·.name)).Nodup
  dl : Ds.length ≤ 4
  ok : ∀ D ∈ Ds, PactOk C D
def sp_law_window (K : PySem.W.Frag) (mg : Str → Option Value) : Sp := fun vs H Q _ => ∃ (a : Addr), vs = [.ref a, .int 7] ∧ PotAt H a ∧ ∀ H' c pt ps pr dl q C Ds, OffP a H H' → a ≠ pt → a ≠ pr → a ≠ dl → ChartX K H' c pt ps pr C → LAt (PactX a) H' dl Ds → WinOk C Ds → H' q = some (.tup [.ref c, .ref dl]) → Q (.ref q) H'
section
variable {P : Program} {w : World} {K : PySem.W.Frag} {mg : Str → Option Value} {base : Heap}
def s_law_window : Stmt := top 99
abbrev N_law_window : List Str := ["_law_pot_here", "_law_wide", "_law_chart_here", "_law_tag", "_law_pacts_here", "_law_pact_here", "_law_first", "_law_rule"]
theorem sc_law_window : FnScope N_law_window ["_law_pot_here", "_law_wide"] (defScope s_law_window) := C8.fnScope_by (by decide +kernel)
theorem ok_law_window {f : Addr} {fd : FuncData} (T : Tx K mg) (F : DefAt K "_law_window" "_law_window" s_law_window f fd) (hm : mg "_law_window" = some (.ref f)) (c_law_chart : Cf P w K mg base 3 "_law_chart" (sp_law_chart K mg)) (c_law_draw : Cf P w K mg base 1 "_law_draw" (sp_law_draw K mg)) (c_law_pacts : Cf P w K mg base 4 "_law_pacts" (sp_law_pacts K mg)) (c_law_pick : Cf P w K mg base 2 "_law_pick" (sp_law_pick K mg)) : Cf P w K mg base 5 "_law_window" (sp_law_window K mg) := by
  refine cal_mk F hm sc_law_window (fun vs H Q E => ?_) (fun _ _ _ _ _ _ us hl => match us, hl with | [_, _], _ => rfl) (fun cdv A outer s H vs Q E hr h => ?_)
  · walk_at "ln"
  · obtain ⟨a, rfl, pa, h⟩ := h
    refine ⟨_, (pss_cons (ps_set (i := 2) sc_law_window.nd rfl (Or.inr rfl) (pe_f c_law_chart hr (by decide) (by rfl) (pa_cons (pv 0) (pa_cons (pe_op op_add pe_int (pe_f c_law_draw hr (by decide) (by rfl) (pa_cons (pv 0) (pa_cons pe_int pa_nil)))) (pa_cons (pe_op op_add (pv 1) pe_int) (pa_cons (pe_f c_law_draw hr (by decide) (by rfl) (pa_cons (pv 0) (pa_cons pe_int pa_nil))) pa_nil))))))
      (pss_cons (ps_for PassesOwn.never rfl (pi_list (pe_dget (hu_of hr) (pv 2) pe_str (fun _ _ => rfl))) (pg_name (i := 3) sc_law_window.nd rfl (Or.inl rfl)) (pss_one (ps_expr (pe_bm PySem.F.plainAttrs_list PySem.F.slot_list_extend PySem.F.type_list_extend mt_extend (pe_dget (hu_of hr) (pv 2) pe_str (fun _ _ => rfl)) (pa_cons (pe_lc (own := [("_law_rule", 7)]) rfl sc_law_window.nd (pi_list (pe_lst (pa_cons (pe_tup (pa_cons pe_str (pa_cons (pv 3) (pa_cons pe_int pa_nil)))) (pa_cons (pe_tup (pa_cons (pv 3) (pa_cons pe_str (pa_cons (pv 1) pa_nil)))) pa_nil)))) (blkOk_by (own := [("_law_rule", 7)]) (N := N_law_window) (sc := defScope s_law_window) (by decide +kernel)) (fun _ _ _ _ _ => (pg_name (i := 7) sc_law_window.nd rfl (Or.inl rfl))) (fun _ _ _ _ _ => (pts_one (pt_cmpR (op_notInDB (K := K) (hu65 hr)) (pv 7) (pe_dget (hu_of hr) (pv 2) pe_str (fun _ _ => rfl)) (by rfl)))) (fun _ _ _ _ _ => (pv 7)) ) pa_nil)))))
      (pss_cons (ps_set (i := 4) sc_law_window.nd rfl (Or.inl rfl) (pe_f c_law_pacts hr (by decide) (by rfl) (pa_cons (pv 0) (pa_cons (pv 2) (pa_cons (pe_f c_law_draw hr (by decide) (by rfl) (pa_cons (pv 0) (pa_cons pe_int pa_nil))) (pa_cons pe_int pa_nil))))))
      (pss_cons (ps_for PassesOwn.never rfl (pi_list (pv 4)) (pg_name (i := 5) sc_law_window.nd rfl (Or.inl rfl)) (pss_cons (ps_if (pt_cmpR op_gt (pe_f c_law_draw hr (by decide) (by rfl) (pa_cons (pv 0) (pa_cons pe_int pa_nil))) pe_int (nomark _)) (pss_one (ps_asg (pe_tup (pa_cons (pe_lst (pa_cons pe_str pa_nil)) (pa_cons (pe_lst (pa_cons pe_str pa_nil)) (pa_cons (pe_lst (pa_cons pe_str pa_nil)) (pa_cons pe_bl pa_nil))))) (pg_tup (n := 4) rfl (pgs_cons (pg_sub (pv 5) pe_str (set_dict (hu_of hr))) (pgs_cons (pg_sub (pv 5) pe_str (set_dict (hu_of hr))) (pgs_cons (pg_sub (pv 5) pe_str (set_dict (hu_of hr))) (pgs_cons (pg_sub (pv 5) pe_str (set_dict (hu_of hr))) pgs_nil))))))) pss_nil)
      (pss_cons (ps_set (i := 3) sc_law_window.nd rfl (Or.inl rfl) (pe_f c_law_pick hr (by decide) (by rfl) (pa_cons (pv 0) (pa_cons (pe_op op_cat (pe_dget (hu_of hr) (pv 2) pe_str (fun _ _ => rfl)) (pe_lst (pa_cons pe_str pa_nil))) pa_nil))))
      (pss_cons (ps_set (i := 6) sc_law_window.nd rfl (Or.inl rfl) (pe_op op_sub (pe_f c_law_draw hr (by decide) (by rfl) (pa_cons (pv 0) (pa_cons pe_int pa_nil))) pe_int))
      (pss_one (ps_if (pt_cmpR op_gt (pe_f c_law_draw hr (by decide) (by rfl) (pa_cons (pv 0) (pa_cons pe_int pa_nil))) pe_int (nomark _)) (pss_one (ps_asg (pe_tup (pa_cons (pe_tup (pa_cons (pv 3) (pa_cons (pv 6) pa_nil))) (pa_cons (pe_tup (pa_cons (pv 3) (pa_cons (pe_op op_add (pv 6) (pe_f c_law_draw hr (by decide) (by rfl) (pa_cons (pv 0) (pa_cons pe_int pa_nil)))) pa_nil))) pa_nil))) (pg_tup (n := 2) rfl (pgs_cons (pg_sub (pv 5) pe_str (set_dict (hu_of hr))) (pgs_cons (pg_sub (pv 5) pe_str (set_dict (hu_of hr))) pgs_nil))))) pss_nil))))))
      (pss_one (ps_ret (pe_tup (pa_cons (pv 2) (pa_cons (pv 4) pa_nil))))))))), ?_⟩
    walk_at "nk"
    walk_at "go"
    refine ⟨a, 2, rfl, pa, by decide, by decide, fun H1 i1 hi0 hi1 f1 => ?_⟩
    walk_at "go"
    refine ⟨a, 3, rfl, f1.p, by decide, by decide, fun H2 i2 hj0 hj1 f2 => ?_⟩
    have f12 := f1.trans f2
    walk_at "go"
    refine ⟨a, 1 + i1, 8, i2, rfl, f2.p, by omega, by omega, by decide, by decide, hj0, by omega, fun H3 c pt ps pr C f3 hc hpt hps hpr X CO hr2 => ?_⟩
    have f03 := f12.trans f3
    have npt : a ≠ pt := by obtain ⟨x, y, e, _⟩ := f2.p; exact ne_of_none e hpt
    have npr : a ≠ pr := by obtain ⟨x, y, e, _⟩ := f2.p; exact ne_of_none e hpr
    have hpr0 : H pr = none := f12.none pa hpr
    have xo := X.o
    have xt := X.t
    have ztags := CO.hi
    walk_at "go"
    refine forL (All2.raw V.str C.tags) (fun d σ H' => ∃ x cs, σ = [some (.ref a), some (.int 7), some (.ref c), x, none, none, none, none] ∧ OffP a H H' ∧ ChartX K H' c pt ps pr { C with rules := cs } ∧ ChartOk { C with rules := cs } 8 ∧ cs.length ≤ 2 + 2 * d.length ∧ ∀ t ∈ d, ((dayS, t, 0) : Clause) ∈ cs ∧ ((t, dayS, 7) : Clause) ∈ cs)
      ⟨_, C.rules, rfl, f03, X, CO, by simpa using hr2, fun t ht => by cases ht⟩ (fun d σ H' q => by obtain ⟨_, _, _, _, q, _⟩ := q; exact q.t) (fun d t r x σ H4 e ex q => ?_) (fun σ H4 q => ?_)
    · obtain ⟨x1, cs, rfl, f4, X4, O4, hl4, hd4⟩ := q
      subst ex
      have ht : t ∈ C.tags := by simp [e]
      have ld : d.length ≤ 1 := by have := congrArg List.length e; simp at this; omega
      have xo4 := X4.o
      obtain ⟨rs, er4, ar4⟩ := id X4.r
      have lrs := ar4.len
      have okt : Ok t := (CO.nm t ht).ok
      have okd : Ok dayS := by decide +kernel
      walk_at "go"
      intro t1 ht1
      walk_at "go"
      intro t2 ht2
      walk_at "go"
      intro l hl
      have sN : Same H4 (upd (upd (upd H4 t1 (.tup [V.str "day", V.str t, V.int 0])) t2 (.tup [V.str t, V.str "day", V.int 7])) l (.lst [.ref t1, .ref t2])) := Same.trans' (same_new ht1) (Same.trans' (same_new ht2) (same_new hl))
      have V1 : ClV (upd (upd (upd H4 t1 (.tup [V.str "day", V.str t, V.int 0])) t2 (.tup [V.str t, V.str "day", V.int 7])) l (.lst [.ref t1, .ref t2])) (.ref t1) (dayS, t, 0) := ⟨t1, rfl, up_old hl (up_old ht2 upd_same), okd, okt⟩
      have V2 : ClV (upd (upd (upd H4 t1 (.tup [V.str "day", V.str t, V.int 0])) t2 (.tup [V.str t, V.str "day", V.int 7])) l (.lst [.ref t1, .ref t2])) (.ref t2) (t, dayS, 7) := ⟨t2, rfl, up_old hl upd_same, okt, okd⟩
      have eL : (upd (upd (upd H4 t1 (.tup [V.str "day", V.str t, V.int 0])) t2 (.tup [V.str t, V.str "day", V.int 7])) l (.lst [.ref t1, .ref t2])) l = some (.lst [.ref t1, .ref t2]) := upd_same
      generalize (upd (upd (upd H4 t1 (.tup [V.str "day", V.str t, V.int 0])) t2 (.tup [V.str t, V.str "day", V.int 7])) l (.lst [.ref t1, .ref t2])) = H5 at sN V1 V2 eL ⊢
      walk_at "go"
      refine lcL eL (.cons V1 (.cons V2 .nil)) (fun k => if k ∈ cs then none else some k) ClV ClV.pers (szl (by show 2 ≤ 100000; decide)) (fun x k H' hk hx sm => ?_) (fun D H6 zs hD s6 eD al6 => ?_)
      · intro Qo Qn ho hn
        have s56 := Same.trans' sN sm
        have xo6 := s56 _ _ xo4
        walk_at "go"
        refine go_niD encCl (ClV.pers _ _ _ _ (SameN.of sm) hx) (X4.r.same ClV.pers s56) ?_
        by_cases z : k ∈ cs
        · walk_at "go"
          exact hn (if_pos z) _ (Same.refl' _)
        · walk_at "go"
          exact ho _ _ _ (if_neg z) (Same.refl' _) (ClV.pers _ _ _ _ (SameN.of sm) hx)
      · have s46 := Same.trans' sN s6
        have er6 := s46 _ _ er4
        have lz := al6.len
        have lz2 : zs.length ≤ 2 := by rw [lz]; exact List.length_filterMap_le _ _
        have lrs' : rs.length = cs.length := lrs
        have nz : rs.length + zs.length ≤ sizeLine := sz (by omega)
        walk_at "go"
        have pn := SameN.lst (ys := rs ++ zs) er6
        obtain ⟨x0, y0, ea4, hy0⟩ := id f4.p
        have npp : ∀ b o, H6 b = some o → b ≠ pr → (upd H6 pr (.lst (rs ++ zs))) b = some o := fun b o e n => up_ne n e
        refine ⟨_, addDay t cs, rfl, ⟨fun b o n e => up_ne (ne_of_none e hpr0) (s46 _ _ (f4.k _ _ n e)), x0, y0, up_ne npr (s46 _ _ ea4), hy0⟩, ⟨up_ne (fun z => by rw [z, er4] at xo4; cases xo4) (s46 _ _ X4.o), up_ne (fun z => ?_) (s46 _ _ X4.t), up_ne (fun z => by have := X4.s; rw [z, er4] at this; cases this) (s46 _ _ X4.s), rs ++ zs, upd_same, ?_⟩, O4.day ht, ?_, fun s hs => ?_⟩
        · have q1 := X4.t
          rw [z, er4] at q1
          have q1 := HO.lst.inj (Option.some.inj q1)
          have tl : 1 ≤ C.tags.length := CO.lo
          match hh : C.tags, tl with
          | t0 :: ts, _ =>
            have q2 : rs = (V.str t0) :: ts.map V.str := by rw [q1]; show C.tags.map V.str = _; rw [hh]; rfl
            rw [q2] at ar4
            cases ar4 with
            | cons k _ => obtain ⟨_, z, _⟩ := k; cases z
        · show All2 (ClV _) _ (addDay t cs)
          unfold addDay
          refine (ar4.mono fun v c k => ClV.pers _ _ _ _ pn (ClV.pers _ _ _ _ (SameN.of s46) k)).append ?_
          have ef : ∀ dec : ∀ k : Clause, Decidable (k ∈ cs), (([((dayS, t, 0) : Clause), (t, dayS, 7)] : List Clause).filterMap fun k => @ite _ (k ∈ cs) (dec k) none (some k)) = [((dayS, t, 0) : Clause), (t, dayS, 7)].filter fun c => !decide (c ∈ cs) := by
            intro dec
            rw [← List.filterMap_eq_filter]
            congr 1
            funext k
            by_cases z : k ∈ cs <;> simp [Option.guard, z]
          rw [ef] at al6
          exact al6.mono fun v c k => ClV.pers _ _ _ _ pn k
        · have := addDay_len t cs
          rw [List.length_append]
          simp only [List.length_cons, List.length_nil]
          omega
        · rcases List.mem_append.mp hs with z | z
          · exact ⟨mem_addDay.mpr (.inl (hd4 s z).1), mem_addDay.mpr (.inl (hd4 s z).2)⟩
          · rw [List.mem_singleton] at z
            subst z
            exact ⟨mem_addDay.mpr (.inr (.inl rfl)), mem_addDay.mpr (.inr (.inr rfl))⟩
    · obtain ⟨x1, cs, rfl, f4, X4, O4, hl4, hd4⟩ := q
      walk_at "go"
      refine ⟨a, 5, rfl, f4.p, by decide, by decide, fun H5 j hj0 hj1 f5 => ?_⟩
      obtain ⟨j, rfl⟩ := Int.eq_ofNat_of_zero_le hj0
      have f05 := f4.trans f5
      have X5 := X4.offP f4.p f5 npt npr
      walk_at "go"
      refine ⟨a, c, pt, ps, pr, { C with rules := cs }, j, 4, 8, rfl, f5.p, X5, O4, by decide, npt, npr, by omega, by decide, by decide, fun H6 dl vs Ds f6 hdl edl al hpn nd6 ln6 ok6 => ?_⟩
      have ndl : a ≠ dl := by obtain ⟨x, y, e, _⟩ := f5.p; exact ne_of_none e hdl
      have lvs := al.len
      walk_at "go"
      refine forL (All2.idx vs) (fun d σ H' => ∃ x3 x5 x6, σ = [some (.ref a), some (.int 7), some (.ref c), x3, some (.ref dl), x5, x6, none] ∧ OffP a H5 H' ∧ H' dl = some (.lst vs) ∧ ∃ Es, All2 (PactX a H') vs Es ∧ Es.map (·.name) = Ds.map (·.name) ∧ ∀ E ∈ Es, PactOk { C with rules := cs } E)
        ⟨_, _, _, rfl, f6, edl, Ds, al, rfl, ok6⟩ (fun d σ H' q => by obtain ⟨_, _, _, _, _, q, _⟩ := q; exact q) (fun d i r x σ H7 e ex q => ?_) (fun σ H7 q => ?_)
      · obtain ⟨x3, x5, x6, rfl, f7, edl7, Es, al7, nm7, ok7⟩ := q
        obtain ⟨E, eE, PE⟩ := al7.at ex
        have okE := ok7 E (List.mem_of_getElem? eE)
        have lEs := al7.len
        obtain ⟨p, pf, pl, pw, pb, pe, rfl, q0, q1, q2, q3, q4, q5, n1, n2, n3⟩ := id PE
        have q0' := q0
        have hp5 : H5 p = none := hpn p (List.mem_of_getElem? ex)
        have nap : a ≠ p := fun z => by obtain ⟨x, y, e, _⟩ := f7.p; rw [z, q0] at e; cases e
        unfold pactK at q0
        walk_at "go"
        refine ⟨a, 4, rfl, f7.p, by decide, by decide, fun H8 b hb0 hb1 f8 => ?_⟩
        have q08 := f8.k _ _ nap.symm q0
        walk_at "go"
        by_cases hb : 0 < b
        case' pos =>
          walk_at "go"
          intro l1 hl1
          walk_at "go"
          intro l2 hl2
          walk_at "go"
          intro l3 hl3
          walk_at "go"
          intro t4 ht4
          walk_at "go"
          generalize hF1 : upd _ p _ = Hs1
          have e1 : Hs1 p = some (.dK (pactK E l1 pl pw pb pe)) := by rw [← hF1]; exact upd_same
          unfold pactK at e1
          walk_at "go"
          generalize hF2 : upd Hs1 p _ = Hs2
          have e2 : Hs2 p = some (.dK (pactK E l1 l2 pw pb pe)) := by rw [← hF2]; exact upd_same
          unfold pactK at e2
          walk_at "go"
          generalize hF3 : upd Hs2 p _ = Hs3
          have e3 : Hs3 p = some (.dK (pactK E l1 l2 l3 pb pe)) := by rw [← hF3]; exact upd_same
          unfold pactK at e3
          walk_at "go"
          generalize hF4 : upd Hs3 p _ = H9
          have e4 : H9 p = some (.dK (pactK { E with films := [("f" : Str)], lands := [("be" : Str)], ways := [("hall" : Str)], alone := true } l1 l2 l3 pb pe)) := by rw [← hF4]; exact upd_same
          have k4 : ∀ b o, b ≠ p → (upd (upd (upd (upd H8 l1 (.lst [V.str "f"])) l2 (.lst [V.str "be"])) l3 (.lst [V.str "hall"])) t4 (.tup [V.ref l1, V.ref l2, V.ref l3, V.bl true])) b = some o → H9 b = some o := fun b o n e => by
            rw [← hF4, ← hF3, ← hF2, ← hF1]
            exact up_ne n (up_ne n (up_ne n (up_ne n e)))
          clear hF1 hF2 hF3 hF4 e1 e2 e3
          have k89 : ∀ b o, b ≠ p → H8 b = some o → H9 b = some o := fun b o n e => k4 b o n (up_old ht4 (up_old hl3 (up_old hl2 (up_old hl1 e))))
          have nl1 : l1 ≠ p := (ne_of_none q08 hl1).symm
          have nl2 : l2 ≠ p := (ne_of_none (up_old hl1 q08) hl2).symm
          have nl3 : l3 ≠ p := (ne_of_none (up_old hl2 (up_old hl1 q08)) hl3).symm
          have S9 : ∃ E9 pf9 pl9 pw9, H9 p = some (.dK (pactK E9 pf9 pl9 pw9 pb pe)) ∧ H9 pf9 = some (.lst (E9.films.map V.str)) ∧ H9 pl9 = some (.lst (E9.lands.map V.str)) ∧ H9 pw9 = some (.lst (E9.ways.map V.str)) ∧ a ≠ pf9 ∧ a ≠ pl9 ∧ a ≠ pw9 ∧ E9.name = E.name ∧ E9.bm = E.bm ∧ E9.bn = E.bn ∧ E9.em = E.em ∧ E9.en = E.en ∧ PactOk { C with rules := cs } E9 := by
            obtain ⟨x, y, ea, _⟩ := f8.p
            have N1 : ∀ (s : Str) (n : Nat), NameS s → 1 ≤ n → Names [s] n := fun s n h hn => ⟨fun u hu => by rw [List.mem_singleton] at hu; exact hu ▸ h, by simp, by simp, by simpa using hn⟩
            exact ⟨_, l1, l2, l3, e4, k4 _ _ nl1 (up_old ht4 (up_old hl3 (up_old hl2 upd_same))), k4 _ _ nl2 (up_old ht4 (up_old hl3 upd_same)), k4 _ _ nl3 (up_old ht4 upd_same), ne_of_none ea hl1, ne_of_none (up_old hl1 ea) hl2, ne_of_none (up_old hl2 (up_old hl1 ea)) hl3, rfl, rfl, rfl, rfl, rfl,
              ⟨⟨okE.ok.name, okE.ok.house, N1 _ 4 (name_by (by decide +kernel)) (by decide), N1 _ 4 (name_by (by decide +kernel)) (by decide), N1 _ 3 (name_by (by decide +kernel)) (by decide), okE.ok.bm, okE.ok.em, okE.ok.own, okE.ok.price⟩, okE.bm, okE.em, okE.ph, okE.bd⟩⟩
          clear e4 k4 nl1 nl2 nl3 hl1 hl2 hl3 ht4
        case' neg =>
          walk_at "go"
          obtain ⟨H9, hH9⟩ : ∃ H9, H9 = H8 := ⟨_, rfl⟩
          rw [← hH9]
          have k89 : ∀ b o, b ≠ p → H8 b = some o → H9 b = some o := fun b o _ e => by rw [hH9]; exact e
          have S9 : ∃ E9 pf9 pl9 pw9, H9 p = some (.dK (pactK E9 pf9 pl9 pw9 pb pe)) ∧ H9 pf9 = some (.lst (E9.films.map V.str)) ∧ H9 pl9 = some (.lst (E9.lands.map V.str)) ∧ H9 pw9 = some (.lst (E9.ways.map V.str)) ∧ a ≠ pf9 ∧ a ≠ pl9 ∧ a ≠ pw9 ∧ E9.name = E.name ∧ E9.bm = E.bm ∧ E9.bn = E.bn ∧ E9.em = E.em ∧ E9.en = E.en ∧ PactOk { C with rules := cs } E9 := by
            rw [hH9]
            exact ⟨E, pf, pl, pw, q08, f8.k _ _ n1.symm q1, f8.k _ _ n2.symm q2, f8.k _ _ n3.symm q3, n1, n2, n3, rfl, rfl, rfl, rfl, rfl, okE⟩
          clear hH9
        all_goals
          obtain ⟨E9, pf9, pl9, pw9, e9, g1, g2, g3, m1, m2, m3, nm9, bm9, bn9, em9, en9, ok9⟩ := S9
          have pot9 : PotAt H9 a := by obtain ⟨x, y, ea, h⟩ := f8.p; exact ⟨x, y, k89 _ _ nap ea, h⟩
          have k79 : ∀ b o, b ≠ a → b ≠ p → H7 b = some o → H9 b = some o := fun b o z1 z2 e => k89 _ _ z2 (f8.k _ _ z1 e)
          have f59 : OffP a H5 H9 := ⟨fun b o n e => k79 _ _ n (ne_of_none e hp5) (f7.k _ _ n e), pot9⟩
          have e9' := e9
          unfold pactK at e9'
          have X9 := X5.offP f5.p f59 npt npr
          have xo9 := X9.o
          have xt9 := X9.t
          have zt9 : ({ C with rules := cs } : ChartD).tags.length ≤ 2 := CO.hi
          walk_at "go"
          intro la hla
          walk_at "go"
          intro lb hlb
          walk_at "go"
          have fa := (f59.new (o := .lst [V.str "day"]) hla).new (o := .lst (C.tags.map V.str ++ [V.str "day"])) hlb
          have nlb : a ≠ lb := by obtain ⟨x, y, e, _⟩ := pot9; exact ne_of_none e (none_up hlb).2
          have ka : ∀ b o, H9 b = some o → (upd (upd H9 la (.lst [V.str "day"])) lb (.lst (C.tags.map V.str ++ [V.str "day"]))) b = some o := fun b o e => up_old hlb (up_old hla e)
          refine ⟨a, lb, _, rfl, fa.p, upd_same, nlb, by simp, by simp; exact Nat.lt_of_le_of_lt (Nat.succ_le_succ zt9) (by decide), fun Ha v hv fb => ?_⟩
          obtain ⟨tg, htg, rfl⟩ : ∃ s : Str, s ∈ C.tags ++ [dayS] ∧ v = .str s := by
            rcases List.mem_append.mp hv with z | z
            · obtain ⟨s, hs, rfl⟩ := List.mem_map.mp z
              exact ⟨s, List.mem_append_left _ hs, rfl⟩
            · rw [List.mem_singleton] at z; exact ⟨dayS, by simp, z⟩
          have fA := fa.trans fb
          have kA : ∀ b o, b ≠ a → H9 b = some o → Ha b = some o := fun b o n e => fb.k _ _ n (ka _ _ e)
          clear fb hv
          walk_at "go"
          refine ⟨a, 12, rfl, fA.p, by decide, by decide, fun Hb fi hfi0 hfi1 fb => ?_⟩
          have fB := fA.trans fb
          walk_at "go"
          refine ⟨a, 3, rfl, fB.p, by decide, by decide, fun Hc g hg0 hg1 fc => ?_⟩
          have fC := fB.trans fc
          have k9c : ∀ b o, b ≠ a → H9 b = some o → Hc b = some o := fun b o n e => fc.k _ _ n (fb.k _ _ n (kA _ _ n e))
          have eC := k9c _ _ nap.symm e9'
          walk_at "go"
          have npb : pb ≠ a ∧ pb ≠ p := ⟨fun z => (by obtain ⟨x, y, e, _⟩ := f7.p; rw [z, e] at q4; cases q4), fun z => (by rw [z, q0'] at q4; cases q4)⟩
          have npe : pe ≠ a ∧ pe ≠ p := ⟨fun z => (by obtain ⟨x, y, e, _⟩ := f7.p; rw [z, e] at q5; cases q5), fun z => (by rw [z, q0'] at q5; cases q5)⟩
          have fin : ∀ (Hf : Hp) (Ef : DealD) (b' e' : Addr), PotAt Hf a → (∀ b o, b ≠ a → b ≠ p → Hc b = some o → Hf b = some o) → Hf p = some (.dK (pactK Ef pf9 pl9 pw9 b' e')) → Hf b' = some (.tup [.str Ef.bm, .int Ef.bn]) → Hf e' = some (.tup [.str Ef.em, .int Ef.en]) →
              Ef.films = E9.films → Ef.lands = E9.lands → Ef.ways = E9.ways → Ef.name = E.name → PactOk { C with rules := cs } Ef → OffP a H5 Hf ∧ Hf dl = some (.lst vs) ∧ ∃ Es, All2 (PactX a Hf) vs Es ∧ Es.map (·.name) = Ds.map (·.name) ∧ ∀ E ∈ Es, PactOk { C with rules := cs } E := by
            intro Hf Ef b' e' potf kf ep eb' ee' ef el ew en okf
            have k7f : ∀ b o, b ≠ a → b ≠ p → H7 b = some o → Hf b = some o := fun b o z1 z2 e => kf _ _ z1 z2 (k9c _ _ z1 (k79 _ _ z1 z2 e))
            have k9f : ∀ b o, b ≠ a → b ≠ p → H9 b = some o → Hf b = some o := fun b o z1 z2 e => kf _ _ z1 z2 (k9c _ _ z1 e)
            have nl : ∀ b xs, H9 b = some (.lst xs) → b ≠ p := fun b xs e z => by rw [z, e9] at e; cases e
            refine ⟨⟨fun b o n e => k7f _ _ n (ne_of_none e hp5) (f7.k _ _ n e), potf⟩, k7f _ _ ndl.symm (fun z => by rw [z, q0'] at edl7; cases edl7) edl7, Es.set i Ef, All2.of_get (by rw [List.length_set]; exact lEs) (fun j v F e1 e2 => ?_), ?_, fun F hF => ?_⟩
            · by_cases z : i = j
              · subst z
                rw [ex] at e1
                cases e1
                have hi : i < Es.length := by
                  rcases Nat.lt_or_ge i Es.length with h | h
                  · exact h
                  · rw [List.getElem?_eq_none h] at eE; cases eE
                rw [List.getElem?_set_self hi] at e2
                cases e2
                exact ⟨p, pf9, pl9, pw9, b', e', rfl, ep, by rw [ef]; exact k9f _ _ m1.symm (nl _ _ g1) g1, by rw [el]; exact k9f _ _ m2.symm (nl _ _ g2) g2, by rw [ew]; exact k9f _ _ m3.symm (nl _ _ g3) g3, eb', ee', m1, m2, m3⟩
              · rw [List.getElem?_set_ne z] at e2
                obtain ⟨v', e1', PF⟩ := al7.get e2
                rw [e1] at e1'
                cases e1'
                refine PF.off2 f7.p q0' (fun w => z ?_) k7f
                obtain ⟨r, rf, rl, rw', rb, re, e0, h0, _⟩ := PF
                rw [w] at e0
                cases e0
                rw [q0'] at h0
                have nmE : E.name = F.name := by
                  have := congrArg (fun o : Option HO => match o with | some (.dK ((_, .str s) :: _)) => s | _ => dayS) h0
                  exact this
                refine nodup_at (l := Es.map (·.name)) (by rw [nm7]; exact nd6) (x := E.name) ?_ ?_
                · rw [List.getElem?_map, eE]; rfl
                · rw [List.getElem?_map, e2, nmE]; rfl
            · rw [List.map_set, set_self (by rw [List.getElem?_map, eE, en]; rfl), nm7]
            · rcases List.mem_or_eq_of_mem_set hF with z | z
              · exact ok7 F z
              · exact z ▸ okf
          by_cases hg : 0 < g
          · walk_at "go"
            intro t1 ht1
            have nt1a : t1 ≠ a := fun z => by obtain ⟨x, y, e, _⟩ := fC.p; rw [z, e] at ht1; cases ht1
            have nt1p : t1 ≠ p := fun z => by rw [z, eC] at ht1; cases ht1
            have fD := fC.new (o := .tup [.str tg, .int (fi - 3)]) ht1
            walk_at "go"
            refine ⟨a, 3, rfl, fD.p, by decide, by decide, fun Hd dd hd0 hd1 fd' => ?_⟩
            have et1 := fd'.k _ _ nt1a (upd_same (H := Hc) (a := t1) (o := .tup [.str tg, .int (fi - 3)]))
            have kcd : ∀ b o, b ≠ a → Hc b = some o → Hd b = some o := fun b o n e => fd'.k _ _ n (up_old ht1 e)
            have eD := kcd _ _ nap.symm eC
            walk_at "go"
            intro t2 ht2
            have nt2p : t2 ≠ p := fun z => by rw [z, eD] at ht2; cases ht2
            walk_at "go"
            intro t3 ht3
            walk_at "go"
            generalize hF1 : upd _ p _ = Hs1
            have e1 : Hs1 p = some (.dK (pactK E9 pf9 pl9 pw9 t1 pe)) := by rw [← hF1]; exact upd_same
            unfold pactK at e1
            walk_at "go"
            generalize hF2 : upd Hs1 p _ = Hs2
            have e2 : Hs2 p = some (.dK (pactK { E9 with bm := tg, bn := fi - 3, em := tg, en := fi - 3 + dd } pf9 pl9 pw9 t1 t2)) := by rw [← hF2]; exact upd_same
            have k2 : ∀ b o, b ≠ p → Hd b = some o → Hs2 b = some o := fun b o n e => by
              rw [← hF2, ← hF1]
              exact up_ne n (up_ne n (up_old ht3 (up_old ht2 e)))
            have et2 : Hs2 t2 = some (.tup [.str tg, .int (fi - 3 + dd)]) := by
              rw [← hF2, ← hF1]
              exact up_ne nt2p (up_ne nt2p (up_old ht3 upd_same))
            have potf : PotAt Hs2 a := by obtain ⟨x, y, ea, h⟩ := fd'.p; exact ⟨x, y, k2 _ _ nap ea, h⟩
            have htm : MomS tg := mom_of CO.nm htg
            exact ⟨_, _, _, rfl, fin Hs2 _ t1 t2 potf (fun b o z1 z2 e => k2 _ _ z2 (kcd _ _ z1 e)) e2 (k2 _ _ nt1p et1) et2 rfl rfl rfl nm9 ⟨⟨ok9.ok.name, ok9.ok.house, ok9.ok.films, ok9.ok.lands, ok9.ok.ways, htm, htm, fun _ => (by show fi - 3 ≤ fi - 3 + dd; omega), ok9.ok.price⟩, htg, htg, by show phi C.φ tg + (fi - 3) ≤ phi C.φ tg + (fi - 3 + dd); omega, by show -1000 ≤ fi - 3; omega, by show fi - 3 ≤ 1000; omega, by show -1000 ≤ fi - 3 + dd; omega, by show fi - 3 + dd ≤ 1000; omega⟩⟩
          · walk_at "go"
            refine ⟨_, _, _, rfl, fin Hc E9 pb pe fC.p (fun b o _ _ e => e) (k9c _ _ nap.symm e9) ?_ ?_ rfl rfl rfl nm9 ok9⟩
            · rw [bm9, bn9]; exact k9c _ _ npb.1 (k79 _ _ npb.1 npb.2 q4)
            · rw [em9, en9]; exact k9c _ _ npe.1 (k79 _ _ npe.1 npe.2 q5)
      · obtain ⟨x3, x5, x6, rfl, f7, edl7, Es, al7, nm7, ok7⟩ := q
        have f57 := f05.trans f7
        have X7 := X5.offP f5.p f7 npt npr
        walk_at "go"
        intro q hq
        have sq := same_new (o := .tup [.ref c, .ref dl]) hq
        refine h _ c pt ps pr dl q { C with rules := cs } Es (f57.new hq) npt npr ndl (X7.same sq) ⟨vs, sq _ _ edl7, al7.mono fun v E h => h.same sq⟩ ⟨O4, fun t ht => (hd4 t ht).1, fun t ht => (hd4 t ht).2, ?_, by rw [nm7]; exact nd6, ?_, ok7⟩ upd_same
        · show cs.length ≤ 6
          omega
        · have := congrArg List.length nm7
          simp at this
          omega
end
end Ld
namespace Ld
open PySem PySem.Spec PyProof.Rows L2
/-! ### the room of a deal, tried in all dates -/
def meetC (φs : List (Str → Int)) (D E : DealD) (i j : Int) : Bool := φs.any fun φ => decide (begE φ D - i ≤ endE φ E) && decide (begE φ E ≤ endE φ D + j)
def matesL (Ds : List DealD) (D : DealD) : List DealD := Ds.filter fun E => decide (E.name ≠ D.name) && touchL D E
def halfE (φs : List (Str → Int)) (Ms : List DealD) (D : DealD) : Option Int → Bool
  | none => !Ms.any fun E => meetC φs D E 40 0
  | some e => (!Ms.any fun E => meetC φs D E e 0) && Ms.any fun E => meetC φs D E (e + 1) 0
def halfL (φs : List (Str → Int)) (Ms : List DealD) (D : DealD) : Option Int → Bool
  | none => !Ms.any fun E => meetC φs D E 0 40
  | some e => (!Ms.any fun E => meetC φs D E 0 e) && Ms.any fun E => meetC φs D E 0 (e + 1)
theorem any_of {Ms : List DealD} {f : DealD → Bool} : (Ms.filterMap fun E => some (f E)).any id = Ms.any f := by
  rw [List.filterMap_eq_map', List.any_map]
  rfl
def sp_law_room_right (K : PySem.W.Frag) (mg : Str → Option Value) : Sp := fun vs H Q _ => ∃ (t g dl : Addr) (v : V) (tags : List Str) (φs : List (Str → Int)) (ms : List Str) (cs : List Clause) (ds : List DealD) (B : Str → Str → Int) (Ds : List DealD) (D E : DealD), vs = [.ref t, .ref g, .ref dl, v] ∧ BookX K H t ms cs ds ∧ DealsOk ms ds ∧ Fin ms (allC cs ds) B ∧ openP B ds = [] ∧ E ∈ ds ∧ E.name = D.name ∧
  (∀ t ∈ tags, NameS t) ∧ LAt (SpX tags) H g φs ∧ LAt PactV H dl Ds ∧ (∀ F ∈ Ds, DealOk F ∧ Onn tags F) ∧ Ds.length ≤ 10 ∧ PactV H v D ∧ DealOk D ∧ Onn tags D ∧
  ∀ H' m, Same H H' → SlOk (slG B ds) m → Q (.bl (halfE φs (matesL Ds D) D (earlyO m D.name) && halfL φs (matesL Ds D) D (lateO m D.name))) H'
section
variable {P : Program} {w : World} {K : PySem.W.Frag} {mg : Str → Option Value} {base : Heap}
def s_law_room_right : Stmt := top 105
abbrev N_law_room_right : List Str := ["_law_tome", "_law_good_here", "_law_pacts_here", "_law_pact_here", "_law_early", "_law_late", "_law_mates", "_law_wide", "_law_mate"]
theorem sc_law_room_right : FnScope N_law_room_right ["_law_tome", "_law_good_here", "_law_pacts_here", "_law_pact_here"] (defScope s_law_room_right) := C8.fnScope_by (by decide +kernel)
theorem ok_law_room_right {f : Addr} {fd : FuncData} (T : Tx K mg) (F : DefAt K "_law_room_right" "_law_room_right" s_law_room_right f fd) (hm : mg "_law_room_right" = some (.ref f)) (c_room : Cf P w K mg base 14 "room" (sp_room K mg)) (c_law_do_touch : Cf P w K mg base 2 "_law_do_touch" (sp_law_do_touch K mg)) (c_law_may_meet : Cf P w K mg base 2 "_law_may_meet" (sp_law_may_meet K mg)) : Cf P w K mg base 15 "_law_room_right" (sp_law_room_right K mg) := by
  refine cal_mk F hm sc_law_room_right (fun vs H Q E => ?_) (fun _ _ _ _ _ _ us hl => match us, hl with | [_, _, _, _], _ => rfl) (fun cdv A outer s H vs Q E hr h => ?_)
  · walk_at "ln"
  · obtain ⟨t, g, dl, v, tags, φs, ms, cs, ds, B, Ds, D, E', rfl, BX, G, Fi, hop, hE, hnm, nm, GX, ⟨xs, el, al⟩, ok, hz, pD, oD, onD, h⟩ := h
    refine ⟨_, (pss_cons (ps_asg (pe_f c_room hr (by decide) (by rfl) (pa_cons (pv 0) (pa_cons (pe_dget (hu_of hr) (pv 3) pe_str (fun _ _ => rfl)) pa_nil))) (pg_tup (n := 2) rfl (pgs_cons (pg_name (i := 4) sc_law_room_right.nd rfl (Or.inr rfl)) (pgs_cons (pg_name (i := 5) sc_law_room_right.nd rfl (Or.inr rfl)) pgs_nil))))
      (pss_cons (ps_setLc (i := 6) (own := [("_law_mate", 8)]) rfl sc_law_room_right.nd rfl rfl (sw_true rfl rfl rfl (by decide +kernel)) (pi_list (pv 2)) (blkOk_by (own := [("_law_mate", 8)]) (N := N_law_room_right) (sc := defScope s_law_room_right) (by decide +kernel)) (fun _ _ _ _ _ => (pg_name (i := 8) sc_law_room_right.nd rfl (Or.inl rfl))) (fun _ _ _ _ _ => (pts_one (PW.pt (pw_and (pt_cmpR op_ne (pe_dget (hu_of hr) (pv 8) pe_str (fun _ _ => rfl)) (pe_dget (hu_of hr) (pv 3) pe_str (fun _ _ => rfl)) (nomark _)) (pw_and1 (pt_val (pe_f c_law_do_touch hr (by decide) (by rfl) (pa_cons (pv 3) (pa_cons (pv 8) pa_nil))))))))) (fun _ _ _ _ _ => (pv 8)) )
      (pss_cons (ps_set (i := 7) sc_law_room_right.nd rfl (Or.inr rfl) (pe_ifExp (pt_cmpR op_isNo (pv 4) pe_non (nomark _)) pe_int (pv 4)))
      (pss_cons (ps_if (pt_val (pe_callB (cr_any rfl) (by rfl) T.f_any (by decide +kernel) (pa_cons (pe_lc (own := [("_law_mate", 8)]) rfl sc_law_room_right.nd (pi_list (pv 6)) (blkOk_by (own := [("_law_mate", 8)]) (N := N_law_room_right) (sc := defScope s_law_room_right) (by decide +kernel)) (fun _ _ _ _ _ => (pg_name (i := 8) sc_law_room_right.nd rfl (Or.inl rfl))) (fun _ _ _ _ _ => pts_nil) (fun _ _ _ _ _ => (pe_f c_law_may_meet hr (by decide) (by rfl) (pa_cons (pv 1) (pa_cons (pv 3) (pa_cons (pv 8) (pa_cons (pv 7) (pa_cons pe_int pa_nil))))))) ) pa_nil))) (pss_one (ps_ret pe_bl)) pss_nil)
      (pss_cons (ps_if (PW.pt (pw_and (pt_cmpR op_notNo (pv 4) pe_non (nomark _)) (pw_and1 (pt_not (pt_val (pe_callB (cr_any rfl) (by rfl) T.f_any (by decide +kernel) (pa_cons (pe_lc (own := [("_law_mate", 8)]) rfl sc_law_room_right.nd (pi_list (pv 6)) (blkOk_by (own := [("_law_mate", 8)]) (N := N_law_room_right) (sc := defScope s_law_room_right) (by decide +kernel)) (fun _ _ _ _ _ => (pg_name (i := 8) sc_law_room_right.nd rfl (Or.inl rfl))) (fun _ _ _ _ _ => pts_nil) (fun _ _ _ _ _ => (pe_f c_law_may_meet hr (by decide) (by rfl) (pa_cons (pv 1) (pa_cons (pv 3) (pa_cons (pv 8) (pa_cons (pe_op op_add (pv 4) pe_int) (pa_cons pe_int pa_nil))))))) ) pa_nil))))))) (pss_one (ps_ret pe_bl)) pss_nil)
      (pss_cons (ps_set (i := 7) sc_law_room_right.nd rfl (Or.inr rfl) (pe_ifExp (pt_cmpR op_isNo (pv 5) pe_non (nomark _)) pe_int (pv 5)))
      (pss_cons (ps_if (pt_val (pe_callB (cr_any rfl) (by rfl) T.f_any (by decide +kernel) (pa_cons (pe_lc (own := [("_law_mate", 8)]) rfl sc_law_room_right.nd (pi_list (pv 6)) (blkOk_by (own := [("_law_mate", 8)]) (N := N_law_room_right) (sc := defScope s_law_room_right) (by decide +kernel)) (fun _ _ _ _ _ => (pg_name (i := 8) sc_law_room_right.nd rfl (Or.inl rfl))) (fun _ _ _ _ _ => pts_nil) (fun _ _ _ _ _ => (pe_f c_law_may_meet hr (by decide) (by rfl) (pa_cons (pv 1) (pa_cons (pv 3) (pa_cons (pv 8) (pa_cons pe_int (pa_cons (pv 7) pa_nil))))))) ) pa_nil))) (pss_one (ps_ret pe_bl)) pss_nil)
      (pss_one (ps_ret (pe_or (pe_cmpR op_isNo (pv 5) pe_non (nomark _)) (pe_one (pe_callB (cr_any rfl) (by rfl) T.f_any (by decide +kernel) (pa_cons (pe_lc (own := [("_law_mate", 8)]) rfl sc_law_room_right.nd (pi_list (pv 6)) (blkOk_by (own := [("_law_mate", 8)]) (N := N_law_room_right) (sc := defScope s_law_room_right) (by decide +kernel)) (fun _ _ _ _ _ => (pg_name (i := 8) sc_law_room_right.nd rfl (Or.inl rfl))) (fun _ _ _ _ _ => pts_nil) (fun _ _ _ _ _ => (pe_f c_law_may_meet hr (by decide) (by rfl) (pa_cons (pv 1) (pa_cons (pv 3) (pa_cons (pv 8) (pa_cons pe_int (pa_cons (pe_op op_add (pv 5) pe_int) pa_nil))))))) ) pa_nil))))))))))))), ?_⟩
    walk_at "nk"
    obtain ⟨pa, pf, pl, pw, pb, pe, rfl, k0, _⟩ := id pD
    unfold pactK at k0
    walk_at "go"
    refine ⟨t, ms, cs, ds, B, E', by rw [hnm], BX, G, Fi, hop, hE, fun H1 q m s1 hq sl eq => ?_⟩
    rw [hnm] at eq
    have el1 := s1 _ _ el
    walk_at "go"
    refine lcL el1 al (fun F => if (decide (F.name ≠ D.name) && touchL D F) = true then some F else none) (fun _ v F => PactV H v F) (fun _ _ _ _ _ h => h) (szl (by omega)) (fun x F H' hF hx sm => ?_) (fun L H2 ys hL s2 eL al2 => ?_)
    · intro Qo Qn ho hn
      have s12 := Same.trans' s1 sm
      have k0' := s12 _ _ k0
      obtain ⟨qa, qf, ql, qw, qb, qe, rfl, j0, _⟩ := id hx
      unfold pactK at j0
      have j0' := s12 _ _ j0
      walk_at "go"
      by_cases z : F.name = D.name
      · have z1 : V.str F.name = V.str D.name := by rw [z]
        walk_at "go"
        exact hn (by simp [z]) _ (Same.refl' _)
      · have z1 : V.str F.name ≠ V.str D.name := fun e => z (V.str.inj e)
        walk_at "go"
        refine ⟨_, _, D, F, rfl, pD.same s12, hx.same s12, oD, (ok F hF).1, fun H3 s3 => ?_⟩
        walk_at "go"
        cases ht : touchL D F with
        | true =>
          walk_at "go"
          exact ho F _ _ (by simp [z, ht]) s3 hx
        | false =>
          walk_at "go"
          exact hn (by simp [ht]) _ s3
    · have am : All2 (PactV H) ys (matesL Ds D) := by
        rw [filter_some] at al2
        exact al2
      have hM : ∀ F ∈ matesL Ds D, F ∈ Ds := fun F hF => (List.mem_filter.mp hF).1
      have lM : (matesL Ds D).length ≤ 10 := Nat.le_trans (List.length_filter_le _ _) hz
      generalize matesL Ds D = Ms at am hM lM h
      have s02 := Same.trans' s1 s2
      have eq2 := s2 _ _ eq
      have r0 := Same.refl' H2
      have eL2 := eL
      cases he : earlyO m D.name with
      | none =>
        rw [he] at eq2
        cases hl : lateO m D.name with
        | none =>
          rw [hl] at eq2
          rw [show optI (none) = V.non from rfl]
          try rw [show optI (none) = V.non from rfl]
          walk_at "go"
          refine lcL (r0 _ _ eL2) am (fun F => some (meetC φs D F 40 0)) (fun _ v b => v = .bl b) (fun _ _ _ _ _ h => h) (szl (by omega)) (fun x F H' hF hx sm => ?_) (fun L1 A1 zs1 hL1 sa1 eL11 al1 => ?_)
          · intro Qo Qn ho hn
            walk_at "go"
            have s' := Same.trans' s02 sm
            refine ⟨g, _, x, tags, φs, D, F, 40, 0, rfl, nm, GX.same (SpX.pers tags) s', pD.same s', hx.same s', onD, (ok F (hM F hF)).2, fun H3 s3 => ?_⟩
            walk_at "go"
            exact ho _ _ _ rfl s3 rfl
          · have e1 := All2.eq_map al1
            subst e1
            have t1 := Same.trans' s02 sa1
            have u1 := Same.trans' r0 sa1
            cases v1 : Ms.any fun E => meetC φs D E 40 0 with
            | true =>
              have w1 := any_of.trans v1
              walk_at "go"
              have z := h A1 m t1 sl
              rw [he, hl] at z
              simp only [halfE, halfL, v1, Bool.not_true, Bool.not_false, Bool.true_and, Bool.false_and, Bool.and_false, Bool.and_true] at z
              exact z
            | false =>
              have w1 := any_of.trans v1
              walk_at "go"
              refine lcL (u1 _ _ eL2) am (fun F => some (meetC φs D F 0 40)) (fun _ v b => v = .bl b) (fun _ _ _ _ _ h => h) (szl (by omega)) (fun x F H' hF hx sm => ?_) (fun L3 A3 zs3 hL3 sa3 eL13 al3 => ?_)
              · intro Qo Qn ho hn
                walk_at "go"
                have s' := Same.trans' t1 sm
                refine ⟨g, _, x, tags, φs, D, F, 0, 40, rfl, nm, GX.same (SpX.pers tags) s', pD.same s', hx.same s', onD, (ok F (hM F hF)).2, fun H3 s3 => ?_⟩
                walk_at "go"
                exact ho _ _ _ rfl s3 rfl
              · have e3 := All2.eq_map al3
                subst e3
                have t3 := Same.trans' t1 sa3
                have u3 := Same.trans' u1 sa3
                cases v3 : Ms.any fun E => meetC φs D E 0 40 with
                | true =>
                  have w3 := any_of.trans v3
                  walk_at "go"
                  have z := h A3 m t3 sl
                  rw [he, hl] at z
                  simp only [halfE, halfL, v1, v3, Bool.not_true, Bool.not_false, Bool.true_and, Bool.false_and, Bool.and_false, Bool.and_true] at z
                  exact z
                | false =>
                  have w3 := any_of.trans v3
                  walk_at "go"
                  have z := h A3 m t3 sl
                  rw [he, hl] at z
                  simp only [halfE, halfL, v1, v3, Bool.not_true, Bool.not_false, Bool.true_and, Bool.false_and, Bool.and_false, Bool.and_true] at z
                  exact z
        | some l =>
          rw [hl] at eq2
          rw [show optI (none) = V.non from rfl]
          try rw [show optI (some l) = V.int l from rfl]
          walk_at "go"
          refine lcL (r0 _ _ eL2) am (fun F => some (meetC φs D F 40 0)) (fun _ v b => v = .bl b) (fun _ _ _ _ _ h => h) (szl (by omega)) (fun x F H' hF hx sm => ?_) (fun L1 A1 zs1 hL1 sa1 eL11 al1 => ?_)
          · intro Qo Qn ho hn
            walk_at "go"
            have s' := Same.trans' s02 sm
            refine ⟨g, _, x, tags, φs, D, F, 40, 0, rfl, nm, GX.same (SpX.pers tags) s', pD.same s', hx.same s', onD, (ok F (hM F hF)).2, fun H3 s3 => ?_⟩
            walk_at "go"
            exact ho _ _ _ rfl s3 rfl
          · have e1 := All2.eq_map al1
            subst e1
            have t1 := Same.trans' s02 sa1
            have u1 := Same.trans' r0 sa1
            cases v1 : Ms.any fun E => meetC φs D E 40 0 with
            | true =>
              have w1 := any_of.trans v1
              walk_at "go"
              have z := h A1 m t1 sl
              rw [he, hl] at z
              simp only [halfE, halfL, v1, Bool.not_true, Bool.not_false, Bool.true_and, Bool.false_and, Bool.and_false, Bool.and_true] at z
              exact z
            | false =>
              have w1 := any_of.trans v1
              walk_at "go"
              refine lcL (u1 _ _ eL2) am (fun F => some (meetC φs D F 0 l)) (fun _ v b => v = .bl b) (fun _ _ _ _ _ h => h) (szl (by omega)) (fun x F H' hF hx sm => ?_) (fun L3 A3 zs3 hL3 sa3 eL13 al3 => ?_)
              · intro Qo Qn ho hn
                walk_at "go"
                have s' := Same.trans' t1 sm
                refine ⟨g, _, x, tags, φs, D, F, 0, l, rfl, nm, GX.same (SpX.pers tags) s', pD.same s', hx.same s', onD, (ok F (hM F hF)).2, fun H3 s3 => ?_⟩
                walk_at "go"
                exact ho _ _ _ rfl s3 rfl
              · have e3 := All2.eq_map al3
                subst e3
                have t3 := Same.trans' t1 sa3
                have u3 := Same.trans' u1 sa3
                cases v3 : Ms.any fun E => meetC φs D E 0 l with
                | true =>
                  have w3 := any_of.trans v3
                  walk_at "go"
                  have z := h A3 m t3 sl
                  rw [he, hl] at z
                  simp only [halfE, halfL, v1, v3, Bool.not_true, Bool.not_false, Bool.true_and, Bool.false_and, Bool.and_false, Bool.and_true] at z
                  exact z
                | false =>
                  have w3 := any_of.trans v3
                  walk_at "go"
                  refine lcL (u3 _ _ eL2) am (fun F => some (meetC φs D F 0 (l + 1))) (fun _ v b => v = .bl b) (fun _ _ _ _ _ h => h) (szl (by omega)) (fun x F H' hF hx sm => ?_) (fun L4 A4 zs4 hL4 sa4 eL14 al4 => ?_)
                  · intro Qo Qn ho hn
                    walk_at "go"
                    have s' := Same.trans' t3 sm
                    refine ⟨g, _, x, tags, φs, D, F, 0, (l + 1), rfl, nm, GX.same (SpX.pers tags) s', pD.same s', hx.same s', onD, (ok F (hM F hF)).2, fun H3 s3 => ?_⟩
                    walk_at "go"
                    exact ho _ _ _ rfl s3 rfl
                  · have e4 := All2.eq_map al4
                    subst e4
                    have t4 := Same.trans' t3 sa4
                    have u4 := Same.trans' u3 sa4
                    walk_at "go"
                    rw [any_of]
                    have z := h A4 m t4 sl
                    rw [he, hl] at z
                    simp only [halfE, halfL, v1, v3, Bool.not_true, Bool.not_false, Bool.true_and, Bool.false_and, Bool.and_false, Bool.and_true] at z
                    exact z
      | some e =>
        rw [he] at eq2
        cases hl : lateO m D.name with
        | none =>
          rw [hl] at eq2
          rw [show optI (some e) = V.int e from rfl]
          try rw [show optI (none) = V.non from rfl]
          walk_at "go"
          refine lcL (r0 _ _ eL2) am (fun F => some (meetC φs D F e 0)) (fun _ v b => v = .bl b) (fun _ _ _ _ _ h => h) (szl (by omega)) (fun x F H' hF hx sm => ?_) (fun L1 A1 zs1 hL1 sa1 eL11 al1 => ?_)
          · intro Qo Qn ho hn
            walk_at "go"
            have s' := Same.trans' s02 sm
            refine ⟨g, _, x, tags, φs, D, F, e, 0, rfl, nm, GX.same (SpX.pers tags) s', pD.same s', hx.same s', onD, (ok F (hM F hF)).2, fun H3 s3 => ?_⟩
            walk_at "go"
            exact ho _ _ _ rfl s3 rfl
          · have e1 := All2.eq_map al1
            subst e1
            have t1 := Same.trans' s02 sa1
            have u1 := Same.trans' r0 sa1
            cases v1 : Ms.any fun E => meetC φs D E e 0 with
            | true =>
              have w1 := any_of.trans v1
              walk_at "go"
              have z := h A1 m t1 sl
              rw [he, hl] at z
              simp only [halfE, halfL, v1, Bool.not_true, Bool.not_false, Bool.true_and, Bool.false_and, Bool.and_false, Bool.and_true] at z
              exact z
            | false =>
              have w1 := any_of.trans v1
              walk_at "go"
              refine lcL (u1 _ _ eL2) am (fun F => some (meetC φs D F (e + 1) 0)) (fun _ v b => v = .bl b) (fun _ _ _ _ _ h => h) (szl (by omega)) (fun x F H' hF hx sm => ?_) (fun L2 A2 zs2 hL2 sa2 eL12 al2 => ?_)
              · intro Qo Qn ho hn
                walk_at "go"
                have s' := Same.trans' t1 sm
                refine ⟨g, _, x, tags, φs, D, F, (e + 1), 0, rfl, nm, GX.same (SpX.pers tags) s', pD.same s', hx.same s', onD, (ok F (hM F hF)).2, fun H3 s3 => ?_⟩
                walk_at "go"
                exact ho _ _ _ rfl s3 rfl
              · have e2 := All2.eq_map al2
                subst e2
                have t2 := Same.trans' t1 sa2
                have u2 := Same.trans' u1 sa2
                cases v2 : Ms.any fun E => meetC φs D E (e + 1) 0 with
                | true =>
                  have w2 := any_of.trans v2
                  walk_at "go"
                  refine lcL (u2 _ _ eL2) am (fun F => some (meetC φs D F 0 40)) (fun _ v b => v = .bl b) (fun _ _ _ _ _ h => h) (szl (by omega)) (fun x F H' hF hx sm => ?_) (fun L3 A3 zs3 hL3 sa3 eL13 al3 => ?_)
                  · intro Qo Qn ho hn
                    walk_at "go"
                    have s' := Same.trans' t2 sm
                    refine ⟨g, _, x, tags, φs, D, F, 0, 40, rfl, nm, GX.same (SpX.pers tags) s', pD.same s', hx.same s', onD, (ok F (hM F hF)).2, fun H3 s3 => ?_⟩
                    walk_at "go"
                    exact ho _ _ _ rfl s3 rfl
                  · have e3 := All2.eq_map al3
                    subst e3
                    have t3 := Same.trans' t2 sa3
                    have u3 := Same.trans' u2 sa3
                    cases v3 : Ms.any fun E => meetC φs D E 0 40 with
                    | true =>
                      have w3 := any_of.trans v3
                      walk_at "go"
                      have z := h A3 m t3 sl
                      rw [he, hl] at z
                      simp only [halfE, halfL, v1, v2, v3, Bool.not_true, Bool.not_false, Bool.true_and, Bool.false_and, Bool.and_false, Bool.and_true] at z
                      exact z
                    | false =>
                      have w3 := any_of.trans v3
                      walk_at "go"
                      have z := h A3 m t3 sl
                      rw [he, hl] at z
                      simp only [halfE, halfL, v1, v2, v3, Bool.not_true, Bool.not_false, Bool.true_and, Bool.false_and, Bool.and_false, Bool.and_true] at z
                      exact z
                | false =>
                  have w2 := any_of.trans v2
                  walk_at "go"
                  have z := h A2 m t2 sl
                  rw [he, hl] at z
                  simp only [halfE, halfL, v1, v2, Bool.not_true, Bool.not_false, Bool.true_and, Bool.false_and, Bool.and_false, Bool.and_true] at z
                  exact z
        | some l =>
          rw [hl] at eq2
          rw [show optI (some e) = V.int e from rfl]
          try rw [show optI (some l) = V.int l from rfl]
          walk_at "go"
          refine lcL (r0 _ _ eL2) am (fun F => some (meetC φs D F e 0)) (fun _ v b => v = .bl b) (fun _ _ _ _ _ h => h) (szl (by omega)) (fun x F H' hF hx sm => ?_) (fun L1 A1 zs1 hL1 sa1 eL11 al1 => ?_)
          · intro Qo Qn ho hn
            walk_at "go"
            have s' := Same.trans' s02 sm
            refine ⟨g, _, x, tags, φs, D, F, e, 0, rfl, nm, GX.same (SpX.pers tags) s', pD.same s', hx.same s', onD, (ok F (hM F hF)).2, fun H3 s3 => ?_⟩
            walk_at "go"
            exact ho _ _ _ rfl s3 rfl
          · have e1 := All2.eq_map al1
            subst e1
            have t1 := Same.trans' s02 sa1
            have u1 := Same.trans' r0 sa1
            cases v1 : Ms.any fun E => meetC φs D E e 0 with
            | true =>
              have w1 := any_of.trans v1
              walk_at "go"
              have z := h A1 m t1 sl
              rw [he, hl] at z
              simp only [halfE, halfL, v1, Bool.not_true, Bool.not_false, Bool.true_and, Bool.false_and, Bool.and_false, Bool.and_true] at z
              exact z
            | false =>
              have w1 := any_of.trans v1
              walk_at "go"
              refine lcL (u1 _ _ eL2) am (fun F => some (meetC φs D F (e + 1) 0)) (fun _ v b => v = .bl b) (fun _ _ _ _ _ h => h) (szl (by omega)) (fun x F H' hF hx sm => ?_) (fun L2 A2 zs2 hL2 sa2 eL12 al2 => ?_)
              · intro Qo Qn ho hn
                walk_at "go"
                have s' := Same.trans' t1 sm
                refine ⟨g, _, x, tags, φs, D, F, (e + 1), 0, rfl, nm, GX.same (SpX.pers tags) s', pD.same s', hx.same s', onD, (ok F (hM F hF)).2, fun H3 s3 => ?_⟩
                walk_at "go"
                exact ho _ _ _ rfl s3 rfl
              · have e2 := All2.eq_map al2
                subst e2
                have t2 := Same.trans' t1 sa2
                have u2 := Same.trans' u1 sa2
                cases v2 : Ms.any fun E => meetC φs D E (e + 1) 0 with
                | true =>
                  have w2 := any_of.trans v2
                  walk_at "go"
                  refine lcL (u2 _ _ eL2) am (fun F => some (meetC φs D F 0 l)) (fun _ v b => v = .bl b) (fun _ _ _ _ _ h => h) (szl (by omega)) (fun x F H' hF hx sm => ?_) (fun L3 A3 zs3 hL3 sa3 eL13 al3 => ?_)
                  · intro Qo Qn ho hn
                    walk_at "go"
                    have s' := Same.trans' t2 sm
                    refine ⟨g, _, x, tags, φs, D, F, 0, l, rfl, nm, GX.same (SpX.pers tags) s', pD.same s', hx.same s', onD, (ok F (hM F hF)).2, fun H3 s3 => ?_⟩
                    walk_at "go"
                    exact ho _ _ _ rfl s3 rfl
                  · have e3 := All2.eq_map al3
                    subst e3
                    have t3 := Same.trans' t2 sa3
                    have u3 := Same.trans' u2 sa3
                    cases v3 : Ms.any fun E => meetC φs D E 0 l with
                    | true =>
                      have w3 := any_of.trans v3
                      walk_at "go"
                      have z := h A3 m t3 sl
                      rw [he, hl] at z
                      simp only [halfE, halfL, v1, v2, v3, Bool.not_true, Bool.not_false, Bool.true_and, Bool.false_and, Bool.and_false, Bool.and_true] at z
                      exact z
                    | false =>
                      have w3 := any_of.trans v3
                      walk_at "go"
                      refine lcL (u3 _ _ eL2) am (fun F => some (meetC φs D F 0 (l + 1))) (fun _ v b => v = .bl b) (fun _ _ _ _ _ h => h) (szl (by omega)) (fun x F H' hF hx sm => ?_) (fun L4 A4 zs4 hL4 sa4 eL14 al4 => ?_)
                      · intro Qo Qn ho hn
                        walk_at "go"
                        have s' := Same.trans' t3 sm
                        refine ⟨g, _, x, tags, φs, D, F, 0, (l + 1), rfl, nm, GX.same (SpX.pers tags) s', pD.same s', hx.same s', onD, (ok F (hM F hF)).2, fun H3 s3 => ?_⟩
                        walk_at "go"
                        exact ho _ _ _ rfl s3 rfl
                      · have e4 := All2.eq_map al4
                        subst e4
                        have t4 := Same.trans' t3 sa4
                        have u4 := Same.trans' u3 sa4
                        walk_at "go"
                        rw [any_of]
                        have z := h A4 m t4 sl
                        rw [he, hl] at z
                        simp only [halfE, halfL, v1, v2, v3, Bool.not_true, Bool.not_false, Bool.true_and, Bool.false_and, Bool.and_false, Bool.and_true] at z
                        exact z
                | false =>
                  have w2 := any_of.trans v2
                  walk_at "go"
                  have z := h A2 m t2 sl
                  rw [he, hl] at z
                  simp only [halfE, halfL, v1, v2, Bool.not_true, Bool.not_false, Bool.true_and, Bool.false_and, Bool.and_false, Bool.and_true] at z
                  exact z
end
end Ld
namespace Ld
open PySem PySem.Spec PyProof.Rows L2
/-! ### the raising road: NotSafe.__init__, want_safe and room of a book that is not safe -/
/-- what the written part says of NotSafe -/
structure NsF (K : PySem.W.Frag) : Prop where
  rt : RtC K (cNotSafe K)
  xf : XfC K (cNotSafe K)
  n1 : PySem.W.findIn K (.ref (cNotSafe K)) "one" = some none
  n2 : PySem.W.findIn K (.ref (cNotSafe K)) "other" = some none
  exm : PySem.W.exmOne K (.ref (cNotSafe K)) (.ref (cNotSafe K)) = some true
/-- a def of the module that may raise -/
structure CalS (P : Program) (w : World) (K : PySem.W.Frag) (mg : Str → Option Value) (base : Heap) (k : Nat) (x : Str) (sp : Sp) : Prop where
  ex : ∃ (f : Addr) (fd : FuncData) (ps : List Str), FnOk P w K mg base (L2.CX P w) k f fd ps sp ∧ mg x = some (.ref f) ∧ PySem.W.keepIn K (.ref f) = true ∧ L2.Binds K fd ps []
section
variable {X : Cx} {k j : Nat} {x : Str} {sp : Sp} {p pos : Pos} {e : Expr} {es : List Expr} {t : TA} {W : WX} {E : XK}
def tFS (sp : Sp) (E : XK) (t : TA) : TE := fun σ H Q => t σ H fun vs H1 => sp vs H1 Q E
theorem pe_fS (c : CalS X.prog X.w X.K X.mg X.base k x sp) (hr : Room j X.A) (hk : k ≤ j) (hg : Gl X x) (tk : Takes X W) (hW : ∀ cls d σ H, E cls d H → W cls d σ H) (ha : PA X (e :: es) t)
    (hdb : (x == ("__debug__" : Str)) = false := by decide) (he : starEach (e :: es) X.env = (false, eval e X.env) :: starEach es X.env := by rfl) (hpl : (backTo pos (starEach es X.env)).any (·.1) = false := by rfl) :
    PE X (.Call (.Name x p) (e :: es) [] pos) (tFS sp E t) := by
  obtain ⟨f, fd, ps, F, hm, kp, hb⟩ := c.ex
  exact pe_conv (pe_call F (hr.mono hk) hg hm kp hb .nil (passes_call tk hW) ha hdb he hpl) fun _ _ _ q => ta_conv (E := E) q
end
def sp_NotSafe__init (K : PySem.W.Frag) (mg : Str → Option Value) : Sp := fun vs H Q _ => ∃ (a : Addr) (x y : Str), vs = [.ref a, .str x, .str y] ∧ H a = some (exo a (cNotSafe K) none) ∧
  ∀ d, H d = none → d ≠ a → Q .non (upd (upd (upd H d (exd d [("one", .str x)])) a (exo a (cNotSafe K) (some d))) d (exd d [("other", .str y), ("one", .str x)]))
def s_NotSafe__init : Stmt := inClass (top 32) 0
abbrev N_NotSafe__init : List Str := ["self", "one", "other"]
theorem sc_NotSafe__init : FnScope N_NotSafe__init ["self", "one", "other"] (defScope s_NotSafe__init) := C8.fnScope_by (by decide +kernel)

def NsE (K : PySem.W.Frag) (H : Hp) (x y : Str) (E : XK) : Prop := ∀ d H', Same H H' → H d = none → H' d = some (.xd [("other", .str y), ("one", .str x)]) → E (.ref (cNotSafe K)) (some d) H'
def sp_want_safeR (K : PySem.W.Frag) (_mg : Str → Option Value) : Sp := fun vs H _ E => ∃ (b : Addr) (ms : List Str) (cs : List Clause) (ds : List DealD) (B : Str → Str → Int) (p : DealD × DealD) (r : List (DealD × DealD)), vs = [.ref b] ∧ BookX K H b ms cs ds ∧ DealsOk ms ds ∧ Fin ms (allC cs ds) B ∧ openP B ds = p :: r ∧
  NsE K H p.1.name p.2.name E
def sp_roomR (K : PySem.W.Frag) (_mg : Str → Option Value) : Sp := fun vs H _ E => ∃ (b : Addr) (ms : List Str) (cs : List Clause) (ds : List DealD) (B : Str → Str → Int) (D : DealD) (p : DealD × DealD) (r : List (DealD × DealD)), vs = [.ref b, .str D.name] ∧ BookX K H b ms cs ds ∧ DealsOk ms ds ∧ Fin ms (allC cs ds) B ∧ openP B ds = p :: r ∧ D ∈ ds ∧
  NsE K H p.1.name p.2.name E
section
variable {P : Program} {w : World} {K : PySem.W.Frag} {mg : Str → Option Value} {base : Heap}
theorem ok_NotSafe__init {f : Addr} {fd : FuncData} (N : NsF K) (F : DefAt K "__init__" "NotSafe.__init__" s_NotSafe__init f fd) : FnOk P w K mg base CX0 1 f fd ["self", "one", "other"] (sp_NotSafe__init K mg) := by
  refine F.ok sc_NotSafe__init (fun vs H Q E => ?_) (fun cdv A outer s H vs Q E hr h => ?_)
  · walk_at "ln"
  · obtain ⟨a, x, y, rfl, ea, h⟩ := h
    refine ⟨_, (pss_cons (ps_rst (f := "one") (pv 0) (pv 1)) (pss_one (ps_rst (f := "other") (pv 0) (pv 2)))), ?_⟩
    walk_at "nk"
    refine go_seq ?_
    refine ⟨_, rfl, _, rfl, a, cNotSafe K, rfl, N.rt, N.n1, .inl ⟨ea, fun d hd ne => ?_⟩⟩
    exact ⟨_, rfl, _, rfl, a, cNotSafe K, rfl, N.rt, N.n2, .inr ⟨d, [("one", V.str x)], upd_same, up_ne ne upd_same, Nat.le_of_ble_eq_true rfl, h d hd ne⟩⟩
/-- .. as a def that makes NotSafe -/
theorem same_exc {H H1 : Hp} {a d : Addr} {o : HO} (s : Same H H1) (ha : H a = none) (hd : H d = none) : Same H (upd (del H1 a) d o) := fun b u e => by
  have n1 : b ≠ a := fun z => by rw [z, ha] at e; cases e
  have n2 : b ≠ d := fun z => by rw [z, hd] at e; cases e
  rw [upd_ne n2]
  show (if b = a then none else H1 b) = some u
  rw [if_neg n1]
  exact s _ _ e
theorem ok_want_safeR {f fI : Addr} {fd fdI : FuncData} (T : Tx K mg) (N : NsF K) (F : DefAt K "want_safe" "want_safe" s_want_safe f fd) (hm : mg "want_safe" = some (.ref f)) (FI : DefAt K "__init__" "NotSafe.__init__" s_NotSafe__init fI fdI) (iC : PySem.W.findIn K (.ref (cNotSafe K)) "__init__" = some (some (.ref fI))) (tI : PySem.W.typeIn K (.ref fI) = some (.type "function"))
    (hN : mg "NotSafe" = some (.ref (cNotSafe K))) (c_open_pairs : Cf P w K mg base 12 "open_pairs" (sp_open_pairs K mg)) : CalS P w K mg base 13 "want_safe" (sp_want_safeR K mg) := by
  refine ⟨f, fd, ["book"], F.ok sc_want_safe (fun vs H Q E => ?_) (fun cdv A outer s H vs Q E hr h => ?_), hm, F.kp, F.bindsN fun _ _ _ _ _ _ us hl => match us, hl with | [_], _ => rfl⟩
  · walk_at "ln"
  · obtain ⟨b, ms, cs, ds, B, p, r, rfl, X, G, FB, hop, h⟩ := h
    refine ⟨_, (pss_cons (ps_set (i := 1) sc_want_safe.nd rfl (Or.inl rfl) (pe_f c_open_pairs hr (by decide) (by rfl) (pa_cons (pv 0) pa_nil)))
      (pss_one (ps_if (pt_cmpR (op_neD hr.units) (pv 1) (pe_lst pa_nil) (nomark _)) (pss_one (ps_raise (W := fun cls d _ H => E cls d H) rfl (takes_of rfl rfl rfl rfl)
        (pmk_rt N.rt iC tI (ok_NotSafe__init (P := P) (w := w) (mg := mg) (base := base) N FI) (hr.mono (by decide)) (FI.bindsN fun _ _ _ _ _ _ us hl => match us, hl with | [_, _, _], _ => rfl) (by rfl) hN
          (pa_cons (pe_ix ix_tup (pe_ix ix_list (pv 1) pe_int (fun _ _ => rfl)) pe_int (fun _ _ => rfl)) (pa_cons (pe_ix ix_tup (pe_ix ix_list (pv 1) pe_int (fun _ _ => rfl)) pe_int (fun _ _ => rfl)) pa_nil))))) pss_nil))), ?_⟩
    walk_at "nk"
    walk_at "go"
    refine ⟨_, ms, cs, ds, B, rfl, X, G, FB, fun H1 q s1 hq L => ?_⟩
    rw [hop] at L
    walk_at "go"
    intro q2 hq2
    have sq := same_new (o := .lst []) hq2
    refine go_neL encPair (ds := []) (L.same PairV.pers sq) ⟨[], upd_same, .nil⟩ ?_
    walk_at "go"
    unfold tMkR
    obtain ⟨vs, eq, al⟩ := L
    cases al with
    | @cons _ _ vs _ hx al =>
      obtain ⟨p0, rfl, e0, _, _⟩ := hx
      have eq1 := sq _ _ eq
      have e01 := sq _ _ e0
      have hat : atI (V.ref p0 :: vs) 0 = some (V.ref p0) := atI_nat (V.ref p0 :: vs) 0
      walk_at "go"
      refine ⟨Nat.le_of_ble_eq_true rfl, fun a ha => ⟨a, _, _, rfl, upd_same, fun d hd ne => ?_⟩⟩
      obtain ⟨nda, hd1⟩ := none_up hd
      refine ⟨rfl, d, _, (upd_ne ne.symm).trans upd_same, upd_same, hd1, ?_⟩
      have na := none_back s1 (none_back sq ha)
      have nd := none_back s1 (none_back sq hd1)
      refine h d _ (same_exc ?_ na nd) nd upd_same
      exact same_upd (same_upd (same_upd (same_upd (Same.trans' s1 sq) na) nd) na) nd
theorem ok_roomR {f : Addr} {fd : FuncData} (T : Tx K mg) (F : DefAt K "room" "room" s_room f fd) (hm : mg "room" = some (.ref f)) (c_Book_want_name : Cm P w K mg base 2 (cBook K) "want_name" (sp_Book_want_name K mg)) (c_want_safe : CalS P w K mg base 13 "want_safe" (sp_want_safeR K mg)) (c_room_by : Cf P w K mg base 1 "room_by" (sp_room_by K mg)) (c_slacks : Cf P w K mg base 11 "slacks" (sp_slacks K mg)) : CalS P w K mg base 14 "room" (sp_roomR K mg) := by
  refine ⟨f, fd, ["book", "name"], F.ok sc_room (fun vs H Q E => ?_) (fun cdv A outer s H vs Q E hr h => ?_), hm, F.kp, F.bindsN fun _ _ _ _ _ _ us hl => match us, hl with | [_, _], _ => rfl⟩
  · walk_at "ln"
  · obtain ⟨b, ms, cs, ds, B, D, p, r, rfl, X, G, FB, hop, hD, h⟩ := h
    refine ⟨_, (pss_cons (ps_expr (pe_m c_Book_want_name hr (by decide) (pv 0) (pa_cons (pv 1) pa_nil)))
      (pss_cons (ps_expr (pe_fS (W := fun cls d _ H => E cls d H) (E := E) c_want_safe hr (by decide) (by rfl) (takes_of rfl rfl rfl rfl) (fun _ _ _ _ h => h) (pa_cons (pv 0) pa_nil)))
      (pss_one (ps_ret (pe_f c_room_by hr (by decide) (by rfl) (pa_cons (pe_f c_slacks hr (by decide) (by rfl) (pa_cons (pv 0) pa_nil)) (pa_cons (pv 1) pa_nil))))))), ?_⟩
    walk_at "nk"
    obtain ⟨dx, cal, dd, cl, kvs, o, _⟩ := id X.ex
    walk_at "go"
    refine ⟨_, ms, cs, ds, D, rfl, X, G, hD, ?_⟩
    walk_at "go"
    unfold tFS
    walk_at "go"
    exact ⟨b, ms, cs, ds, B, p, r, rfl, X, G, FB, hop, h⟩
end
end Ld
namespace Ld
open PySem PySem.Spec PyProof.Rows L2
/-! ### _law_heard: try: the call, except NotSafe as e: its pair told -/
theorem pe_weak {X : Cx} {e : Expr} {t : TE} (h : PE X e t) : PE X e (fun σ H Q => ∃ R : VK, t σ H R ∧ ∀ v H', R v H' → Q v H') := ⟨fun pins s σ H Q I ⟨R, q, m⟩ =>
  wpAny_mono (h.run pins s σ H R I q) (fun u s' ⟨v, H', I', r, z⟩ => ⟨v, H', I', r, m v H' z⟩) fun _ _ x => x⟩
theorem takes_len {X : Cx} {W : WX} (t : Takes X W) : Takes X (fun cls d σ H => σ.length = X.N.length → W cls d σ H) := fun u s' ⟨a, B, sI, pins, σ, H, cls, d, e, I, nb, up, sky, na, os, ag, w⟩ =>
  t u s' ⟨a, B, sI, pins, σ, H, cls, d, e, I, nb, up, sky, na, os, ag, w I.len⟩
def HeardE (K : PySem.W.Frag) (Q : VK) : XK := fun cls d H' => cls = .ref (cNotSafe K) ∧ ∃ (dd : Addr) (x y : Str), d = some dd ∧ H' dd = some (.xd [("other", .str y), ("one", .str x)]) ∧ ∀ p, H' p = none → Q (.ref p) (upd H' p (.tup [.str "not safe", .str x, .str y]))
def THeard (K : PySem.W.Frag) : (XK → Hp → VK → Prop) → Hp → VK → Prop := fun tl H Q => tl (HeardE K Q) H Q
def s_law_heard : Stmt := top 104
abbrev N_law_heard : List Str := ["_law_call", "_law_found", "e"]
theorem sc_law_heard : FnScope N_law_heard ["_law_call"] (defScope s_law_heard) := C8.fnScope_by (by decide +kernel)

theorem heard_gives {X : Cx} {g : Addr} {cdg : Value} {q : Str} (N : NsF X.K) (hN : X.mg "NotSafe" = some (.ref (cNotSafe X.K))) :
    LamX.GivesTo X N_law_heard "_law_heard" (defScope s_law_heard) g cdg (defBody s_law_heard) "_law_call" q (THeard X.K) := by
  intro f c' s H Q tl act hc h
  refine ⟨_, pss_cons (ps_set (i := 1) sc_law_heard.nd rfl (Or.inl rfl) pe_non) (pss_cons (ps_try_as (X := (cxOf C8.CX0 X.prog X.w X.K X.mg X.base N_law_heard "_law_heard" (defScope s_law_heard) g cdg X.A X.stack s H C8.E0).nox) (c := .ref (cNotSafe X.K)) (i := 2) (n := "e")
      (tb := fun W D σ H => ∃ (Ech : XK) (R : VK), (∀ cls d σ' H', Ech cls d H' → σ'.length = 3 → W cls d σ' H') ∧ σ[0]? = some (some (.ref f)) ∧ H c' = some (LamX.CodeO c' q) ∧ tl Ech H R ∧ ∀ v H', R v H' → D.nx (σ.set 1 (some v)) H')
      rfl rfl sc_law_heard.nd rfl rfl ⟨rfl, by decide, .inl hN⟩ LamX.takes0 (fun W pn xe tk _ => ?_)
      (fun a oe cls d pn hz hf => pss_one (ps_ret (pe_tup (pa_cons pe_str (pa_cons (pe_xf N.xf N.n1 hz hf (pv 2)) (pa_cons (pe_xf N.xf N.n2 hz hf (pv 2)) pa_nil))))))) (pss_one (ps_ret (pv 1)))), ?_⟩
  · refine ⟨fun pins s' σ H' D I h' => ?_⟩
    obtain ⟨Ech, R, hW, h1, h2, h3, h4⟩ := h'
    exact (pss_one (ps_set (i := 1) sc_law_heard.nd rfl (Or.inl rfl) (pe_weak (act _ pn xe Ech _ _ (takes_len tk) hW)))).run pins s' σ H' D I ⟨R, ⟨h1, h2, h3⟩, fun v H' hv => h4 v H' hv⟩
  · walk_at "go"
    refine ⟨HeardE X.K Q, Q, fun cls d σ' H' hE hl => ?_, rfl, hc, h, fun v H' hv => ?_⟩
    · obtain ⟨rfl, dd, x, y, rfl, ed, hq⟩ := hE
      refine ⟨true, N.exm, fun _ a ha => ?_, fun z => by cases z⟩
      obtain ⟨x0, x1, x2, rfl⟩ : ∃ x0 x1 x2, σ' = [x0, x1, x2] := by
        match σ', hl with
        | [a, b, c], _ => exact ⟨a, b, c, rfl⟩
      walk_at "go"
      refine ⟨_, rfl, rfl, rfl, dd, _, _, rfl, ed, rfl, ?_⟩
      walk_at "go"
      refine ⟨_, rfl, rfl, rfl, dd, _, _, rfl, ed, rfl, ?_⟩
      walk_at "go"
      exact hq
    · walk_at "go"
      exact hv
end Ld
namespace Ld
open PySem PySem.Spec PyProof.Rows L2
/-! ### what stays where only code tables grow -/
abbrev Ext (H H' : Hp) : Prop := LamX.ExtN H H'
theorem Ext.tup {H H' : Hp} {a : Addr} {xs : List V} (e : Ext H H') (h : H a = some (.tup xs)) : H' a = some (.tup xs) := e _ _ h (fun ps z => by cases z)
theorem Ext.lst {H H' : Hp} {a : Addr} {xs : List V} (e : Ext H H') (h : H a = some (.lst xs)) : H' a = some (.lst xs) := e _ _ h (fun ps z => by cases z)
theorem Ext.dk {H H' : Hp} {a : Addr} {xs : List (Key × V)} (e : Ext H H') (h : H a = some (.dK xs)) : H' a = some (.dK xs) := e _ _ h (fun ps z => by cases z)
theorem Ext.ins {H H' : Hp} {a C d : Addr} {xs : List (Str × V)} (e : Ext H H') (h : H a = some (.ins C d xs)) : H' a = some (.ins C d xs) := e _ _ h (fun ps z => by cases z)
theorem ClV.ext {H H' : Hp} {v : V} {c : Clause} (e : Ext H H') (h : ClV H v c) : ClV H' v c := by obtain ⟨p, q, h, k⟩ := h; exact ⟨p, q, e.tup h, k⟩
theorem LAt.ext {γ : Type} {S : Hp → V → γ → Prop} {H H' : Hp} {a : Addr} {cs : List γ} (h : LAt S H a cs) (e : Ext H H') (k : ∀ v c, S H v c → S H' v c) : LAt S H' a cs := by
  obtain ⟨vs, h, al⟩ := h
  exact ⟨vs, e.lst h, al.mono k⟩
theorem CalX.ext {K : PySem.W.Frag} {H H' : Hp} {a : Addr} {ms : List Str} {cs : List Clause} (C : CalX K H a ms cs) (s : Ext H H') : CalX K H' a ms cs := by
  obtain ⟨dx, am, cl, o, m, L⟩ := C.ex
  exact ⟨dx, am, cl, s.ins o, s.lst m, L.ext s fun _ _ h => h.ext s⟩
theorem DealX.ext {K : PySem.W.Frag} {H H' : Hp} {v : V} {D : DealD} (h : DealX K H v D) (s : Ext H H') : DealX K H' v D := by
  obtain ⟨a, dx, pf, pl, pw, pb, pe, e, h1, h2, h3, h4, h5, h6⟩ := h
  exact ⟨a, dx, pf, pl, pw, pb, pe, e, s.ins h1, s.tup h2, s.tup h3, s.tup h4, s.tup h5, s.tup h6⟩
theorem BookX.ext {K : PySem.W.Frag} {H H' : Hp} {b : Addr} {ms : List Str} {cs : List Clause} {ds : List DealD} (B : BookX K H b ms cs ds) (s : Ext H H') : BookX K H' b ms cs ds := by
  obtain ⟨dx, cal, dd, cl, kvs, o, C, e, al, L⟩ := B.ex
  exact ⟨dx, cal, dd, cl, kvs, s.ins o, C.ext s, s.dk e, al.mono fun p D h => ⟨h.1, h.2.ext s⟩, L.ext s fun _ _ h => h.ext s⟩
theorem PactV.ext {H H' : Hp} {v : V} {D : DealD} (h : PactV H v D) (s : Ext H H') : PactV H' v D := by
  obtain ⟨p, pf, pl, pw, pb, pe, rfl, h0, h1, h2, h3, h4, h5⟩ := h
  exact ⟨p, pf, pl, pw, pb, pe, rfl, s.dk h0, s.lst h1, s.lst h2, s.lst h3, s.tup h4, s.tup h5⟩
theorem ext_same {H H1 H2 : Hp} (a : Ext H H1) (b : Same H1 H2) : Ext H H2 := fun c o h n => b c o (a c o h n)
/-! ### what the walk of _law_right asks of the mathematics -/
/-- the slacks of the pairs that touch -/
def dueStep (aw : Str → Str → Option Int) (D : DealD) (g : Pair → Option Int) (E : DealD) : Pair → Option Int := if D.name ≠ E.name ∧ touchL D E = true then putG g (D.name, E.name) (aw D.name E.name) else g
def dueRow (aw : Str → Str → Option Int) (Ds : List DealD) (g : Pair → Option Int) (D : DealD) : Pair → Option Int := Ds.foldl (dueStep aw D) g
def dueG (aw : Str → Str → Option Int) (Ds : List DealD) : Pair → Option Int := Ds.foldl (dueRow aw Ds) (fun _ => none)
structure Jn (Ds : List DealD) (φs : List (Str → Int)) (ms : List Str) (cs : List Clause) (ds : List DealD) (B : Str → Str → Int) (aw : Str → Str → Option Int) : Prop where
  G : DealsOk ms ds
  F : Fin ms (allC cs ds) B
  ne : φs ≠ []
  par : ∀ D ∈ Ds, ∃ E ∈ ds, E.name = D.name
  sl1 : ∀ D ∈ ds, ∀ E ∈ ds, D.name ≠ E.name → slB B D E = aw D.name E.name
  sl2 : ∀ D ∈ Ds, ∀ E ∈ Ds, D.name ≠ E.name → ∀ M, M ∈ gapsL φs D E → (∀ x ∈ gapsL φs D E, M ≤ x) → (if 0 ≤ M then some M else none) = aw D.name E.name
  sm : ∀ x y i, aw x y = some i → i.natAbs ≤ 1000000
  due : ∀ k, slG B ds k = dueG aw Ds k
  fo : firstO φs (Ds.mergeSort leT') = (openP B ds).head?.map nm2
  rm : openP B ds = [] → ∀ D ∈ Ds, ∀ m, SlOk (slG B ds) m → (halfE φs (matesL Ds D) D (earlyO m D.name) && halfL φs (matesL Ds D) D (lateO m D.name)) = true
def JoinP : Prop := ∀ (C : ChartD) (Ds : List DealD) (ms : List Str) (ds0 ds : List DealD) (φs : List (Str → Int)), WinOk C Ds → ms.Perm C.tags → sortedS ms = true → All2 SortOf Ds ds0 → ds.Perm ds0 → sortedS (ds.map (·.name)) = true →
  GoodDates C.tags 7 (allC C.rules (Ds.mergeSort leT')) φs → ∃ B aw, Jn Ds φs ms C.rules ds B aw
def PreP : Prop := ∀ (C : ChartD) (Ds : List DealD), WinOk C Ds → Good C.tags C.rules ∧ ∀ ms ds0, ms.Perm C.tags → All2 SortOf Ds ds0 → Good ms C.rules ∧ DealsOk ms ds0 ∧ ∀ ds : List DealD, ds.Perm ds0 → Good ms (allC C.rules ds) ∧ NoRing ms (allC C.rules ds)
def PreC : Prop := ∀ (C : ChartD) (Ds : List DealD), WinOk C Ds → (∀ c ∈ allC C.rules (Ds.mergeSort leT'), c.1 ∈ C.tags ++ [dayS] ∧ c.2.1 ∈ C.tags ++ [dayS]) ∧ (allC C.rules (Ds.mergeSort leT')).length ≤ 1000
theorem putG_none (g : Pair → Option Int) (k : Pair) : putG g k none = g := rfl
theorem dueRow_of {aw : Str → Str → Option Int} {D : DealD} {k : Pair} {i : Int} : ∀ (Es : List DealD) (g : Pair → Option Int), Es.foldl (dueStep aw D) g k = some i → g k = some i ∨ ∃ E ∈ Es, k = (D.name, E.name) ∧ aw D.name E.name = some i
  | [], g, h => .inl h
  | E :: Es, g, h => by
    rcases dueRow_of Es (dueStep aw D g E) h with h | ⟨F, hF, r⟩
    · unfold dueStep at h
      split at h
      · cases e : aw D.name E.name with
        | none =>
          rw [e] at h
          exact .inl h
        | some j =>
          rw [e] at h
          have h : (if k = (D.name, E.name) then some j else g k) = some i := h
          split at h
          · rename_i z
            exact .inr ⟨E, by simp, z, by rw [e]; exact h⟩
          · exact .inl h
      · exact .inl h
    · exact .inr ⟨F, List.mem_cons_of_mem _ hF, r⟩
theorem dueG_of' {aw : Str → Str → Option Int} {k : Pair} {i : Int} {Es : List DealD} : ∀ (Ds : List DealD) (g : Pair → Option Int), Ds.foldl (dueRow aw Es) g k = some i → g k = some i ∨ ∃ D ∈ Ds, ∃ E ∈ Es, k = (D.name, E.name) ∧ aw D.name E.name = some i
  | [], g, h => .inl h
  | D :: Ds, g, h => by
    rcases dueG_of' Ds (dueRow aw Es g D) h with h | ⟨F, hF, r⟩
    · rcases dueRow_of Es g h with h | ⟨E, hE, r⟩
      · exact .inl h
      · exact .inr ⟨D, by simp, E, hE, r⟩
    · exact .inr ⟨F, List.mem_cons_of_mem _ hF, r⟩
theorem dueG_of {aw : Str → Str → Option Int} {k : Pair} {i : Int} {Ds : List DealD} (h : dueG aw Ds k = some i) : ∃ D ∈ Ds, ∃ E ∈ Ds, k = (D.name, E.name) ∧ aw D.name E.name = some i := by
  rcases dueG_of' Ds (fun _ => none) h with h | h
  · cases h
  · exact h
theorem SlOk.congr {g g' : Pair → Option Int} {m : List (Pair × Int)} (h : SlOk g m) (e : ∀ k, g k = g' k) : SlOk g' m := by
  have : g = g' := funext e
  rw [← this]; exact h
theorem SlOk.uniq {g : Pair → Option Int} {m m' : List (Pair × Int)} (h : SlOk g m) (h' : SlOk g m') : m = m' := by
  obtain ⟨ks, n1, m1, rfl⟩ := h
  obtain ⟨ks', n2, m2, rfl⟩ := h'
  have p : ks.Perm ks' := (List.perm_ext_iff_of_nodup n1 n2).mpr fun k => (m1 k).trans (m2 k).symm
  rw [srtP_eqP p]
end Ld
namespace Ld
open PySem PySem.Spec PyProof.Rows L2
/-! ### _law_right -/
def s_law_right : Stmt := top 106
abbrev N_law_right : List Str := ["_law_pot_here", "_law_chart_here", "_law_pacts_here", "_law_good_here", "_law_due", "_law_mate", "_law_away", "_law_wide", "_law_pact_here", "_law_tome", "_law_pair"]
theorem sc_law_right : FnScope N_law_right ["_law_pot_here"] (defScope s_law_right) := C8.fnScope_by (by decide +kernel)

abbrev QL : Str := (envOfC "_law_right" (defScope s_law_right) 0 0 .none).qual ++ "<lambda>"
def sp_law_right (Pt : Addr) : Sp := fun vs H Q _ => ∃ a : Addr, vs = [.ref a] ∧ PotAt H a ∧ LamX.Tabs [(Pt, QL)] H ∧ ∀ H', LamX.Tabs [(Pt, QL)] H' → (∀ b o, b ≠ a → H b = some o → (∀ ps, o ≠ .tbl ps) → H' b = some o) → Q (.bl true) H'
theorem tabs_one {Pt : Addr} {q : Str} {H : Hp} (h : LamX.Tabs [(Pt, q)] H) : ∃ ps, H Pt = some (.tbl ps) := by
  obtain ⟨ps, e, _⟩ := h (Pt, q) (by simp)
  exact ⟨ps, e⟩
theorem tabs_off {Pt a : Addr} {q : Str} {H H' : Hp} (h : LamX.Tabs [(Pt, q)] H) (p : PotAt H a) (o : OffP a H H') : LamX.Tabs [(Pt, q)] H' := by
  obtain ⟨x, y, ea, _⟩ := p
  have ne : ∀ b u, H b = some u → (∀ xs, u ≠ .lst xs) → H' b = some u := fun b u e n => o.k b u (fun z => by rw [z, ea] at e; cases e; exact n _ rfl) e
  intro r hr
  obtain ⟨ps, e, t, k⟩ := h r hr
  refine ⟨ps, ne _ _ e (fun xs z => by cases z), t, fun pos cv hc => ?_⟩
  obtain ⟨c, e1, e2⟩ := k pos cv hc
  exact ⟨c, e1, ne _ _ e2 (fun xs z => by unfold LamX.CodeO at z; cases z)⟩
section
variable {P : Program} {w : World} {K : PySem.W.Frag} {mg : Str → Option Value} {base : Heap}
theorem ok_law_right {f fh c Pt : Addr} {fd fdh : FuncData} (T : Tx K mg) (NS : NsF K) (hNS : mg "NotSafe" = some (.ref (cNotSafe K))) (F : DefAt K "_law_right" "_law_right" s_law_right f fd) (hcF : fd.code = .ref c) (TB : LamX.TabB base mg c Pt)
    (FH : DefAt K "_law_heard" "_law_heard" s_law_heard fh fdh) (hmh : mg "_law_heard" = some (.ref fh)) (c_roomR : CalS P w K mg base 14 "room" (sp_roomR K mg)) (c_law_window : Cf P w K mg base 5 "_law_window" (sp_law_window K mg)) (c_law_book : Cf P w K mg base 8 "_law_book" (sp_law_book K mg)) (c_law_good : Cf P w K mg base 2 "_law_good" (sp_law_good K mg)) (c_law_rules : Cf P w K mg base 2 "_law_rules" (sp_law_rules K mg)) (c_law_least : Cf P w K mg base 2 "_law_least" (sp_law_least K mg)) (c_slack : Cf P w K mg base 11 "slack" (sp_slack K mg)) (c_law_do_touch : Cf P w K mg base 2 "_law_do_touch" (sp_law_do_touch K mg)) (c_slacks : Cf P w K mg base 11 "slacks" (sp_slacks K mg)) (c_law_first_open : Cf P w K mg base 3 "_law_first_open" (sp_law_first_open K mg)) (c_law_room_right : Cf P w K mg base 15 "_law_room_right" (sp_law_room_right K mg)) (JO : JoinP) (PR : PreP) (PC : PreC) : FnG P w K mg base 17 f fd ["_law_pot_here"] (sp_law_right Pt) := by
  obtain ⟨oc, od, dV, kV, doc, pm, an, cdv, ct, osl, rfl, lk, hcd, _, _⟩ := F.ex
  have ec : cdv = .ref c := hcF
  subst ec
  have bh : L2.Binds K fdh ["_law_call"] [] := FH.bindsN fun _ _ _ _ _ _ us hl => match us, hl with | [_], _ => rfl
  obtain ⟨och, odh, dVh, kVh, doch, pmh, anh, cdh, cth, oslh, rfl, lkh, hch, _, _⟩ := id FH.ex
  refine ⟨fun A outer s H args us vs Q E hgd0 hr0 e0 hb rv h => LamX.run_ofS (N := N_law_right) (ps := ["_law_pot_here"]) lk hcd sc_law_right hr0 e0 hb rv ?_ fun hr => ?_⟩
  · obtain ⟨a, rfl, _⟩ := h; rfl
  have hgd : (A.deeper (envOfC "_law_right" (defScope s_law_right) s.heap.objs.size f (.ref c))).guards = some [] := hgd0
  suffices hh : ∃ t, PSs (cxOf C8.CX0 P w K mg base N_law_right "_law_right" (defScope s_law_right) f (.ref c) A outer s H E).nox (defBody s_law_right) t ∧ t { nx := fun _ H' => Q .non H', rt := Q } (L2.start N_law_right vs) H by
    obtain ⟨t, h1, h2⟩ := hh
    exact ⟨t, h1.nox, h2⟩
  obtain ⟨a, rfl, pa, tb, h⟩ := h
  refine ⟨_, (pss_cons (ps_asg (pe_f c_law_window hr (by decide) (by rfl) (pa_cons (pv 0) (pa_cons pe_int pa_nil))) (pg_tup (n := 2) rfl (pgs_cons (pg_name (i := 1) sc_law_right.nd rfl (Or.inl rfl)) (pgs_cons (pg_name (i := 2) sc_law_right.nd rfl (Or.inl rfl)) pgs_nil))))
      (pss_cons (ps_set (i := 9) sc_law_right.nd rfl (Or.inr rfl) (pe_f c_law_book hr (by decide) (by rfl) (pa_cons (pv 1) (pa_cons (pv 2) pa_nil))))
      (pss_cons (ps_asg (pe_tup (pa_cons (pe_f c_law_good hr (by decide) (by rfl) (pa_cons (pv 1) (pa_cons (pe_f c_law_rules hr (by decide) (by rfl) (pa_cons (pv 1) (pa_cons (pv 2) pa_nil))) (pa_cons pe_int pa_nil)))) (pa_cons pe_dnewT pa_nil))) (pg_tup (n := 2) rfl (pgs_cons (pg_name (i := 3) sc_law_right.nd rfl (Or.inl rfl)) (pgs_cons (pg_name (i := 4) sc_law_right.nd rfl (Or.inr rfl)) pgs_nil))))
      (pss_cons (ps_for PassesOwn.never rfl (pi_list (pv 2)) (pg_name (i := 8) sc_law_right.nd rfl (Or.inr rfl)) (pss_one (ps_for PassesOwn.never rfl (pi_list (pv 2)) (pg_name (i := 5) sc_law_right.nd rfl (Or.inl rfl)) (pss_cons (ps_set (i := 6) sc_law_right.nd rfl (Or.inl rfl) (pe_ifExp (pt_cmpR op_eq (pe_dget (hu_of hr) (pv 8) pe_str (fun _ _ => rfl)) (pe_dget (hu_of hr) (pv 5) pe_str (fun _ _ => rfl)) (nomark _)) pe_non (pe_f c_law_least hr (by decide) (by rfl) (pa_cons (pv 3) (pa_cons (pv 8) (pa_cons (pv 5) pa_nil))))))
      (pss_cons (ps_if (pt_cmpR op_ne (pe_callB cr_reprO (by rfl) T.f_repr (by decide +kernel) (pa_cons (pe_f c_slack hr (by decide) (by rfl) (pa_cons (pv 9) (pa_cons (pe_dget (hu_of hr) (pv 8) pe_str (fun _ _ => rfl)) (pa_cons (pe_dget (hu_of hr) (pv 5) pe_str (fun _ _ => rfl)) pa_nil)))) pa_nil)) (pe_callB cr_reprO (by rfl) T.f_repr (by decide +kernel) (pa_cons (pv 6) pa_nil)) (nomark _)) (pss_one (ps_ret pe_bl)) pss_nil)
      (pss_one (ps_if (PW.pt (pw_and (pt_cmpR op_notNo (pv 6) pe_non (nomark _)) (pw_and1 (pt_val (pe_f c_law_do_touch hr (by decide) (by rfl) (pa_cons (pv 8) (pa_cons (pv 5) pa_nil))))))) (pss_one (ps_dput (hu_of hr) (pv 4) (pe_tup (pa_cons (pe_dget (hu_of hr) (pv 8) pe_str (fun _ _ => rfl)) (pa_cons (pe_dget (hu_of hr) (pv 5) pe_str (fun _ _ => rfl)) pa_nil))) (pv 6) rfl)) pss_nil)))))))
      (pss_cons (ps_if (pt_cmpR op_ne (pe_callB (cr_reprD hgd hr.units) (by rfl) T.f_repr (by decide +kernel) (pa_cons (pe_f c_slacks hr (by decide) (by rfl) (pa_cons (pv 9) pa_nil)) pa_nil)) (pe_callB (cr_reprD hgd hr.units) (by rfl) T.f_repr (by decide +kernel) (pa_cons (pe_callTy (cr_dictPT rfl hr.units) (by rfl) T.f_dict (by decide +kernel) (pa_cons (pe_lc (own := [("_law_pair", 10)]) rfl sc_law_right.nd (pi_list (pe_callB (cr_sortedDT rfl hr.units) (by rfl) T.f_sorted (by decide +kernel) (pa_cons (pv 4) pa_nil))) (blkOk_by (own := [("_law_pair", 10)]) (N := N_law_right) (sc := defScope s_law_right) (by decide +kernel)) (fun _ _ _ _ _ => (pg_name (i := 10) sc_law_right.nd rfl (Or.inl rfl))) (fun _ _ _ _ _ => pts_nil) (fun _ _ _ _ _ => (pe_tup (pa_cons (pv 10) (pa_cons (pe_dget (hu_of hr) (pv 4) (pv 10) (fun _ _ => rfl)) pa_nil)))) ) pa_nil)) pa_nil)) (nomark _)) (pss_one (ps_ret pe_bl)) pss_nil)
      (pss_cons (ps_set (i := 7) sc_law_right.nd rfl (Or.inl rfl) (pe_f c_law_first_open hr (by decide) (by rfl) (pa_cons (pv 3) (pa_cons (pv 2) pa_nil))))
      (pss_cons (ps_for PassesOwn.never rfl (pi_list (pv 2)) (pg_name (i := 8) sc_law_right.nd rfl (Or.inr rfl)) (pss_cons (ps_if (PW.pt (pw_and (pt_cmpR op_notNo (pv 7) pe_non (nomark _)) (pw_and1 (pt_cmpR (op_neD hr.units) (LamX.pe_lamcall (X := _) (k := 14) (Ng := N_law_heard) (a := "_law_call") (t := fun E => tFS (sp_roomR K mg) E (tCons (tVar 9) (tCons (tDGet (tVar 8) (tC (.str "tag"))) tNil))) (by rfl) hmh FH.kp lkh hch bh sc_law_heard rfl (Or.inl rfl) (heard_gives NS hNS) TB rfl (List.mem_singleton.mpr rfl) (fun _ hp _ => by rw [List.mem_singleton.mp hp]) hr (show LamX.LamS (defScope s_law_right) _ from LamX.lamS_by (by decide +kernel)) (by rfl) (fun _ _ _ _ _ => by rfl)
        (fun _ _ _ _ E _ _ hr => pe_fS (W := fun cls d _ H => E cls d H) (E := E) c_roomR hr (by decide) (by rfl) (takes_of rfl rfl rfl rfl) (fun _ _ _ _ h => h) (pa_cons (pv 9) (pa_cons (pe_dget (hu_of hr) (pv 8) pe_str (fun _ _ => rfl)) pa_nil)))) (pe_tup (pa_cons pe_str (pa_cons (pe_ix ix_tup (pv 7) pe_int (fun _ _ => rfl)) (pa_cons (pe_ix ix_tup (pv 7) pe_int (fun _ _ => rfl)) pa_nil)))) (nomark _))))) (pss_one (ps_ret pe_bl)) pss_nil)
      (pss_one (ps_if (PW.pt (pw_and (pt_cmpR op_isNo (pv 7) pe_non (nomark _)) (pw_and1 (pt_not (pt_val (pe_f c_law_room_right hr (by decide) (by rfl) (pa_cons (pv 9) (pa_cons (pv 3) (pa_cons (pv 2) (pa_cons (pv 8) pa_nil)))))))))) (pss_one (ps_ret pe_bl)) pss_nil))))
      (pss_one (ps_ret pe_bl))))))))), ?_⟩
  walk_at "nk"
  walk_at "go"
  refine ⟨a, rfl, pa, fun H1 cA pt ps pr dl q C Ds f1 npt npr ndl CX ⟨vs, el, al⟩ W eq => ?_⟩
  have tb1 := tabs_off tb pa f1
  obtain ⟨PR1, PR2⟩ := PR C Ds W
  have alV : All2 (PactV H1) vs Ds := al.mono fun v D h => h.v
  have okD : ∀ D ∈ Ds, DealOk D := fun D hD => (W.ok D hD).ok
  have lD : Ds.length ≤ 10 := Nat.le_trans W.dl (by decide)
  walk_at "go"
  refine ⟨cA, dl, pt, ps, pr, C, Ds, rfl, CX, PR1, ⟨vs, el, alV⟩, okD, lD, PR2, fun H2 tm ms ds ds0 pm sm so pd sd BX s12 htm => ?_⟩
  have CX2 := CX.same s12
  have el2 := s12 _ _ el
  have alV2 : All2 (PactV H2) vs Ds := alV.mono fun v D h => h.same s12
  walk_at "go"
  refine ⟨cA, pt, ps, pr, dl, C, Ds, rfl, CX2, ⟨vs, el2, alV2⟩, okD, lD, Nat.le_trans W.rl (by decide), fun H3 rl s23 hrl LR => ?_⟩
  walk_at "go"
  obtain ⟨PC1, PC2⟩ := PC C Ds W
  have CX3 := CX2.same s23
  refine ⟨cA, pt, ps, pr, rl, C, _, 7, rfl, CX3, W.c.nm, W.c.nd, W.c.hi, Nat.le_refl _, LR, PC2, PC1, fun H4 g φs s34 hg GX GD => ?_⟩
  obtain ⟨B, aw, J⟩ := JO C Ds ms ds0 ds φs W pm sm so pd sd GD
  have G := J.G
  have Fi := J.F
  walk_at "go"
  intro dd hdd
  walk_at "go"
  intro p hp
  obtain ⟨npd, hp4⟩ := none_up hp
  have s45 : Same H4 (upd (upd H4 dd (.dT [])) p (.tup [.ref g, .ref dd])) := Same.trans' (same_new hdd) (same_new hp)
  have S0 : SlS (upd (upd H4 dd (.dT [])) p (.tup [.ref g, .ref dd])) dd (fun _ => none) 0 := ⟨[], up_old hp upd_same, fun _ => rfl, List.nodup_nil, Nat.le_refl _⟩
  have s24 := Same.trans' s23 s34
  have el4 := s24 _ _ el2
  have alV4 : All2 (PactV H4) vs Ds := alV2.mono fun v D h => h.same s24
  have BX4 := BX.same s24
  have onD : ∀ D ∈ Ds, Onn C.tags D := fun D hD => ⟨(W.ok D hD).bm, (W.ok D hD).em⟩
  have f24 : ∀ b o, b ≠ a → H b = some o → H4 b = some o := fun b o n e => s24 _ _ (s12 _ _ (f1.k _ _ n e))
  have tb4 : LamX.Tabs [(Pt, QL)] H4 := tb1.ext fun b o e => s24 _ _ (s12 _ _ e)
  walk_at "go"
  generalize upd (upd H4 dd (.dT [])) p (.tup [.ref g, .ref dd]) = H5 at s45 S0 ⊢
  refine forL alV4 (fun d σ H' => (∃ x5 x6 x7 x8 x10, σ = [some (.ref a), some (.ref cA), some (.ref dl), some (.ref g), some (.ref dd), x5, x6, x7, x8, some (.ref tm), x10]) ∧ Same H4 H' ∧ SlS H' dd (d.foldl (dueRow aw Ds) (fun _ => none)) (4 * d.length))
    ⟨⟨_, _, _, _, _, rfl⟩, s45, S0⟩ (fun d σ H' q => q.2.1 _ _ el4) (fun d D r x σ H' e px hq => ?_) (fun σ H' hq => ?_)
  · obtain ⟨⟨x5, x6, x7, x8, x10, rfl⟩, s4, S4⟩ := hq
    have hD : D ∈ Ds := by rw [e]; simp
    walk_at "go"
    refine forL alV4 (fun d2 σ H' => (∃ x5 x6 x7 x10, σ = [some (.ref a), some (.ref cA), some (.ref dl), some (.ref g), some (.ref dd), x5, x6, x7, some x, some (.ref tm), x10]) ∧ Same H4 H' ∧ SlS H' dd (d2.foldl (dueStep aw D) (d.foldl (dueRow aw Ds) (fun _ => none))) (4 * d.length + d2.length))
      ⟨⟨_, _, _, _, rfl⟩, s4, S4⟩ (fun d σ H' q => q.2.1 _ _ el4) (fun d2 E r2 y σ H6 e2 py hq => ?_) (fun σ H6 hq => ?_)
    · obtain ⟨⟨x5, x6, x7, x10, rfl⟩, s6, S6⟩ := hq
      have hE : E ∈ Ds := by rw [e2]; simp
      obtain ⟨xa, xf, xl, xw, xb, xe, rfl, i0, _⟩ := id px
      obtain ⟨ya, yf, yl, yw, yb, ye, rfl, j0, _⟩ := id py
      unfold pactK at i0 j0
      obtain ⟨D', hD', nD'⟩ := J.par D hD
      obtain ⟨E', hE', nE'⟩ := J.par E hE
      have i1 := s6 _ _ i0
      have j1 := s6 _ _ j0
      simp only [List.foldl_append, List.foldl_cons, List.foldl_nil]
      walk_at "go"
      by_cases z : D.name = E.name
      · have z1 : V.str D.name = V.str E.name := by rw [z]
        walk_at "go"
        refine ⟨tm, ms, C.rules, ds, B, D', E', by rw [nD', nE'], BX4.same s6, G, Fi, hD', hE', fun H7 s7 => ?_⟩
        rw [if_pos (show D'.name = E'.name by rw [nD', nE', z])]
        walk_at "go"
        refine go_reprO (o := none) (fun i z => by cases z) ?_
        walk_at "go"
        refine go_reprO (o := none) (fun i z => by cases z) ?_
        walk_at "go"
        refine ⟨⟨_, _, _, _, rfl⟩, Same.trans' s6 s7, ?_⟩
        rw [show ∀ gg, dueStep aw D gg E = gg from fun gg => if_neg (fun q => q.1 z)]
        exact S6.same s7 (by rw [List.length_append]; omega)
      · have z1 : V.str D.name ≠ V.str E.name := fun e => z (V.str.inj e)
        walk_at "go"
        refine ⟨g, _, _, C.tags, φs, D, E, rfl, W.c.nm, GX.same (SpX.pers C.tags) s6, J.ne, Nat.le_trans GD.len (by decide), px.same s6, py.same s6, onD D hD, onD E hE, fun H7 M s7 hM hmin => ?_⟩
        rw [J.sl2 D hD E hE z M hM hmin]
        have s67 := Same.trans' s6 s7
        have i7 := s7 _ _ i1
        have j7 := s7 _ _ j1
        walk_at "go"
        refine ⟨tm, ms, C.rules, ds, B, D', E', by rw [nD', nE'], BX4.same s67, G, Fi, hD', hE', fun H8 s8 => ?_⟩
        rw [if_neg (show ¬ D'.name = E'.name by rw [nD', nE']; exact z), J.sl1 D' hD' E' hE' (by rw [nD', nE']; exact z), nD', nE']
        have sm := J.sm D.name E.name
        have s48 := Same.trans' s67 s8
        have i8 := s8 _ _ i7
        have j8 := s8 _ _ j7
        have st : ∀ gg : Pair → Option Int, aw D.name E.name = none → dueStep aw D gg E = gg := fun gg e => by
          unfold dueStep
          split
          · rw [e]; rfl
          · rfl
        have st2 : ∀ gg : Pair → Option Int, dueStep aw D gg E = if touchL D E = true then putG gg (D.name, E.name) (aw D.name E.name) else gg := fun gg => by
          unfold dueStep
          by_cases q : touchL D E = true
          · rw [if_pos ⟨z, q⟩, if_pos q]
          · rw [if_neg (fun k => q k.2), if_neg q]
        have hne : (!decide (V.str (reprO (aw D.name E.name)) = V.str (reprO (aw D.name E.name)))) = false := by simp
        walk_at "go"
        refine go_reprO (o := aw D.name E.name) sm ?_
        walk_at "go"
        refine go_reprO (o := aw D.name E.name) sm ?_
        walk_at "go"
        cases ho : aw D.name E.name with
        | none =>
          rw [show optI (none : Option Int) = V.non from rfl]
          walk_at "go"
          refine ⟨⟨_, _, _, _, rfl⟩, s48, ?_⟩
          rw [st _ ho]
          exact S6.same (Same.trans' s7 s8) (by rw [List.length_append]; omega)
        | some i =>
          rw [show optI (some i) = V.int i from rfl]
          walk_at "go"
          refine ⟨_, _, D, E, rfl, px.same s48, py.same s48, okD D hD, okD E hE, fun H9 s9 => ?_⟩
          have s49 := Same.trans' s48 s9
          have i9 := s9 _ _ i8
          have j9 := s9 _ _ j8
          have S9 := S6.same (Same.trans' s7 (Same.trans' s8 s9)) (Nat.le_refl _)
          rw [st2, ho]
          cases ht : touchL D E with
          | false =>
            walk_at "go"
            exact ⟨⟨_, _, _, _, rfl⟩, s49, S9.same (Same.refl' _) (by rw [List.length_append]; omega)⟩
          | true =>
            obtain ⟨m9, e9, hl9, nd9, hz9⟩ := S9
            have dl4 : d.length ≤ 4 := by
              have := congrArg List.length e
              have := W.dl
              simp at *
              omega
            have d24 : d2.length ≤ 4 := by
              have := congrArg List.length e2
              have := W.dl
              simp at *
              omega
            have nz9 : m9.length < sizeLine := szl (by omega)
            walk_at "go"
            intro t ht
            walk_at "go"
            refine ⟨⟨_, _, _, _, rfl⟩, fun x o e => up_ne (ne_of_none e hdd) (same_new ht _ _ (s49 _ _ e)), ?_⟩
            rw [if_pos rfl, List.length_append]
            exact SlS.put (H := upd H9 t (.tup [.str D.name, .str E.name])) (a := dd) hl9 nd9 hz9 (D.name, E.name) i
    · obtain ⟨⟨x5, x6, x7, x10, rfl⟩, s6, S6⟩ := hq
      refine ⟨⟨_, _, _, _, _, rfl⟩, s6, ?_⟩
      rw [List.foldl_append]
      exact S6.same (Same.refl' _) (by rw [List.length_append]; have := W.dl; simp; omega)
  · obtain ⟨⟨x5, x6, x7, x8, x10, rfl⟩, s6, m6, e6, hl6, nd6, hz6⟩ := hq
    have lm6 : m6.length ≤ 100 := Nat.le_trans hz6 (by have := W.dl; omega)
    have okd : ∀ D ∈ Ds, Ok D.name ∧ D.name.length ≤ 6 := fun D hD => ⟨Ok.of_lets (okD D hD).name.2.2.1, (okD D hD).name.2.1⟩
    have slm6 : SlOk (dueG aw Ds) ((srtP (m6.map (·.1))).map fun k => (k, (dueG aw Ds k).getD 0)) := ⟨m6.map (·.1), nd6, fun k => by rw [lookup_mem, hl6]; rfl, rfl⟩
    have pm6 := srtP_perm (m6.map (·.1))
    have nds : (srtP (m6.map (·.1))).Nodup := pm6.nodup_iff.mpr nd6
    have lk6 : ∀ k ∈ srtP (m6.map (·.1)), ∃ i, m6.lookup k = some i ∧ dueG aw Ds k = some i := fun k hk => by
      obtain ⟨i, hi⟩ := Option.isSome_iff_exists.mp (lookup_mem.mp (pm6.mem_iff.mp hk))
      exact ⟨i, hi, (hl6 k).symm.trans hi⟩
    have ls6 : (srtP (m6.map (·.1))).length = m6.length := by rw [pm6.length_eq, List.length_map]
    walk_at "go"
    refine ⟨tm, ms, C.rules, ds, B, rfl, BX4.same s6, G, Fi, fun H7 q m s7 hq eq slm lz => ?_⟩
    have em := SlOk.uniq (slm.congr J.due) slm6
    have sm6 : SmallM m := by
      rw [em]
      refine ⟨by rw [List.length_map, ls6]; exact lm6, fun r hr => ?_⟩
      obtain ⟨k, hk, rfl⟩ := List.mem_map.mp hr
      obtain ⟨i, _, h2⟩ := lk6 k hk
      obtain ⟨D, hD, E, hE, rfl, ha⟩ := dueG_of h2
      refine ⟨okd D hD, okd E hE, ?_⟩
      rw [h2]
      exact J.sm _ _ _ ha
    have e7 := s7 _ _ e6
    walk_at "go"
    refine go_reprD eq sm6 ?_
    walk_at "go"
    refine go_sortedDT e7 (by omega) fun zs L hL al2 => ?_
    have sL := same_new (o := .lst zs) hL
    have e7L := sL _ _ e7
    have al2' : All2 (fun v (c : Pair) => ∃ b, v = V.ref b ∧ upd H7 L (.lst zs) b = some (.tup [.str c.1, .str c.2])) zs (srtP (m6.map (·.1))) := al2.mono fun v c h => by obtain ⟨b, e1, e2⟩ := h; exact ⟨b, e1, sL _ _ e2⟩
    refine lcL upd_same al2' (fun k => some (k, (dueG aw Ds k).getD 0)) PIV PIV.pers (szl (by rw [ls6]; omega)) (fun x k H8 hk ex s8 => ?_) (fun L2 H8 ys hL2 s8 eL2 al3 => ?_)
    · intro Qo Qn ho hn
      obtain ⟨i, h1, h2⟩ := lk6 k hk
      obtain ⟨b, rfl, eb⟩ := ex
      obtain ⟨k1, k2⟩ := k
      have eb8 := s8 _ _ eb
      have e8 := s8 _ _ e7L
      walk_at "go"
      intro t ht
      refine ho _ _ _ rfl (same_new ht) ⟨t, b, rfl, ?_, up_old ht eb8⟩
      rw [h2]
      exact upd_same
    · rw [List.filterMap_eq_map'] at al3
      have al4 : All2 (PIV H8) ys m := by
        rw [em]
        exact al3
      have ndm : (m.map (·.1)).Nodup := by
        rw [em, List.map_map]
        have : ((fun x : Pair × Int => x.1) ∘ fun k => (k, (dueG aw Ds k).getD 0)) = id := rfl
        rw [this, List.map_id]
        exact nds
      walk_at "go"
      refine go_dictPT eL2 al4 ndm lz fun r hr => ?_
      walk_at "go"
      refine go_reprD upd_same sm6 ?_
      have hne : (!decide (V.str (datP m).shown = V.str (datP m).shown)) = false := by simp
      walk_at "go"
      have s49 : Same H4 (upd H8 r (.dT (dP m))) := Same.trans' s6 (Same.trans' s7 (Same.trans' sL (Same.trans' s8 (same_new hr))))
      generalize upd H8 r (.dT (dP m)) = H9 at s49 ⊢
      refine ⟨g, dl, C.tags, φs, Ds, rfl, W.c.nm, GX.same (SpX.pers C.tags) s49, ⟨vs, s49 _ _ el4, alV4.mono fun v D h => h.same s49⟩, fun D hD => ⟨okD D hD, onD D hD⟩, lD, fun H10 v s10 hv => ?_⟩
      rw [J.fo] at hv
      have s410 := Same.trans' s49 s10
      walk_at "go"
      have tb10 : LamX.Tabs [(Pt, QL)] H10 := tb4.ext s410
      have fin : ∀ H', Ext H10 H' → LamX.Tabs [(Pt, QL)] H' → Q (.bl true) H' := fun H' e t => h H' t fun b o n q hn => e _ _ (s410 _ _ (f24 b o n q)) hn
      have el10 := s410 _ _ el4
      cases hO : openP B ds with
      | nil =>
        rw [hO] at hv
        obtain rfl : v = .non := hv
        refine forL alV4 (fun d σ H' => (∃ x8, σ = [some (.ref a), some (.ref cA), some (.ref dl), some (.ref g), some (.ref dd), x5, x6, some .non, x8, some (.ref tm), x10]) ∧ Same H10 H')
          ⟨⟨_, rfl⟩, Same.refl' _⟩ (fun d σ H' q => q.2 _ _ el10) (fun d D r x σ H' e px hq => ?_) (fun σ H' hq => ?_)
        · obtain ⟨⟨x8, rfl⟩, s11⟩ := hq
          have hD : D ∈ Ds := by rw [e]; simp
          obtain ⟨D', hD', nD'⟩ := J.par D hD
          have s411 := Same.trans' s410 s11
          walk_at "go"
          refine ⟨tm, g, dl, x, C.tags, φs, ms, C.rules, ds, B, Ds, D, D', rfl, BX4.same s411, G, Fi, hO, hD', nD', W.c.nm, GX.same (SpX.pers C.tags) s411, ⟨vs, s411 _ _ el4, alV4.mono fun v D h => h.same s411⟩, fun D hD => ⟨okD D hD, onD D hD⟩, lD, px.same s411, okD D hD, onD D hD, fun H12 m2 s12 sl2 => ?_⟩
          rw [J.rm hO D hD m2 sl2]
          walk_at "go"
          exact ⟨⟨_, rfl⟩, Same.trans' s11 s12⟩
        · obtain ⟨⟨x8, rfl⟩, s11⟩ := hq
          walk_at "go"
          exact fin _ (LamX.ExtN.of s11) (tb10.ext s11)
      | cons op rest =>
        rw [hO] at hv
        obtain ⟨vp, rfl, evp⟩ := hv
        have hop1 : op.1 ∈ ds ∧ op.2 ∈ ds := touchP_mem ((List.mem_filter.mp (show op ∈ openP B ds by rw [hO]; simp)).1)
        have ok1 : Ok op.1.name := Ok.of_lets (G.ok _ hop1.1).name.2.2.1
        have ok2 : Ok op.2.name := Ok.of_lets (G.ok _ hop1.2).name.2.2.1
        refine forL alV4 (fun d σ H' => (∃ x8, σ = [some (.ref a), some (.ref cA), some (.ref dl), some (.ref g), some (.ref dd), x5, x6, some (.ref vp), x8, some (.ref tm), x10]) ∧ Ext H10 H' ∧ LamX.Tabs [(Pt, QL)] H')
          ⟨⟨_, rfl⟩, LamX.ExtN.refl _, tb10⟩ (fun d σ H' q => q.2.1.lst el10) (fun d D r x σ H' e px hq => ?_) (fun σ H' hq => ?_)
        · obtain ⟨⟨x8, rfl⟩, s11, tb11⟩ := hq
          have hD : D ∈ Ds := by rw [e]; simp
          obtain ⟨D', hD', nD'⟩ := J.par D hD
          obtain ⟨xa, xf, xl, xw, xb, xe, rfl, i0, _⟩ := id px
          unfold pactK at i0
          walk_at "go"
          refine ⟨tb11, fun H12 s12 tb12 => ?_⟩
          have s1012 : Ext H10 H12 := s11.trans s12
          have i12 := s1012.dk (s410 _ _ i0)
          unfold THeard
          unfold tFS
          walk_at "go"
          refine ⟨tm, ms, C.rules, ds, B, D', op, rest, by rw [nD'], (BX4.same s410).ext s1012, G, Fi, hO, hD', fun xd H13 s13 hxd exd => ⟨rfl, xd, _, _, rfl, exd, fun pp hpp => ?_⟩⟩
          have evp13 := s13 _ _ (s1012.tup evp)
          walk_at "go"
          intro p3 hp3
          have okn : Ok ("not safe" : Str) := by decide +kernel
          have s15 : Same H12 (upd (upd H13 pp (.tup [.str "not safe", .str op.1.name, .str op.2.name])) p3 (.tup [.str "not safe", .str op.1.name, .str op.2.name])) := Same.trans' s13 (Same.trans' (same_new hpp) (same_new hp3))
          refine go_neE (γ := Cell) (S := CellV) encCell (c := ("not safe", op.1.name, op.2.name)) (d := ("not safe", op.1.name, op.2.name)) ⟨pp, rfl, up_old hp3 upd_same, okn, ok1, ok2⟩ ⟨p3, rfl, upd_same, okn, ok1, ok2⟩ ?_
          have hne2 := (show ∀ cc : Cell, (!decide (cc = cc)) = false from fun cc => by simp) ("not safe", op.1.name, op.2.name)
          walk_at "go"
          exact ⟨⟨_, rfl⟩, ext_same s1012 s15, tb12.ext s15⟩
        · obtain ⟨⟨x8, rfl⟩, s11, tb11⟩ := hq
          walk_at "go"
          exact fin _ s11 tb11
end
end Ld
namespace Ld
open PySem PySem.Spec PyProof.Rows L2
/-! ### law -/
section
variable {K : PySem.W.Frag} {g : TG} {σ : St} {H : Hp} {tt : TT} {te : TE} {own : List Nat} {Q : VK}
/-- a comprehension over range(n), with one's own invariant -/
theorem lcRI {n : Nat} {j : Int} (ej : j = (n : Nat)) (hn : n ≤ 1000) (hq : ∀ D, H D = none → ∃ Pv : Nat → Hp → Prop, Pv 0 (upd H D (.lst [])) ∧
    (∀ i H', i < n → Pv i H' → g (.int (0 + (i : Nat))) (wipe σ own) H' fun σ2 H2 => wipe σ2 own = wipe σ own ∧ tt σ2 H2 fun b H3 =>
      if b = true then te σ2 H3 fun y H4 => ∃ acc, H4 D = some (.lst acc) ∧ acc.length < sizeLine ∧ Pv (i + 1) (upd H4 D (.lst (acc ++ [y]))) else Pv (i + 1) H3) ∧ ∀ H', Pv n H' → Q (.ref D) H') : CR1 g tt te own σ Q [.int j] H := by
  refine ⟨j, rfl, by omega, by omega, fun D hD => ?_⟩
  obtain ⟨Pv, h0, hs, hd⟩ := hq D hD
  have jn : j.toNat = n := by omega
  rw [jn]
  refine ⟨fun i m H' => i ≤ n ∧ m = n - i ∧ Pv i H', ⟨_, Nat.zero_le _, rfl, h0⟩, fun i m H' ⟨hi, hm, p⟩ => ?_⟩
  by_cases hz : i = n
  · left
    refine ⟨?_, hd _ (hz ▸ p)⟩
    show n ≤ i
    omega
  · right
    have hi' : i < n := by omega
    refine ⟨hi', fun H2 => Pv (i + 1) H2, fun H2 q => ⟨n - (i + 1), by omega, by omega, rfl, q⟩, fun x H2 y => ?_⟩
    obtain ⟨rfl, rfl⟩ := y
    exact hs i _ hi' p
end
theorem sql_keep {K : PySem.W.Frag} {H H' : Hp} {a : Addr} {xs : List V} (h : SqL K H a xs) (k : ∀ o, H a = some o → (∀ ps, o ≠ .tbl ps) → H' a = some o) : SqL K H' a xs := by
  rcases h with (h | ⟨o, h⟩) | h
  · exact .inl (.inl (k _ h (fun ps z => by cases z)))
  · exact .inl (.inr ⟨o, k _ h (fun ps z => by cases z)⟩)
  · exact .inr h
def s_law : Stmt := top 107
abbrev N_law : List Str := ["_law_script", "_law_k"]
theorem sc_law : FnScope N_law ["_law_script"] (defScope s_law) := C8.fnScope_by (by decide +kernel)

def sp_law (K : PySem.W.Frag) (Pt : Addr) : Sp := fun vs H Q _ => ∃ (s : Addr) (xs : List Int), vs = [.ref s] ∧ SqL K H s (xs.map V.int) ∧ LamX.Tabs [(Pt, QL)] H ∧ ∀ H', Q (.bl true) H'
section
variable {P : Program} {w : World} {K : PySem.W.Frag} {mg : Str → Option Value} {base : Heap}
theorem ok_law {f fr Pt : Addr} {fd fdr : FuncData} (T : Tx K mg) (F : DefAt K "law" "law" s_law f fd) (FR : DefAt K "_law_right" "_law_right" s_law_right fr fdr) (hmr : mg "_law_right" = some (.ref fr)) (GR : FnG P w K mg base 17 fr fdr ["_law_pot_here"] (sp_law_right Pt)) (c_law_pot : Cf P w K mg base 1 "_law_pot" (sp_law_pot K mg)) :
    FnG P w K mg base 18 f fd ["_law_script"] (sp_law K Pt) := by
  obtain ⟨oc, od, dV, kV, doc, pm, an, cdv, ct, osl, rfl, lk, hcd, _, _⟩ := F.ex
  have br : L2.Binds K fdr ["_law_pot_here"] [] := FR.bindsN fun _ _ _ _ _ _ us hl => match us, hl with | [_], _ => rfl
  refine ⟨fun A outer s H args us vs Q E hgd0 hr0 e0 hb rv h => LamX.run_ofS (N := N_law) (ps := ["_law_script"]) lk hcd sc_law hr0 e0 hb rv ?_ fun hr => ?_⟩
  · obtain ⟨a, _, rfl, _⟩ := h; rfl
  have hgd : (A.deeper (envOfC "law" (defScope s_law) s.heap.objs.size f cdv)).guards = some [] := hgd0
  suffices hh : ∃ t, PSs (cxOf C8.CX0 P w K mg base N_law "law" (defScope s_law) f cdv A outer s H E).nox (defBody s_law) t ∧ t { nx := fun _ H' => Q .non H', rt := Q } (L2.start N_law vs) H by
    obtain ⟨t, h1, h2⟩ := hh
    exact ⟨t, h1.nox, h2⟩
  obtain ⟨sa, xs, rfl, hS, tb, h⟩ := h
  refine ⟨_, (pss_one (ps_ret (pe_callB (cr_all rfl) (by rfl) T.f_all (by decide +kernel) (pa_cons (pe_lc (own := [("_law_k", 1)]) rfl sc_law.nd (pi_range1 (by rfl) T.f_range (pa_cons (pe_callB (cr_max2 rfl) (by rfl) T.f_max (by decide +kernel) (pa_cons pe_int (pa_cons (pe_callB (cr_min2 rfl) (by rfl) T.f_min (by decide +kernel) (pa_cons pe_int (pa_cons (pe_callB cr_len (by rfl) T.f_len (by decide +kernel) (pa_cons (pv 0) pa_nil)) pa_nil))) pa_nil))) pa_nil)) (blkOk_by (own := [("_law_k", 1)]) (N := N_law) (sc := defScope s_law) (by decide +kernel)) (fun _ _ _ _ _ => (pg_name (i := 1) sc_law.nd rfl (Or.inl rfl))) (fun _ _ _ _ _ => pts_nil) (fun _ _ _ _ _ => (pe_fG GR hgd hr (by decide) (by rfl) hmr FR.kp br (fun _ _ _ _ ⟨_, e, _⟩ => by rw [e]; rfl) (pa_cons (pe_f c_law_pot hr (by decide) (by rfl) (pa_cons (pv 0) (pa_cons (pv 1) pa_nil))) pa_nil))) ) pa_nil)))), ?_⟩
  walk_at "nk"
  walk_at "go"
  refine ⟨sa, _, rfl, .inl hS, ?_⟩
  walk_at "go"
  generalize (((xs.map V.int).length : Nat) : Int) = z
  have hj : 0 ≤ (if (if z < 3 then z else 3) > 1 then (if z < 3 then z else 3) else 1) ∧ (if (if z < 3 then z else 3) > 1 then (if z < 3 then z else 3) else 1) ≤ 3 := by
    by_cases h1 : z < 3
    · rw [if_pos h1]
      by_cases h2 : z > 1
      · rw [if_pos h2]; omega
      · rw [if_neg h2]; omega
    · rw [if_neg h1, if_pos (by decide)]; omega
  generalize (if (if z < 3 then z else 3) > 1 then (if z < 3 then z else 3) else 1) = j at hj ⊢
  refine lcRI (n := j.toNat) (by omega) (by omega) (fun D hD => ⟨fun i H' => LamX.ExtN H H' ∧ LamX.Tabs [(Pt, QL)] H' ∧ H' D = some (.lst ((List.replicate i true).map V.bl)),
    ⟨LamX.ExtN.of (same_new hD), tb.ext (same_new hD), upd_same⟩, fun i H' hi p => ?_, fun H' p => ?_⟩)
  · obtain ⟨e', t', eD⟩ := p
    have S' : SqL K H' sa (xs.map V.int) := sql_keep hS fun o q n => e' _ _ q n
    refine go_gN ⟨rfl, ?_⟩
    walk_at "go"
    refine ⟨sa, xs, i, by rw [Int.zero_add], S', by omega, fun p x y hp hy0 hy1 => ?_⟩
    walk_at "go"
    refine ⟨p, rfl, ⟨x, y, upd_same, hy0, hy1⟩, t'.ext (same_new hp), fun H2 t2 o2 => ⟨_, o2 D _ (ne_of_none eD hp) (up_old hp eD) (fun ps z => by cases z), by rw [List.length_map, List.length_replicate]; exact szl (by omega), ?_⟩⟩
    refine ⟨fun b o q n => ?_, ?_, ?_⟩
    · have q' := e' _ _ q n
      exact up_ne (ne_of_none q hD) (o2 _ _ (ne_of_none q' hp) (up_old hp q') n)
    · intro r hr
      obtain ⟨ps, a1, a2, a3⟩ := t2 r hr
      have eD2 := o2 D _ (ne_of_none eD hp) (up_old hp eD) (fun ps z => by cases z)
      have nn : ∀ b u, H2 b = some u → (∀ xs, u ≠ .lst xs) → b ≠ D := fun b u q k z => by rw [z, eD2] at q; cases q; exact k _ rfl
      refine ⟨ps, up_ne (nn _ _ a1 (fun xs z => by cases z)) a1, a2, fun pos cv hc => ?_⟩
      obtain ⟨c0, b1, b2⟩ := a3 pos cv hc
      exact ⟨c0, b1, up_ne (nn _ _ b2 (fun xs z => by unfold LamX.CodeO at z; cases z)) b2⟩
    · rw [List.replicate_succ', List.map_append]
      exact upd_same
  · obtain ⟨e', t', eD⟩ := p
    walk_at "go"
    rw [show (List.replicate j.toNat true).all id = true from by rw [List.all_eq_true]; intro b hb; rw [List.eq_of_mem_replicate hb]; rfl]
    exact h _
end
end Ld
namespace Ld
open PySem PySem.Spec PyProof.Rows L2
/-! ### dicts filled by a function of the key -/
def putAll (aw : Str → Str → Option Int) (ks : List Pair) (g : Pair → Option Int) : Pair → Option Int := ks.foldl (fun g k => putG g k (aw k.1 k.2)) g
theorem putAll_at {aw : Str → Str → Option Int} : ∀ (ks : List Pair) (g : Pair → Option Int), (∀ k, g k = none ∨ g k = aw k.1 k.2) → ∀ k, putAll aw ks g k = if k ∈ ks then aw k.1 k.2 else g k
  | [], g, _, k => by simp [putAll]
  | j :: ks, g, h, k => by
    have hp : ∀ k, putG g j (aw j.1 j.2) k = if k = j then (if aw j.1 j.2 = none then g k else aw j.1 j.2) else g k := fun k => by
      cases e : aw j.1 j.2 with
      | none => simp [putG]
      | some i => simp [putG]
    have h' : ∀ k, putG g j (aw j.1 j.2) k = none ∨ putG g j (aw j.1 j.2) k = aw k.1 k.2 := fun k => by
      rw [hp k]
      by_cases z : k = j
      · subst z
        rw [if_pos rfl]
        split
        · exact h k
        · exact .inr rfl
      · rw [if_neg z]; exact h k
    show putAll aw ks (putG g j (aw j.1 j.2)) k = _
    rw [putAll_at ks _ h' k]
    by_cases m : k ∈ ks
    · rw [if_pos m, if_pos (List.mem_cons_of_mem _ m)]
    · rw [if_neg m, hp k]
      by_cases z : k = j
      · subst z
        have hm : k ∈ k :: ks := by simp
        rw [if_pos rfl, if_pos hm]
        split
        · rename_i e
          rcases h k with q | q
          · rw [q, e]
          · exact q
        · rfl
      · rw [if_neg z, if_neg (by simp [z, m])]
theorem putAll0 {aw : Str → Str → Option Int} (ks : List Pair) (k : Pair) : putAll aw ks (fun _ => none) k = if k ∈ ks then aw k.1 k.2 else none := putAll_at ks _ (fun _ => .inl rfl) k
/-- the pairs that touch, of the law -/
def keysL (Ds : List DealD) : List Pair := Ds.flatMap fun D => (Ds.filter fun E => decide (D.name ≠ E.name) && touchL D E).map fun E => (D.name, E.name)
theorem dueRow_put {aw : Str → Str → Option Int} {D : DealD} : ∀ (Es : List DealD) (g : Pair → Option Int), Es.foldl (dueStep aw D) g = putAll aw ((Es.filter fun E => decide (D.name ≠ E.name) && touchL D E).map fun E => (D.name, E.name)) g
  | [], g => rfl
  | E :: Es, g => by
    show Es.foldl (dueStep aw D) (dueStep aw D g E) = _
    rw [dueRow_put Es, List.filter_cons]
    by_cases c : D.name ≠ E.name ∧ touchL D E = true
    · rw [if_pos (by simp [c.1, c.2])]
      unfold dueStep
      rw [if_pos c]
      rfl
    · rw [if_neg (by simpa using c)]
      unfold dueStep
      rw [if_neg c]
theorem putAll_app {aw : Str → Str → Option Int} (a b : List Pair) (g : Pair → Option Int) : putAll aw (a ++ b) g = putAll aw b (putAll aw a g) := List.foldl_append
theorem due_put' {aw : Str → Str → Option Int} {Es : List DealD} : ∀ (Ds : List DealD) (g : Pair → Option Int), Ds.foldl (dueRow aw Es) g = putAll aw (Ds.flatMap fun D => (Es.filter fun E => decide (D.name ≠ E.name) && touchL D E).map fun E => (D.name, E.name)) g
  | [], g => rfl
  | D :: Ds, g => by
    show Ds.foldl (dueRow aw Es) (dueRow aw Es g D) = _
    rw [due_put' Ds, List.flatMap_cons, putAll_app]
    unfold dueRow
    rw [dueRow_put]
theorem due_at {aw : Str → Str → Option Int} {Ds : List DealD} (k : Pair) : dueG aw Ds k = if k ∈ keysL Ds then aw k.1 k.2 else none := by
  unfold dueG
  rw [due_put']
  exact putAll0 _ k
theorem mem_keysL {Ds : List DealD} {k : Pair} : k ∈ keysL Ds ↔ ∃ D ∈ Ds, ∃ E ∈ Ds, D.name ≠ E.name ∧ touchL D E = true ∧ k = (D.name, E.name) := by
  unfold keysL
  simp only [List.mem_flatMap, List.mem_map, List.mem_filter, Bool.and_eq_true, decide_eq_true_eq]
  constructor
  · rintro ⟨D, hD, E, ⟨hE, n, t⟩, rfl⟩
    exact ⟨D, hD, E, hE, n, t, rfl⟩
  · rintro ⟨D, hD, E, hE, n, t, rfl⟩
    exact ⟨D, hD, E, ⟨hE, n, t⟩, rfl⟩
/-- .. of the book -/
def keysB (ts : List (DealD × DealD)) : List Pair := ts.flatMap fun q => [nm2 q, (q.2.name, q.1.name)]
theorem sl_put' {aw : Str → Str → Option Int} {B : Str → Str → Int} : ∀ (ts : List (DealD × DealD)) (g : Pair → Option Int), (∀ q ∈ ts, slB B q.1 q.2 = aw q.1.name q.2.name ∧ slB B q.2 q.1 = aw q.2.name q.1.name) → ts.foldl (slStep B) g = putAll aw (keysB ts) g
  | [], g, _ => rfl
  | q :: ts, g, h => by
    obtain ⟨h1, h2⟩ := h q (by simp)
    show ts.foldl (slStep B) (slStep B g q) = _
    rw [sl_put' ts _ fun p m => h p (List.mem_cons_of_mem _ m)]
    unfold slStep
    rw [h1, h2]
    rfl
theorem mem_touchP {q : DealD × DealD} : ∀ {ds : List DealD}, q ∈ touchP ds → ∃ a b c, ds = a ++ q.1 :: b ++ q.2 :: c ∧ touchD q.1 q.2 = true
  | [], h => by cases h
  | D :: r, h => by
    rcases List.mem_append.mp h with h | h
    · obtain ⟨E, hE, rfl⟩ := List.mem_map.mp h
      obtain ⟨m, t⟩ := List.mem_filter.mp hE
      obtain ⟨b, c, rfl⟩ := List.append_of_mem m
      exact ⟨[], b, c, rfl, t⟩
    · obtain ⟨a, b, c, e, t⟩ := mem_touchP h
      exact ⟨D :: a, b, c, by rw [e]; rfl, t⟩
theorem touchP_of {D E : DealD} : ∀ {ds : List DealD} (a b c : List DealD), ds = a ++ D :: b ++ E :: c → touchD D E = true → (D, E) ∈ touchP ds
  | _, [], b, c, rfl, t => by
    refine List.mem_append_left _ (List.mem_map.mpr ⟨E, List.mem_filter.mpr ⟨by simp, t⟩, rfl⟩)
  | _, F :: a, b, c, rfl, t => List.mem_append_right _ (touchP_of a b c rfl t)
/-- two places of a list -/
theorem two_places {α : Type} {x y : α} (n : x ≠ y) : ∀ {l : List α}, x ∈ l → y ∈ l → (∃ a b c, l = a ++ x :: b ++ y :: c) ∨ ∃ a b c, l = a ++ y :: b ++ x :: c
  | [], h, _ => by cases h
  | z :: l, hx, hy => by
    rcases List.mem_cons.mp hx with e1 | h1
    · rcases List.mem_cons.mp hy with e2 | h2
      · exact (n (e1.trans e2.symm)).elim
      · obtain ⟨b, c, rfl⟩ := List.append_of_mem h2
        exact .inl ⟨[], b, c, by rw [e1]; rfl⟩
    · rcases List.mem_cons.mp hy with e2 | h2
      · obtain ⟨b, c, rfl⟩ := List.append_of_mem h1
        exact .inr ⟨[], b, c, by rw [e2]; rfl⟩
      · rcases two_places n h1 h2 with ⟨a, b, c, rfl⟩ | ⟨a, b, c, rfl⟩
        · exact .inl ⟨z :: a, b, c, rfl⟩
        · exact .inr ⟨z :: a, b, c, rfl⟩
theorem mem_meetD {D E : DealD} {c : Cell} : c ∈ meetD D E ↔ c ∈ cellsD D ∧ c ∈ cellsD E := by
  unfold meetD
  rw [List.mem_filter]
  simp
theorem touchD_iff {D E : DealD} : touchD D E = true ↔ (∃ c, c ∈ cellsD D ∧ c ∈ cellsD E) ∧ (D.alone = true ∨ E.alone = true) := by
  unfold touchD
  rw [Bool.and_eq_true, Bool.or_eq_true, Bool.not_eq_true', decide_eq_false_iff_not]
  constructor
  · rintro ⟨h, k⟩
    obtain ⟨c, hc⟩ := List.exists_mem_of_ne_nil _ h
    exact ⟨⟨c, mem_meetD.mp hc⟩, k⟩
  · rintro ⟨⟨c, hc⟩, k⟩
    exact ⟨fun z => (by have := mem_meetD.mpr hc; rw [z] at this; cases this), k⟩
theorem touchL_iff {D E : DealD} : touchL D E = true ↔ (∃ c, c ∈ cellsD D ∧ c ∈ cellsD E) ∧ (D.alone = true ∨ E.alone = true) := by
  unfold touchL
  rw [Bool.and_eq_true, Bool.or_eq_true, List.any_eq_true]
  constructor
  · rintro ⟨k, c, h1, h2⟩
    exact ⟨⟨c, h1, of_decide_eq_true h2⟩, k⟩
  · rintro ⟨⟨c, h1, h2⟩, k⟩
    exact ⟨k, c, h1, decide_eq_true h2⟩
theorem touchL_sym {D E : DealD} (h : touchL D E = true) : touchL E D = true := by
  rw [touchL_iff] at h ⊢
  obtain ⟨⟨c, a, b⟩, k⟩ := h
  exact ⟨⟨c, b, a⟩, k.symm⟩
theorem SortOf.cells {D E : DealD} (s : SortOf D E) {c : Cell} : c ∈ cellsD E ↔ c ∈ cellsD D := by
  rw [mem_cellsD, mem_cellsD]
  unfold InC
  rw [s.films.mem_iff, s.lands.mem_iff, s.ways.mem_iff]
theorem touch_eq {D E D' E' : DealD} (s : SortOf D D') (t : SortOf E E') : touchD D' E' = touchL D E := by
  rw [Bool.eq_iff_iff, touchD_iff, touchL_iff, s.alone, t.alone]
  refine and_congr_left fun _ => ?_
  constructor
  · rintro ⟨c, a, b⟩
    exact ⟨c, s.cells.mp a, t.cells.mp b⟩
  · rintro ⟨c, a, b⟩
    exact ⟨c, s.cells.mpr a, t.cells.mpr b⟩
theorem gap_eq {B : Str → Str → Int} {D E D' E' : DealD} (s : SortOf D D') (t : SortOf E E') : gapB B D' E' = gapB B D E := by
  unfold gapB
  rw [s.em, s.en, t.bm, t.bn]
theorem sl_eq {B : Str → Str → Int} {D E D' E' : DealD} (s : SortOf D D') (t : SortOf E E') : slB B D' E' = slB B D E := by
  unfold slB
  rw [gap_eq s t]
end Ld
namespace Ld
open PySem PySem.Spec PyProof.Rows L2
/-! ### the two clause lists; the order of the deals -/
theorem all2_perm {α β : Type} {R : α → β → Prop} {xs xs' : List α} (p : xs.Perm xs') : ∀ {ys : List β}, All2 R xs ys → ∃ ys', ys'.Perm ys ∧ All2 R xs' ys' := by
  induction p with
  | nil => intro ys h; exact ⟨ys, .refl _, h⟩
  | cons x _ ih =>
    intro ys h
    cases h with
    | cons h t =>
      obtain ⟨zs, p, a⟩ := ih t
      exact ⟨_, p.cons _, .cons h a⟩
  | swap x y l =>
    intro ys h
    cases h with
    | cons h t =>
      cases t with
      | cons h2 t => exact ⟨_, .swap _ _ _, .cons h2 (.cons h t)⟩
  | trans _ _ ih1 ih2 =>
    intro ys h
    obtain ⟨zs, p, a⟩ := ih1 h
    obtain ⟨us, q, b⟩ := ih2 a
    exact ⟨us, q.trans p, b⟩
theorem eq_of_keys {α β : Type} {f : α → β} {xs ys : List α} (p : xs.Perm ys) (e : xs.map f = ys.map f) (nd : (xs.map f).Nodup) : xs = ys := by
  apply List.ext_getElem p.length_eq
  intro i h1 h2
  have m : xs[i] ∈ ys := p.mem_iff.mp (List.getElem_mem h1)
  obtain ⟨j, hj, ej⟩ := List.mem_iff_getElem.mp m
  have k1 : (xs.map f)[i]'(by simpa using h1) = f xs[i] := by simp
  have hj' : j < (xs.map f).length := by rw [e]; simpa using hj
  have k2 : (xs.map f)[j] = f xs[i] := by
    have : (xs.map f)[j] = (ys.map f)[j]'(by simpa using hj) := by simp [e]
    rw [this, List.getElem_map, ej]
  have := (List.getElem_inj nd).mp (k1.trans k2.symm)
  subst this
  exact ej.symm
theorem leT'_iff {D E : DealD} : leT' D E = true ↔ leT D.name E.name := by
  have e : leT' D E = !PySem.W.dataLt (.str E.name) (.str D.name) := rfl
  rw [e, PySem.W.dataLt_str, Bool.not_eq_true', decide_eq_false_iff_not]
  exact List.not_lt
theorem leT_total (x y : Str) : leT x y ∨ leT y x := List.le_total _ _
theorem sorted_names (Ds : List DealD) : ((Ds.mergeSort leT').map (·.name)).Pairwise leT := by
  rw [List.pairwise_map]
  have tr : ∀ a b c : DealD, leT' a b = true → leT' b c = true → leT' a c = true := fun a b c h1 h2 => leT'_iff.mpr (leT_trans (leT'_iff.mp h1) (leT'_iff.mp h2))
  have to : ∀ a b : DealD, (leT' a b || leT' b a) = true := fun a b => by
    rw [Bool.or_eq_true, leT'_iff, leT'_iff]
    exact leT_total _ _
  exact (List.pairwise_mergeSort tr to Ds).imp fun {a b} h => leT'_iff.mp h
theorem All2.names {xs ys : List DealD} (h : All2 SortOf xs ys) : ys.map (·.name) = xs.map (·.name) := by
  induction h with
  | nil => rfl
  | cons h _ ih => rw [List.map_cons, List.map_cons, ih, h.name]
theorem book_order {Ds ds0 ds : List DealD} (nd : (Ds.map (·.name)).Nodup) (so : All2 SortOf Ds ds0) (pd : ds.Perm ds0) (sd : sortedS (ds.map (·.name)) = true) : All2 SortOf (Ds.mergeSort leT') ds := by
  have pS : (Ds.mergeSort leT').Perm Ds := List.mergeSort_perm Ds leT'
  obtain ⟨ds1, p1, a1⟩ := all2_perm pS.symm so
  have p : ds.Perm ds1 := pd.trans p1.symm
  have e : ds.map (·.name) = ds1.map (·.name) := pw_unique (p.map _) (sorted_pw sd) (by rw [a1.names]; exact sorted_names Ds)
  have nd2 : (ds.map (·.name)).Nodup := by
    rw [e, a1.names]
    exact (pS.map _).nodup_iff.mpr nd
  rw [eq_of_keys p e nd2]
  exact a1
/-- a deal as the book's clauses know it -/
structure PtOk (C : ChartD) (D : DealD) : Prop where
  bm : D.bm ∈ C.tags ++ [dayS]
  em : D.em ∈ C.tags ++ [dayS]
  ph : phi C.φ D.bm + D.bn ≤ phi C.φ D.em + D.en
theorem PtOk.sort {C : ChartD} {D E : DealD} (h : PtOk C D) (s : SortOf D E) : PtOk C E := ⟨s.bm ▸ h.bm, s.em ▸ h.em, by rw [s.bm, s.bn, s.em, s.en]; exact h.ph⟩
theorem All2.left {α β : Type} {R : α → β → Prop} {xs : List α} {ys : List β} (h : All2 R xs ys) : ∀ x ∈ xs, ∃ y ∈ ys, R x y := by
  induction h with
  | nil => intro x m; cases m
  | cons h _ ih =>
    intro x m
    rcases List.mem_cons.mp m with rfl | m
    · exact ⟨_, by simp, h⟩
    · obtain ⟨y, hy, r⟩ := ih x m
      exact ⟨y, List.mem_cons_of_mem _ hy, r⟩
theorem All2.right {α β : Type} {R : α → β → Prop} {xs : List α} {ys : List β} (h : All2 R xs ys) : ∀ y ∈ ys, ∃ x ∈ xs, R x y := by
  induction h with
  | nil => intro x m; cases m
  | cons h _ ih =>
    intro x m
    rcases List.mem_cons.mp m with rfl | m
    · exact ⟨_, by simp, h⟩
    · obtain ⟨y, hy, r⟩ := ih x m
      exact ⟨y, List.mem_cons_of_mem _ hy, r⟩
section
variable {C : ChartD} {Ds : List DealD}
theorem WinOk.pt (W : WinOk C Ds) : ∀ D ∈ Ds, PtOk C D := fun D h => ⟨(W.ok D h).bm, (W.ok D h).em, (W.ok D h).ph⟩
theorem cl_all {w : Int} (O : ChartOk C w) {ds : List DealD} (h : ∀ D ∈ ds, PtOk C D) : ∀ c ∈ allC C.rules ds, c.1 ∈ C.tags ++ [dayS] ∧ c.2.1 ∈ C.tags ++ [dayS] ∧ c.1 ≠ c.2.1 ∧ phi C.φ c.1 ≤ phi C.φ c.2.1 + c.2.2 := by
  intro c m
  rcases (mem_allC ds C.rules).mp m with m | ⟨D, hD, n, rfl⟩
  · exact O.cl c m
  · have := (h D hD).ph
    exact ⟨(h D hD).bm, (h D hD).em, n, by show phi C.φ D.bm ≤ phi C.φ D.em + (D.en - D.bn); omega⟩
theorem good_all (W : WinOk C Ds) {ds : List DealD} (h : ∀ D ∈ ds, PtOk C D) (hl : ds.length ≤ 4) : Good C.tags (allC C.rules ds) :=
  ⟨W.c.nm, W.c.nd, Nat.le_trans W.c.hi (by decide), fun c m => let q := cl_all W.c h c m; ⟨q.1, q.2.1, q.2.2.1⟩, allC_nodup ds _ W.c.cn, Nat.le_trans (allC_len C.rules ds) (by have := W.rl; omega)⟩
theorem tied_all (W : WinOk C Ds) {ds : List DealD} (h : ∀ D ∈ ds, PtOk C D) : Tied C.tags (7 : Nat) (allC C.rules ds) :=
  ⟨fun c m => let q := cl_all W.c h c m; ⟨q.1, q.2.1⟩, fun t ht => (mem_allC ds _).mpr (.inl (W.lo t ht)), fun t ht => (mem_allC ds _).mpr (.inl (W.hi t ht))⟩
theorem date_all (W : WinOk C Ds) {ds : List DealD} (h : ∀ D ∈ ds, PtOk C D) : IsDate (allC C.rules ds) (phi C.φ) :=
  ⟨by unfold phi; rw [if_pos rfl], fun c m => (cl_all W.c h c m).2.2.2⟩
theorem fin_all (W : WinOk C Ds) {ds : List DealD} (h : ∀ D ∈ ds, PtOk C D) (hl : ds.length ≤ 4) : Fin C.tags (allC C.rules ds) (bB (allC C.rules ds)) := fin_of (tied_all W h) (good_all W h hl) (by decide) (date_all W h)
theorem Good.perm {ms tags : List Str} {cs : List Clause} (g : Good tags cs) (p : ms.Perm tags) : Good ms cs := by
  have mm : ∀ s, s ∈ ms ++ [dayS] ↔ s ∈ tags ++ [dayS] := fun s => by rw [List.mem_append, List.mem_append, p.mem_iff]
  exact ⟨fun s h => g.nm s (p.mem_iff.mp h), p.nodup_iff.mpr g.nd, by rw [p.length_eq]; exact g.len, fun c hc => let q := g.cl c hc; ⟨(mm _).mpr q.1, (mm _).mpr q.2.1, q.2.2⟩, g.cn, g.cz⟩
theorem deals_ok (W : WinOk C Ds) {ms : List Str} {ds0 : List DealD} (p : ms.Perm C.tags) (so : All2 SortOf Ds ds0) : DealsOk ms ds0 := by
  have mm : ∀ s, s ∈ ms ++ [dayS] ↔ s ∈ C.tags ++ [dayS] := fun s => by rw [List.mem_append, List.mem_append, p.mem_iff]
  refine ⟨fun E hE => ?_, by rw [so.names]; exact W.nd, fun E hE => ?_, by rw [← so.len]; exact Nat.le_trans W.dl (by decide)⟩
  · obtain ⟨D, hD, s⟩ := so.right E hE
    exact s.ok (W.ok D hD).ok
  · obtain ⟨D, hD, s⟩ := so.right E hE
    have q := (W.pt D hD).sort s
    exact ⟨(mm _).mpr q.bm, (mm _).mpr q.em⟩
theorem pt_sort (W : WinOk C Ds) {ds0 : List DealD} (so : All2 SortOf Ds ds0) : ∀ E ∈ ds0, PtOk C E := fun E hE => by
  obtain ⟨D, hD, s⟩ := so.right E hE
  exact (W.pt D hD).sort s
end
theorem preP : PreP := fun C Ds W => by
  refine ⟨good_all W (ds := []) (fun D h => by cases h) (by simp), fun ms ds0 p so => ⟨(good_all W (ds := []) (fun D h => by cases h) (by simp)).perm p, deals_ok W p so, fun ds pd => ?_⟩⟩
  have h : ∀ D ∈ ds, PtOk C D := fun D hD => pt_sort W so D (pd.mem_iff.mp hD)
  have hl : ds.length ≤ 4 := by rw [pd.length_eq, ← so.len]; exact W.dl
  exact ⟨(good_all W h hl).perm p, ((fin_all W h hl).perm p).nr⟩
theorem preC : PreC := fun C Ds W => by
  have pS : (Ds.mergeSort leT').Perm Ds := List.mergeSort_perm Ds leT'
  have h : ∀ D ∈ Ds.mergeSort leT', PtOk C D := fun D hD => W.pt D (pS.mem_iff.mp hD)
  refine ⟨fun c m => let q := cl_all W.c h c m; ⟨q.1, q.2.1⟩, ?_⟩
  have := allC_len C.rules (Ds.mergeSort leT')
  have := W.rl
  have := W.dl
  have := pS.length_eq
  omega
theorem GoodDates.congr {tags : List Str} {n : Nat} {cs cs' : List Clause} {φs : List (Str → Int)} (G : GoodDates tags n cs φs) (h : ∀ c, c ∈ cs ↔ c ∈ cs') : GoodDates tags n cs' φs := by
  have e : ∀ φ, keepB cs φ = keepB cs' φ := fun φ => by
    rw [Bool.eq_iff_iff, keepB_iff, keepB_iff]
    exact ⟨fun k c m => k c ((h c).mpr m), fun k c m => k c ((h c).mp m)⟩
  exact ⟨G.len, G.rng, fun φ m => by rw [← e]; exact G.keep φ m, fun d r k => G.all d r (by rw [e]; exact k)⟩
theorem same_clauses {Ds ds : List DealD} {cs : List Clause} (so : All2 SortOf Ds ds) (c : Clause) : c ∈ allC cs Ds ↔ c ∈ allC cs ds := by
  have cl : ∀ {D E : DealD}, SortOf D E → clauseD E = clauseD D := fun s => by unfold clauseD; rw [s.bm, s.em, s.bn, s.en]
  rw [mem_allC, mem_allC]
  refine or_congr_right ?_
  constructor
  · rintro ⟨D, hD, n, rfl⟩
    obtain ⟨E, hE, s⟩ := so.left D hD
    exact ⟨E, hE, by rw [s.bm, s.em]; exact n, (cl s).symm⟩
  · rintro ⟨E, hE, n, rfl⟩
    obtain ⟨D, hD, s⟩ := so.right E hE
    exact ⟨D, hD, by rw [← s.bm, ← s.em]; exact n, cl s⟩
end Ld
namespace Ld
open PySem PySem.Spec PyProof.Rows L2
/-! ### the whole of what the walk asks -/
theorem inj_of_nd {α β : Type} {f : α → β} {xs : List α} (nd : (xs.map f).Nodup) {a b : α} (ha : a ∈ xs) (hb : b ∈ xs) (e : f a = f b) : a = b := by
  obtain ⟨i, hi, rfl⟩ := List.mem_iff_getElem.mp ha
  obtain ⟨j, hj, rfl⟩ := List.mem_iff_getElem.mp hb
  have h1 : i < (xs.map f).length := by simpa using hi
  have h2 : j < (xs.map f).length := by simpa using hj
  have : (xs.map f)[i] = (xs.map f)[j] := by simpa using e
  have := (List.getElem_inj nd).mp this
  subst this
  rfl
theorem find_name {ds : List DealD} (nd : (ds.map (·.name)).Nodup) {D : DealD} (h : D ∈ ds) : (ds.find? fun E => decide (E.name = D.name)) = some D := by
  cases e : ds.find? fun E => decide (E.name = D.name) with
  | none =>
    have := List.find?_eq_none.mp e D h
    simp at this
  | some E =>
    have h1 := List.mem_of_find?_eq_some e
    have h2 : E.name = D.name := by simpa using List.find?_some e
    rw [inj_of_nd nd h1 h h2]
def awB (B : Str → Str → Int) (ds : List DealD) (x y : Str) : Option Int := match ds.find? (fun E => decide (E.name = x)), ds.find? (fun E => decide (E.name = y)) with
  | some D, some E => slB B D E
  | _, _ => none
theorem awB_of {B : Str → Str → Int} {ds : List DealD} (nd : (ds.map (·.name)).Nodup) {D E : DealD} (hD : D ∈ ds) (hE : E ∈ ds) : awB B ds D.name E.name = slB B D E := by
  unfold awB
  rw [find_name nd hD, find_name nd hE]
theorem awB_some {B : Str → Str → Int} {ds : List DealD} {x y : Str} {i : Int} (h : awB B ds x y = some i) : ∃ D ∈ ds, ∃ E ∈ ds, slB B D E = some i := by
  unfold awB at h
  cases e1 : ds.find? (fun E => decide (E.name = x)) with
  | none => rw [e1] at h; cases h
  | some D =>
    cases e2 : ds.find? (fun E => decide (E.name = y)) with
    | none => rw [e1, e2] at h; cases h
    | some E =>
      rw [e1, e2] at h
      exact ⟨D, List.mem_of_find?_eq_some e1, E, List.mem_of_find?_eq_some e2, h⟩
theorem sl_some {B : Str → Str → Int} {D E : DealD} {v : Int} : slB B D E = some v ↔ gapB B D E ≤ -1 ∧ v = -gapB B D E - 1 := by
  unfold slB
  by_cases h : gapB B D E ≥ 0
  · rw [if_pos h]
    exact ⟨fun z => (by cases z), fun z => absurd z.1 (by omega)⟩
  · rw [if_neg h]
    constructor
    · intro z
      cases z
      exact ⟨by omega, rfl⟩
    · rintro ⟨_, rfl⟩
      rfl
theorem minO_none {xs : List Int} (h : minO xs = none) : xs = [] := by
  cases xs with
  | nil => rfl
  | cons x xs => cases h
theorem foldl_min_mem : ∀ (ns : List Int) (n : Int), ns.foldl min n = n ∨ ns.foldl min n ∈ ns
  | [], n => .inl rfl
  | m :: ns, n => by
    show ns.foldl min (min n m) = n ∨ _
    rcases foldl_min_mem ns (min n m) with h | h
    · rw [h]
      by_cases c : n ≤ m
      · exact .inl (by omega)
      · right
        rw [show min n m = m by omega] at *
        rw [List.foldl_cons, show min n m = m by omega, h]
        simp
    · exact .inr (List.mem_cons_of_mem _ h)
theorem minO_some {xs : List Int} {e : Int} (h : minO xs = some e) : e ∈ xs ∧ ∀ x ∈ xs, e ≤ x := by
  cases xs with
  | nil => cases h
  | cons n ns =>
    have h : ns.foldl min n = e := Option.some.inj h
    obtain ⟨a, b⟩ := min_le_all ns n
    subst h
    refine ⟨?_, fun x m => ?_⟩
    · rcases foldl_min_mem ns n with q | q
      · rw [q]; simp
      · exact List.mem_cons_of_mem _ q
    · rcases List.mem_cons.mp m with rfl | m
      · exact a
      · exact b x m
theorem lookup_map (g : Pair → Int) : ∀ (ks : List Pair) (k : Pair), k ∈ ks → (ks.map fun k => (k, g k)).lookup k = some (g k)
  | j :: ks, k, m => by
    rw [List.map_cons, List.lookup_cons]
    by_cases e : k = j
    · subst e
      simp
    · rw [beq_eq_false_iff_ne.mpr e]
      exact lookup_map g ks k (by rcases List.mem_cons.mp m with z | z; exact (e z).elim; exact z)
/-- the values of a dict's keys that are picked out -/
theorem sl_values {g : Pair → Option Int} {m : List (Pair × Int)} (h : SlOk g m) (p : Pair → Prop) [DecidablePred p] {v : Int} : v ∈ ((m.map (·.1)).filterMap fun c => if p c then m.lookup c else none) ↔ ∃ c, p c ∧ g c = some v := by
  obtain ⟨ks, nd, hk, rfl⟩ := h
  have e1 : ((srtP ks).map fun k => (k, (g k).getD 0)).map (·.1) = srtP ks := by
    rw [List.map_map]
    have : ((fun x : Pair × Int => x.1) ∘ fun k => (k, (g k).getD 0)) = id := rfl
    rw [this, List.map_id]
  rw [e1, List.mem_filterMap]
  have pm := srtP_perm ks
  constructor
  · rintro ⟨c, m, q⟩
    split at q
    · rename_i hp
      rw [lookup_map (fun k => (g k).getD 0) _ _ m] at q
      obtain ⟨i, hi⟩ := Option.isSome_iff_exists.mp ((hk c).mp (pm.mem_iff.mp m))
      rw [hi] at q
      exact ⟨c, hp, hi.trans q⟩
    · cases q
  · rintro ⟨c, hp, hc⟩
    have m : c ∈ srtP ks := pm.mem_iff.mpr ((hk c).mpr (by rw [hc]; rfl))
    refine ⟨c, m, ?_⟩
    rw [if_pos hp, lookup_map (fun k => (g k).getD 0) _ _ m, hc]
    rfl
/-- the first open pair -/
theorem firstIn_eq {φs : List (Str → Int)} {B : Str → Str → Int} {D D' : DealD} (s : SortOf D D') {r r' : List DealD} (h : All2 SortOf r r') (ho : ∀ E ∈ r, meetB0 φs D E = !decide (apart B D E)) :
    firstIn φs D r = (((r'.filter fun E => touchD D' E).map fun E => (D', E)).filter fun q => !decide (apart B q.1 q.2)).head?.map nm2 := by
  induction h with
  | nil => rfl
  | @cons E E' r r' t _ ih =>
    have ih := ih fun F m => ho F (List.mem_cons_of_mem _ m)
    have ap : apart B D' E' ↔ apart B D E := by unfold apart; rw [gap_eq s t, gap_eq t s]
    have hE := ho E (by simp)
    unfold firstIn at ih ⊢
    rw [List.find?_cons, List.filter_cons]
    unfold openL at ih ⊢
    rw [hE, touch_eq s t]
    cases ht : touchL D E with
    | false => simpa using ih
    | true =>
      rw [if_pos rfl, List.map_cons, List.filter_cons]
      by_cases hp : apart B D E
      · have : decide (apart B D' E') = true := decide_eq_true (ap.mpr hp)
        simp only [this, decide_eq_true hp]
        simpa using ih
      · have : decide (apart B D' E') = false := decide_eq_false fun z => hp (ap.mp z)
        simp only [this, decide_eq_false hp]
        simp [nm2, s.name, t.name]
theorem firstO_eq {φs : List (Str → Int)} {B : Str → Str → Int} {S ds : List DealD} (h : All2 SortOf S ds) : (∀ D ∈ S, ∀ E ∈ S, meetB0 φs D E = !decide (apart B D E)) → firstO φs S = (openP B ds).head?.map nm2 := by
  induction h with
  | nil => intro _; rfl
  | @cons D D' r r' s t ih =>
    intro ho
    have ih := ih fun E h1 F h2 => ho E (List.mem_cons_of_mem _ h1) F (List.mem_cons_of_mem _ h2)
    show (firstIn φs D r).or (firstO φs r) = _
    unfold openP touchP
    rw [List.filter_append, List.head?_append, ih, firstIn_eq s t fun E m => ho D (by simp) E (List.mem_cons_of_mem _ m)]
    unfold openP
    cases (((r'.filter fun E => touchD D' E).map fun E => (D', E)).filter fun q => !decide (apart B q.1 q.2)).head? <;> rfl
theorem joinP : JoinP := fun C Ds ms ds0 ds φs W pm sm so pd sd GD => by
  have pS : (Ds.mergeSort leT').Perm Ds := List.mergeSort_perm Ds leT'
  have AS : All2 SortOf (Ds.mergeSort leT') ds := book_order W.nd so pd sd
  have par : ∀ D ∈ Ds, ∃ E ∈ ds, SortOf D E := fun D hD => AS.left D (pS.mem_iff.mpr hD)
  have rpar : ∀ E ∈ ds, ∃ D ∈ Ds, SortOf D E := fun E hE => by
    obtain ⟨D, hD, s⟩ := AS.right E hE
    exact ⟨D, pS.mem_iff.mp hD, s⟩
  have hd : ∀ D ∈ ds, PtOk C D := fun D hD => pt_sort W so D (pd.mem_iff.mp hD)
  have hl : ds.length ≤ 4 := by rw [pd.length_eq, ← so.len]; exact W.dl
  have T := tied_all W hd
  have F := fin_all W hd hl
  have X := (bmax T (date_all W hd).2).1
  have G := GD.congr fun c => same_clauses (cs := C.rules) AS c
  have mem : ∀ D ∈ Ds, D.bm ≠ D.em → clauseD D ∈ allC C.rules ds := fun D hD n => (same_clauses AS _).mp ((mem_allC _ _).mpr (.inr ⟨D, pS.mem_iff.mpr hD, n, rfl⟩))
  obtain ⟨cs, ecs⟩ : ∃ cs, cs = allC C.rules ds := ⟨_, rfl⟩
  rw [← ecs] at T F X G mem
  generalize bB cs = B at F X
  have D0 := deals_ok W pm so
  have DK : DealsOk ms ds := ⟨fun D h => D0.ok D (pd.mem_iff.mp h), (pd.map _).nodup_iff.mpr D0.nd, fun D h => D0.mo D (pd.mem_iff.mp h), by rw [pd.length_eq]; exact D0.len⟩
  have oD : ∀ D ∈ Ds, Onn C.tags D := fun D hD => ⟨(W.ok D hD).bm, (W.ok D hD).em⟩
  have wD : ∀ D ∈ Ds, ∀ d, Keeps cs d → d D.bm + D.bn ≤ d D.em + D.en := fun D hD d k => by
    by_cases n : D.bm = D.em
    · have := (W.ok D hD).ok.own n
      rw [n]
      omega
    · have : d D.bm ≤ d D.em + (D.en - D.bn) := k _ (mem D hD n)
      omega
  have awL : ∀ D ∈ Ds, ∀ E ∈ Ds, awB B ds D.name E.name = slB B D E := fun D hD E hE => by
    obtain ⟨D', hD', s⟩ := par D hD
    obtain ⟨E', hE', t⟩ := par E hE
    rw [← s.name, ← t.name, awB_of DK.nd hD' hE', sl_eq s t]
  have ap : ∀ D ∈ Ds, ∀ E ∈ Ds, meetB0 φs D E = !decide (apart B D E) := fun D hD E hE => by
    have := meet_iff T G X (oD D hD) (oD E hE) (wD D hD) (wD E hE)
    rw [Bool.eq_iff_iff]
    rw [show (meetB0 φs D E = true) = ((φs.any fun φ => decide (begE φ D - 0 ≤ endE φ E) && decide (begE φ E ≤ endE φ D + 0)) = true) from rfl, this]
    simp
  have ndS := DK.nd
  have inj : ∀ D ∈ Ds, ∀ E ∈ Ds, D.name = E.name → D = E := fun D hD E hE e => inj_of_nd W.nd hD hE e
  have bnd : ∀ x ∈ C.tags ++ [dayS], ∀ y ∈ C.tags ++ [dayS], -7 ≤ B x y ∧ B x y ≤ 7 := fun x hx y hy => by
    obtain ⟨d, hd, e⟩ := X.at' x hx y hy
    have b : ∀ k ∈ C.tags ++ [dayS], 0 ≤ d k ∧ d k ≤ 7 := fun k hk => by
      rcases List.mem_append.mp hk with z | z
      · have h1 : d dayS ≤ d k + 0 := hd.2 _ (T.lo k z)
        have h2 : d k ≤ d dayS + ((7 : Nat) : Int) := hd.2 _ (T.hi k z)
        have h3 := hd.1
        omega
      · rw [List.mem_singleton] at z
        rw [z, hd.1]
        omega
    have := b x hx
    have := b y hy
    omega
  have keys : ∀ k, k ∈ keysB (touchP ds) ↔ k ∈ keysL Ds := fun k => by
    rw [mem_keysL]
    unfold keysB
    rw [List.mem_flatMap]
    constructor
    · rintro ⟨q, hq, m⟩
      obtain ⟨a, b, c, e, ht⟩ := mem_touchP hq
      have n : q.1.name ≠ q.2.name := fun z => by
        have nd := DK.nd
        rw [e] at nd
        simp only [List.map_append, List.map_cons, List.append_assoc, List.cons_append] at nd
        have nd := (List.nodup_append.mp nd).2.1
        rw [List.nodup_cons] at nd
        exact nd.1 (by simp [z])
      obtain ⟨m1, m2⟩ := touchP_mem hq
      obtain ⟨D, hD, s⟩ := rpar _ m1
      obtain ⟨E, hE, t⟩ := rpar _ m2
      rw [touch_eq s t] at ht
      rw [s.name, t.name] at n
      rcases List.mem_cons.mp m with rfl | m
      · exact ⟨D, hD, E, hE, n, ht, by unfold nm2; rw [s.name, t.name]⟩
      · rw [List.mem_singleton] at m
        exact ⟨E, hE, D, hD, fun z => n z.symm, touchL_sym ht, by rw [m, s.name, t.name]⟩
    · rintro ⟨D, hD, E, hE, n, ht, rfl⟩
      obtain ⟨D', hD', s⟩ := par D hD
      obtain ⟨E', hE', t⟩ := par E hE
      have n' : D' ≠ E' := fun z => n (by rw [← s.name, ← t.name, z])
      rcases two_places n' hD' hE' with ⟨a, b, c, e⟩ | ⟨a, b, c, e⟩
      · exact ⟨(D', E'), touchP_of a b c e (by rw [touch_eq s t]; exact ht), by simp [nm2, s.name, t.name]⟩
      · exact ⟨(E', D'), touchP_of a b c e (by rw [touch_eq t s]; exact touchL_sym ht), by simp [nm2, s.name, t.name]⟩
  have due : ∀ k, slG B ds k = dueG (awB B ds) Ds k := fun k => by
    unfold slG
    rw [sl_put' (aw := awB B ds) _ _ fun q hq => ⟨(awB_of DK.nd (touchP_mem hq).1 (touchP_mem hq).2).symm, (awB_of DK.nd (touchP_mem hq).2 (touchP_mem hq).1).symm⟩, putAll0, due_at]
    simp only [keys k]
  refine ⟨B, awB B ds, DK, (by rw [← ecs]; exact F.perm pm), ?_, fun D hD => ?_, fun D hD E hE _ => (awB_of DK.nd hD hE).symm, fun D hD E hE _ M hM hmin => ?_, fun x y i h => ?_, due, firstO_eq AS fun D hD E hE => ap D (pS.mem_iff.mp hD) E (pS.mem_iff.mp hE), fun hop D hD m sl => ?_⟩
  · intro z
    obtain ⟨d, hd, _⟩ := X.at' dayS (by simp) dayS (by simp)
    obtain ⟨φ, hφ, _⟩ := date_good T G hd
    rw [z] at hφ
    cases hφ
  · obtain ⟨E, hE, s⟩ := par D hD
    exact ⟨E, hE, s.name⟩
  · rw [awL D hD E hE]
    exact least_slack T G X (oD D hD) (oD E hE) hM hmin
  · obtain ⟨D', hD', E', hE', e⟩ := awB_some h
    obtain ⟨D, hD, s⟩ := rpar D' hD'
    obtain ⟨E, hE, t⟩ := rpar E' hE'
    rw [sl_eq s t] at e
    obtain ⟨_, e⟩ := sl_some.mp e
    unfold gapB at e
    have := bnd _ (oD D hD).em _ (oD E hE).bm
    have := (W.ok D hD).bd
    have := (W.ok E hE).bd
    omega
  · have apm : ∀ E ∈ matesL Ds D, E ∈ Ds ∧ E.name ≠ D.name ∧ touchL D E = true ∧ apart B D E := fun E hE => by
      obtain ⟨m, q⟩ := List.mem_filter.mp hE
      rw [Bool.and_eq_true, decide_eq_true_eq] at q
      refine ⟨m, q.1, q.2, ?_⟩
      obtain ⟨D', hD', s⟩ := par D hD
      obtain ⟨E', hE', t⟩ := par E m
      have n' : D' ≠ E' := fun z => q.1 (by rw [← s.name, ← t.name, z])
      have none : ∀ p ∈ touchP ds, apart B p.1 p.2 := fun p hp => by
        by_cases c : apart B p.1 p.2
        · exact c
        · have : p ∈ openP B ds := List.mem_filter.mpr ⟨hp, by simpa using c⟩
          rw [hop] at this
          cases this
      unfold apart at none ⊢
      rcases two_places n' hD' hE' with ⟨a, b, c, e⟩ | ⟨a, b, c, e⟩
      · have := none _ (touchP_of a b c e (by rw [touch_eq s t]; exact q.2))
        rw [gap_eq s t, gap_eq t s] at this
        exact this
      · have := none _ (touchP_of a b c e (by rw [touch_eq t s]; exact touchL_sym q.2))
        rw [gap_eq s t, gap_eq t s] at this
        exact this.symm
    have sg : ∀ k v, slG B ds k = some v ↔ ∃ E ∈ Ds, ∃ F ∈ Ds, E.name ≠ F.name ∧ touchL E F = true ∧ k = (E.name, F.name) ∧ slB B E F = some v := fun k v => by
      rw [due, due_at]
      constructor
      · intro z
        split at z
        · rename_i hk
          obtain ⟨E, hE, F, hF, n, ht, rfl⟩ := mem_keysL.mp hk
          exact ⟨E, hE, F, hF, n, ht, rfl, by rw [← awL E hE F hF]; exact z⟩
        · cases z
      · rintro ⟨E, hE, F, hF, n, ht, rfl, hv⟩
        rw [if_pos (mem_keysL.mpr ⟨E, hE, F, hF, n, ht, rfl⟩)]
        exact (awL E hE F hF).trans hv
    have eL : ∀ v, v ∈ ((m.map (·.1)).filterMap fun c => if c.2 = D.name then m.lookup c else none) ↔ ∃ E ∈ matesL Ds D, slB B E D = some v := fun v => by
      rw [sl_values sl (fun c => c.2 = D.name)]
      constructor
      · rintro ⟨c, hc, hv⟩
        obtain ⟨E, hE, F, hF, n, ht, rfl, hv2⟩ := (sg c v).mp hv
        have := inj F hF D hD hc
        subst this
        exact ⟨E, List.mem_filter.mpr ⟨hE, by rw [touchL_sym ht]; simpa using n⟩, hv2⟩
      · rintro ⟨E, hE, hv⟩
        obtain ⟨m, n, ht, _⟩ := apm E hE
        exact ⟨(E.name, D.name), rfl, (sg _ v).mpr ⟨E, m, D, hD, n, touchL_sym ht, rfl, hv⟩⟩
    have lL : ∀ v, v ∈ ((m.map (·.1)).filterMap fun c => if c.1 = D.name then m.lookup c else none) ↔ ∃ E ∈ matesL Ds D, slB B D E = some v := fun v => by
      rw [sl_values sl (fun c => c.1 = D.name)]
      constructor
      · rintro ⟨c, hc, hv⟩
        obtain ⟨E, hE, F, hF, n, ht, rfl, hv2⟩ := (sg c v).mp hv
        have := inj E hE D hD hc
        subst this
        exact ⟨F, List.mem_filter.mpr ⟨hF, by rw [ht]; simpa using fun z => n z.symm⟩, hv2⟩
      · rintro ⟨E, hE, hv⟩
        obtain ⟨m, n, ht, _⟩ := apm E hE
        exact ⟨(D.name, E.name), rfl, (sg _ v).mpr ⟨D, hD, E, m, fun z => n z.symm, ht, rfl, hv⟩⟩
    rw [Bool.and_eq_true]
    constructor
    · unfold earlyO
      cases hm : minO ((m.map (·.1)).filterMap fun c => if c.2 = D.name then m.lookup c else none) with
      | none =>
        have e0 := minO_none hm
        show (!(matesL Ds D).any fun E => meetC φs D E 40 0) = true
        rw [Bool.not_eq_true', List.any_eq_false]
        intro E hE
        obtain ⟨mE, n, ht, a⟩ := apm E hE
        rcases a with a | a
        · rw [show meetC φs D E 40 0 = meetB φs D E 40 0 from rfl, ahead_never G X (oD D hD) (oD E mE) a]
          decide
        · have := (eL _).mpr ⟨E, hE, sl_some.mpr ⟨a, rfl⟩⟩
          rw [e0] at this
          cases this
      | some e =>
        obtain ⟨h1, h2⟩ := minO_some hm
        show ((!(matesL Ds D).any fun E => meetC φs D E e 0) && (matesL Ds D).any fun E => meetC φs D E (e + 1) 0) = true
        rw [Bool.and_eq_true, Bool.not_eq_true', List.any_eq_false, List.any_eq_true]
        constructor
        · intro E hE z
          obtain ⟨mE, n, ht, a⟩ := apm E hE
          have z : meetB φs D E e 0 = true := z
          by_cases a2 : gapB B E D ≤ -1
          · have := h2 _ ((eL _).mpr ⟨E, hE, sl_some.mpr ⟨a2, rfl⟩⟩)
            have := (behind_meets T G X (oD D hD) (oD E mE) (wD D hD) (wD E mE) a2 e).mp z
            omega
          · rw [ahead_never G X (oD D hD) (oD E mE) (a.resolve_right a2)] at z
            cases z
        · obtain ⟨E, hE, hv⟩ := (eL e).mp h1
          obtain ⟨mE, n, ht, _⟩ := apm E hE
          obtain ⟨a, ev⟩ := sl_some.mp hv
          exact ⟨E, hE, (behind_meets T G X (oD D hD) (oD E mE) (wD D hD) (wD E mE) a (e + 1)).mpr (by omega)⟩
    · unfold lateO
      cases hm : minO ((m.map (·.1)).filterMap fun c => if c.1 = D.name then m.lookup c else none) with
      | none =>
        have e0 := minO_none hm
        show (!(matesL Ds D).any fun E => meetC φs D E 0 40) = true
        rw [Bool.not_eq_true', List.any_eq_false]
        intro E hE
        obtain ⟨mE, n, ht, a⟩ := apm E hE
        rcases a with a | a
        · have := (lL _).mpr ⟨E, hE, sl_some.mpr ⟨a, rfl⟩⟩
          rw [e0] at this
          cases this
        · rw [show meetC φs D E 0 40 = meetB φs D E 0 40 from rfl, behind_never G X (oD D hD) (oD E mE) a]
          decide
      | some e =>
        obtain ⟨h1, h2⟩ := minO_some hm
        show ((!(matesL Ds D).any fun E => meetC φs D E 0 e) && (matesL Ds D).any fun E => meetC φs D E 0 (e + 1)) = true
        rw [Bool.and_eq_true, Bool.not_eq_true', List.any_eq_false, List.any_eq_true]
        constructor
        · intro E hE z
          obtain ⟨mE, n, ht, a⟩ := apm E hE
          have z : meetB φs D E 0 e = true := z
          by_cases a2 : gapB B D E ≤ -1
          · have := h2 _ ((lL _).mpr ⟨E, hE, sl_some.mpr ⟨a2, rfl⟩⟩)
            have := (ahead_meets T G X (oD D hD) (oD E mE) (wD D hD) (wD E mE) a2 e).mp z
            omega
          · rw [behind_never G X (oD D hD) (oD E mE) (a.resolve_left a2)] at z
            cases z
        · obtain ⟨E, hE, hv⟩ := (lL e).mp h1
          obtain ⟨mE, n, ht, _⟩ := apm E hE
          obtain ⟨a, ev⟩ := sl_some.mp hv
          exact ⟨E, hE, (ahead_meets T G X (oD D hD) (oD E mE) (wD D hD) (wD E mE) a (e + 1)).mpr (by omega)⟩
end Ld
namespace Ld
open PySem PySem.Spec PyProof.Rows L2
section
variable {P : Program} {w : World} {K : PySem.W.Frag} {mg : Str → Option Value} {base : Heap}
def s_Deal_moments : Stmt := inClass (top 51) 11
abbrev N_Deal_moments : List Str := ["self", "point"]
theorem sc_Deal_moments : FnScope N_Deal_moments ["self"] (defScope s_Deal_moments) := C8.fnScope_by (by decide +kernel)
theorem ok_Deal_moments {f : Addr} {fd : FuncData} (T : Tx K mg) (F : DefAt K "moments" "Deal.moments" s_Deal_moments f fd) (me : Meth K (cDeal K) "moments" f) : Cm P w K mg base 1 (cDeal K) "moments" (sp_Deal_moments K mg) := by
  refine met_mk F T.cl_Deal me sc_Deal_moments (fun vs H Q E => ?_) (fun _ _ _ _ _ _ us hl => match us, hl with | [_], _ => rfl) (fun cdv A outer s H vs Q E hr h => ?_)
  · walk_at "ln"
  · obtain ⟨v, D, rfl, ⟨a, dx, pf, pl, pw, pb, pe, rfl, o, h1, h2, h3, h4, h5⟩, G, h⟩ := h
    refine ⟨_, (pss_one (ps_ret (pe_callB (cr_sortSS rfl hr.units) (by rfl) T.f_sorted (by decide +kernel) (pa_cons (pe_ss (own := [("point", 1)]) rfl sc_Deal_moments.nd (pi_tup (pe_tup (pa_cons (pe_fld (pv 0) rfl) (pa_cons (pe_fld (pv 0) rfl) pa_nil)))) (blkOk_by (own := [("point", 1)]) (N := N_Deal_moments) (sc := defScope s_Deal_moments) (by decide +kernel)) (fun _ _ _ _ _ => (pg_name (i := 1) sc_Deal_moments.nd rfl (Or.inl rfl))) (fun _ _ _ _ _ => (pts_one (pt_cmpR op_ne (pe_ix (ix_tupB (K := K)) (pv 1) pe_int (fun _ _ => rfl)) (C8.pe_gc (by rfl) T.g_ZERO) (nomark _)))) (fun _ _ _ _ _ => (pe_ix (ix_tupB (K := K)) (pv 1) pe_int (fun _ _ => rfl)))) pa_nil)))), ?_⟩
    walk_at "nk"
    have u_cl_Deal := T.cl_Deal; have u_na_Deal_own_begin := T.na_Deal_own_begin; have u_na_Deal_own_end := T.na_Deal_own_end
    walk_at "go"
    refine go_ss ?_
    walk_at "go"
    intro p hp
    have s1 : Same H (upd H p (.tup [.ref pb, .ref pe])) := same_new hp
    have e4 := s1 _ _ h4
    have e5 := s1 _ _ h5
    have ep : upd H p (.tup [.ref pb, .ref pe]) p = some (.tup [.ref pb, .ref pe]) := upd_same
    generalize upd H p (.tup [.ref pb, .ref pe]) = H1 at s1 e4 e5 ep ⊢
    refine ssT ep fun S hS => ⟨fun i H' => Same H1 H' ∧ ∃ l, H' S = some (SetSO w S l) ∧ l.length ≤ i ∧ ∀ s ∈ l, (s = D.bm ∨ s = D.em) ∧ s ≠ dayS, ⟨same_new hS, [], upd_same, Nat.le_refl _, fun s m => by cases m⟩, fun i H' q => q.1 _ _ ep, fun i x H' hx q => ?_, fun H' q => ?_⟩
    · obtain ⟨s2, l, eS, hl, hm⟩ := q
      have hi : i < 2 := (List.getElem?_eq_some_iff.mp hx).1
      obtain ⟨q, s, n, rfl, eq, hs⟩ : ∃ (q : Addr) (s : Str) (n : Int), x = .ref q ∧ H1 q = some (.tup [.str s, .int n]) ∧ (s = D.bm ∨ s = D.em) := by
        match i, hi, hx with
        | 0, _, hx => exact ⟨pb, D.bm, D.bn, (Option.some.inj hx).symm, e4, .inl rfl⟩
        | 1, _, hx => exact ⟨pe, D.em, D.en, (Option.some.inj hx).symm, e5, .inr rfl⟩
      have eq2 := s2 _ _ eq
      refine go_gN ⟨rfl, ?_⟩
      walk_at "go"
      by_cases z : s = dayS
      · have z1 : V.str s = V.str dayS := by rw [z]
        walk_at "go"
        exact ⟨s2, l, eS, by omega, hm⟩
      · have z1 : V.str s ≠ V.str dayS := fun e => z (V.str.inj e)
        walk_at "go"
        refine ⟨s, l, rfl, eS, Nat.lt_of_le_of_lt (show l.length + 1 ≤ 3 by omega) (by decide), fun b u e => up_ne (ne_of_none e hS) (s2 _ _ e), addL s l, upd_same, Nat.le_trans (addL_len s l) (by omega), fun t m => ?_⟩
        rcases addL_mem m with rfl | m
        · exact ⟨hs, z⟩
        · exact hm t m
    · obtain ⟨s2, l, eS, hl, hm⟩ := q
      walk_at "go"
      refine ⟨S, l, rfl, eS, Nat.le_trans hl (Nat.le_of_ble_eq_true rfl), fun r ss hr pm => ?_⟩
      have s3 := Same.trans' s1 s2
      exact h _ r ss (Same.trans' s3 (same_new hr)) (none_back s3 hr) upd_same (by rw [pm.length_eq]; exact hl) fun s m => hm s (pm.mem_iff.mp m)
end
end Ld
namespace Ld
open PySem PySem.Spec PyProof.Rows L2
/-! ### from the head's facts: the law's promise -/
theorem code_at {K : PySem.W.Frag} {x : Str} {st : Stmt} {fd : FuncData} (F : DefAt K x x st (He.ga K x) fd) : fd.code = .ref (He.cT K (x, none)).1 := by
  obtain ⟨oc, od, dV, kV, doc, pm, an, cdv, ct, osl, rfl, lk, hcd, _, _⟩ := F.ex
  obtain ⟨c, rfl⟩ := He.codeIn_ref hcd
  show Value.ref c = .ref (He.codeOf K (x, none))
  rw [He.codeOf_eq (p := (x, none)) lk rfl]
theorem chainL {P : Program} {w : World} {K : PySem.W.Frag} {mg : Str → Option Value} {h : Heap} (X : K.In h) (G : h.Ns mainGlobals mg) (c : SaysL faL fnL ("_law_right", none) psL exL h K) :
    ∃ (f : Addr) (fd : FuncData), mg "law" = some (.ref f) ∧ (∀ (s : Shared) (u : Value), BindsTo s fd ⟨[u], []⟩ [("_law_script", u)]) ∧ ∀ base : Heap, LamX.TabB base mg (He.cT K ("_law_right", none)).1 (He.cT K ("_law_right", none)).2 → FnG P w K mg base 18 f fd ["_law_script"] (sp_law K (He.cT K ("_law_right", none)).2) := by
  have e := c.more
  obtain ⟨e0, e⟩ := He.ba e
  obtain ⟨e1, e⟩ := He.ba e
  obtain ⟨e2, e⟩ := He.ba e
  obtain ⟨e3, e⟩ := He.ba e
  obtain ⟨e4, e⟩ := He.ba e
  obtain ⟨e5, e⟩ := He.ba e
  obtain ⟨e6, e⟩ := He.ba e
  obtain ⟨e7, e⟩ := He.ba e
  obtain ⟨e8, e⟩ := He.ba e
  obtain ⟨e9, e⟩ := He.ba e
  obtain ⟨e10, e⟩ := He.ba e
  obtain ⟨e11, e⟩ := He.ba e
  have e12 := e
  have T : Tx K mg := {
    f_isinstance := He.free_ok X G (c.d.fact 0 rfl)
    f_int := He.free_ok X G (c.d.fact 1 rfl)
    f_bool := He.free_ok X G (c.d.fact 2 rfl)
    f_str := He.free_ok X G (c.d.fact 3 rfl)
    f_list := He.free_ok X G (c.d.fact 4 rfl)
    f_tuple := He.free_ok X G (c.d.fact 5 rfl)
    f_dict := He.free_ok X G (c.d.fact 6 rfl)
    f_len := He.free_ok X G (c.d.fact 7 rfl)
    f_all := He.free_ok X G (c.d.fact 8 rfl)
    f_any := He.free_ok X G (c.d.fact 9 rfl)
    f_enumerate := He.free_ok X G (c.d.fact 10 rfl)
    f_range := He.free_ok X G (c.d.fact 11 rfl)
    f_sorted := He.free_ok X G (c.d.fact 12 rfl)
    f_min := He.free_ok X G (c.d.fact 13 rfl)
    f_max := He.free_ok X G (c.d.fact 14 rfl)
    f_abs := He.free_ok X G (c.d.fact 15 rfl)
    f_divmod := He.free_ok X G (c.d.fact 16 rfl)
    f_repr := He.free_ok X G (c.d.fact 17 rfl)
    g_LETTERS := (He.str_ok X G (c.d.fact 18 rfl)).elim fun t h => ⟨_, h, ⟨t, rfl⟩⟩
    g_ZERO := (He.str_ok X G (c.d.fact 19 rfl)).elim fun t h => ⟨_, h, ⟨t, rfl⟩⟩
    g_NEVER := (He.str_ok X G (c.d.fact 20 rfl)).elim fun t h => ⟨_, h, ⟨t, rfl⟩⟩
    g_PERHAPS := (He.str_ok X G (c.d.fact 21 rfl)).elim fun t h => ⟨_, h, ⟨t, rfl⟩⟩
    g_SURELY := (He.str_ok X G (c.d.fact 22 rfl)).elim fun t h => ⟨_, h, ⟨t, rfl⟩⟩
    g_MOST_LETTERS := (He.int_ok X G (c.d.fact 23 rfl)).elim fun t h => ⟨_, h, ⟨t, rfl⟩⟩
    g_MOST_FILMS := (He.int_ok X G (c.d.fact 24 rfl)).elim fun t h => ⟨_, h, ⟨t, rfl⟩⟩
    g_MOST_LANDS := (He.int_ok X G (c.d.fact 25 rfl)).elim fun t h => ⟨_, h, ⟨t, rfl⟩⟩
    g_MOST_WAYS := (He.int_ok X G (c.d.fact 26 rfl)).elim fun t h => ⟨_, h, ⟨t, rfl⟩⟩
    g_MOST_DEALS := (He.int_ok X G (c.d.fact 27 rfl)).elim fun t h => ⟨_, h, ⟨t, rfl⟩⟩
    cl_Sums := He.cls_ok (c.d.fact 28 rfl)
    cl_Days := He.cls_ok (c.d.fact 29 rfl)
    cl_Closed := He.cls_ok (c.d.fact 30 rfl)
    cl_Calendar := He.cls_ok (c.d.fact 31 rfl)
    cl_Deal := He.cls_ok (c.d.fact 32 rfl)
    cl_Book := He.cls_ok (c.d.fact 33 rfl)
    g_Sums := ⟨_, (He.glo_ok X G (c.d.fact 34 rfl)), rfl⟩
    g_Days := ⟨_, (He.glo_ok X G (c.d.fact 35 rfl)), rfl⟩
    g_Closed := ⟨_, (He.glo_ok X G (c.d.fact 36 rfl)), rfl⟩
    g_Calendar := ⟨_, (He.glo_ok X G (c.d.fact 37 rfl)), rfl⟩
    g_Deal := ⟨_, (He.glo_ok X G (c.d.fact 38 rfl)), rfl⟩
    g_Book := ⟨_, (He.glo_ok X G (c.d.fact 39 rfl)), rfl⟩
    g_NotSafe := ⟨_, (He.glo_ok X G (c.d.fact 40 rfl)), rfl⟩
    na_Sums_own_sums := He.noat_ok (c.d.fact 41 rfl)
    na_Sums_own_lasts := He.noat_ok (c.d.fact 42 rfl)
    na_Days_own_days := He.noat_ok (c.d.fact 43 rfl)
    na_Days_own_last := He.noat_ok (c.d.fact 44 rfl)
    na_Days_own_ring := He.noat_ok (c.d.fact 45 rfl)
    na_Closed_own_moments := He.noat_ok (c.d.fact 46 rfl)
    na_Closed_own_clauses := He.noat_ok (c.d.fact 47 rfl)
    na_Closed_own_days := He.noat_ok (c.d.fact 48 rfl)
    na_Closed_own_rows := He.noat_ok (c.d.fact 49 rfl)
    na_Calendar_own_moments := He.noat_ok (c.d.fact 50 rfl)
    na_Calendar_own_clauses := He.noat_ok (c.d.fact 51 rfl)
    na_Deal_own_name := He.noat_ok (c.d.fact 52 rfl)
    na_Deal_own_house := He.noat_ok (c.d.fact 53 rfl)
    na_Deal_own_films := He.noat_ok (c.d.fact 54 rfl)
    na_Deal_own_lands := He.noat_ok (c.d.fact 55 rfl)
    na_Deal_own_ways := He.noat_ok (c.d.fact 56 rfl)
    na_Deal_own_begin := He.noat_ok (c.d.fact 57 rfl)
    na_Deal_own_end := He.noat_ok (c.d.fact 58 rfl)
    na_Deal_is_alone := He.noat_ok (c.d.fact 59 rfl)
    na_Deal_own_price := He.noat_ok (c.d.fact 60 rfl)
    na_Book_own_calendar := He.noat_ok (c.d.fact 61 rfl)
    na_Book_own_deals := He.noat_ok (c.d.fact 62 rfl)
    na_Book_own_clauses := He.noat_ok (c.d.fact 63 rfl)
    is_Calendar := insCB_ok e0
    is_Deal := insCB_ok e1
    con_Calendar_ZERO := He.conB_ok e2
    con_Calendar_MOST_MOMENTS := He.conB_ok e3
    con_Calendar_MOST_CLAUSES := He.conB_ok e4
    kc_Calendar_MOST_CLAUSES := cvalB_ok e5
    sf_Deal := e6
    gi_Book := fun {f} me => by
      have q := He.eqO_ok (He.ba (c.d.fact 64 rfl : (He.Fa.meth "Book" "__getitem__").ok K = true)).1
      have q2 := q.symm.trans me.at_
      cases Option.some.inj (Option.some.inj q2)
      exact e7
    g_is_name := ⟨_, (He.glo_ok X G (c.d.fact 65 rfl)), rfl⟩
    m_is_name := (He.glo_ok X G (c.d.fact 65 rfl)) }
  have NS : NsF K := ⟨rtB_ok e8, xfB_ok e9, He.noat_ok (c.d.fact 66 rfl), He.noat_ok (c.d.fact 67 rfl), He.exm_ok (c.d.fact 68 rfl)⟩
  have hNS : mg "NotSafe" = some (.ref (cNotSafe K)) := (He.glo_ok X G (c.d.fact 40 rfl))
  obtain ⟨fd_law_draw, F_law_draw⟩ : ∃ fd, DefAt K "_law_draw" "_law_draw" s_law_draw (He.ga K "_law_draw") fd := c.d.def_ 0 (d := d_law_draw) rfl
  obtain ⟨fd_law_some, F_law_some⟩ : ∃ fd, DefAt K "_law_some" "_law_some" s_law_some (He.ga K "_law_some") fd := c.d.def_ 1 (d := d_law_some) rfl
  obtain ⟨fd_law_pick, F_law_pick⟩ : ∃ fd, DefAt K "_law_pick" "_law_pick" s_law_pick (He.ga K "_law_pick") fd := c.d.def_ 2 (d := d_law_pick) rfl
  obtain ⟨fd_law_chart, F_law_chart⟩ : ∃ fd, DefAt K "_law_chart" "_law_chart" s_law_chart (He.ga K "_law_chart") fd := c.d.def_ 3 (d := d_law_chart) rfl
  obtain ⟨fd_law_pact, F_law_pact⟩ : ∃ fd, DefAt K "_law_pact" "_law_pact" s_law_pact (He.ga K "_law_pact") fd := c.d.def_ 4 (d := d_law_pact) rfl
  obtain ⟨fd_law_pacts, F_law_pacts⟩ : ∃ fd, DefAt K "_law_pacts" "_law_pacts" s_law_pacts (He.ga K "_law_pacts") fd := c.d.def_ 5 (d := d_law_pacts) rfl
  obtain ⟨fd_law_window, F_law_window⟩ : ∃ fd, DefAt K "_law_window" "_law_window" s_law_window (He.ga K "_law_window") fd := c.d.def_ 6 (d := d_law_window) rfl
  obtain ⟨fd_is_list, F_is_list⟩ : ∃ fd, DefAt K "is_list" "is_list" s_is_list (He.ga K "is_list") fd := c.d.def_ 7 (d := d_is_list) rfl
  obtain ⟨fd_Calendar_moments, F_Calendar_moments⟩ : ∃ fd, DefAt K "moments" "Calendar.moments" s_Calendar_moments (He.ma K (cCalendar K) "moments") fd := c.d.def_ 8 (d := d_Calendar_moments) rfl
  obtain ⟨fd_Deal_moments, F_Deal_moments⟩ : ∃ fd, DefAt K "moments" "Deal.moments" s_Deal_moments (He.ma K (cDeal K) "moments") fd := c.d.def_ 9 (d := d_Deal_moments) rfl
  obtain ⟨fd_has_moments, F_has_moments⟩ : ∃ fd, DefAt K "has_moments" "has_moments" s_has_moments (He.ga K "has_moments") fd := c.d.def_ 10 (d := d_has_moments) rfl
  obtain ⟨fd_want_deals, F_want_deals⟩ : ∃ fd, DefAt K "want_deals" "want_deals" s_want_deals (He.ga K "want_deals") fd := c.d.def_ 11 (d := d_want_deals) rfl
  obtain ⟨fd_Calendar_clauses, F_Calendar_clauses⟩ : ∃ fd, DefAt K "clauses" "Calendar.clauses" s_Calendar_clauses (He.ma K (cCalendar K) "clauses") fd := c.d.def_ 12 (d := d_Calendar_clauses) rfl
  obtain ⟨fd_Deal_own_clause, F_Deal_own_clause⟩ : ∃ fd, DefAt K "own_clause" "Deal.own_clause" s_Deal_own_clause (He.ma K (cDeal K) "own_clause") fd := c.d.def_ 13 (d := d_Deal_own_clause) rfl
  obtain ⟨fd_clauses_of, F_clauses_of⟩ : ∃ fd, DefAt K "clauses_of" "clauses_of" s_clauses_of (He.ga K "clauses_of") fd := c.d.def_ 14 (d := d_clauses_of) rfl
  obtain ⟨fd_Days_changed_by, F_Days_changed_by⟩ : ∃ fd, DefAt K "changed_by" "Days.changed_by" s_Days_changed_by (He.ma K (cDays K) "changed_by") fd := c.d.def_ 15 (d := d_Days_changed_by) rfl
  obtain ⟨fd_Days__init, F_Days__init⟩ : ∃ fd, DefAt K "__init__" "Days.__init__" s_Days__init (He.ma K (cDays K) "__init__") fd := c.d.def_ 16 (d := d_Days__init) rfl
  obtain ⟨fd_Days_ring, F_Days_ring⟩ : ∃ fd, DefAt K "ring" "Days.ring" s_Days_ring (He.ma K (cDays K) "ring") fd := c.d.def_ 17 (d := d_Days_ring) rfl
  obtain ⟨fd_Days_dates, F_Days_dates⟩ : ∃ fd, DefAt K "dates" "Days.dates" s_Days_dates (He.ma K (cDays K) "dates") fd := c.d.def_ 18 (d := d_Days_dates) rfl
  obtain ⟨fd_some_dates, F_some_dates⟩ : ∃ fd, DefAt K "some_dates" "some_dates" s_some_dates (He.ga K "some_dates") fd := c.d.def_ 19 (d := d_some_dates) rfl
  obtain ⟨fd_Book__init, F_Book__init⟩ : ∃ fd, DefAt K "__init__" "Book.__init__" s_Book__init (He.ma K (cBook K) "__init__") fd := c.d.def_ 20 (d := d_Book__init) rfl
  obtain ⟨fd_is_name, F_is_name⟩ : ∃ fd, DefAt K "is_name" "is_name" s_is_name (He.ga K "is_name") fd := c.d.def_ 21 (d := d_is_name) rfl
  obtain ⟨fd_want_name, F_want_name⟩ : ∃ fd, DefAt K "want_name" "want_name" s_want_name (He.ga K "want_name") fd := c.d.def_ 22 (d := d_want_name) rfl
  obtain ⟨fd_wrong_name, F_wrong_name⟩ : ∃ fd, DefAt K "wrong_name" "wrong_name" s_wrong_name (He.ga K "wrong_name") fd := c.d.def_ 23 (d := d_wrong_name) rfl
  obtain ⟨fd_want_names, F_want_names⟩ : ∃ fd, DefAt K "want_names" "want_names" s_want_names (He.ga K "want_names") fd := c.d.def_ 24 (d := d_want_names) rfl
  obtain ⟨fd_is_integer, F_is_integer⟩ : ∃ fd, DefAt K "is_integer" "is_integer" s_is_integer (He.ga K "is_integer") fd := c.d.def_ 25 (d := d_is_integer) rfl
  obtain ⟨fd_is_moment, F_is_moment⟩ : ∃ fd, DefAt K "is_moment" "is_moment" s_is_moment (He.ga K "is_moment") fd := c.d.def_ 26 (d := d_is_moment) rfl
  obtain ⟨fd_is_point, F_is_point⟩ : ∃ fd, DefAt K "is_point" "is_point" s_is_point (He.ga K "is_point") fd := c.d.def_ 27 (d := d_is_point) rfl
  obtain ⟨fd_want_points, F_want_points⟩ : ∃ fd, DefAt K "want_points" "want_points" s_want_points (He.ga K "want_points") fd := c.d.def_ 28 (d := d_want_points) rfl
  obtain ⟨fd_is_count, F_is_count⟩ : ∃ fd, DefAt K "is_count" "is_count" s_is_count (He.ga K "is_count") fd := c.d.def_ 29 (d := d_is_count) rfl
  obtain ⟨fd_want_few, F_want_few⟩ : ∃ fd, DefAt K "want_few" "want_few" s_want_few (He.ga K "want_few") fd := c.d.def_ 30 (d := d_want_few) rfl
  obtain ⟨fd_Deal__init, F_Deal__init⟩ := c.d.def_ 31 (d := d_Deal__init) rfl
  obtain ⟨fd_law_deal, F_law_deal⟩ : ∃ fd, DefAt K "_law_deal" "_law_deal" s_law_deal (He.ga K "_law_deal") fd := c.d.def_ 32 (d := d_law_deal) rfl
  obtain ⟨fd_Calendar_has_moment, F_Calendar_has_moment⟩ : ∃ fd, DefAt K "has_moment" "Calendar.has_moment" s_Calendar_has_moment (He.ma K (cCalendar K) "has_moment") fd := c.d.def_ 33 (d := d_Calendar_has_moment) rfl
  obtain ⟨fd_is_clause, F_is_clause⟩ : ∃ fd, DefAt K "is_clause" "is_clause" s_is_clause (He.ga K "is_clause") fd := c.d.def_ 34 (d := d_is_clause) rfl
  obtain ⟨fd_Calendar_is_own_form, F_Calendar_is_own_form⟩ : ∃ fd, DefAt K "is_own_form" "Calendar.is_own_form" s_Calendar_is_own_form (He.ma K (cCalendar K) "is_own_form") fd := c.d.def_ 35 (d := d_Calendar_is_own_form) rfl
  obtain ⟨fd_Calendar__init, F_Calendar__init⟩ := c.d.def_ 36 (d := d_Calendar__init) rfl
  obtain ⟨fd_law_calendar, F_law_calendar⟩ : ∃ fd, DefAt K "_law_calendar" "_law_calendar" s_law_calendar (He.ga K "_law_calendar") fd := c.d.def_ 37 (d := d_law_calendar) rfl
  obtain ⟨fd_law_book, F_law_book⟩ : ∃ fd, DefAt K "_law_book" "_law_book" s_law_book (He.ga K "_law_book") fd := c.d.def_ 38 (d := d_law_book) rfl
  obtain ⟨fd_law_all_spots, F_law_all_spots⟩ : ∃ fd, DefAt K "_law_all_spots" "_law_all_spots" s_law_all_spots (He.ga K "_law_all_spots") fd := c.d.def_ 39 (d := d_law_all_spots) rfl
  obtain ⟨fd_law_keep, F_law_keep⟩ : ∃ fd, DefAt K "_law_keep" "_law_keep" s_law_keep (He.ga K "_law_keep") fd := c.d.def_ 40 (d := d_law_keep) rfl
  obtain ⟨fd_law_good, F_law_good⟩ : ∃ fd, DefAt K "_law_good" "_law_good" s_law_good (He.ga K "_law_good") fd := c.d.def_ 41 (d := d_law_good) rfl
  obtain ⟨fd_law_by_tag, F_law_by_tag⟩ : ∃ fd, DefAt K "_law_by_tag" "_law_by_tag" s_law_by_tag (He.ga K "_law_by_tag") fd := c.d.def_ 42 (d := d_law_by_tag) rfl
  obtain ⟨fd_law_rules, F_law_rules⟩ : ∃ fd, DefAt K "_law_rules" "_law_rules" s_law_rules (He.ga K "_law_rules") fd := c.d.def_ 43 (d := d_law_rules) rfl
  obtain ⟨fd_law_stretch, F_law_stretch⟩ : ∃ fd, DefAt K "_law_stretch" "_law_stretch" s_law_stretch (He.ga K "_law_stretch") fd := c.d.def_ 44 (d := d_law_stretch) rfl
  obtain ⟨fd_law_least, F_law_least⟩ : ∃ fd, DefAt K "_law_least" "_law_least" s_law_least (He.ga K "_law_least") fd := c.d.def_ 45 (d := d_law_least) rfl
  obtain ⟨fd_Book__contains, F_Book__contains⟩ : ∃ fd, DefAt K "__contains__" "Book.__contains__" s_Book__contains (He.ma K (cBook K) "__contains__") fd := c.d.def_ 46 (d := d_Book__contains) rfl
  obtain ⟨fd_Book_want_name, F_Book_want_name⟩ : ∃ fd, DefAt K "want_name" "Book.want_name" s_Book_want_name (He.ma K (cBook K) "want_name") fd := c.d.def_ 47 (d := d_Book_want_name) rfl
  obtain ⟨fd_Book__getitem, F_Book__getitem⟩ : ∃ fd, DefAt K "__getitem__" "Book.__getitem__" s_Book__getitem (He.ma K (cBook K) "__getitem__") fd := c.d.def_ 48 (d := d_Book__getitem) rfl
  obtain ⟨fd_want_moment, F_want_moment⟩ : ∃ fd, DefAt K "want_moment" "want_moment" s_want_moment (He.ga K "want_moment") fd := c.d.def_ 49 (d := d_want_moment) rfl
  obtain ⟨fd_Sums_sum_to, F_Sums_sum_to⟩ : ∃ fd, DefAt K "sum_to" "Sums.sum_to" s_Sums_sum_to (He.ma K (cSums K) "sum_to") fd := c.d.def_ 50 (d := d_Sums_sum_to) rfl
  obtain ⟨fd_Sums_take, F_Sums_take⟩ : ∃ fd, DefAt K "take" "Sums.take" s_Sums_take (He.ma K (cSums K) "take") fd := c.d.def_ 51 (d := d_Sums_take) rfl
  obtain ⟨fd_Sums__init, F_Sums__init⟩ : ∃ fd, DefAt K "__init__" "Sums.__init__" s_Sums__init (He.ma K (cSums K) "__init__") fd := c.d.def_ 52 (d := d_Sums__init) rfl
  obtain ⟨fd_Closed_sums_from, F_Closed_sums_from⟩ : ∃ fd, DefAt K "sums_from" "Closed.sums_from" s_Closed_sums_from (He.ma K (cClosed K) "sums_from") fd := c.d.def_ 53 (d := d_Closed_sums_from) rfl
  obtain ⟨fd_Closed_bound, F_Closed_bound⟩ : ∃ fd, DefAt K "bound" "Closed.bound" s_Closed_bound (He.ma K (cClosed K) "bound") fd := c.d.def_ 54 (d := d_Closed_bound) rfl
  obtain ⟨fd_Closed__init, F_Closed__init⟩ : ∃ fd, DefAt K "__init__" "Closed.__init__" s_Closed__init (He.ma K (cClosed K) "__init__") fd := c.d.def_ 55 (d := d_Closed__init) rfl
  obtain ⟨fd_Calendar_closed, F_Calendar_closed⟩ : ∃ fd, DefAt K "closed" "Calendar.closed" s_Calendar_closed (He.ma K (cCalendar K) "closed") fd := c.d.def_ 56 (d := d_Calendar_closed) rfl
  obtain ⟨fd_Closed_ring, F_Closed_ring⟩ : ∃ fd, DefAt K "ring" "Closed.ring" s_Closed_ring (He.ma K (cClosed K) "ring") fd := c.d.def_ 57 (d := d_Closed_ring) rfl
  obtain ⟨fd_closed_of, F_closed_of⟩ : ∃ fd, DefAt K "closed_of" "closed_of" s_closed_of (He.ga K "closed_of") fd := c.d.def_ 58 (d := d_closed_of) rfl
  obtain ⟨fd_bound, F_bound⟩ : ∃ fd, DefAt K "bound" "bound" s_bound (He.ga K "bound") fd := c.d.def_ 59 (d := d_bound) rfl
  obtain ⟨fd_most_behind, F_most_behind⟩ : ∃ fd, DefAt K "most_behind" "most_behind" s_most_behind (He.ga K "most_behind") fd := c.d.def_ 60 (d := d_most_behind) rfl
  obtain ⟨fd_slack_in, F_slack_in⟩ : ∃ fd, DefAt K "slack_in" "slack_in" s_slack_in (He.ga K "slack_in") fd := c.d.def_ 61 (d := d_slack_in) rfl
  obtain ⟨fd_Book_full, F_Book_full⟩ : ∃ fd, DefAt K "full" "Book.full" s_Book_full (He.ma K (cBook K) "full") fd := c.d.def_ 62 (d := d_Book_full) rfl
  obtain ⟨fd_slack, F_slack⟩ : ∃ fd, DefAt K "slack" "slack" s_slack (He.ga K "slack") fd := c.d.def_ 63 (d := d_slack) rfl
  obtain ⟨fd_law_cells, F_law_cells⟩ : ∃ fd, DefAt K "_law_cells" "_law_cells" s_law_cells (He.ga K "_law_cells") fd := c.d.def_ 64 (d := d_law_cells) rfl
  obtain ⟨fd_law_do_touch, F_law_do_touch⟩ : ∃ fd, DefAt K "_law_do_touch" "_law_do_touch" s_law_do_touch (He.ga K "_law_do_touch") fd := c.d.def_ 65 (d := d_law_do_touch) rfl
  obtain ⟨fd_Book_names, F_Book_names⟩ : ∃ fd, DefAt K "names" "Book.names" s_Book_names (He.ma K (cBook K) "names") fd := c.d.def_ 66 (d := d_Book_names) rfl
  obtain ⟨fd_Deal_cells, F_Deal_cells⟩ : ∃ fd, DefAt K "cells" "Deal.cells" s_Deal_cells (He.ma K (cDeal K) "cells") fd := c.d.def_ 67 (d := d_Deal_cells) rfl
  obtain ⟨fd_Deal__and, F_Deal__and⟩ : ∃ fd, DefAt K "__and__" "Deal.__and__" s_Deal__and (He.ma K (cDeal K) "__and__") fd := c.d.def_ 68 (d := d_Deal__and) rfl
  obtain ⟨fd_Deal_touches, F_Deal_touches⟩ : ∃ fd, DefAt K "touches" "Deal.touches" s_Deal_touches (He.ma K (cDeal K) "touches") fd := c.d.def_ 69 (d := d_Deal_touches) rfl
  obtain ⟨fd_Book_touching, F_Book_touching⟩ : ∃ fd, DefAt K "touching" "Book.touching" s_Book_touching (He.ma K (cBook K) "touching") fd := c.d.def_ 70 (d := d_Book_touching) rfl
  obtain ⟨fd_slacks, F_slacks⟩ : ∃ fd, DefAt K "slacks" "slacks" s_slacks (He.ga K "slacks") fd := c.d.def_ 71 (d := d_slacks) rfl
  obtain ⟨fd_law_may_meet, F_law_may_meet⟩ : ∃ fd, DefAt K "_law_may_meet" "_law_may_meet" s_law_may_meet (He.ga K "_law_may_meet") fd := c.d.def_ 72 (d := d_law_may_meet) rfl
  obtain ⟨fd_law_first_open, F_law_first_open⟩ : ∃ fd, DefAt K "_law_first_open" "_law_first_open" s_law_first_open (He.ga K "_law_first_open") fd := c.d.def_ 73 (d := d_law_first_open) rfl
  obtain ⟨fd_law_heard, F_law_heard⟩ : ∃ fd, DefAt K "_law_heard" "_law_heard" s_law_heard (He.ga K "_law_heard") fd := c.d.def_ 74 (d := d_law_heard) rfl
  obtain ⟨fd_is_at_most, F_is_at_most⟩ : ∃ fd, DefAt K "is_at_most" "is_at_most" s_is_at_most (He.ga K "is_at_most") fd := c.d.def_ 75 (d := d_is_at_most) rfl
  obtain ⟨fd_is_surely_ahead, F_is_surely_ahead⟩ : ∃ fd, DefAt K "is_surely_ahead" "is_surely_ahead" s_is_surely_ahead (He.ga K "is_surely_ahead") fd := c.d.def_ 76 (d := d_is_surely_ahead) rfl
  obtain ⟨fd_word_in, F_word_in⟩ : ∃ fd, DefAt K "word_in" "word_in" s_word_in (He.ga K "word_in") fd := c.d.def_ 77 (d := d_word_in) rfl
  obtain ⟨fd_open_pairs, F_open_pairs⟩ : ∃ fd, DefAt K "open_pairs" "open_pairs" s_open_pairs (He.ga K "open_pairs") fd := c.d.def_ 78 (d := d_open_pairs) rfl
  obtain ⟨fd_want_safe, F_want_safe⟩ : ∃ fd, DefAt K "want_safe" "want_safe" s_want_safe (He.ga K "want_safe") fd := c.d.def_ 79 (d := d_want_safe) rfl
  obtain ⟨fd_room_by, F_room_by⟩ : ∃ fd, DefAt K "room_by" "room_by" s_room_by (He.ga K "room_by") fd := c.d.def_ 80 (d := d_room_by) rfl
  obtain ⟨fd_room, F_room⟩ : ∃ fd, DefAt K "room" "room" s_room (He.ga K "room") fd := c.d.def_ 81 (d := d_room) rfl
  obtain ⟨fd_law_room_right, F_law_room_right⟩ : ∃ fd, DefAt K "_law_room_right" "_law_room_right" s_law_room_right (He.ga K "_law_room_right") fd := c.d.def_ 82 (d := d_law_room_right) rfl
  obtain ⟨fd_law_right, F_law_right⟩ : ∃ fd, DefAt K "_law_right" "_law_right" s_law_right (He.ga K "_law_right") fd := c.d.def_ 83 (d := d_law_right) rfl
  obtain ⟨fd_law_pot, F_law_pot⟩ : ∃ fd, DefAt K "_law_pot" "_law_pot" s_law_pot (He.ga K "_law_pot") fd := c.d.def_ 84 (d := d_law_pot) rfl
  obtain ⟨fd_law, F_law⟩ : ∃ fd, DefAt K "law" "law" s_law (He.ga K "law") fd := c.d.def_ 85 (d := d_law) rfl
  obtain ⟨fd_NotSafe__init, F_NotSafe__init⟩ : ∃ fd, DefAt K "__init__" "NotSafe.__init__" s_NotSafe__init (He.ma K (cNotSafe K) "__init__") fd := c.d.def_ 86 (d := d_NotSafe__init) rfl
  obtain ⟨⟨fd_Deal_name, F_Deal_name⟩, pr_Deal_name⟩ := c.prop 0 (d := p_Deal_name) rfl
  obtain ⟨⟨fd_Deal_begin, F_Deal_begin⟩, pr_Deal_begin⟩ := c.prop 1 (d := p_Deal_begin) rfl
  obtain ⟨⟨fd_Deal_end, F_Deal_end⟩, pr_Deal_end⟩ := c.prop 2 (d := p_Deal_end) rfl
  have m_law_draw : mg "_law_draw" = some (.ref (He.ga K "_law_draw")) := (He.glo_ok X G (c.d.fact 69 rfl))
  have m_law_some : mg "_law_some" = some (.ref (He.ga K "_law_some")) := (He.glo_ok X G (c.d.fact 70 rfl))
  have m_law_pick : mg "_law_pick" = some (.ref (He.ga K "_law_pick")) := (He.glo_ok X G (c.d.fact 71 rfl))
  have m_law_chart : mg "_law_chart" = some (.ref (He.ga K "_law_chart")) := (He.glo_ok X G (c.d.fact 72 rfl))
  have m_law_pact : mg "_law_pact" = some (.ref (He.ga K "_law_pact")) := (He.glo_ok X G (c.d.fact 73 rfl))
  have m_law_pacts : mg "_law_pacts" = some (.ref (He.ga K "_law_pacts")) := (He.glo_ok X G (c.d.fact 74 rfl))
  have m_law_window : mg "_law_window" = some (.ref (He.ga K "_law_window")) := (He.glo_ok X G (c.d.fact 75 rfl))
  have m_is_list : mg "is_list" = some (.ref (He.ga K "is_list")) := (He.glo_ok X G (c.d.fact 76 rfl))
  have m_has_moments : mg "has_moments" = some (.ref (He.ga K "has_moments")) := (He.glo_ok X G (c.d.fact 77 rfl))
  have m_want_deals : mg "want_deals" = some (.ref (He.ga K "want_deals")) := (He.glo_ok X G (c.d.fact 78 rfl))
  have m_clauses_of : mg "clauses_of" = some (.ref (He.ga K "clauses_of")) := (He.glo_ok X G (c.d.fact 79 rfl))
  have m_some_dates : mg "some_dates" = some (.ref (He.ga K "some_dates")) := (He.glo_ok X G (c.d.fact 80 rfl))
  have m_is_name : mg "is_name" = some (.ref (He.ga K "is_name")) := (He.glo_ok X G (c.d.fact 65 rfl))
  have m_want_name : mg "want_name" = some (.ref (He.ga K "want_name")) := (He.glo_ok X G (c.d.fact 81 rfl))
  have m_wrong_name : mg "wrong_name" = some (.ref (He.ga K "wrong_name")) := (He.glo_ok X G (c.d.fact 82 rfl))
  have m_want_names : mg "want_names" = some (.ref (He.ga K "want_names")) := (He.glo_ok X G (c.d.fact 83 rfl))
  have m_is_integer : mg "is_integer" = some (.ref (He.ga K "is_integer")) := (He.glo_ok X G (c.d.fact 84 rfl))
  have m_is_moment : mg "is_moment" = some (.ref (He.ga K "is_moment")) := (He.glo_ok X G (c.d.fact 85 rfl))
  have m_is_point : mg "is_point" = some (.ref (He.ga K "is_point")) := (He.glo_ok X G (c.d.fact 86 rfl))
  have m_want_points : mg "want_points" = some (.ref (He.ga K "want_points")) := (He.glo_ok X G (c.d.fact 87 rfl))
  have m_is_count : mg "is_count" = some (.ref (He.ga K "is_count")) := (He.glo_ok X G (c.d.fact 88 rfl))
  have m_want_few : mg "want_few" = some (.ref (He.ga K "want_few")) := (He.glo_ok X G (c.d.fact 89 rfl))
  have m_law_deal : mg "_law_deal" = some (.ref (He.ga K "_law_deal")) := (He.glo_ok X G (c.d.fact 90 rfl))
  have m_is_clause : mg "is_clause" = some (.ref (He.ga K "is_clause")) := (He.glo_ok X G (c.d.fact 91 rfl))
  have m_law_calendar : mg "_law_calendar" = some (.ref (He.ga K "_law_calendar")) := (He.glo_ok X G (c.d.fact 92 rfl))
  have m_law_book : mg "_law_book" = some (.ref (He.ga K "_law_book")) := (He.glo_ok X G (c.d.fact 93 rfl))
  have m_law_all_spots : mg "_law_all_spots" = some (.ref (He.ga K "_law_all_spots")) := (He.glo_ok X G (c.d.fact 94 rfl))
  have m_law_keep : mg "_law_keep" = some (.ref (He.ga K "_law_keep")) := (He.glo_ok X G (c.d.fact 95 rfl))
  have m_law_good : mg "_law_good" = some (.ref (He.ga K "_law_good")) := (He.glo_ok X G (c.d.fact 96 rfl))
  have m_law_by_tag : mg "_law_by_tag" = some (.ref (He.ga K "_law_by_tag")) := (He.glo_ok X G (c.d.fact 97 rfl))
  have m_law_rules : mg "_law_rules" = some (.ref (He.ga K "_law_rules")) := (He.glo_ok X G (c.d.fact 98 rfl))
  have m_law_stretch : mg "_law_stretch" = some (.ref (He.ga K "_law_stretch")) := (He.glo_ok X G (c.d.fact 99 rfl))
  have m_law_least : mg "_law_least" = some (.ref (He.ga K "_law_least")) := (He.glo_ok X G (c.d.fact 100 rfl))
  have m_want_moment : mg "want_moment" = some (.ref (He.ga K "want_moment")) := (He.glo_ok X G (c.d.fact 101 rfl))
  have m_closed_of : mg "closed_of" = some (.ref (He.ga K "closed_of")) := (He.glo_ok X G (c.d.fact 102 rfl))
  have m_bound : mg "bound" = some (.ref (He.ga K "bound")) := (He.glo_ok X G (c.d.fact 103 rfl))
  have m_most_behind : mg "most_behind" = some (.ref (He.ga K "most_behind")) := (He.glo_ok X G (c.d.fact 104 rfl))
  have m_slack_in : mg "slack_in" = some (.ref (He.ga K "slack_in")) := (He.glo_ok X G (c.d.fact 105 rfl))
  have m_slack : mg "slack" = some (.ref (He.ga K "slack")) := (He.glo_ok X G (c.d.fact 106 rfl))
  have m_law_cells : mg "_law_cells" = some (.ref (He.ga K "_law_cells")) := (He.glo_ok X G (c.d.fact 107 rfl))
  have m_law_do_touch : mg "_law_do_touch" = some (.ref (He.ga K "_law_do_touch")) := (He.glo_ok X G (c.d.fact 108 rfl))
  have m_slacks : mg "slacks" = some (.ref (He.ga K "slacks")) := (He.glo_ok X G (c.d.fact 109 rfl))
  have m_law_may_meet : mg "_law_may_meet" = some (.ref (He.ga K "_law_may_meet")) := (He.glo_ok X G (c.d.fact 110 rfl))
  have m_law_first_open : mg "_law_first_open" = some (.ref (He.ga K "_law_first_open")) := (He.glo_ok X G (c.d.fact 111 rfl))
  have m_law_heard : mg "_law_heard" = some (.ref (He.ga K "_law_heard")) := (He.glo_ok X G (c.d.fact 112 rfl))
  have m_is_at_most : mg "is_at_most" = some (.ref (He.ga K "is_at_most")) := (He.glo_ok X G (c.d.fact 113 rfl))
  have m_is_surely_ahead : mg "is_surely_ahead" = some (.ref (He.ga K "is_surely_ahead")) := (He.glo_ok X G (c.d.fact 114 rfl))
  have m_word_in : mg "word_in" = some (.ref (He.ga K "word_in")) := (He.glo_ok X G (c.d.fact 115 rfl))
  have m_open_pairs : mg "open_pairs" = some (.ref (He.ga K "open_pairs")) := (He.glo_ok X G (c.d.fact 116 rfl))
  have m_want_safe : mg "want_safe" = some (.ref (He.ga K "want_safe")) := (He.glo_ok X G (c.d.fact 117 rfl))
  have m_room_by : mg "room_by" = some (.ref (He.ga K "room_by")) := (He.glo_ok X G (c.d.fact 118 rfl))
  have m_room : mg "room" = some (.ref (He.ga K "room")) := (He.glo_ok X G (c.d.fact 119 rfl))
  have m_law_room_right : mg "_law_room_right" = some (.ref (He.ga K "_law_room_right")) := (He.glo_ok X G (c.d.fact 120 rfl))
  have m_law_right : mg "_law_right" = some (.ref (He.ga K "_law_right")) := (He.glo_ok X G (c.d.fact 121 rfl))
  have m_law_pot : mg "_law_pot" = some (.ref (He.ga K "_law_pot")) := (He.glo_ok X G (c.d.fact 122 rfl))
  have m_law : mg "law" = some (.ref (He.ga K "law")) := (He.glo_ok X G (c.d.fact 123 rfl))
  have m_is_clause_basics : mg "is_clause_basics" = some (.ref (He.ga K "is_clause_basics")) := (He.glo_ok X G (c.d.fact 124 rfl))
  refine ⟨_, _, m_law, fun s u => (FunD.bindsA (ps := ["_law_script"]) F_law fun _ _ _ _ _ _ us hl => match us, hl with | [_], _ => rfl) s [u] rfl, fun base TB => ?_⟩
  have c_law_draw : Cf P w K mg base 1 "_law_draw" (sp_law_draw K mg) := ok_law_draw T F_law_draw m_law_draw 
  have c_law_some : Cf P w K mg base 2 "_law_some" (sp_law_some K mg) := ok_law_some T F_law_some m_law_some c_law_draw
  have c_law_pick : Cf P w K mg base 2 "_law_pick" (sp_law_pick K mg) := ok_law_pick T F_law_pick m_law_pick c_law_draw
  have c_law_chart : Cf P w K mg base 3 "_law_chart" (sp_law_chart K mg) := ok_law_chart T F_law_chart m_law_chart c_law_some c_law_draw c_law_pick
  have c_law_pact : Cf P w K mg base 3 "_law_pact" (sp_law_pact K mg) := ok_law_pact T F_law_pact m_law_pact c_law_pick c_law_some c_law_draw
  have c_law_pacts : Cf P w K mg base 4 "_law_pacts" (sp_law_pacts K mg) := ok_law_pacts T F_law_pacts m_law_pacts c_law_some c_law_pact
  have c_law_window : Cf P w K mg base 5 "_law_window" (sp_law_window K mg) := ok_law_window T F_law_window m_law_window c_law_chart c_law_draw c_law_pacts c_law_pick
  have c_is_list : Cf P w K mg base 1 "is_list" (sp_is_list K mg) := ok_is_list T F_is_list m_is_list 
  have c_Calendar_moments : Cm P w K mg base 1 (cCalendar K) "moments" (sp_Calendar_moments K mg) := ok_Calendar_moments T F_Calendar_moments (He.meth_ok (c.d.fact 125 rfl)) 
  have c_Deal_moments : Cm P w K mg base 1 (cDeal K) "moments" (sp_Deal_moments K mg) := ok_Deal_moments T F_Deal_moments (He.meth_ok (c.d.fact 126 rfl)) 
  have c_has_moments : Cf P w K mg base 2 "has_moments" (sp_has_moments K mg) := ok_has_moments T F_has_moments m_has_moments c_Calendar_moments c_Deal_moments
  have c_Deal_name : Prp P w K mg base 1 (cDeal K) "name" (sp_Deal_name K mg) := ok_Deal_name T F_Deal_name pr_Deal_name 
  have c_want_deals : Cf P w K mg base 3 "want_deals" (sp_want_deals K mg) := ok_want_deals T F_want_deals m_want_deals c_is_list c_has_moments c_Deal_name
  have c_Calendar_clauses : Cm P w K mg base 1 (cCalendar K) "clauses" (sp_Calendar_clauses K mg) := ok_Calendar_clauses T F_Calendar_clauses (He.meth_ok (c.d.fact 127 rfl)) 
  have c_Deal_own_clause : Cm P w K mg base 1 (cDeal K) "own_clause" (sp_Deal_own_clause K mg) := ok_Deal_own_clause T F_Deal_own_clause (He.meth_ok (c.d.fact 128 rfl)) 
  have c_clauses_of : Cf P w K mg base 2 "clauses_of" (sp_clauses_of K mg) := ok_clauses_of T F_clauses_of m_clauses_of c_Calendar_clauses c_Deal_own_clause
  have c_Days_changed_by : Cm P w K mg base 1 (cDays K) "changed_by" (sp_Days_changed_by K mg) := ok_Days_changed_by T F_Days_changed_by (He.meth_ok (c.d.fact 129 rfl)) 
  have c_Days__init : Cn P w K mg base 2 "Days" (cDays K) (sp_Days__init K mg) := ok_Days__init T F_Days__init (He.mkr_ok (c.d.fact 130 rfl)) (He.glo_ok X G (c.d.fact 35 rfl)) c_Days_changed_by
  have c_Days_ring : Cm P w K mg base 1 (cDays K) "ring" (sp_Days_ring K mg) := ok_Days_ring T F_Days_ring (He.meth_ok (c.d.fact 131 rfl)) 
  have c_Days_dates : Cm P w K mg base 1 (cDays K) "dates" (sp_Days_dates K mg) := ok_Days_dates T F_Days_dates (He.meth_ok (c.d.fact 132 rfl)) 
  have c_some_dates : Cf P w K mg base 4 "some_dates" (sp_some_dates K mg) := ok_some_dates T F_some_dates m_some_dates c_Days__init c_Days_ring c_Days_dates
  have c_Book__init : Cn P w K mg base 5 "Book" (cBook K) (sp_Book__init K mg) := ok_Book__init T F_Book__init (He.mkr_ok (c.d.fact 133 rfl)) (He.glo_ok X G (c.d.fact 39 rfl)) c_want_deals c_Deal_name c_clauses_of c_some_dates c_Calendar_moments
  have c_is_name : Cf P w K mg base 1 "is_name" (sp_is_name K mg) := ok_is_name T F_is_name m_is_name 
  have c_want_name : Cf P w K mg base 2 "want_name" (sp_want_name K mg) := ok_want_name T F_want_name m_want_name c_is_name
  have c_wrong_name : Cf P w K mg base 2 "wrong_name" (sp_wrong_name K mg) := ok_wrong_name T F_wrong_name m_wrong_name c_is_name
  have c_want_names : Cf P w K mg base 3 "want_names" (sp_want_names K mg) := ok_want_names T F_want_names m_want_names c_is_list c_wrong_name
  have c_is_integer : Cf P w K mg base 1 "is_integer" (sp_is_integer K mg) := ok_is_integer T F_is_integer m_is_integer 
  have c_is_moment : Cf P w K mg base 2 "is_moment" (sp_is_moment K mg) := ok_is_moment T F_is_moment m_is_moment c_is_name
  have c_is_point : Cf P w K mg base 3 "is_point" (sp_is_point K mg) := ok_is_point T F_is_point m_is_point c_is_integer c_is_moment
  have c_want_points : Cf P w K mg base 4 "want_points" (sp_want_points K mg) := ok_want_points T F_want_points m_want_points c_is_point
  have c_is_count : Cf P w K mg base 2 "is_count" (sp_is_count K mg) := ok_is_count T F_is_count m_is_count c_is_integer
  have c_want_few : Cf P w K mg base 1 "want_few" (sp_want_few K mg) := ok_want_few T F_want_few m_want_few 
  have c_Deal__init : MkK P w K mg base 5 "Deal" (cDeal K) 7 ["alone", "price"] (sp_Deal__init K mg) := ok_Deal__init T F_Deal__init (He.mkr_ok (c.d.fact 134 rfl)) (He.glo_ok X G (c.d.fact 38 rfl)) c_want_name c_want_names c_want_points c_is_count c_want_few
  have c_law_deal : Cf P w K mg base 7 "_law_deal" (sp_law_deal K mg) := ok_law_deal T F_law_deal m_law_deal c_Deal__init
  have c_Calendar_has_moment : Cm P w K mg base 1 (cCalendar K) "has_moment" (sp_Calendar_has_moment K mg) := ok_Calendar_has_moment T F_Calendar_has_moment (He.meth_ok (c.d.fact 135 rfl)) 
  have c_is_clause : Cf P w K mg base 3 "is_clause" (sp_is_clause K mg) := ok_is_clause T F_is_clause m_is_clause c_is_integer c_is_moment
  have c_is_clause_basics : Cf P w K mg base 3 "is_clause_basics" (sp_is_clause K mg) := by
    refine ⟨?_⟩
    obtain ⟨f, fd, ps, ds, a1, a2, a3⟩ := c_is_clause.ex
    refine ⟨f, fd, ps, ds, a1, ?_, a3⟩
    rw [m_is_clause_basics, of_decide_eq_true e12, ← m_is_clause]
    exact a2
  have c_Calendar_is_own_form : Cm P w K mg base 4 (cCalendar K) "is_own_form" (sp_Calendar_is_own_form K mg) := ok_Calendar_is_own_form T F_Calendar_is_own_form (He.meth_ok (c.d.fact 136 rfl)) c_Calendar_has_moment c_is_clause_basics
  have c_Calendar__init : Cn P w K mg base 5 "Calendar" (cCalendar K) (sp_Calendar__init K mg) := ok_Calendar__init T F_Calendar__init (He.mkr_ok (c.d.fact 137 rfl)) (He.glo_ok X G (c.d.fact 37 rfl)) c_is_list c_is_name c_Calendar_is_own_form
  have c_law_calendar : Cf P w K mg base 7 "_law_calendar" (sp_law_calendar K mg) := ok_law_calendar T F_law_calendar m_law_calendar c_Calendar__init
  have c_law_book : Cf P w K mg base 8 "_law_book" (sp_law_book K mg) := ok_law_book T F_law_book m_law_book c_Book__init c_law_deal c_law_calendar
  have c_law_all_spots : Cf P w K mg base 1 "_law_all_spots" (sp_law_all_spots K mg) := ok_law_all_spots T F_law_all_spots m_law_all_spots 
  have c_law_keep : Cf P w K mg base 1 "_law_keep" (sp_law_keep K mg) := ok_law_keep T F_law_keep m_law_keep 
  have c_law_good : Cf P w K mg base 2 "_law_good" (sp_law_good K mg) := ok_law_good T F_law_good m_law_good c_law_all_spots c_law_keep
  have c_law_by_tag : TagF K mg := ⟨⟨_, F_law_by_tag⟩, m_law_by_tag⟩
  have c_law_rules : Cf P w K mg base 2 "_law_rules" (sp_law_rules K mg) := ok_law_rules T F_law_rules m_law_rules c_law_by_tag
  have c_law_stretch : Cf P w K mg base 1 "_law_stretch" (sp_law_stretch K mg) := ok_law_stretch T F_law_stretch m_law_stretch 
  have c_law_least : Cf P w K mg base 2 "_law_least" (sp_law_least K mg) := ok_law_least T F_law_least m_law_least c_law_stretch
  have c_Book__contains : Cm P w K mg base 1 (cBook K) "__contains__" (sp_Book__contains K mg) := ok_Book__contains T F_Book__contains (He.meth_ok (c.d.fact 138 rfl)) 
  have c_Book_want_name : Cm P w K mg base 2 (cBook K) "want_name" (sp_Book_want_name K mg) := ok_Book_want_name T F_Book_want_name (He.meth_ok (c.d.fact 139 rfl)) c_Book__contains
  have c_Book__getitem : Cm P w K mg base 3 (cBook K) "__getitem__" (sp_Book__getitem K mg) := ok_Book__getitem T F_Book__getitem (He.meth_ok (c.d.fact 64 rfl)) c_Book_want_name
  have c_want_moment : Cf P w K mg base 2 "want_moment" (sp_want_moment K mg) := ok_want_moment T F_want_moment m_want_moment c_Calendar_has_moment
  have c_Sums_sum_to : Cm P w K mg base 1 (cSums K) "sum_to" (sp_Sums_sum_to K mg) := ok_Sums_sum_to T F_Sums_sum_to (He.meth_ok (c.d.fact 140 rfl)) 
  have c_Sums_take : Cm P w K mg base 1 (cSums K) "take" (sp_Sums_take K mg) := ok_Sums_take T F_Sums_take (He.meth_ok (c.d.fact 141 rfl)) 
  have c_Sums__init : Cn P w K mg base 2 "Sums" (cSums K) (sp_Sums__init K mg) := ok_Sums__init T F_Sums__init (He.mkr_ok (c.d.fact 142 rfl)) (He.glo_ok X G (c.d.fact 34 rfl)) c_Sums_take
  have c_Closed_sums_from : Cm P w K mg base 4 (cClosed K) "sums_from" (sp_Closed_sums_from K mg) := ok_Closed_sums_from T F_Closed_sums_from (He.meth_ok (c.d.fact 143 rfl)) c_Sums__init
  have c_Closed_bound : Cm P w K mg base 5 (cClosed K) "bound" (sp_Closed_bound K mg) := ok_Closed_bound T F_Closed_bound (He.meth_ok (c.d.fact 144 rfl)) c_Sums_sum_to c_Closed_sums_from
  have c_Closed__init : Cn P w K mg base 4 "Closed" (cClosed K) (sp_Closed__init K mg) := ok_Closed__init T F_Closed__init (He.mkr_ok (c.d.fact 145 rfl)) (He.glo_ok X G (c.d.fact 36 rfl)) c_Days__init
  have c_Calendar_closed : Cm P w K mg base 6 (cCalendar K) "closed" (sp_Calendar_closed K mg) := ok_Calendar_closed T F_Calendar_closed (He.meth_ok (c.d.fact 146 rfl)) c_Closed__init
  have c_Closed_ring : Cm P w K mg base 2 (cClosed K) "ring" (sp_Closed_ring K mg) := ok_Closed_ring T F_Closed_ring (He.meth_ok (c.d.fact 147 rfl)) c_Days_ring
  have c_closed_of : Cf P w K mg base 7 "closed_of" (sp_closed_of K mg) := ok_closed_of T F_closed_of m_closed_of c_Calendar_closed c_Closed_ring
  have c_bound : Cf P w K mg base 8 "bound" (sp_bound K mg) := ok_bound T F_bound m_bound c_want_moment c_Closed_bound c_closed_of
  have c_most_behind : Cf P w K mg base 9 "most_behind" (sp_most_behind K mg) := ok_most_behind T F_most_behind m_most_behind c_bound
  have c_Deal_begin : Prp P w K mg base 1 (cDeal K) "begin" (sp_Deal_begin K mg) := ok_Deal_begin T F_Deal_begin pr_Deal_begin 
  have c_Deal_end : Prp P w K mg base 1 (cDeal K) "end" (sp_Deal_end K mg) := ok_Deal_end T F_Deal_end pr_Deal_end 
  have c_slack_in : Cf P w K mg base 10 "slack_in" (sp_slack_in K mg) := ok_slack_in T F_slack_in m_slack_in c_most_behind c_Deal_begin c_Deal_end
  have c_Book_full : Cm P w K mg base 7 (cBook K) "full" (sp_Book_full K mg) := ok_Book_full T F_Book_full (He.meth_ok (c.d.fact 148 rfl)) c_Calendar__init c_Calendar_moments
  have c_slack : Cf P w K mg base 11 "slack" (sp_slack K mg) := ok_slack T F_slack m_slack c_Book__getitem c_slack_in c_Book_full
  have c_law_cells : Cf P w K mg base 1 "_law_cells" (sp_law_cells K mg) := ok_law_cells T F_law_cells m_law_cells 
  have c_law_do_touch : Cf P w K mg base 2 "_law_do_touch" (sp_law_do_touch K mg) := ok_law_do_touch T F_law_do_touch m_law_do_touch c_law_cells
  have c_Book_names : Cm P w K mg base 1 (cBook K) "names" (sp_Book_names K mg) := ok_Book_names T F_Book_names (He.meth_ok (c.d.fact 149 rfl)) 
  have c_Deal_cells : Cm P w K mg base 1 (cDeal K) "cells" (sp_Deal_cells K mg) := ok_Deal_cells T F_Deal_cells (He.meth_ok (c.d.fact 150 rfl)) 
  have c_Deal__and : Cm P w K mg base 2 (cDeal K) "__and__" (sp_Deal__and K mg) := ok_Deal__and T F_Deal__and (He.meth_ok (c.d.fact 151 rfl)) c_Deal_cells
  have c_Deal_touches : Cm P w K mg base 3 (cDeal K) "touches" (sp_Deal_touches K mg) := ok_Deal_touches T F_Deal_touches (He.meth_ok (c.d.fact 152 rfl)) c_Deal__and
  have c_Book_touching : Cm P w K mg base 4 (cBook K) "touching" (sp_Book_touching K mg) := ok_Book_touching T F_Book_touching (He.meth_ok (c.d.fact 153 rfl)) c_Book_names c_Deal_touches
  have c_slacks : Cf P w K mg base 11 "slacks" (sp_slacks K mg) := ok_slacks T F_slacks m_slacks c_Book_full c_Book_touching c_slack_in c_Book__getitem
  have c_law_may_meet : Cf P w K mg base 2 "_law_may_meet" (sp_law_may_meet K mg) := ok_law_may_meet T F_law_may_meet m_law_may_meet c_law_stretch
  have c_law_first_open : Cf P w K mg base 3 "_law_first_open" (sp_law_first_open K mg) := ok_law_first_open T F_law_first_open m_law_first_open c_law_by_tag c_law_may_meet c_law_do_touch
  have c_is_at_most : Cf P w K mg base 1 "is_at_most" (sp_is_at_most K mg) := ok_is_at_most T F_is_at_most m_is_at_most 
  have c_is_surely_ahead : Cf P w K mg base 10 "is_surely_ahead" (sp_is_surely_ahead K mg) := ok_is_surely_ahead T F_is_surely_ahead m_is_surely_ahead c_is_at_most c_most_behind c_Deal_begin c_Deal_end
  have c_word_in : Cf P w K mg base 11 "word_in" (sp_word_in K mg) := ok_word_in T F_word_in m_word_in c_is_surely_ahead c_most_behind c_Deal_end c_Deal_begin c_is_at_most
  have c_open_pairs : Cf P w K mg base 12 "open_pairs" (sp_open_pairs K mg) := ok_open_pairs T F_open_pairs m_open_pairs c_Book_full c_Book_touching c_word_in c_Book__getitem
  have c_want_safe : Cf P w K mg base 13 "want_safe" (sp_want_safe K mg) := ok_want_safe T F_want_safe m_want_safe c_open_pairs
  have c_want_safeR : CalS P w K mg base 13 "want_safe" (sp_want_safeR K mg) := ok_want_safeR T NS F_want_safe m_want_safe F_NotSafe__init (He.eqO_ok e10) (of_decide_eq_true e11) hNS c_open_pairs
  have c_room_by : Cf P w K mg base 1 "room_by" (sp_room_by K mg) := ok_room_by T F_room_by m_room_by 
  have c_room : Cf P w K mg base 14 "room" (sp_room K mg) := ok_room T F_room m_room c_Book_want_name c_want_safe c_room_by c_slacks
  have c_roomR : CalS P w K mg base 14 "room" (sp_roomR K mg) := ok_roomR T F_room m_room c_Book_want_name c_want_safeR c_room_by c_slacks
  have c_law_room_right : Cf P w K mg base 15 "_law_room_right" (sp_law_room_right K mg) := ok_law_room_right T F_law_room_right m_law_room_right c_room c_law_do_touch c_law_may_meet
  have c_law_pot : Cf P w K mg base 1 "_law_pot" (sp_law_pot K mg) := ok_law_pot T F_law_pot m_law_pot 
  have hcF : fd_law_right.code = .ref (He.cT K ("_law_right", none)).1 := code_at F_law_right
  have GR : FnG P w K mg base 17 (He.ga K "_law_right") fd_law_right ["_law_pot_here"] (sp_law_right (He.cT K ("_law_right", none)).2) := ok_law_right T NS hNS F_law_right hcF TB F_law_heard m_law_heard c_roomR c_law_window c_law_book c_law_good c_law_rules c_law_least c_slack c_law_do_touch c_slacks c_law_first_open c_law_room_right joinP preP preC
  exact ok_law T F_law F_law_right m_law_right GR c_law_pot
end Ld
open PySem PySem.W PySem.Calls PyProof.Rows
theorem PySem.Challenge.cw_letdays_k72_whole_slacks_beside_all_date_holds : PySem.Challenge.rw_letdays_k72_whole_slacks_beside_all_date.Holds := by
  refine Ld.headL ?_
  refine Ld.walk_ofG (l := PySem.Challenge.rw_letdays_k72_whole_slacks_beside_all_date) (n := 63) rfl (by decide) Ld.plainL ?F
  intro w mg fa h Y G hmg0
  obtain ⟨K, KX, c⟩ := Y
  have hmg : mg ("law" : PySem.Str) = some (.ref fa) := by
    rw [← Ld.nameL]
    exact hmg0
  obtain ⟨f, fd, m, hb, hF⟩ := Ld.chainL (P := (PySem.Challenge.rw_letdays_k72_whole_slacks_beside_all_date).prog) (w := w) KX G c
  have e := hmg.symm.trans m
  cases e
  refine ⟨K, KX, _, _, c.empty, c.out, PySem.W.codeHd_of_K KX c.hd, fun base s₁ H a ns hl hK hbase TB hP hS e0 => ?_⟩
  exact (hF base TB).run callerA [] s₁ H ⟨[.ref a], []⟩ [.ref a] [.ref a] _ C8.E0 rfl ⟨rfl, by decide, by decide⟩ e0 (hb s₁ (.ref a)) (.cons rfl .nil) ⟨a, ns, rfl, hS, fun p hp => by rw [List.mem_singleton.mp hp]; exact LamX.TabS.nil hP, fun _ => rfl⟩
