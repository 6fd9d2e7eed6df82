import PyProof.Rows.All
import Wide.All
import OpenK.AllK
import Wide.FinOn
import KE.KStateDown
import Lean
import HandS.ForMost
import HandS.Exc
import HandS.WordsExc
import HandS.Flow
import HandS.Style
import HandS.IsInst
import HandS.Defaults
import HandS.Conv
import HandS.Evl
import HandS.Steps
import HandS.Head0
import HandS.Head1
import HandS.Head2
import HandS.HeadEnd
import HandS.HeadHook1
import HandS.HeadHook2
import PyProof.ReprRoads
import HandS.MakeKwOnly
import HandS.Codes
import KE.KExcSuper
import HandS.ExcInit
import HandS.ExcOwn
import HandS.ExcValue
import HandS.ExcField
import HandS.ExcIs
import HandS.Lambda
import HandS.Property
import HandS.HeadHook3
import HandS.HeadHook4
import KE.KExcIs
import HandS.Text
import HandS.Iter
import HandS.DictComp
import HandS.More
import HandS.WordsDict
import KE.KDictZip
import HandS.Zip0
import HandS.Star
import KE.SortData
import HandS.Flt
import PyProof.ReprLen
import HandS.ListItems
import HandS.Finally
import HandS.SortInts
import KE.DataMinMax
import PyProof.Rows.RowBridgeK
import HandS.Strs
import HandS.TupSets
import KE.GoesEnum
import HandS.EndTab
import HandS.TupAny
import PySem.Challenge.RW_wholepaid_k72_plans_and_months
set_option Elab.async false
set_option linter.all false
set_option maxRecDepth 100000
set_option maxHeartbeats 4000000
/-! The layer of this repo over the hand layer: defs called by their names, repr of data, the draws. -/
namespace Wp
open PySem PySem.Spec PyProof.Rows L2

/-- a def of the top as it stands -/
abbrev FnP (K : PySem.W.Frag) (x : Str) (st : Stmt) (f : Addr) (fd : FuncData) : Prop :=
  FunD K x x (defArgs st) (defBody st) (defScope st) [] [] f fd

/-- a def of the top that is called by its name -/
structure Dn (P : Program) (w : World) (K : PySem.W.Frag) (mg : Str → Option Value) (base : Heap)
    (CX : CXT) (k : Nat) (x : Str) (ps : List Str) (sp : Sp) : Prop where
  ex : ∃ fd, FnOk P w K mg base CX k (He.ga K x) fd ps sp ∧ Binds K fd ps []
  gm : mg x = some (.ref (He.ga K x))
  kp : PySem.W.keepIn K (.ref (He.ga K x)) = true

def tFn (sp : Sp) (E : XK) (t : TA) : TE := fun σ H Q => t σ H fun vs H1 => sp vs H1 Q E

section
variable {X : Cx}
theorem pe_fn {CX : CXT} {k : Nat} {x : Str} {ps : List Str} {sp : Sp} {E : XK} {e : Expr} {es : List Expr}
    {t : TA} {p pos : Pos} (D : Dn X.prog X.w X.K X.mg X.base CX k x ps sp) (hr : Room k X.A)
    (hx : Passes CX X E) (ha : PA X (e :: es) t) (hg : Gl X x := by rfl)
    (hdb : (x == ("__debug__" : Str)) = false := by decide)
    (he : starEach (e :: es) X.env = (false, eval e X.env) :: starEach es X.env := by rfl)
    (hpl : (backTo pos (starEach es X.env)).any (·.1) = false := by rfl) :
    PE X (.Call (.Name x p) (e :: es) [] pos) (tFn sp E t) := by
  obtain ⟨fd, F, b⟩ := D.ex
  refine ⟨fun pins s σ H Q I h => ?_⟩
  have q := pe_call (CX := CX) (E := E) (dvs := []) (p := p) (pos := pos) F hr hg D.gm D.kp b .nil hx ha hdb he hpl
  refine q.run pins s σ H Q I ?_
  have e2 : (fun vs H1 => sp (vs ++ []) H1 Q E) = fun vs H1 => sp vs H1 Q E := by
    funext vs H1
    rw [List.append_nil]
  show t σ H (fun vs H1 => sp (vs ++ []) H1 Q E)
  rw [e2]
  exact h
end
end Wp
set_option Elab.async false
set_option linter.all false
set_option maxRecDepth 100000
set_option maxHeartbeats 4000000
namespace Wp
open PySem PySem.Spec PyProof.Rows L2
def topS (i : Nat) : Stmt := PySem.Challenge.pw_wholepaid_k72_plans_and_months.main.body.getD i (.Pass ⟨0, 0, 0, 0⟩)
end Wp
set_option Elab.async false
set_option linter.all false
set_option maxRecDepth 100000
set_option maxHeartbeats 4000000
/-! Readings, step by step: one lemma for each head. -/
namespace Wp
open PySem PySem.Spec PyProof.Rows L2

theorem sz5 {n : Nat} (h : n ≤ 1000000) : n ≤ sizeLine := Nat.le_trans h (by decide)
theorem sz6 {n : Nat} (h : n < 1000000) : n < sizeLine := Nat.lt_of_lt_of_le h (by decide)
/-- all but the object at a is as it was -/
def But (a : Addr) (H H' : Hp) : Prop := ∀ b o, H b = some o → b ≠ a → H' b = some o
theorem Same.new {H : Hp} {p : Addr} {o : HO} (h : H p = none) : Same H (upd H p o) := fun b u e => by
  rw [upd_ne (ne_of_none e h)]
  exact e
theorem But.upd {H : Hp} {p : Addr} {o : HO} : But p H (upd H p o) := fun b u e n => by
  rw [upd_ne n]
  exact e
theorem But.same {H H1 H2 : Hp} {p : Addr} (a : But p H H1) (b : Same H1 H2) : But p H H2 := fun c o e n => b c o (a c o e n)
theorem Same.but {H H1 H2 : Hp} {p : Addr} (a : Same H H1) (b : But p H1 H2) : But p H H2 := fun c o e n => b c o (a c o e) n
/-- what is new may change -/
theorem Same.mut {H H1 H2 : Hp} {p : Addr} (a : Same H H1) (b : But p H1 H2) (n : H p = none) : Same H H2 := fun c o e => b c o (a c o e) (ne_of_none e n)

section
variable {t u : TS} {D : Ends} {σ : L2.St} {H : Hp} {te ta tb tc : TE} {ca cb : TT} {tr : TA} {g : TG} {gs : TGs} {Q : VK} {QB : Bool → Hp → Prop} {QA : List V → Hp → Prop} {QS : L2.St → Hp → Prop} {v x y : V} {i j : Int} {n : Nat} {b : Bool} {K : PySem.W.Frag}
/-! statements -/
theorem r_seq (h : t { D with nx := u D } σ H) : tSeq t u D σ H := h
theorem r_next (h : D.nx σ H) : tNext D σ H := h
theorem r_if {c : TT} (h : c σ H fun b H1 => if b = true then t D σ H1 else u D σ H1) : tIfS c t u D σ H := h
theorem r_asg (h : te σ H fun x H1 => g x σ H1 D.nx) : tAsg te g D σ H := h
theorem r_gname (h : QS (σ.set n (some v)) H) : gName n v σ H QS := h
theorem r_ret (h : te σ H D.rt) : tRet te D σ H := h
theorem r_retN (h : D.rt .non H) : tRetN D σ H := h
theorem r_drop (h : te σ H fun _ H1 => D.nx σ H1) : tDrop te D σ H := h
def kPar (m n : Nat) (D : Ends) (σ : L2.St) : List V → Hp → Prop := fun vs H1 => ∃ v w, vs = [v, w] ∧ D.nx ((σ.set m (some v)).set n (some w)) H1
theorem r_par {m : Nat} (h : tr σ H (kPar m n D σ)) : tPar m n tr D σ H := h
theorem r_kPar {m : Nat} (h : D.nx ((σ.set m (some x)).set n (some y)) H) : kPar m n D σ [x, y] H := ⟨x, y, rfl, h⟩
theorem r_gtup {a : Addr} {xs : List V} (h : SqT K H a xs) (l : xs.length = n) (q : gs xs σ H QS) : gTup K n gs (.ref a) σ H QS := ⟨a, xs, rfl, h, l, q⟩
theorem r_gnil (q : QS σ H) : gNil [] σ H QS := ⟨rfl, q⟩
theorem r_gcons {r : List V} (q : g v σ H fun σ' H' => gs r σ' H' QS) : gCons g gs (v :: r) σ H QS := ⟨v, r, rfl, q⟩
/-! names, constants, arguments -/
theorem r_var (h : σ[n]? = some (some v)) (q : Q v H) : tVar n σ H Q := ⟨v, h, q⟩
theorem r_c (q : Q v H) : tC v σ H Q := q
theorem r_nil (q : QA [] H) : tNil σ H QA := q
theorem r_cons (q : te σ H fun x H1 => tr σ H1 fun xs H2 => QA (x :: xs) H2) : tCons te tr σ H QA := q
theorem r_fn {sp : Sp} {E : XK} (q : tr σ H fun vs H1 => sp vs H1 Q E) : tFn sp E tr σ H Q := q
theorem r_cb {r : List V → Hp → VK → Prop} (q : tr σ H fun vs H1 => r vs H1 Q) : tCB r tr σ H Q := q
/-! operators -/
theorem r_op {r : R2} (q : ta σ H fun x H1 => tb σ H1 fun y H2 => r x y H2 Q) : tOp r ta tb σ H Q := q
theorem r_un {r : V → Hp → VK → Prop} (q : ta σ H fun x H1 => r x H1 Q) : tUn r ta σ H Q := q
theorem r_I0 {f : Int → Int → V} (q : Q (f i j) H) : rI0 f (.int i) (.int j) H Q := ⟨i, j, rfl, rfl, q⟩
theorem r_I {C : Int → Int → Prop} {f : Int → Int → V} (c : C i j) (q : Q (f i j) H) : rI C f (.int i) (.int j) H Q := ⟨i, j, rfl, rfl, c, q⟩
theorem r_U {f : Int → V} (q : Q (f i) H) : rU f (.int i) H Q := ⟨i, rfl, q⟩
theorem decI {i j : Int} : decide (V.int i = V.int j) = decide (i = j) := by
  by_cases h : i = j
  · rw [h]; simp
  · rw [decide_eq_false h, decide_eq_false fun z => h (V.int.inj z)]
theorem decS {i j : Str} : decide (V.str i = V.str j) = decide (i = j) := by
  by_cases h : i = j
  · rw [h]; simp
  · rw [decide_eq_false h, decide_eq_false fun z => h (V.str.inj z)]
theorem decB {i j : Bool} : decide (V.bl i = V.bl j) = decide (i = j) := by
  by_cases h : i = j
  · rw [h]; simp
  · rw [decide_eq_false h, decide_eq_false fun z => h (V.bl.inj z)]
theorem r_eqI (q : Q (.bl (decide (i = j))) H) : rEq (.int i) (.int j) H Q := ⟨rfl, by rw [decI]; exact q⟩
theorem r_neI (q : Q (.bl (!decide (i = j))) H) : rNe (.int i) (.int j) H Q := ⟨rfl, by rw [decI]; exact q⟩
theorem r_eqS {a c : Str} (q : Q (.bl (decide (a = c))) H) : rEq (.str a) (.str c) H Q := ⟨rfl, by rw [decS]; exact q⟩
theorem r_neS {a c : Str} (q : Q (.bl (!decide (a = c))) H) : rNe (.str a) (.str c) H Q := ⟨rfl, by rw [decS]; exact q⟩
theorem r_eqB {a c : Bool} (q : Q (.bl (decide (a = c))) H) : rEq (.bl a) (.bl c) H Q := ⟨rfl, by rw [decB]; exact q⟩
theorem r_neB {a c : Bool} (q : Q (.bl (!decide (a = c))) H) : rNe (.bl a) (.bl c) H Q := ⟨rfl, by rw [decB]; exact q⟩
def kChain (r' : R2) (tc : TE) (σ : L2.St) (y : V) (Q : VK) : VK := fun z H3 => ∃ k, z = .bl k ∧ (if k = true then tc σ H3 fun w' H4 => r' y w' H4 Q else Q (.bl false) H3)
theorem r_chain {r r' : R2} (q : ta σ H fun x H1 => tb σ H1 fun y H2 => r x y H2 (kChain r' tc σ y Q)) : tChain r r' ta tb tc σ H Q := q
theorem r_kChain {r' : R2} (q1 : b = true → tc σ H fun w' H4 => r' y w' H4 Q) (q2 : b = false → Q (.bl false) H) : kChain r' tc σ y Q (.bl b) H := by
  refine ⟨b, rfl, ?_⟩
  cases b with
  | true => exact iteT (q1 rfl)
  | false => exact iteF (q2 rfl)
/-! tests -/
def kTest (Q : Bool → Hp → Prop) : VK := fun x H' => ∃ k, x = .bl k ∧ Q k H'
theorem r_test (q : te σ H (kTest QB)) : tTest te σ H QB := q
theorem r_tB (q : te σ H (kTest QB)) : tB te σ H QB := q
theorem r_kTest (q : QB b H) : kTest QB (.bl b) H := ⟨b, rfl, q⟩
theorem r_not (q : ca σ H fun c H1 => QB (!c) H1) : tNot ca σ H QB := q
theorem r_and (q : ca σ H fun c H1 => if c = true then cb σ H1 QB else QB false H1) : tAnd ca cb σ H QB := q
theorem r_or (q : ca σ H fun c H1 => if c = true then QB true H1 else cb σ H1 QB) : tOr ca cb σ H QB := q
theorem r_tif (q : ca σ H fun c H1 => if c = true then ta σ H1 Q else tb σ H1 Q) : tIf ca ta tb σ H Q := q
def kAndV (tb : TE) (σ : L2.St) (Q : VK) : VK := fun x H1 => ∃ c, x = .bl c ∧ if c = true then tb σ H1 Q else Q (.bl false) H1
def kOrV (tb : TE) (σ : L2.St) (Q : VK) : VK := fun x H1 => ∃ c, x = .bl c ∧ if c = true then Q (.bl true) H1 else tb σ H1 Q
def kNotV (Q : VK) : VK := fun x H1 => ∃ c, x = .bl c ∧ Q (.bl (!c)) H1
theorem r_andV (q : ta σ H (kAndV tb σ Q)) : tAndV ta tb σ H Q := q
theorem r_orV (q : ta σ H (kOrV tb σ Q)) : tOrV ta tb σ H Q := q
theorem r_notV (q : ta σ H (kNotV Q)) : tNotV ta σ H Q := q
theorem r_kAndV (q : if b = true then tb σ H Q else Q (.bl false) H) : kAndV tb σ Q (.bl b) H := ⟨b, rfl, q⟩
theorem r_kOrV (q : if b = true then Q (.bl true) H else tb σ H Q) : kOrV tb σ Q (.bl b) H := ⟨b, rfl, q⟩
theorem r_kNotV (q : Q (.bl (!b)) H) : kNotV Q (.bl b) H := ⟨b, rfl, q⟩
end
/-! ways -/
section
variable {A B : Prop} {p : Prop} {ip : Decidable p} {b : Bool}
theorem w_T (h : A) : if true = true then A else B := iteT h
theorem w_F (h : B) : if false = true then A else B := iteF h
theorem w_NT (h : B) : if (!true) = true then A else B := iteF h
theorem w_NF (h : A) : if (!false) = true then A else B := iteT h
theorem w_dec (h1 : p → A) (h2 : ¬ p → B) : if decide p = true then A else B := by
  by_cases h : p
  · rw [decide_eq_true h]; exact iteT (h1 h)
  · rw [decide_eq_false h]; exact iteF (h2 h)
theorem w_ndec (h1 : ¬ p → A) (h2 : p → B) : if (!decide p) = true then A else B := by
  by_cases h : p
  · rw [decide_eq_true h]; exact iteF (h2 h)
  · rw [decide_eq_false h]; exact iteT (h1 h)
theorem w_b (h1 : b = true → A) (h2 : b = false → B) : if b = true then A else B := by
  cases b with
  | true => exact iteT (h1 rfl)
  | false => exact iteF (h2 rfl)
theorem w_nb (h1 : b = false → A) (h2 : b = true → B) : if (!b) = true then A else B := by
  cases b with
  | true => exact iteF (h2 rfl)
  | false => exact iteT (h1 rfl)
theorem w_yes (h : b = true) (q : A) : if b = true then A else B := by rw [h]; exact iteT q
theorem w_no (h : b = false) (q : B) : if b = true then A else B := by rw [h]; exact iteF q
end
/-! objects -/
section
variable {t u : TS} {D : Ends} {σ : L2.St} {H : Hp} {te ta tb tc td ty tv : TE} {tr : TA} {Q : VK} {QA : List V → Hp → Prop} {v x y : V} {i j : Int} {n : Nat} {b : Bool} {K : PySem.W.Frag} {a C dx p : Addr} {fs : List (Str × V)} {f : Str} {xs ys : List V} {kvs : List (Key × V)} {k : Key}
theorem r_pow5 (q : Q (.int 100000) H) : rI CPow (fun i j => .int (i ^ j.toNat)) (.int 10) (.int 5) H Q := ⟨10, 5, rfl, rfl, ⟨by decide, by decide, by decide⟩, q⟩
theorem r_pow6 (q : Q (.int 1000000) H) : rI CPow (fun i j => .int (i ^ j.toNat)) (.int 10) (.int 6) H Q := ⟨10, 6, rfl, rfl, ⟨by decide, by decide, by decide⟩, q⟩
theorem r_pow7 (q : Q (.int 10000000) H) : rI CPow (fun i j => .int (i ^ j.toNat)) (.int 10) (.int 7) H Q := ⟨10, 7, rfl, rfl, ⟨by decide, by decide, by decide⟩, q⟩
theorem r_pow9 (q : Q (.int 1000000000) H) : rI CPow (fun i j => .int (i ^ j.toNat)) (.int 10) (.int 9) H Q := ⟨10, 9, rfl, rfl, ⟨by decide, by decide, by decide⟩, q⟩
theorem r_pow18 (q : Q (.int 1000000000000000000) H) : rI CPow (fun i j => .int (i ^ j.toNat)) (.int 10) (.int 18) H Q := ⟨10, 18, rfl, rfl, ⟨by decide, by decide, by decide⟩, q⟩
theorem r_pow20 (q : Q (.int 100000000000000000000) H) : rI CPow (fun i j => .int (i ^ j.toNat)) (.int 10) (.int 20) H Q := ⟨10, 20, rfl, rfl, ⟨by decide, by decide, by decide⟩, q⟩
theorem r_pow30 (q : Q (.int 1000000000000000000000000000000) H) : rI CPow (fun i j => .int (i ^ j.toNat)) (.int 10) (.int 30) H Q := ⟨10, 30, rfl, rfl, ⟨by decide, by decide, by decide⟩, q⟩
theorem r_isN_non (q : Q (.bl true) H) : rIsN .non .non H Q := ⟨rfl, q⟩
theorem r_isN_ref (q : Q (.bl false) H) : rIsN (.ref a) .non H Q := ⟨rfl, q⟩
theorem r_isN_int (q : Q (.bl false) H) : rIsN (.int i) .non H Q := ⟨rfl, q⟩
theorem r_isN_str {z : Str} (q : Q (.bl false) H) : rIsN (.str z) .non H Q := ⟨rfl, q⟩
theorem r_isN_bl (q : Q (.bl false) H) : rIsN (.bl b) .non H Q := ⟨rfl, q⟩
theorem r_notN_non (q : Q (.bl false) H) : rNotN .non .non H Q := ⟨rfl, q⟩
theorem r_notN_ref (q : Q (.bl true) H) : rNotN (.ref a) .non H Q := ⟨rfl, q⟩
theorem r_notN_int (q : Q (.bl true) H) : rNotN (.int i) .non H Q := ⟨rfl, q⟩
theorem r_notN_str {z : Str} (q : Q (.bl true) H) : rNotN (.str z) .non H Q := ⟨rfl, q⟩
theorem r_notN_bl (q : Q (.bl true) H) : rNotN (.bl b) .non H Q := ⟨rfl, q⟩
def kTup (Q : VK) : List V → Hp → Prop := fun xs H1 => xs.length ≤ sizeLine ∧ ∀ p, H1 p = none → Q (.ref p) (upd H1 p (.tup xs))
def kLst (Q : VK) : List V → Hp → Prop := fun xs H1 => xs.length ≤ sizeLine ∧ ∀ p, H1 p = none → Q (.ref p) (upd H1 p (.lst xs))
theorem r_tup (q : tr σ H (kTup Q)) : tTup tr σ H Q := q
theorem r_lst (q : tr σ H (kLst Q)) : tLst tr σ H Q := q
theorem r_kTup (q : ∀ p H', H p = none → Same H H' → H' p = some (.tup xs) → Q (.ref p) H') (hz : xs.length ≤ 1000000 := by (simp only [List.length_cons, List.length_nil]; decide)) : kTup Q xs H :=
  ⟨sz5 hz, fun p hp => q p _ hp (Same.new hp) upd_same⟩
theorem r_kLst (q : ∀ p H', H p = none → Same H H' → H' p = some (.lst xs) → Q (.ref p) H') (hz : xs.length ≤ 1000000 := by (simp only [List.length_cons, List.length_nil]; decide)) : kLst Q xs H :=
  ⟨sz5 hz, fun p hp => q p _ hp (Same.new hp) upd_same⟩
def kFld (K : PySem.W.Frag) (f : Str) (Q : VK) : VK := fun x H1 => ∃ a C dx fs v, x = .ref a ∧ H1 a = some (.ins C dx fs) ∧ Cls K C ∧ NoAttr K C f ∧ fs.lookup f = some v ∧ Q v H1
theorem r_fld (q : ta σ H (kFld K f Q)) : tFld K ta f σ H Q := q
theorem r_kFld (h1 : H a = some (.ins C dx fs)) (h2 : Cls K C) (h3 : NoAttr K C f) (h4 : fs.lookup f = some v) (q : Q v H) : kFld K f Q (.ref a) H := ⟨a, C, dx, fs, v, rfl, h1, h2, h3, h4, q⟩
def kSFld (K : PySem.W.Frag) (f : Str) (D : Ends) (σ : L2.St) (y : V) : VK := fun x H2 => ∃ a C dx fs, x = .ref a ∧ H2 a = some (.ins C dx fs) ∧ Cls K C ∧ NoAttr K C f ∧ fs.length < 1000 ∧ D.nx σ (upd H2 a (.ins C dx (putF f y fs)))
theorem r_sfld (q : tv σ H fun y H1 => ta σ H1 (kSFld K f D σ y)) : sFld K ta tv f D σ H := q
theorem r_kSFld (h1 : H a = some (.ins C dx fs)) (h2 : Cls K C) (h3 : NoAttr K C f) (hl : fs.length < 1000) (q : ∀ H', But a H H' → H' a = some (.ins C dx (putF f y fs)) → D.nx σ H') : kSFld K f D σ y (.ref a) H :=
  ⟨a, C, dx, fs, rfl, h1, h2, h3, hl, q _ But.upd upd_same⟩
def kDGet (Q : VK) (x : V) : VK := fun y H2 => ∃ a v, x = .ref a ∧ DGet H2 a y (some v) ∧ Q v H2
theorem r_dget (q : td σ H fun x H1 => ty σ H1 (kDGet Q x)) : tDGet td ty σ H Q := q
theorem r_kDGetS {z : Str} (h1 : H a = some (.dK kvs)) (h2 : valV kvs (Sum.inr z) = some v) (q : Q v H) : kDGet Q (.ref a) (.str z) H :=
  ⟨a, v, rfl, .inl ⟨kvs, Sum.inr z, .inl h1, rfl, h2.symm⟩, q⟩
theorem r_kDGetI {z : Int} (h1 : H a = some (.dK kvs)) (h2 : valV kvs (Sum.inl z) = some v) (q : Q v H) : kDGet Q (.ref a) (.int z) H :=
  ⟨a, v, rfl, .inl ⟨kvs, Sum.inl z, .inl h1, rfl, h2.symm⟩, q⟩
def kDPut (D : Ends) (σ : L2.St) (v x : V) : VK := fun y H3 => ∃ a H4, x = .ref a ∧ DPut H3 a y v H4 ∧ D.nx σ H4
theorem r_dput (q : tv σ H fun v H1 => td σ H1 fun x H2 => ty σ H2 (kDPut D σ v x)) : sDPut td ty tv D σ H := q
theorem r_kDPutS {z : Str} (h1 : H a = some (.dK kvs)) (hz : kvs.length < 1000000) (q : ∀ H', But a H H' → H' a = some (.dK (putK kvs (Sum.inr z) v)) → D.nx σ H') : kDPut D σ v (.ref a) (.str z) H :=
  ⟨a, _, rfl, .inl ⟨kvs, Sum.inr z, h1, rfl, sz6 hz, rfl⟩, q _ But.upd upd_same⟩
theorem r_ixL (h : SqL K H p xs) (e : atI xs i = some v) (q : Q v H) : rIxL K (.ref p) (.int i) H Q := ⟨p, xs, i, v, rfl, rfl, h, e, q⟩
theorem r_ixT (h : SqT K H p xs) (e : atI xs i = some v) (q : Q v H) : rIxT K (.ref p) (.int i) H Q := ⟨p, xs, i, v, rfl, rfl, h, e, q⟩
theorem r_ixSL (h : SqL K H p xs) (e : atI xs i = some v) (q : Q v H) : rIx K (.ref p) (.int i) H Q := .inl (r_ixL h e q)
theorem r_ixST (h : SqT K H p xs) (e : atI xs i = some v) (q : Q v H) : rIx K (.ref p) (.int i) H Q := .inr (.inl (r_ixT h e q))
def kBM (K : PySem.W.Frag) (T : String) (r : V → List V → Hp → VK → Prop) (tr : TA) (σ : L2.St) (Q : VK) : VK := fun x H1 => tyV K T x H1 ∧ tr σ H1 fun xs H2 => r x xs H2 Q
theorem r_bm {T : String} {r : V → List V → Hp → VK → Prop} (q : ta σ H (kBM K T r tr σ Q)) : tBM K T r ta tr σ H Q := q
theorem r_kBML {r : V → List V → Hp → VK → Prop} (h : H p = some (.lst xs)) (q : tr σ H fun ys H2 => r (.ref p) ys H2 Q) : kBM K "list" r tr σ Q (.ref p) H := ⟨.inl ⟨rfl, xs, SqL.of h⟩, q⟩
theorem r_append (h : H p = some (.lst xs)) (hz : xs.length < 1000000) (q : ∀ H', But p H H' → H' p = some (.lst (xs ++ [y])) → Q .non H') : rAppend (.ref p) [y] H Q :=
  ⟨p, xs, y, rfl, rfl, h, sz6 hz, q _ But.upd upd_same⟩
/-! built-in calls -/
def rInt1 : List V → Hp → VK → Prop := fun xs H Q => (∃ i, xs = [.int i] ∧ Q (.int i) H) ∨ ∃ k, xs = [.bl k] ∧ Q (.int (if k then 1 else 0)) H
theorem r_int1 (q : Q (.int i) H) : rInt1 [.int i] H Q := .inl ⟨i, rfl, q⟩
theorem r_int1b (q : Q (.int (if b then 1 else 0)) H) : rInt1 [.bl b] H Q := .inr ⟨b, rfl, q⟩
def rLen (K : PySem.W.Frag) : List V → Hp → VK → Prop := fun xs H Q => ∃ x n, xs = [x] ∧ LenV K x H n ∧ Q (.int n) H
theorem r_lenL (h : SqL K H p xs) (q : Q (.int (xs.length : Nat)) H) : rLen K [.ref p] H Q := ⟨_, _, rfl, .inl ⟨xs, h, rfl⟩, q⟩
theorem r_lenT (h : SqT K H p xs) (q : Q (.int (xs.length : Nat)) H) : rLen K [.ref p] H Q := ⟨_, _, rfl, .inr ⟨xs, h, rfl⟩, q⟩
def rMin2 : List V → Hp → VK → Prop := fun xs H Q => ∃ i j, xs = [.int i, .int j] ∧ Q (.int (if j < i then j else i)) H
def rMax2 : List V → Hp → VK → Prop := fun xs H Q => ∃ i j, xs = [.int i, .int j] ∧ Q (.int (if j > i then j else i)) H
theorem min_of (i j : Int) : (if j < i then j else i) = min i j := by
  split <;> omega
theorem max_of (i j : Int) : (if j > i then j else i) = max i j := by
  split <;> omega
theorem r_min2 (q : Q (.int (min i j)) H) : rMin2 [.int i, .int j] H Q := ⟨i, j, rfl, by rw [min_of]; exact q⟩
theorem r_max2 (q : Q (.int (max i j)) H) : rMax2 [.int i, .int j] H Q := ⟨i, j, rfl, by rw [max_of]; exact q⟩
def rListOf (K : PySem.W.Frag) : List V → Hp → VK → Prop := fun xs H Q => ∃ p ys, xs = [.ref p] ∧ (SqL K H p ys ∨ SqT K H p ys) ∧ ∀ l, H l = none → Q (.ref l) (upd H l (.lst ys))
theorem r_listL (h : SqL K H p xs) (q : ∀ l H', H l = none → Same H H' → H' l = some (.lst xs) → Q (.ref l) H') : rListOf K [.ref p] H Q := ⟨p, xs, rfl, .inl h, fun l hl => q l _ hl (Same.new hl) upd_same⟩
theorem r_listT (h : SqT K H p xs) (q : ∀ l H', H l = none → Same H H' → H' l = some (.lst xs) → Q (.ref l) H') : rListOf K [.ref p] H Q := ⟨p, xs, rfl, .inr h, fun l hl => q l _ hl (Same.new hl) upd_same⟩
theorem r_isi {c : V} {t u : Value} (h1 : ClsV c u) (h2 : TyX K H x t) (h3 : PySem.W.kitOne K t u = some b) (q : Q (.bl b) H) : rIsi K [x, c] H Q := ⟨x, c, t, u, b, rfl, h1, h2, h3, q⟩
theorem r_sum {zs : List Int} (h : SqL K H p (zs.map V.int)) (q : Q (.int zs.sum) H) : rSum K [.ref p] H Q := ⟨p, zs, rfl, h, q⟩
end
section
variable {X : Cx}
theorem c_int1 : CallR X (.type "int") rInt1 := call_int1
theorem c_len : CallR X (.builtin "len") (rLen X.K) := call_len
theorem c_min2 (h : X.calm = true) : CallR X (.builtin "min") rMin2 := call_min2 h
theorem c_max2 (h : X.calm = true) : CallR X (.builtin "max") rMax2 := call_max2 h
theorem c_list : CallR X (.type "list") (rListOf X.K) := call_list_of
end
end Wp
set_option Elab.async false
set_option linter.all false
set_option maxRecDepth 100000
set_option maxHeartbeats 4000000
/-! Readings of loops and comprehensions. -/
namespace Wp
open PySem PySem.Spec PyProof.Rows L2
section
variable {t u tw : TS} {D : Ends} {σ : L2.St} {H : Hp} {te ta tb tl : TE} {c tt : TT} {tr : TA} {g : TG} {Q : VK} {QB : Bool → Hp → Prop} {v x y : V} {n : Nat} {b : Bool} {K : PySem.W.Frag} {a : Addr} {xs : List V} {vs : List Nat}
theorem r_cut (Mid : L2.St → Hp → Prop) (h1 : t { D with nx := Mid } σ H) (h2 : ∀ σ' H', Mid σ' H' → u D σ' H') : Evl.tCut t u D σ H := ⟨Mid, h1, h2⟩
/-! for over a list -/
def kForL (K : PySem.W.Frag) (g : TG) (tw : TS) (D : Ends) (σ : L2.St) : VK := fun x H1 => ∃ a, x = .ref a ∧ (∃ xs, SqL K H1 a xs) ∧
  ∃ W : Nat → Nat → L2.St → Hp → Prop, (∃ m, W 0 m σ H1) ∧ ∀ i m σ H, W i m σ H →
  ((Itl K a).stop i H ∧ D.nx σ H) ∨ ((Itl K a).go i H ∧ ∃ N : L2.St → Hp → Prop, (∀ σ' H', N σ' H' → ∃ m', m' < m ∧ W (i + 1) m' σ' H') ∧
    ∀ x H', (Itl K a).yld i H x H' → g x σ H' fun σ2 H2 => tw { D with nx := N, ct := N, bk := D.nx } σ2 H2)
theorem r_forL (h : tl σ H (kForL K g tw D σ)) : tFor (iList K tl) g tw D σ H := h
theorem r_kForL (Pv : Nat → L2.St → Hp → Prop) (hl : SqL K H a xs) (h0 : Pv 0 σ H) (hk : ∀ i σ' H', Pv i σ' H' → SqL K H' a xs)
    (hs : ∀ i x σ' H', xs[i]? = some x → Pv i σ' H' → g x σ' H' fun σ2 H2 => tw { D with nx := Pv (i + 1), ct := Pv (i + 1), bk := D.nx } σ2 H2)
    (hd : ∀ σ' H', Pv xs.length σ' H' → D.nx σ' H') : kForL K g tw D σ (.ref a) H :=
  ⟨a, rfl, ⟨xs, hl⟩, for_list Pv h0 (fun i σ' H' _ p => hk i σ' H' p) hs hd⟩
def kForT (K : PySem.W.Frag) (g : TG) (tw : TS) (D : Ends) (σ : L2.St) : VK := fun x H1 => ∃ a, x = .ref a ∧ (∃ xs, SqT K H1 a xs) ∧
  ∃ W : Nat → Nat → L2.St → Hp → Prop, (∃ m, W 0 m σ H1) ∧ ∀ i m σ H, W i m σ H →
  ((Itt K a).stop i H ∧ D.nx σ H) ∨ ((Itt K a).go i H ∧ ∃ N : L2.St → Hp → Prop, (∀ σ' H', N σ' H' → ∃ m', m' < m ∧ W (i + 1) m' σ' H') ∧
    ∀ x H', (Itt K a).yld i H x H' → g x σ H' fun σ2 H2 => tw { D with nx := N, ct := N, bk := D.nx } σ2 H2)
theorem r_forT (h : tl σ H (kForT K g tw D σ)) : tFor (iTup K tl) g tw D σ H := h
theorem r_kForT (Pv : Nat → L2.St → Hp → Prop) (hl : SqT K H a xs) (h0 : Pv 0 σ H) (hk : ∀ i σ' H', Pv i σ' H' → SqT K H' a xs)
    (hs : ∀ i x σ' H', xs[i]? = some x → Pv i σ' H' → g x σ' H' fun σ2 H2 => tw { D with nx := Pv (i + 1), ct := Pv (i + 1), bk := D.nx } σ2 H2)
    (hd : ∀ σ' H', Pv xs.length σ' H' → D.nx σ' H') : kForT K g tw D σ (.ref a) H :=
  ⟨a, rfl, ⟨xs, hl⟩, for_tup Pv h0 (fun i σ' H' _ p => hk i σ' H' p) hs hd⟩
/-! for over a range -/
def kForR1 (g : TG) (tw : TS) (D : Ends) (σ : L2.St) : List V → Hp → Prop := fun ws H1 => ∃ j : Int, ws = [.int j] ∧ -(2 ^ 62) ≤ j ∧ j < 2 ^ 62 ∧
  ∃ W : Nat → Nat → L2.St → Hp → Prop, (∃ m, W 0 m σ H1) ∧ ∀ i m σ H, W i m σ H →
  ((Itr 0 j.toNat).stop i H ∧ D.nx σ H) ∨ ((Itr 0 j.toNat).go i H ∧ ∃ N : L2.St → Hp → Prop, (∀ σ' H', N σ' H' → ∃ m', m' < m ∧ W (i + 1) m' σ' H') ∧
    ∀ x H', (Itr 0 j.toNat).yld i H x H' → g x σ H' fun σ2 H2 => tw { D with nx := N, ct := N, bk := D.nx } σ2 H2)
theorem r_forR1 (h : tr σ H (kForR1 g tw D σ)) : tFor (iRng1 tr) g tw D σ H := h
theorem r_kForR1 {j : Int} (Pv : Nat → L2.St → Hp → Prop) (hj : -1000000000 ≤ j ∧ j ≤ 1000000000) (h0 : Pv 0 σ H)
    (hs : ∀ (i : Nat) σ' H', (i : Int) < j → Pv i σ' H' → g (.int (i : Int)) σ' H' fun σ2 H2 => tw { D with nx := Pv (i + 1), ct := Pv (i + 1), bk := D.nx } σ2 H2)
    (hd : ∀ σ' H', Pv j.toNat σ' H' → D.nx σ' H') : kForR1 g tw D σ [.int j] H :=
  ⟨j, rfl, by omega, by omega, for_range Pv h0 (fun i σ' H' hi p => by
    have e : (0 : Int) + (i : Int) = (i : Int) := Int.zero_add _
    rw [e]
    exact hs i σ' H' (by omega) p) hd⟩
def kForR2 (g : TG) (tw : TS) (D : Ends) (σ : L2.St) : List V → Hp → Prop := fun ws H1 => ∃ i0 j : Int, ws = [.int i0, .int j] ∧ (-(2 ^ 62) ≤ i0 ∧ i0 < 2 ^ 62 ∧ -(2 ^ 62) ≤ j ∧ j < 2 ^ 62) ∧
  ∃ W : Nat → Nat → L2.St → Hp → Prop, (∃ m, W 0 m σ H1) ∧ ∀ i m σ H, W i m σ H →
  ((Itr i0 (j - i0).toNat).stop i H ∧ D.nx σ H) ∨ ((Itr i0 (j - i0).toNat).go i H ∧ ∃ N : L2.St → Hp → Prop, (∀ σ' H', N σ' H' → ∃ m', m' < m ∧ W (i + 1) m' σ' H') ∧
    ∀ x H', (Itr i0 (j - i0).toNat).yld i H x H' → g x σ H' fun σ2 H2 => tw { D with nx := N, ct := N, bk := D.nx } σ2 H2)
theorem r_forR2 (h : tr σ H (kForR2 g tw D σ)) : tFor (iRng2 tr) g tw D σ H := h
theorem r_kForR2 {lo j : Int} (Pv : Nat → L2.St → Hp → Prop) (hj : -1000000000 ≤ lo ∧ lo ≤ 1000000000 ∧ -1000000000 ≤ j ∧ j ≤ 1000000000) (h0 : Pv 0 σ H)
    (hs : ∀ (i : Nat) σ' H', lo + (i : Int) < j → Pv i σ' H' → g (.int (lo + (i : Int))) σ' H' fun σ2 H2 => tw { D with nx := Pv (i + 1), ct := Pv (i + 1), bk := D.nx } σ2 H2)
    (hd : ∀ σ' H', Pv (j - lo).toNat σ' H' → D.nx σ' H') : kForR2 g tw D σ [.int lo, .int j] H :=
  ⟨lo, j, rfl, ⟨by omega, by omega, by omega, by omega⟩, for_range Pv h0 (fun i σ' H' hi p => hs i σ' H' (by omega) p) hd⟩
/-! while -/
def kWh (W : Nat → L2.St → Hp → Prop) (tw : TS) (D : Ends) (σ : L2.St) (m : Nat) : Bool → Hp → Prop := fun b H1 => if b = true then
  ∃ N : L2.St → Hp → Prop, (∀ σ' H', N σ' H' → ∃ m', m' < m ∧ W m' σ' H') ∧ tw { D with nx := N, ct := N, bk := D.nx } σ H1 else D.nx σ H1
def nWh (W : Nat → L2.St → Hp → Prop) (m : Nat) : L2.St → Hp → Prop := fun σ' H' => ∃ m', m' < m ∧ W m' σ' H'
theorem r_while (W : Nat → L2.St → Hp → Prop) (m : Nat) (h0 : W m σ H) (hs : ∀ m σ' H', W m σ' H' → c σ' H' (kWh W tw D σ' m)) : tWhile c tw D σ H := ⟨W, ⟨m, h0⟩, hs⟩
theorem r_kWh {W : Nat → L2.St → Hp → Prop} {m : Nat} (h1 : b = true → tw { D with nx := nWh W m, ct := nWh W m, bk := D.nx } σ H) (h2 : b = false → D.nx σ H) : kWh W tw D σ m b H := by
  unfold kWh
  cases b with
  | true => exact iteT ⟨nWh W m, fun _ _ z => z, h1 rfl⟩
  | false => exact iteF (h2 rfl)
/-! list comprehensions -/
def kLcE (Da : Addr) (Pv : Addr → Nat → Hp → Prop) (i : Nat) : VK := fun y H4 => ∃ acc, H4 Da = some (.lst acc) ∧ acc.length < sizeLine ∧ Pv Da (i + 1) (upd H4 Da (.lst (acc ++ [y])))
def kLcT (te : TE) (σ2 : L2.St) (Da : Addr) (Pv : Addr → Nat → Hp → Prop) (i : Nat) : Bool → Hp → Prop := fun b H3 => if b = true then te σ2 H3 (kLcE Da Pv i) else Pv Da (i + 1) H3
def kLcG (tt : TT) (te : TE) (vs : List Nat) (σ : L2.St) (Da : Addr) (Pv : Addr → Nat → Hp → Prop) (i : Nat) : L2.St → Hp → Prop := fun σ2 H2 => wipe σ2 vs = wipe σ vs ∧ tt σ2 H2 (kLcT te σ2 Da Pv i)
theorem r_yes (q : QB true H) : tYes σ H QB := q
section
variable {Da : Addr} {Pv : Addr → Nat → Hp → Prop} {i : Nat} {σ2 : L2.St} {acc : List V}
theorem r_kLcG (h : wipe σ2 vs = wipe σ vs) (q : tt σ2 H (kLcT te σ2 Da Pv i)) : kLcG tt te vs σ Da Pv i σ2 H := ⟨h, q⟩
theorem r_kLcT (q : if b = true then te σ2 H (kLcE Da Pv i) else Pv Da (i + 1) H) : kLcT te σ2 Da Pv i b H := q
theorem r_kLcE (h : H Da = some (.lst acc)) (hz : acc.length < 1000000) (q : ∀ H', But Da H H' → H' Da = some (.lst (acc ++ [y])) → Pv Da (i + 1) H') : kLcE Da Pv i y H :=
  ⟨acc, h, sz6 hz, q _ But.upd upd_same⟩
end
def kLcL (K : PySem.W.Frag) (g : TG) (tt : TT) (te : TE) (vs : List Nat) (σ : L2.St) (Q : VK) : VK := fun x H1 => ∃ a, x = .ref a ∧ (∃ xs, SqL K H1 a xs) ∧ ∀ Da, H1 Da = none → ∃ W : Nat → Nat → Hp → Prop, (∃ m, W 0 m (upd H1 Da (.lst []))) ∧ ∀ i m H, W i m H →
  ((Itl K a).stop i H ∧ Q (.ref Da) H) ∨ ((Itl K a).go i H ∧ ∃ Nx : Hp → Prop, (∀ H', Nx H' → ∃ m', m' < m ∧ W (i + 1) m' H') ∧ ∀ x H', (Itl K a).yld i H x H' → g x (wipe σ vs) H' fun σ2 H2 => wipe σ2 vs = wipe σ vs ∧ tt σ2 H2 fun b H3 =>
    if b = true then te σ2 H3 fun y H4 => ∃ acc, H4 Da = some (.lst acc) ∧ acc.length < sizeLine ∧ Nx (upd H4 Da (.lst (acc ++ [y]))) else Nx H3)
theorem r_lcL (q : tl σ H (kLcL K g tt te vs σ Q)) : tLc (iList K tl) g tt te vs σ H Q := q
theorem r_kLcL (Pv : Addr → Nat → Hp → Prop) (hl : SqL K H a xs) (h0 : ∀ Da H', H Da = none → Same H H' → H' Da = some (.lst []) → Pv Da 0 H') (hk : ∀ Da i H', Pv Da i H' → SqL K H' a xs)
    (hs : ∀ Da i x H', H Da = none → xs[i]? = some x → Pv Da i H' → g x (wipe σ vs) H' (kLcG tt te vs σ Da Pv i)) (hd : ∀ Da H', H Da = none → Pv Da xs.length H' → Q (.ref Da) H') : kLcL K g tt te vs σ Q (.ref a) H :=
  ⟨a, rfl, ⟨xs, hl⟩, fun Da hD => lc_list (Pv Da) (h0 Da _ hD (Same.new hD) upd_same) (fun i H' _ p => hk Da i H' p) (fun i x H' hx p => hs Da i x H' hD hx p) (fun H' p => hd Da H' hD p)⟩
def kLcR1 (g : TG) (tt : TT) (te : TE) (vs : List Nat) (σ : L2.St) (Q : VK) : List V → Hp → Prop := fun ws H1 => ∃ j : Int, ws = [.int j] ∧ -(2 ^ 62) ≤ j ∧ j < 2 ^ 62 ∧ ∀ Da, H1 Da = none → ∃ W : Nat → Nat → Hp → Prop, (∃ m, W 0 m (upd H1 Da (.lst []))) ∧ ∀ i m H, W i m H →
  ((Itr 0 j.toNat).stop i H ∧ Q (.ref Da) H) ∨ ((Itr 0 j.toNat).go i H ∧ ∃ Nx : Hp → Prop, (∀ H', Nx H' → ∃ m', m' < m ∧ W (i + 1) m' H') ∧ ∀ x H', (Itr 0 j.toNat).yld i H x H' → g x (wipe σ vs) H' fun σ2 H2 => wipe σ2 vs = wipe σ vs ∧ tt σ2 H2 fun b H3 =>
    if b = true then te σ2 H3 fun y H4 => ∃ acc, H4 Da = some (.lst acc) ∧ acc.length < sizeLine ∧ Nx (upd H4 Da (.lst (acc ++ [y]))) else Nx H3)
theorem r_lcR1 (q : tr σ H (kLcR1 g tt te vs σ Q)) : tLc (iRng1 tr) g tt te vs σ H Q := q
theorem r_kLcR1 {j : Int} (Pv : Addr → Nat → Hp → Prop) (hj : -1000000000 ≤ j ∧ j ≤ 1000000000) (h0 : ∀ Da H', H Da = none → Same H H' → H' Da = some (.lst []) → Pv Da 0 H')
    (hs : ∀ Da (i : Nat) H', H Da = none → (i : Int) < j → Pv Da i H' → g (.int (i : Int)) (wipe σ vs) H' (kLcG tt te vs σ Da Pv i)) (hd : ∀ Da H', H Da = none → Pv Da j.toNat H' → Q (.ref Da) H') : kLcR1 g tt te vs σ Q [.int j] H :=
  ⟨j, rfl, by omega, by omega, fun Da hD => lc_range (Pv Da) (h0 Da _ hD (Same.new hD) upd_same) (fun i H' hi p => by
    have e : (0 : Int) + (i : Int) = (i : Int) := Int.zero_add _
    rw [e]
    exact hs Da i H' hD (by omega) p) (fun H' p => hd Da H' hD p)⟩
end
end Wp
set_option Elab.async false
set_option linter.all false
set_option maxRecDepth 100000
set_option maxHeartbeats 4000000
/-! Data: lists of ints, == of data. -/
namespace Wp
open PySem PySem.Spec PyProof.Rows L2
section
variable {K : PySem.W.Frag} {H H' : Hp} {p q : Addr} {Q : VK} {as bs : List Int} {x y : V} {d e : PyData}
theorem dp_ints : ∀ ns : List Int, DpAll K H (ns.map V.int) (ns.map PyData.int)
  | [] => .nil
  | n :: r => .cons (.int n) (dp_ints r)
theorem lay_ints : ∀ ns : List Int, PyData.canLayAll0 (ns.map PyData.int) = true
  | [] => rfl
  | n :: r => by
    show (PyData.canLay0 (.int n) && PyData.canLayAll0 (r.map PyData.int)) = true
    rw [lay_ints r]
    rfl
theorem dep_ints : ∀ ns : List Int, PyData.depthAll (ns.map PyData.int) = 0
  | [] => rfl
  | n :: r => by
    show max (PyData.depth (.int n)) (PyData.depthAll (r.map PyData.int)) = 0
    rw [dep_ints r]
    rfl
theorem shp_ints (ns : List Int) : SeqAt.shaped (.list (ns.map PyData.int)) = true := by
  show (PyData.canLayAll0 (ns.map PyData.int) && decide (PyData.depthAll (ns.map PyData.int) + 1 ≤ 64)) = true
  rw [lay_ints, dep_ints]
  rfl
theorem eqv_ints : ∀ as bs : List Int, PyData.eqvAll (as.map PyData.int) (bs.map PyData.int) = decide (as = bs)
  | [], [] => by simp [PyData.eqvAll]
  | [], _ :: _ => by simp [PyData.eqvAll]
  | _ :: _, [] => by simp [PyData.eqvAll]
  | a :: r, b :: s => by
    show (PyData.eqv (.int a) (.int b) && PyData.eqvAll (r.map PyData.int) (s.map PyData.int)) = _
    rw [eqv_ints r s]
    show ((a == b) && decide (r = s)) = decide (a :: r = b :: s)
    rw [Bool.eq_iff_iff]
    simp
theorem r_neLI (h1 : SqL K H p (as.map V.int)) (h2 : SqL K H q (bs.map V.int)) (k : Q (.bl (!decide (as = bs))) H) : rNeD K (.ref p) (.ref q) H Q := by
  refine ⟨.list (as.map .int), .list (bs.map .int), .lst h1 (dp_ints as), .lst h2 (dp_ints bs), shp_ints as, shp_ints bs, ?_⟩
  show Q (.bl (!PyData.eqvAll (as.map PyData.int) (bs.map PyData.int))) H
  rw [eqv_ints]
  exact k
theorem r_eqLI (h1 : SqL K H p (as.map V.int)) (h2 : SqL K H q (bs.map V.int)) (k : Q (.bl (decide (as = bs))) H) : rEqD K (.ref p) (.ref q) H Q := by
  refine ⟨.list (as.map .int), .list (bs.map .int), .lst h1 (dp_ints as), .lst h2 (dp_ints bs), shp_ints as, shp_ints bs, ?_⟩
  show Q (.bl (PyData.eqvAll (as.map PyData.int) (bs.map PyData.int))) H
  rw [eqv_ints]
  exact k
mutual
theorem Dp.mono (e : Same H H') : ∀ {d : PyData} {v : V}, Dp K H v d → Dp K H' v d
  | _, _, .non => .non
  | _, _, .bl b => .bl b
  | _, _, .int i => .int i
  | _, _, .str x => .str x
  | _, _, .lst h r => .lst (e.seq h) (DpAll.mono e r)
  | _, _, .tup h r => .tup (Evl.ex_t e h) (DpAll.mono e r)
theorem DpAll.mono (e : Same H H') : ∀ {ds : List PyData} {vs : List V}, DpAll K H vs ds → DpAll K H' vs ds
  | _, _, .nil => .nil
  | _, _, .cons a r => .cons (Dp.mono e a) (DpAll.mono e r)
end
theorem r_popAt0 {l : Addr} {z : V} {zs : List V} (h : H l = some (.lst (z :: zs))) (k : ∀ H', But l H H' → H' l = some (.lst zs) → Q z H') : rPopAt (.ref l) [.int 0] H Q :=
  ⟨l, z :: zs, 0, 0, z, rfl, rfl, h, by decide, by decide, by simp [seqIndex?], rfl, k _ But.upd upd_same⟩
theorem at_get {α : Type} {xs : List α} {i : Int} {n : Nat} {v : α} (h0 : i = (n : Int)) (h : xs[n]? = some v) : atI xs i = some v := by
  rw [h0]
  exact atI_nat h
theorem at_last {α : Type} (xs : List α) (z : α) : atI (xs ++ [z]) (-1) = some z := by
  unfold atI ixN
  rw [if_neg (by decide)]
  have h : -(((xs ++ [z]).length : Nat) : Int) ≤ -1 := by
    rw [List.length_append]
    show -(((xs.length + 1 : Nat)) : Int) ≤ -1
    omega
  rw [if_pos h]
  have e : ((-1 : Int) + (((xs ++ [z]).length : Nat) : Int)).toNat = xs.length := by
    rw [List.length_append]
    show ((-1 : Int) + ((xs.length + 1 : Nat) : Int)).toNat = xs.length
    omega
  show ((some ((-1 : Int) + (((xs ++ [z]).length : Nat) : Int)).toNat).bind fun j => (xs ++ [z])[j]?) = some z
  rw [e]
  simp
theorem take_more {α : Type} {xs : List α} {i : Nat} {x : α} (h : xs[i]? = some x) : xs.take (i + 1) = xs.take i ++ [x] := by
  rw [List.take_succ, h]
  rfl
theorem r_eqD_eq (h1 : Dp K H x d) (h2 : Dp K H y d) (hs : SeqAt.shaped d = true) (k : Q (.bl true) H) : rEqD K x y H Q := by
  refine ⟨d, d, h1, h2, hs, hs, ?_⟩
  rw [SeqAt.eqv_refl d (SeqAt.canLay_of_shaped hs)]
  exact k
theorem r_neD_eq (h1 : Dp K H x d) (h2 : Dp K H y d) (hs : SeqAt.shaped d = true) (k : Q (.bl false) H) : rNeD K x y H Q := by
  refine ⟨d, d, h1, h2, hs, hs, ?_⟩
  rw [SeqAt.eqv_refl d (SeqAt.canLay_of_shaped hs)]
  exact k
theorem r_cat {l b : Addr} {xs ys : List V} (h1 : H l = some (.lst xs)) (h2 : H b = some (.lst ys)) (hz : xs.length + ys.length ≤ 1000000) (k : ∀ p H', H p = none → Same H H' → H' p = some (.lst (xs ++ ys)) → Q (.ref p) H') : rCat (.ref l) (.ref b) H Q :=
  ⟨l, b, xs, ys, rfl, rfl, h1, h2, sz5 hz, fun p hp => k p _ hp (Same.new hp) upd_same⟩
/-! displays of dicts -/
theorem mergeK_app : ∀ (more kvs : List (Key × V)), ((kvs ++ more).map (·.1)).Nodup → mergeK kvs more = kvs ++ more
  | [], kvs, _ => by
    rw [List.append_nil]
    rfl
  | (k, v) :: r, kvs, h => by
    have hn : valV kvs k = none := by
      cases e : valV kvs k with
      | none => rfl
      | some u =>
        have hm := valV_in e
        rw [List.map_append] at h
        exact absurd rfl ((List.nodup_append.mp h).2.2 k hm k (by simp))
    show mergeK (putK kvs k v) r = _
    rw [putK_new v hn]
    have e : (kvs ++ [(k, v)]) ++ r = kvs ++ (k, v) :: r := by simp
    rw [mergeK_app r (kvs ++ [(k, v)]) (by rw [e]; exact h), e]
theorem mergeK_nil {kvs : List (Key × V)} (h : (kvs.map (·.1)).Nodup) : mergeK [] kvs = kvs := mergeK_app kvs [] h
def kDisp (p : Addr) (Q : VK) : List (V × V) → Hp → Prop := fun ps H2 => H2 p = some (.dK []) ∧ ∃ kvs : List (Key × V), ps = kvs.map (fun kv => (kV kv.1, kv.2)) ∧ kvs.length ≤ 15 ∧ Q (.ref p) (upd H2 p (.dK (mergeK [] kvs)))
section
variable {σ : L2.St} {tk tv : TE} {trs : List (TE × TE)} {QP : List (V × V) → Hp → Prop} {kvs : List (Key × V)} {ps : List (V × V)}
theorem r_disp (q : ∀ p H', H p = none → Same H H' → H' p = some (.dK []) → tPairs trs σ H' (kDisp p Q)) : tDisp trs σ H Q := fun p hp => q p _ hp (Same.new hp) upd_same
theorem r_pnil (q : QP [] H) : tPairs [] σ H QP := q
theorem r_pcons (q : tk σ H fun x H1 => tv σ H1 fun y H2 => tPairs trs σ H2 fun ps H3 => QP ((x, y) :: ps) H3) : tPairs ((tk, tv) :: trs) σ H QP := q
theorem r_kDisp (kvs : List (Key × V)) (h : H p = some (.dK [])) (e : ps = kvs.map (fun kv => (kV kv.1, kv.2))) (hl : kvs.length ≤ 15) (hn : (kvs.map (·.1)).Nodup) (q : ∀ H', But p H H' → H' p = some (.dK kvs) → Q (.ref p) H') : kDisp p Q ps H :=
  ⟨h, kvs, e, hl, q _ But.upd (by rw [mergeK_nil hn]; exact upd_same)⟩
end
end
end Wp
set_option Elab.async false
set_option linter.all false
set_option maxRecDepth 100000
set_option maxHeartbeats 4000000
/-! Defs that call repr: they run where no repr is under way (the guards are known). repr of data. list(range(a, b, c)). -/
namespace Wp
open PySem PySem.Spec PyProof.Rows L2
/-- the promise of a def wherever no repr runs around it -/
structure FnG (P : Program) (w : World) (K : PySem.W.Frag) (mg : Str → Option Value) (base : Heap) (CX : CXT)
    (k : Nat) (f : Addr) (fd : FuncData) (ps : List Str) (sp : Sp) : Prop where
  len : ∀ vs H Q E, sp vs H Q E → vs.length = ps.length
  run : ∀ (A : Around) (outer : List Env) (s : Shared) (H : Hp) (args : Args) (us : List Value) (vs : List V) (Q : VK) (E : XK),
    Room k A → A.guards = some [] → Env0 P w K mg base A outer s H → BindsTo s fd args (ps.zip us) → Vals vs us → sp vs H Q E →
    codeAny (model P w) A (.call (.ref f) args) (CR CX outer P w H s Q E) s
section
variable {P : Program} {w : World} {K : PySem.W.Frag} {mg : Str → Option Value} {base : Heap}
theorem FnG.of {CX : CXT} {k : Nat} {f : Addr} {fd : FuncData} {ps : List Str} {sp : Sp} (F : FnOk P w K mg base CX k f fd ps sp) : FnG P w K mg base CX k f fd ps sp :=
  ⟨F.len, fun A outer s H args us vs Q E hr _ => F.run A outer s H args us vs Q E hr⟩
/-- where a def's body ends -/
theorem ends_ok {CX : CXT} {N : List Str} {qual : Str} {scope : Scope} {f : Addr} {cdv : Value} {A : Around} {outer : List Env} {s : Shared} {H : Hp} {Q : VK} {E : XK} {fl : Flow} {s' : Shared}
    (h : SP (cxOf CX P w K mg base N qual scope f cdv A outer s H E) [] { nx := fun _ H' => Q .non H', rt := Q } fl s') :
    match fl with | .ret u => CE outer P w H s Q u s' | .next => CE outer P w H s Q .none s' | _ => False := by
  cases fl with
  | ret u =>
    obtain ⟨v, τ, H2, J, rv, q⟩ := h
    exact ⟨v, H2, J.os, J.bare, J.base, J.hok, rv, q⟩
  | next =>
    obtain ⟨τ, H2, J, q⟩ := h
    exact ⟨V.non, H2, J.os, J.bare, J.base, J.hok, rfl, q⟩
  | brk =>
    obtain ⟨_, _, _, q⟩ := h
    exact q
  | cont =>
    obtain ⟨_, _, _, q⟩ := h
    exact q
end
section
variable {P : Program} {w : World} {K : PySem.W.Frag} {mg : Str → Option Value} {base : Heap} {x qual : Str} {params : Arguments} {body : List Stmt} {scope : Scope} {dvs : List V} {kws : List (Str × V)} {f : Addr} {fd : FuncData}
theorem _root_.L2.FunD.okG {CX : CXT} {N ps : List Str} {k : Nat} {sp : Sp} (F : FunD K x qual params body scope dvs kws f fd) (S : FnScope N ps scope)
    (len : ∀ vs H Q E, sp vs H Q E → vs.length = ps.length)
    (hbody : ∀ (cdv : Value) (A : Around) (outer : List Env) (s : Shared) (H : Hp) (vs : List V) (Q : VK) (E : XK),
      Room k (A.deeper (envOfC qual scope s.heap.objs.size f cdv)) → (A.deeper (envOfC qual scope s.heap.objs.size f cdv)).guards = some [] → sp vs H Q E →
      ∃ t, PSs (cxOf CX P w K mg base N qual scope f cdv A outer s H E) body t ∧ t { nx := fun _ H' => Q .non H', rt := Q } (L2.start N vs) H) :
    FnG P w K mg base CX (k + 1) f fd ps sp := by
  obtain ⟨oc, od, dV, kV, doc, pm, an, cdv, ct, osl, rfl, lk, hcd, _, _⟩ := F.ex
  refine ⟨len, ?_⟩
  intro A outer s H args us vs Q E hr hg e0 hb r hsp
  have inK : K.In s.heap := e0.mod.kin.keeps fun a ob q => (e0.bs a ob q).1
  have noLim : s.heap.NoLimit := e0.mod.nolimit.keeps fun a ob q => (e0.bs a ob q).1
  refine codeAny_call_function hr.depth (inK _ _ lk) rfl S.co S.gen rfl (PySem.W.codeRec_of inK hcd) (hb _ _ _ _ ?_)
  refine wpAny_newFunctionEnv_cells S.kind (fun y hy => ?_) fun env he s1 inC => ?_
  · rcases S.par y.1 (List.of_mem_zip hy).1 with z | z
    · exact Or.inl z
    · exact Or.inr ⟨z, PySem.W.cellsFrom_some _ _ _ (Or.inl z)⟩
  · subst he
    obtain ⟨t, ht, hq⟩ := hbody cdv A outer s H vs Q E (hr.deeper _) hg hsp
    refine ⟨noLim.keeps inC.toInCall.keep, codeAny_func ?_⟩
    refine wpAny_mono (ht.run [] s1 _ H _ (inv_start S hr.hd e0 (len _ _ _ _ hsp) r inC) hq) (fun fl s2 hs => ?_) fun _ _ z => z
    have z := ends_ok hs
    cases fl <;> first | exact z | exact z.elim
end
/-- a guarded def of the top, called by its name -/
structure Dg (P : Program) (w : World) (K : PySem.W.Frag) (mg : Str → Option Value) (base : Heap)
    (CX : CXT) (k : Nat) (x : Str) (ps : List Str) (sp : Sp) : Prop where
  ex : ∃ fd, FnG P w K mg base CX k (He.ga K x) fd ps sp ∧ Binds K fd ps []
  gm : mg x = some (.ref (He.ga K x))
  kp : PySem.W.keepIn K (.ref (He.ga K x)) = true
section
variable {X : Cx}
theorem run_fnG {CX : CXT} {k : Nat} {f : Addr} {fd : FuncData} {ps : List Str} {sp : Sp} {E : XK} {pins : List (Addr × Obj)} {σ : L2.St} {H : Hp} {s : Shared} {Q : VK} {us : List Value} {vs : List V}
    (F : FnG X.prog X.w X.K X.mg X.base CX k f fd ps sp) (hr : Room k X.A) (hG : X.A.guards = some []) (hb : Binds X.K fd ps []) (hx : Passes CX X E)
    (I : Inv X pins σ H s) (r : Vals vs us) (h : sp vs H Q E) : wpAny (model X.prog X.w) X.A (call (.ref f) us) (EP X pins σ Q) X.xe s := by
  have hl : us.length = ps.length := r.length.symm.trans (F.len _ _ _ _ h)
  have hb2 := hb s us I.kIn (by rw [List.append_nil]; exact hl)
  rw [List.append_nil] at hb2
  refine wpAny_call (codeAny_mono (F.run X.A X.stack s H ⟨us, []⟩ us vs Q E hr hG I.env0 hb2 r h) fun res s2 hq => ?_)
  cases res with
  | error e => exact hx pins σ H s e s2 I hq
  | ok fl =>
    cases fl with
    | ret u => exact I.after hq
    | next => exact hq.elim
    | brk => exact hq.elim
    | cont => exact hq.elim
theorem pe_fnG {CX : CXT} {k : Nat} {x : Str} {ps : List Str} {sp : Sp} {E : XK} {e : Expr} {es : List Expr}
    {t : TA} {p pos : Pos} (D : Dg X.prog X.w X.K X.mg X.base CX k x ps sp) (hr : Room k X.A) (hG : X.A.guards = some [])
    (hx : Passes CX X E) (ha : PA X (e :: es) t) (hg : Gl X x := by rfl)
    (hdb : (x == ("__debug__" : Str)) = false := by decide)
    (he : starEach (e :: es) X.env = (false, eval e X.env) :: starEach es X.env := by rfl)
    (hpl : (backTo pos (starEach es X.env)).any (·.1) = false := by rfl) :
    PE X (.Call (.Name x p) (e :: es) [] pos) (tFn sp E t) := by
  obtain ⟨fd, F, b⟩ := D.ex
  refine ⟨fun pins s σ H Q I h => wpAny_Call_Name_kw (ld_glob I hg D.gm ?_ hdb)⟩
  refine PySem.W.callWith_K (h₀ := X.base) I.ok.mod.kin D.kp (thn (ha.run pos pins s σ H _ I h) ?_) he hpl
  rintro us s1 ⟨vs, H1, I1, r, q⟩
  exact ⟨I1.kIn, run_fnG F hr hG b hx I1 r q⟩
end
/-! ### repr of data -/
def rRepr (K : PySem.W.Frag) : List V → Hp → VK → Prop := fun xs H Q => ∃ (v : V) (d : PyData), xs = [v] ∧ Dp K H v d ∧ d.showable = true ∧ d.depth ≤ 60 ∧ d.shown.length ≤ sizeLine ∧ d.hasDict = false ∧ Q (.str d.shown) H
theorem call_reprD {X : Cx} {k : Nat} (hG : X.A.guards = some []) (hr : Room k X.A) : CallR X (.builtin "repr") (rRepr X.K) := by
  intro pins s σ H xs us Q I r h
  obtain ⟨v, d, rfl, hd, hs, hdep, hlen, hnd, q⟩ := h
  obtain ⟨u, rfl, ru⟩ := vals1 r
  have hu : X.A.units + (d.depth + 1) < cLine := by
    have := hr.units
    omega
  obtain ⟨as, rd⟩ := Dp.reads I d v u hd ru
  have noD : d.hasDict = true → sysModules ∉ as := fun z => by rw [hnd] at z; cases z
  cases rd with
  | none => exact PySem.P.repr_of_none ⟨.str _, H, I.tok _, ⟨_, rfl⟩, q⟩
  | bool b => exact PySem.P.repr_of_bool ⟨.str _, H, I.tok _, ⟨_, rfl⟩, q⟩
  | int i t => exact PySem.P.repr_of_int (of_decide_eq_true hs) ⟨.str _, H, I.tok _, ⟨_, rfl⟩, q⟩
  | str z t => exact PySem.P.repr_of_str ⟨.str _, H, I.tok _, ⟨_, rfl⟩, q⟩ hlen
  | list h1 h2 h3 h4 =>
    exact repr_of_reads' (.list h1 h2 h3 h4) hs noD hG hu (fun _ _ z => z) (fun h' t2 tk kp => ⟨.str _, H, I.kept kp, ⟨_, rfl⟩, q⟩) hlen
  | tuple h1 h2 h3 h4 =>
    exact repr_of_reads' (.tuple h1 h2 h3 h4) hs noD hG hu (fun _ _ z => z) (fun h' t2 tk kp => ⟨.str _, H, I.kept kp, ⟨_, rfl⟩, q⟩) hlen
  | dict h1 h2 h3 h4 h5 => exact absurd hnd (by simp [PyData.hasDict])
/-! ### the law itself: run by the claim's caller, around which nothing is -/
theorem law_callG {P : Program} {w : World} {K : PySem.W.Frag} {mg mb : Str → Option Value} {CX : CXT} {k : Nat} {fa a : Addr} {fd : FuncData} {x : Str} {sp : Sp} {s1 : Shared} {us : List Value} {zs : List Int}
    (inK : K.In s1.heap) (gl : s1.heap.Ns mainGlobals mg) (bl : s1.heap.Ns builtinsNs mb) (same : ∀ x : Str, x ≠ "__name__" → mb x = bootBuiltins x) (noLim : s1.heap.NoLimit) (gens : s1.gens = #[])
    (ha : s1.heap.get? a = some { cls := .type "list", data := .seq us.toArray }) (hi : IntsAre us zs) (hl : zs.length ≤ sizeLine) (hr : Room k callerA)
    (F : ∀ base : Heap, K.In base → base.Ns mainGlobals mg → FnG P w K mg base CX k fa fd [x] sp) (bind : ∀ (s : Shared) (u : Value), BindsTo s fd ⟨[u], []⟩ [(x, u)])
    (hsp : ∀ H : Hp, Only H → SqL K H a (zs.map V.int) → sp [.ref a] H (fun v _ => v = .bl true) fun _ _ _ => False)
    (hCX : ∀ H e s', CX [] H s1 (fun _ _ _ => False) e s' → False) :
    codeAny (model P w) callerA (.call (.ref fa) ⟨[.ref a], []⟩) (fun r s' => r = .ok (.ret (.bool true)) ∧ OldK s1.heap s'.heap ∧ s'.os = s1.os ∧ AllBare s'.gens) s1 := by
  -- the abstract heap H0 tracks at most the script
  have go : ∀ H0 : Hp, Only H0 → SqL K H0 a (zs.map V.int) → HOk P w H0 s1.heap → (∀ b, H0 b ≠ none → b = a) → (H0 a ≠ none → K.lookup a = none) →
      codeAny (model P w) callerA (.call (.ref fa) ⟨[.ref a], []⟩) (fun r s' => r = .ok (.ret (.bool true)) ∧ OldK s1.heap s'.heap ∧ s'.os = s1.os ∧ AllBare s'.gens) s1 := by
    intro H0 only sq hok onlyA kA
    have dictFree : ∀ (b : Addr) (o : Obj) (es : Array DictEntry) (ep : Nat), s1.heap.get? b = some o → o.data = .dict es ep → H0 b = none := by
      intro b o es ep e d
      cases q : H0 b with
      | none => rfl
      | some u =>
        obtain rfl : b = a := onlyA b (by rw [q]; simp)
        rw [ha] at e
        cases e
        cases d
    have nsH : ∀ (b : Addr) (m : Str → Option Value), s1.heap.Ns b m → (hidT s1.heap H0).Ns b m := by
      rintro b m ⟨o, es, ep, e, d, r⟩
      exact ⟨o, es, ep, hidT_get e (dictFree b o es ep e d), d, r⟩
    have inH : K.In (hidT s1.heap H0) := by
      intro b o e
      refine hidT_get (inK b o e) ?_
      cases q : H0 b with
      | none => rfl
      | some u =>
        obtain rfl : b = a := onlyA b (by rw [q]; simp)
        rw [kA (by rw [q]; simp)] at e
        cases e
    obtain ⟨mc, l1, l2⟩ := noLim
    have md : Mod K mg (hidT s1.heap H0) := ⟨inH, nsH _ _ gl, ⟨mb, nsH _ _ bl, same⟩, ⟨mc, nsH _ _ l1, l2⟩⟩
    have e0 : Env0 P w K mg (hidT s1.heap H0) callerA [] s1 H0 :=
      ⟨rfl, md, fun b o e => of_hidT e, Nat.le_of_eq (hidT_size _ _), trivial, (fun b hb => nomatch hb), hok, .of_eq gens⟩
    have run := (F _ inH (nsH _ _ gl)).run callerA [] s1 H0 ⟨[.ref a], []⟩ [.ref a] [.ref a] _ _ hr rfl e0 (bind s1 (.ref a)) (.cons rfl .nil) (hsp H0 only sq)
    refine codeAny_mono run fun res s2 h => ?_
    cases res with
    | error e => exact (hCX H0 e s2 h).elim
    | ok fl =>
      cases fl with
      | next => exact h.elim
      | brk => exact h.elim
      | cont => exact h.elim
      | ret u =>
        obtain ⟨v, H2, os2, bare2, un, hok2, rv, q⟩ := h
        obtain rfl : v = .bl true := q
        obtain rfl : u = Value.bool true := rv
        refine ⟨rfl, OldK.of_keep fun b o e => ?_, os2, bare2⟩
        rcases only b with z | ⟨ob, xs, z⟩
        · exact un.keep b o e z (fun y => nomatch y) (fun y => nomatch y)
        · obtain ⟨g1, _⟩ := hok b _ z
          obtain ⟨g2, _⟩ := hok2 b _ (un.frzs b ob _ z)
          rw [e] at g1
          cases g1
          exact g2
  cases hk : K.lookup a with
  | some o =>
    have e := inK a o hk
    rw [ha] at e
    cases e
    exact go (fun _ => none) (fun _ => .inl rfl) (.inr ⟨_, us.toArray, _, hk, rfl, rfl, rfl, by rw [List.size_toArray, hi.length]; exact hl, by simpa using vals_ints hi⟩)
      (fun b u z => nomatch z) (fun b z => absurd rfl z) fun z => absurd rfl z
  | none =>
    let fz : HO := .frz { cls := .type "list", data := .seq us.toArray } (.lst (zs.map V.int))
    have atA : upd (fun _ => none) a fz a = some fz := upd_same
    refine go (upd (fun _ => none) a fz) (fun b => ?_) (.inl (.inr ⟨_, atA⟩)) (fun b u z => ?_) (fun b z => ?_) fun _ => hk
    · by_cases hb : b = a
      · subst hb
        exact .inr ⟨_, _, atA⟩
      · exact .inl (upd_ne hb)
    · by_cases hb : b = a
      · subst hb
        rw [atA] at z
        cases z
        exact ⟨ha, by rw [List.length_map]; exact hl, us, _, vals_ints hi, ha⟩
      · rw [upd_ne hb] at z
        cases z
    · by_cases hb : b = a
      · exact hb
      · exact absurd (upd_ne hb) z
theorem walk_ofG {l : PySem.W.OpenLaw} {n k : Nat} {q : Program} {loose : List Str} {XP : (Str → Option Value) → Heap → Prop} {YP : World → Heap → Prop} {d : DefRec} {CX : CXT} {x : Str}
    (hn : l.most = some n) (hn2 : n ≤ sizeLine) (hdf : d.params.defaults = []) (hr : Room k callerA)
    (F : ∀ (w : World) (mg : Str → Option Value) (fa : Addr) (h : Heap), YP w h → h.Ns mainGlobals mg → mg d.name = some (.ref fa) →
      ∃ (K : PySem.W.Frag) (fd : FuncData) (sp : Sp), K.In h ∧ (∀ (s : Shared) (u : Value), BindsTo s fd ⟨[u], []⟩ [(x, u)]) ∧
        (∀ (H : Hp) (a : Addr) (ns : List Int), ns.length ≤ n → Only H → SqL K H a (ns.map V.int) → sp [.ref a] H (fun v _ => v = .bl true) fun _ _ _ => False) ∧
        ∀ base : Heap, K.In base → base.Ns mainGlobals mg → FnG l.prog w K mg base CX k fa fd [x] sp)
    (hCX : ∀ (H : Hp) (s : Shared) (e : Value) (s' : Shared), CX [] H s (fun _ _ _ => False) e s' → False) :
    PySem.W.WalkO q loose XP YP l.row.toRowW d [] (fun f vs => PySem.call f vs) := by
  refine Att.attach_call hn hdf ?_
  intro w s0 s1 mg mb fa o pm cd doc a us zs G Y _ _ _ hmg hobj hints hlen hg
  obtain ⟨K, fd, sp, inK, hb, hsp, hF⟩ := F w mg fa _ Y G.T.g hmg
  exact law_callG inK G.T.g G.T.b G.T.builtins G.T.nolimit hg hobj hints (Nat.le_trans hlen hn2) hr hF hb (fun H o1 sq => hsp H a zs hlen o1 sq) fun H e s2 => hCX H s1 e s2
end Wp
set_option Elab.async false
set_option linter.all false
set_option maxRecDepth 100000
set_option maxHeartbeats 4000000
/-! The rules whose reading names the written part, with the written part as a letter of its own (so that readings within comprehensions and outside are the same). -/
namespace Wp
open PySem PySem.Spec PyProof.Rows L2
section
variable {X : Cx} {K : PySem.W.Frag}
theorem ix_listK (h : X.K = K) : IxR X (rIxL K) := by subst h; exact ix_list
theorem ix_tupK (h : X.K = K) : IxR X (rIxT K) := by subst h; exact ix_tup
theorem ix_seqK (h : X.K = K) : IxR X (rIx K) := by subst h; exact ix_seq
theorem sl_listK (h : X.K = K) : SlR X (rSlL K) := by subst h; exact sl_list
theorem sl_tupK (h : X.K = K) : SlR X (rSlT K) := by subst h; exact sl_tup
theorem c_lenK (h : X.K = K) : CallR X (.builtin "len") (rLen K) := by subst h; exact c_len
theorem c_listK (h : X.K = K) : CallR X (.type "list") (rListOf K) := by subst h; exact c_list
theorem c_isiK (h : X.K = K) : CallR X (.builtin "isinstance") (rIsi K) := by subst h; exact call_isi
theorem c_isiTK (h : X.K = K) : CallR X (.builtin "isinstance") (rIsiT K) := by subst h; exact call_isiT
theorem c_sumK (h : X.K = K) (c : X.calm = true) : CallR X (.builtin "sum") (rSum K) := by subst h; exact cr_sum c
theorem c_allK (h : X.K = K) (c : X.calm = true) : CallR X (.builtin "all") (rAll K) := by subst h; exact cr_all c
theorem c_anyK (h : X.K = K) (c : X.calm = true) : CallR X (.builtin "any") (rAny K) := by subst h; exact cr_any c
theorem c_minK (h : X.K = K) (c : X.calm = true) : CallR X (.builtin "min") (rMin K) := by subst h; exact cr_min c
theorem c_maxK (h : X.K = K) (c : X.calm = true) : CallR X (.builtin "max") (rMax K) := by subst h; exact cr_max c
theorem c_sortedK (h : X.K = K) : CallR X (.builtin "sorted") (rSorted K) := by subst h; exact cr_sorted
theorem c_sortedSK (h : X.K = K) : CallR X (.builtin "sorted") (rSortedS K) := by subst h; exact cr_sortedS
theorem c_reprK {k : Nat} (h : X.K = K) (hG : X.A.guards = some []) (hr : Room k X.A) : CallR X (.builtin "repr") (rRepr K) := by subst h; exact call_reprD hG hr
def rTupOf (K : PySem.W.Frag) : List V → Hp → VK → Prop := fun xs H Q => ∃ p ys, xs = [.ref p] ∧ ((SqL K H p ys ∧ ∀ l, H l = none → Q (.ref l) (upd H l (.tup ys))) ∨ (SqT K H p ys ∧ Q (.ref p) H))
theorem c_tupleK (h : X.K = K) : CallR X (.type "tuple") (rTupOf K) := by subst h; exact call_tuple_of
theorem in_seqK (h : X.K = K) : OpR X (compareOp .In) (rIn K false) := by subst h; exact op_in_seq
theorem notIn_seqK (h : X.K = K) : OpR X (compareOp .NotIn) (rIn K true) := by subst h; exact op_notIn_seq
theorem eqDK (h : X.K = K) (hu : X.A.units + 64 < cLine) : OpR X (compareOp .Eq) (rEqD K) := by subst h; exact op_eqD hu
theorem neDK (h : X.K = K) (hu : X.A.units + 64 < cLine) : OpR X (compareOp .NotEq) (rNeD K) := by subst h; exact op_neD hu
theorem pe_fldK {e : Expr} {f : Str} {pos : Pos} {ta : TE} (h : X.K = K) (he : PE X e ta) (hb : attributeBase e f X.env (eval e X.env) = eval e X.env := by rfl) : PE X (.Attribute e f pos) (tFld K ta f) := by
  subst h
  exact pe_fld he hb
theorem ps_fldK {o value : Expr} {f : Str} {pos pos' : Pos} {ta tv : TE} (h : X.K = K) (ha : PE X o ta) (hv : PE X value tv) (hs : swapsWith value (some (.Attribute o f pos')) pos.line X.env = pure false := by rfl) : PS X (.Assign [.Attribute o f pos'] value pos) (sFld K ta tv f) := by
  subst h
  exact ps_fld ha hv hs
theorem pg_tupK {es : List Expr} {k : Nat} {t : TGs} {n : Nat} {pos : Pos} (h : X.K = K) (hc : X.calm = true) (hh : PGs X es t)
    (hn : (assignEach es X.env).length = n := by rfl) (hst : (assignEach es X.env).findIdx? (·.1) = none := by rfl) : PG X (.Tuple es k pos) (gTup K n t) := by
  subst h
  exact pg_tup hc hh hn hst
theorem pi_listK {l tg : Expr} {tl : TE} (h : X.K = K) (hl : PE X l tl) : PI X tg l (iList K tl) := by
  subst h
  exact pi_list hl
theorem pi_tupK {l tg : Expr} {tl : TE} (h : X.K = K) (hl : PE X l tl) : PI X tg l (iTup K tl) := by
  subst h
  exact pi_tup hl
theorem pe_bmK {T : String} {name : Str} {id : String} {r : V → List V → Hp → VK → Prop} {o e : Expr} {es : List Expr} {to : TE} {t : TA} {apos cpos : Pos} (h : X.K = K) (pa : PlainAttrs T) (slot : Slot T name id) (hty : typeOf (.builtin id) = pure (.type "method_descriptor")) (hm : MtR X id r) (ho : PE X o to) (ha : PA X (e :: es) t)
    (hbase : attributeBase o name X.env (eval o X.env) = eval o X.env := by rfl)
    (hfew : ((backTo cpos (starEach (e :: es) X.env)).all (fun x => !x.1) && (backToKw cpos (keywordEach [] X.env)).all (fun x => x.1.isSome) && decide ((e :: es).length + ([] : List Keyword).length + (if ([] : List Keyword).isEmpty then 0 else 1) < 30)) = true := by rfl)
    (hline : (apos.endLine == cpos.line) = true := by rfl) (he : starEach (e :: es) X.env = (false, eval e X.env) :: starEach es X.env := by rfl) (hpl : (backTo cpos (starEach es X.env)).any (·.1) = false := by rfl) :
    PE X (.Call (.Attribute o name apos) (e :: es) [] cpos) (tBM K T r to t) := by
  subst h
  exact pe_bm pa slot hty hm ho ha hbase hfew hline he hpl
end
end Wp
set_option Elab.async false
set_option linter.all false
set_option maxRecDepth 100000
set_option maxHeartbeats 4000000
/-! Calls by keywords alone; classes called; isinstance. -/
namespace Wp
open PySem PySem.Spec PyProof.Rows L2
def swap2 {α : Type} : List α → List α
  | [a, b] => [b, a]
  | l => l
def rev3 {α : Type} : List α → List α
  | [a, b, c] => [c, b, a]
  | l => l
theorem swap2_rel {vs : List V} {us : List Value} (r : Vals vs us) : Vals (swap2 vs) (swap2 us) := by
  match vs, us, r with
  | [], _, .nil => exact .nil
  | [_], _, .cons a .nil => exact .cons a .nil
  | [_, _], _, .cons a (.cons b .nil) => exact .cons b (.cons a .nil)
  | _ :: _ :: _ :: _, _, .cons a (.cons b (.cons c d)) => exact .cons a (.cons b (.cons c d))
theorem rev3_rel {vs : List V} {us : List Value} (r : Vals vs us) : Vals (rev3 vs) (rev3 us) := by
  match vs, us, r with
  | [], _, .nil => exact .nil
  | [_], _, .cons a .nil => exact .cons a .nil
  | [_, _], _, .cons a (.cons b .nil) => exact .cons a (.cons b .nil)
  | [_, _, _], _, .cons a (.cons b (.cons c .nil)) => exact .cons c (.cons b (.cons a .nil))
  | _ :: _ :: _ :: _ :: _, _, .cons a (.cons b (.cons c (.cons d e))) => exact .cons a (.cons b (.cons c (.cons d e)))
/-- a def called by keywords ks alone; g puts their values in the parameters' order -/
structure Dq (P : Program) (w : World) (K : PySem.W.Frag) (mg : Str → Option Value) (base : Heap)
    (CX : CXT) (k : Nat) (x : Str) (ks : List Str) (g : List V → List V) (sp : Sp) : Prop where
  ex : ∃ (fd : FuncData) (ps : List Str) (gv : List Value → List Value), FnOk P w K mg base CX k (He.ga K x) fd ps sp ∧ KBn K fd ps 0 ks (fun _ ws => gv ws) (fun _ zs => g zs)
  gm : mg x = some (.ref (He.ga K x))
  kp : PySem.W.keepIn K (.ref (He.ga K x)) = true
def kFnK (n : Nat) (g : List V → List V) (sp : Sp) (E : XK) (Q : VK) : List V → Hp → Prop := fun zs H1 => zs.length = n ∧ sp (g zs) H1 Q E
def tFnK (n : Nat) (g : List V → List V) (sp : Sp) (E : XK) (tk : TA) : TE := fun σ H Q => tk σ H (kFnK n g sp E Q)
section
variable {X : Cx}
theorem pe_fnK0 {CX : CXT} {k : Nat} {x : Str} {ks : List Str} {g : List V → List V} {sp : Sp} {E : XK} {kws : List Keyword} {tk : TA} {p pos : Pos}
    (D : Dq X.prog X.w X.K X.mg X.base CX k x ks g sp) (hr : Room k X.A) (hx : Passes CX X E) (hkw : PK X kws tk) (hg : Gl X x := by rfl)
    (hall : (backToKw pos (keywordEach kws X.env)).all (·.1.isSome) = true := by rfl) (hks : (backToKw pos (keywordEach kws X.env)).filterMap (·.1) = ks := by rfl)
    (hdb : (x == ("__debug__" : Str)) = false := by decide)
    (hpl : ((backTo pos (starEach [] X.env)).any (·.1) || (backToKw pos (keywordEach kws X.env)).any (·.1.isNone)) = false := by rfl) :
    PE X (.Call (.Name x p) [] kws pos) (tFnK ks.length g sp E tk) := by
  obtain ⟨fd, ps, gv, F, b⟩ := D.ex
  refine ⟨fun pins s σ H Q I h => wpAny_Call_Name_kw (ld_glob I hg D.gm ?_ hdb)⟩
  refine PySem.W.callWith_KW0 (h₀ := X.base) I.ok.mod.kin D.kp hall (thn (hkw.run pos pins s σ H _ I h) ?_) hpl
  rintro ws s2 ⟨zs, H2, I2, rz, l2, q2⟩
  refine ⟨I2.kIn, ?_⟩
  rw [hks]
  exact run_fnN (us := []) (vs := []) F hr b hx I2 .nil rz rfl l2 q2
theorem r_fnK {n : Nat} {g : List V → List V} {sp : Sp} {E : XK} {tk : TA} {σ : L2.St} {H : Hp} {Q : VK} (q : tk σ H (kFnK n g sp E Q)) : tFnK n g sp E tk σ H Q := q
theorem r_kFnK {n : Nat} {g : List V → List V} {sp : Sp} {E : XK} {H : Hp} {Q : VK} {zs : List V} (l : zs.length = n) (q : sp (g zs) H Q E) : kFnK n g sp E Q zs H := ⟨l, q⟩
end
section
variable {P : Program} {w : World} {K : PySem.W.Frag} {mg : Str → Option Value} {base : Heap} {x qual : Str} {params : Arguments} {body : List Stmt} {scope : Scope} {dvs : List V} {kws : List (Str × V)} {f : Addr} {fd : FuncData}
/-- how keywords alone bind (a def without defaults) -/
theorem kbn_of {ps ks : List Str} {gv : List Value → List Value} {g : List V → List V} (F : FunD K x qual params body scope [] kws f fd)
    (hrel : ∀ {vs : List V} {us : List Value}, Vals vs us → Vals (g vs) (gv us))
    (h : ∀ (kV doc pm : Value) (an : Option Addr) (cdv ct : Value) (ws : List Value), ws.length = ks.length → bindArgs (PySem.W.fnOf x qual params body scope .none kV doc pm an cdv ct) ⟨[], ks.zip ws⟩ = pure (ps.zip (gv ws))) :
    KBn K fd ps 0 ks (fun _ ws => gv ws) (fun _ zs => g zs) := by
  obtain ⟨oc, od, dV, kV, doc, pm, an, cdv, ct, osl, rfl, lk, hcd, hD, hK⟩ := F.ex
  rcases hD with ⟨_, rfl⟩ | ⟨e, _⟩
  · refine ⟨fun s us ws _ l1 l2 => ?_, fun _ r => hrel r⟩
    obtain rfl : us = [] := List.length_eq_zero_iff.mp l1
    exact .of_eq (h kV doc pm an cdv ct ws l2)
  · exact absurd rfl e
end
/-! ### classes called -/
/-- what a new instance of the class at C is given to: its __init__ with the promise sp -/
def spMk (C : Addr) (sp : Sp) (dvs : List V) : Sp := fun vs H Q E => ∀ x dx, H x = none → H dx = none → dx ≠ x →
  sp (.ref x :: (vs ++ dvs)) (upd (upd H dx (.own x)) x (.ins C dx [])) (fun v H2 => v = .non ∧ Q (.ref x) H2) E
structure Dc (P : Program) (w : World) (K : PySem.W.Frag) (mg : Str → Option Value) (base : Heap)
    (CX : CXT) (k : Nat) (x : Str) (sp : Sp) : Prop where
  ex : ∃ fI fd ps spI dvs ds, Mk K (He.ga K x) fI ∧ FnOk P w K mg base CX k fI fd ps spI ∧ Binds K fd ps ds ∧ Vals dvs ds ∧ ∀ vs H Q E, sp vs H Q E → spMk (He.ga K x) spI dvs vs H Q E
  gm : mg x = some (.ref (He.ga K x))
section
variable {X : Cx}
theorem pe_mk {CX : CXT} {k : Nat} {x : Str} {sp : Sp} {E : XK} {e : Expr} {es : List Expr} {t : TA} {p pos : Pos}
    (D : Dc X.prog X.w X.K X.mg X.base CX k x sp) (hr : Room (k + 1) X.A) (hx : Passes CX X E) (ha : PA X (e :: es) t) (hg : Gl X x := by rfl)
    (hdb : (x == ("__debug__" : Str)) = false := by decide)
    (he : starEach (e :: es) X.env = (false, eval e X.env) :: starEach es X.env := by rfl)
    (hpl : (backTo pos (starEach es X.env)).any (·.1) = false := by rfl) :
    PE X (.Call (.Name x p) (e :: es) [] pos) (tFn sp E t) := by
  obtain ⟨fI, fd, ps, spI, dvs, ds, M, F, b, hd, imp⟩ := D.ex
  refine ⟨fun pins s σ H Q I h => wpAny_Call_Name_kw (ld_glob I hg D.gm ?_ hdb)⟩
  refine PySem.W.callWith_K (h₀ := X.base) I.ok.mod.kin M.kp (thn (ha.run pos pins s σ H _ I h) ?_) he hpl
  rintro us s1 ⟨vs, H1, I1, r, q⟩
  exact ⟨I1.kIn, run_make M F hr b hd hx I1 r (imp vs H1 Q E q)⟩
end
/-! ### isinstance of plain values -/
section
variable {K : PySem.W.Frag} {H : Hp} {Q : VK} {x : V} {i : Int} {b : Bool} {z : Str} {p : Addr} {xs : List V}
theorem r_isiT {a c : String} {r : Bool} (h : TyX K H x (.type a)) (hk : kitB a c = some r) (q : Q (.bl r) H) : rIsi K [x, .ty c] H Q := ⟨x, .ty c, .type a, .type c, r, rfl, .ty c, h, kit_ty hk, q⟩
theorem r_isi_ii (q : Q (.bl true) H) : rIsi K [.int i, .ty "int"] H Q := r_isiT (.base (.int i)) (by decide +kernel) q
theorem r_isi_ib (q : Q (.bl false) H) : rIsi K [.int i, .ty "bool"] H Q := r_isiT (.base (.int i)) (by decide +kernel) q
theorem r_isi_is (q : Q (.bl false) H) : rIsi K [.int i, .ty "str"] H Q := r_isiT (.base (.int i)) (by decide +kernel) q
theorem r_isi_it (q : Q (.bl false) H) : rIsi K [.int i, .ty "tuple"] H Q := r_isiT (.base (.int i)) (by decide +kernel) q
theorem r_isi_bi (q : Q (.bl true) H) : rIsi K [.bl b, .ty "int"] H Q := r_isiT (.base (.bl b)) (by decide +kernel) q
theorem r_isi_bb (q : Q (.bl true) H) : rIsi K [.bl b, .ty "bool"] H Q := r_isiT (.base (.bl b)) (by decide +kernel) q
theorem r_isi_ss (q : Q (.bl true) H) : rIsi K [.str z, .ty "str"] H Q := r_isiT (.base (.str z)) (by decide +kernel) q
theorem r_isi_tt (h : H p = some (.tup xs)) (q : Q (.bl true) H) : rIsi K [.ref p, .ty "tuple"] H Q := r_isiT (.base (.tup h)) (by decide +kernel) q
/-- is it a number -/
inductive NumV (K : PySem.W.Frag) (H : Hp) : V → Option Int → Prop
  | int (i : Int) : NumV K H (.int i) (some i)
  | no {x : V} {t : Value} {b1 b2 : Bool} : TyX K H x t → PySem.W.kitOne K t (.type "int") = some b1 → PySem.W.kitOne K t (.type "bool") = some b2 → (b1 && !b2) = false → NumV K H x none
def inB : Option Int → Int → Int → Bool
  | some i, lo, hi => decide (lo ≤ i) && decide (i ≤ hi)
  | none, _, _ => false
theorem inB_yes {i lo hi : Int} (h : lo ≤ i ∧ i ≤ hi) : inB (some i) lo hi = true := by
  simp [inB, h.1, h.2]
end
end Wp
set_option Elab.async false
set_option linter.all false
set_option maxRecDepth 100000
set_option maxHeartbeats 4000000
/-! An own error whose __init__ says super().__init__(text) and keeps what it got: made, at the machine's level. -/
namespace Wp
open PySem PySem.Spec PySem.W PySem.Calls PyProof.Rows PySem.HandSPX
/-- the def's parts -/
def eArg (f : Str) (p1 p2 : Pos) : Arguments := { posonlyargs := [], args := [{ arg := "self", annotation := none, pos := p1 }, { arg := f, annotation := none, pos := p2 }], vararg := none, kwonlyargs := [], kw_defaults := [], kwarg := none, defaults := [] }
def eBdy (f msg : Str) (j : Nat) (p0 p1 p2 p3 p4 p5 q1 q2 q3 q4 : Pos) : List Stmt :=
  [.Expr (.Call (.Attribute (.Call (.Name "super" p0) [] [] p1) "__init__" p2) [.Constant (.str msg) j p3] [] p4) p5, .Assign [.Attribute (.Name "self" q1) f q2] (.Name f q3) q4]
abbrev eCall (msg : Str) (j : Nat) (p0 p1 p2 p3 p4 : Pos) : Expr := .Call (.Attribute (.Call (.Name "super" p0) [] [] p1) "__init__" p2) [.Constant (.str msg) j p3] [] p4
/-- how the call is read -/
def eRead (msg : Str) (j : Nat) (p0 p1 p2 p3 p4 : Pos) : Prop := ∀ env : Env, ∃ pl : Sem Bool, eval (eCall msg j p0 p1 p2 p3 p4) env = (do
  let ov ← attributeBase (.Call (.Name "super" p0) [] [] p1) "__init__" env (eval (.Call (.Name "super" p0) [] [] p1) env)
  standAt p2.atName
  let (f, first) ← holding [ov] (getMethod ov "__init__" pl)
  callWith p4 f first (backTo p4 (starEach [.Constant (.str msg) j p3] env)) [])
def eScp (f : Str) : Scope := { kind := .function, names := [(PySem.Str.ofString "self", .local), (f, .local), (PySem.Str.ofString "__class__", .free), (PySem.Str.ofString "super", .globalImplicit)], isGenerator := false, isCoroutine := false, more := [] }
/-- what the written part says of the class at C and of its __init__ at fI -/
structure ErrT (K : Frag) (file : Str) (C fI : Addr) (qual f msg : Str) : Prop where
  cls : ∃ nm q N bs bm sn sub ab col dd k0 k1 k2 k3 k5, K.lookup C = some (excClassObj nm q C N bs bm true sn sub ab col dd k0 k1 k2 k3 k5 "ValueError.__new__") ∧ refsVE bm = true
  sa : findIn K (.ref C) "__setattr__" = some (some (.builtin "object.__setattr__"))
  noN : findIn K (.ref C) f = some none
  iC : findIn K (.ref C) "__init__" = some (some (.ref fI))
  tC : typeIn K (.ref fI) = some (.type "function")
  kC : keepIn K (.ref C) = true
  exC : subIn K (.ref C) (.type "BaseException") = some true
  veC : subIn K (.ref C) (.type "ValueError") = some true
  meC : mroIn K C (.ref C) = some true
  tyC : typeIn K (.ref C) = some (.type "type")
  sup : ks_superIn K C C "__init__" = some (some (.builtin "ValueError.__init__"))
  opq : nsIn K cStatics "thirdparty.any" = some none
  noS : nsIn K mainGlobals "super" = some none
  fn : ∃ (oc : Value) (od : Option Addr) (doc pm : Value) (an : Option Addr) (cda : Addr) (ct : Value) (osl : Array (Option Value)) (cc : Addr) (cl : Value) (cld : Option Addr) (csl : Array (Option Value)) (ccl : Value) (cdd : Option Addr) (vs : Array Value) (ccs : Array (Option Value)) (tf : Tok) (j : Nat) (a1 a2 p0 p1 p2 p3 p4 p5 q1 q2 q3 q4 : Pos),
    K.lookup fI = some ⟨oc, od, .func (ksFn "__init__" qual (eArg f a1 a2) (eBdy f msg j p0 p1 p2 p3 p4 p5 q1 q2 q3 q4) (eScp f) .none .none doc pm an (.ref cda) ct cc), osl⟩ ∧ codeIn K (.ref cda) qual = true ∧
    K.lookup cc = some ⟨cl, cld, .cell (some (.ref C)), csl⟩ ∧ K.lookup cda = some ⟨ccl, cdd, .fields vs, ccs⟩ ∧ vs[2]? = some (.str file tf) ∧ eRead msg j p0 p1 p2 p3 p4 ∧
    ∀ env : Env, swapsWith (.Name f q3) (some (.Attribute (.Name "self" q1) f q2)) q4.line env = pure false
  bnd : ∀ (qual : Str) (body : List Stmt) (doc pm : Value) (an : Option Addr) (cdv ct : Value) (cc : Addr) (a1 a2 : Pos) (x v : Value), bindArgs (ksFn "__init__" qual (eArg f a1 a2) body (eScp f) .none .none doc pm an cdv ct cc) ⟨[x, v], []⟩ = pure [(("self" : Str), x), (f, v)]
  l1 : ∀ x v : Value, List.lookup ("self" : Str) ([(("self" : Str), x), (f, v)] : List (Str × Value)).reverse = some x
  l2 : ∀ x v : Value, List.lookup f ([(("self" : Str), x), (f, v)] : List (Str × Value)).reverse = some v
  l3 : List.lookup f (eScp f).names = some .local
  l6 : (f == ("__debug__" : Str)) = false
  l4 : List.lookup ("super" : Str) (eScp f).names = some .globalImplicit
  l5 : List.lookup ("__class__" : Str) (eScp f).names = some .free
/-- what __init__ leaves of a fresh exception at x -/
structure IniEnd (h h' : Heap) (x C dx t1 : Addr) (f : Str) (v : Value) : Prop where
  keep : ∀ b o, b ≠ x → h.get? b = some o → h'.get? b = some o
  obj : h'.get? x = some { cls := .ref C, dict := some dx, data := .fields #[.ref t1, .none, .none, .none, .bool false, .none] }
  dbig : h.objs.size ≤ dx
  dne : dx ≠ x
  ns : h'.Ns1 dx (fun y => if y = f then some v else none)
section
variable {prog : Program} {w : World} {A : Around} {E : Value → Shared → Prop} {hp : Heap} {g : Array GenState} {d : Drawn} {t : Nat} {os : OsState}
/-- ValueError.__init__ bound to the exception at x, called -/
theorem err_bound {nm q : Str} {C N : Addr} {bs bm : List Value} {sn : List Str} {sub : List Value} {ab : Bool} {col : Option Bool} {dd : Option Addr} {k0 k1 k2 k3 k5 : Option Value} {u x t0 : Addr} {rest : List Value} {Q : Value → Shared → Prop}
    (hC : hp.get? C = some (excClassObj nm q C N bs bm true sn sub ab col dd k0 k1 k2 k3 k5 "ValueError.__new__")) (hx : hp.get? x = some (excO C t0)) (hu : hp.get? u = some (kxs_mw "ValueError.__init__" x)) (hz : rest.length ≤ sizeLine)
    (hq : ∀ h' t1, (∀ b o, b ≠ x → hp.get? b = some o → h'.get? b = some o) → h'.get? x = some (excO C t1) → Q .none ⟨h', g, d, t, os⟩) :
    wpAny (model prog w) A (call (.ref u) rest) Q E ⟨hp, g, d, t, os⟩ := by
  refine wpAny_call (codeAny_of_tree ?_)
  show wpAny _ A.in1 (callAny (.ref u) ⟨rest, []⟩) _ _ _
  simp only [callAny]
  refine wpAny_bind (wpAny_load hu ?_)
  have c1 : (Value.type "method-wrapper" == Value.type "method" || Value.type "method-wrapper" == Value.type "builtin_function_or_method" || Value.type "method-wrapper" == Value.type "method-wrapper") = true := by decide
  simp only [kxs_mw, c1, if_true]
  refine KFB.if_so (by decide) ?_
  refine wpAny_bind (check_bound_init F.excBase_ValueError.toExcCallFacts hC hx rfl ?_)
  refine wpAny_bind (wpAny_pure (wpAny_pure ⟨plainId_quiet F.excBase_ValueError.init.plain _, codeAny_builtin F.excBase_ValueError.initEntry ?_⟩))
  exact exc_init_tree (cls := .ref C) (t0 := t0) (dv := none) (c2 := .none) (c3 := .none) (b4 := .bool false) hx hz fun h' k e _ => hq h' _ k e
end
section
variable {prog : Program} {w : World} {A : Around} {E : Value → Shared → Prop} {R : Result → Shared → Prop} {s : Shared} {K : Frag} {C fI : Addr} {qual f msg file : Str}
theorem err_init (T : ErrT K file C fI qual f msg) (hfile : prog.main.file = file) (htop : (prog.main.scope.names.lookup ("super" : Str)).isSome = false) {mg mb : Str → Option Value} {x t0 : Addr} {v : Value} (X : K.In s.heap) (hlim : s.heap.NoLimit)
    (gl : s.heap.Ns mainGlobals mg) (bl : s.heap.Ns builtinsNs mb) (same : ∀ x : Str, x ≠ "__name__" → mb x = bootBuiltins x) (hx : s.heap.get? x = some (excO C t0)) (hnx : K.lookup x = none) (hroom : A.depth < recursionLimit)
    (hq : ∀ h' tk dx t1, IniEnd s.heap h' x C dx t1 f v → R (.ok (.ret .none)) { s with heap := h', toks := tk }) :
    codeAny (model prog w) A (.call (.ref fI) ⟨[.ref x, v], []⟩) R s := by
  obtain ⟨oc, od, doc, pm, an, cda, ct, osl, cc, cl, cld, csl, ccl, cdd, vs, ccs, tf, j, a1, a2, p0, p1, p2, p3, p4, p5, q1, q2, q3, q4, ho, hcd, hcc, hcda, hvs, hrd, hsw⟩ := T.fn
  obtain ⟨nm, q, N, bs, bm, sn, sub, ab, col, dd, k0, k1, k2, k3, k5, hC, hbm⟩ := T.cls
  have hcl : clsIn K C = some { name := nm, bases := bs, mro := .ref C :: bm, ns := N, qualname := q, hasDict := true, slotNames := sn, subclasses := sub, abstract := ab, collection := col, hasDel := false } := by unfold clsIn; rw [hC] <;> rfl
  refine ks_codeAny_call_defAt (body := eBdy f msg j p0 p1 p2 p3 p4 p5 q1 q2 q3 q4) (binds := [("self", .ref x), (f, v)]) hroom (X _ _ ho) rfl hlim (codeRec_of X hcd) rfl (BindsTo.of_eq ?_) (fun y hy => ?_) (fun y hy => ?_) (fun h₀ hns k => ?_) rfl rfl rfl
  · exact T.bnd ..
  · have hy : y ∈ [(PySem.Str.ofString "self", NameKind.local), (f, NameKind.local), (PySem.Str.ofString "__class__", NameKind.free), (PySem.Str.ofString "super", NameKind.globalImplicit)] := hy
    simp only [List.mem_cons, List.not_mem_nil, or_false] at hy
    rcases hy with rfl | rfl | rfl | rfl <;> intro z <;> cases z
  · simp only [List.mem_cons, List.not_mem_nil, or_false] at hy
    rcases hy with rfl | rfl
    · rfl
    · exact T.l3
  have X₀ : K.In h₀ := X.keeps k
  have hx₀ := k _ _ hx
  let env := callEnv (ksFn "__init__" qual (eArg f a1 a2) (eBdy f msg j p0 p1 p2 p3 p4 p5 q1 q2 q3 q4) (eScp f) .none .none doc pm an (.ref cda) ct cc) s.heap.objs.size fI
  obtain ⟨pl, hrd⟩ := hrd env
  show PySem.wpAt _ (A.deeper env) (.func _ env) (execs (.Expr (eCall msg j p0 p1 p2 p3 p4) p5 :: _) env) _ _ _
  refine ks_wpAt_execs_cons (ks_wpAt_Expr_any (ks_wpAt_MethodCall (pl := pl) ?_ hrd))
  refine ks_wpAt_super_base (vs := vs) (file := file) (tf := tf) T.l4 T.l5 rfl rfl (X₀ _ _ ho) rfl rfl rfl (X₀ _ _ hcda) rfl hvs (by rw [hfile]; exact beq_self_eq_true _) htop ?_
  have gl₀ := gl.keeps k
  have bl₀ := bl.keeps k
  have hns : h₀.Ns env.locals (fun y => List.lookup y ([(("self" : Str), Value.ref x), (f, v)] : List (Str × Value)).reverse) := hns
  refine ks_loadName_global rfl T.l4 (loadGlobal_builtin (env := env) gl₀ (mg_none_of X₀ gl₀ T.noS) bl₀ ((same _ (by decide +kernel)).trans (by decide +kernel)) ⟨rfl, ?_⟩)
  refine wpAny_loadName_free (env := env) rfl T.l5 rfl ⟨_, X₀ _ _ hcc, rfl⟩ ?_
  refine wpAny_loadName_local (env := env) rfl (by rfl) hns (T.l1 _ _) ?_
  refine ks_wpAny_isType_cls (X₀ _ _ hC) rfl ⟨rfl, ?_⟩
  refine ks_wpAny_call_super (X₀ _ _ hC) rfl hx₀ rfl (fun c z => by cases z) (looks_mroIn X₀ T.meC) (fun h₁ eso k₁ => ?_)
  have X₁ := X₀.keeps k₁
  have hx₁ := k₁ _ _ hx₀
  have J₁ : InstAt h₁ x (excO C t0) C none := ⟨hx₁, rfl, rfl, trivial⟩
  have hsup : alongIn K "__init__" (((Value.ref C :: bm).dropWhile (· != .ref C)).drop 1) = some (some (.builtin "ValueError.__init__")) := by
    have z := T.sup
    unfold ks_superIn at z
    rw [hcl] at z
    exact z
  refine kxs_getMethod kxs_ValueError eso (looks_opaque X₁ T.opq) (l₀ := .ref C :: bm) (fun A Q E s k q => wpAny_bind ((looks_clsIn X₁ hcl) A _ E s k (wpAny_pure q))) rfl X₁ hsup (J₁.type.andThen (looks_subIn X₁ T.veC)) (ks_ne X₁ J₁ hcl) rfl ?_
  have eu : (h₁.push (kxs_mw "ValueError.__init__" x)).get? h₁.objs.size = some (kxs_mw "ValueError.__init__" x) := Heap.get?_push_size _ rfl
  have ku : ∀ b o, h₁.get? b = some o → (h₁.push (kxs_mw "ValueError.__init__" x)).get? b = some o := fun b o e => Heap.get?_push_of_some _ e
  refine kxs_callWith (i := "ValueError.__init__") (x := x) (by rfl) ?_
  refine evalArgs_plain (x := eval (.Constant (.str msg) j p3) env) (rest := backTo p4 (starEach [] env)) ?_
  refine Calls.spliced_cons (wpAny_Constant_str ?_)
  refine Calls.spliced_nil ⟨eu, ?_⟩
  refine err_bound (hp := h₁.push (kxs_mw "ValueError.__init__" x)) (X₁.keeps ku _ _ hC) (ku _ _ hx₁) eu (rest := [] ++ [Value.str msg _]) (by rw [sizeLine_eq]; exact (by decide : 1 ≤ 16777216)) fun h₂ t1 k₂ hx₂ => ?_
  have X₂ : K.In h₂ := fun a o e => k₂ a o (fun z => by rw [z, hnx] at e; cases e) (X₁.keeps ku a o e)
  have kL : ∀ b o, b ≠ x → h₀.get? b = some o → h₂.get? b = some o := fun b o hb e => k₂ b o hb (ku b o (k₁ b o e))
  have xL : s.heap.objs.size ≠ x := Nat.ne_of_gt (Heap.lt_size hx)
  have hns₂ : h₂.Ns env.locals (fun y => List.lookup y ([(("self" : Str), Value.ref x), (f, v)] : List (Str × Value)).reverse) := by
    obtain ⟨o, es, ep, e1, e2, e3⟩ := hns
    exact ⟨o, es, ep, kL _ _ xL e1, e2, e3⟩
  refine ks_wpAt_execs_cons (ks_wpAt_Assign_Attr ?_ (hsw env))
  refine wpAt_of_wpAny (wpAny_Name (wpAny_loadName_local (env := env) rfl T.l3 hns₂ (T.l2 _ _) ?_) T.l6)
  refine wpAny_Name (wpAny_loadName_local (env := env) rfl (by rfl) hns₂ (T.l1 _ _) ?_) (by decide)
  refine set_plain X₂ (ox := excO C t1) (od := none) ⟨hx₂, rfl, rfl, trivial⟩ T.sa ?_
  refine exc_osa X₂ hx₂ hcl (show refsVE (.ref C :: bm) = true from hbm) rfl T.noN (fun h₃ tk₃ dx k₃ dn dne hx₃ hn₃ => ?_)
  refine wpAt_of_wpAny (wpAny_execs_nil (hq h₃ tk₃ dx t1 ⟨fun b o hb e => k₃ b o hb (kL b o hb (k b o e)), hx₃, ?_, dne, hn₃⟩))
  exact Nat.le_of_lt (Nat.lt_of_lt_of_le hns₂.lt dn)
/-- a made error -/
structure ErrMade (h h' : Heap) (e C d : Addr) (f : Str) (v : Value) : Prop where
  keep : ∀ b o, h.get? b = some o → h'.get? b = some o
  new : h.objs.size ≤ e
  obj : ∃ oe vs, h'.get? e = some oe ∧ oe.cls = .ref C ∧ oe.dict = some d ∧ oe.data = .fields vs ∧ vs[1]? = some .none
  dbig : h.objs.size ≤ d
  dne : d ≠ e
  ns : h'.Ns1 d (fun y => if y = f then some v else none)
theorem err_made (T : ErrT K file C fI qual f msg) (hfile : prog.main.file = file) (htop : (prog.main.scope.names.lookup ("super" : Str)).isSome = false) {mg mb : Str → Option Value} {v : Value} (X : K.In s.heap) (hlim : s.heap.NoLimit)
    (gl : s.heap.Ns mainGlobals mg) (bl : s.heap.Ns builtinsNs mb) (same : ∀ x : Str, x ≠ "__name__" → mb x = bootBuiltins x) (hroom : A.depth + 1 < recursionLimit)
    (hq : ∀ h' tk e d, ErrMade s.heap h' e C d f v → R (.ok (.ret (.ref e))) { s with heap := h', toks := tk }) :
    codeAny (model prog w) A (.call (.ref C) ⟨[v], []⟩) R s := by
  obtain ⟨nm, q, N, bs, bm, sn, sub, ab, col, dd, k0, k1, k2, k3, k5, hC, hbm⟩ := T.cls
  obtain ⟨hp, g, dr, tk, os⟩ := s
  have k : ∀ b o, hp.get? b = some o → ((hp.push (kdv_tup [v])).push (excO C hp.objs.size)).get? b = some o := fun b o e => Heap.get?_push_of_some _ (Heap.get?_push_of_some _ e)
  have at1 : ((hp.push (kdv_tup [v])).push (excO C hp.objs.size)).get? (hp.objs.size + 1) = some (excO C hp.objs.size) := by heap_get
  have nin : K.lookup (hp.objs.size + 1) = none := by
    cases e : K.lookup (hp.objs.size + 1) with
    | none => rfl
    | some o => exact absurd (Nat.lt_of_succ_lt (Heap.lt_size (show hp.get? (hp.objs.size + 1) = some o from X _ _ e))) (Nat.lt_irrefl _)
  refine call_own F.excBase_ValueError (fun X => refsVE_contains X bm hbm) (X _ _ hC) (looks_findIn X T.iC) (fun self => bind_fn X self T.tC) (by rw [sizeLine_eq]; exact (by decide : 1 ≤ 16777216)) ?_
  refine err_init (s := ⟨(hp.push (kdv_tup [v])).push (excO C hp.objs.size), g, dr, tk, os⟩) T hfile htop (X.keeps k) (hlim.keeps k) (gl.keeps k) (bl.keeps k) same at1 nin hroom fun h' tk' dx t1 ⟨k', hx, dn, dne, hns⟩ => ?_
  have sz : ((hp.push (kdv_tup [v])).push (excO C hp.objs.size)).objs.size = hp.objs.size + 1 + 1 := by rw [Heap.size_push, Heap.size_push]
  have z : hp.objs.size + 1 + 1 ≤ dx := Nat.le_trans (Nat.le_of_eq sz.symm) dn
  exact ⟨rfl, hq h' tk' (hp.objs.size + 1) dx ⟨fun b o e => k' b o (Nat.ne_of_lt (Nat.lt_succ_of_lt (Heap.lt_size e))) (k b o e), Nat.le_succ _, ⟨_, _, hx, rfl, rfl, rfl, rfl⟩, Nat.le_trans (Nat.le_trans (Nat.le_succ _) (Nat.le_succ _)) z, dne, hns⟩⟩
end
end Wp
set_option Elab.async false
set_option linter.all false
set_option maxRecDepth 100000
set_option maxHeartbeats 4000000
/-! Such errors raised, over the hand layer. -/
namespace Wp
open PySem PySem.Spec PyProof.Rows L2
/-- what is told of the program -/
structure PrgT (P : Program) (file : Str) : Prop where
  fl : P.main.file = file
  ns : (P.main.scope.names.lookup ("super" : Str)).isSome = false
theorem relO_one {f : Str} {v : V} {u : Value} (r : RelV v u) (g : Str) : RelO (List.lookup g [(f, v)]) (if g = f then some u else none) := by
  by_cases h : g = f
  · subst h
    rw [if_pos rfl, List.lookup_cons, beq_self_eq_true]
    exact r
  · rw [if_neg h, List.lookup_cons, show (g == f) = false by simpa using h]
    trivial
/-- an own error with what it keeps -/
structure ErrC (P : Program) (K : PySem.W.Frag) (mg : Str → Option Value) (x : Str) (C : Addr) (f : Str) : Prop where
  t : ∃ (file : Str) (fI : Addr) (qual msg : Str), ErrT K file C fI qual f msg ∧ PrgT P file
  g : mg x = some (.ref C)
def kErr (C : Addr) (f : Str) (Q : XK) : List V → Hp → Prop := fun vs H1 => ∃ v, vs = [v] ∧ ∀ d, H1 d = none → Q (.ref C) (some d) (upd H1 d (.xd [(f, v)]))
def tErr (C : Addr) (f : Str) (ta : TA) : L2.St → Hp → XK → Prop := fun σ H Q => ta σ H (kErr C f Q)
section
variable {X : Cx} {C : Addr} {x f : Str} {a : Expr} {ta : TA} {p pos : Pos} {k : Nat}
theorem pmk_err (T : ErrC X.prog X.K X.mg x C f) (hr : Room k X.A) (ha : PA X [a] ta) (hg : Gl X x := by rfl) (hdb : (x == ("__debug__" : Str)) = false := by decide)
    (he : starEach (a :: []) X.env = (false, eval a X.env) :: starEach [] X.env := by rfl) (hpl : (backTo pos (starEach [] X.env)).any (·.1) = false := by rfl) :
    PMk X (.Call (.Name x p) [a] [] pos) (tErr C f ta) := by
  obtain ⟨⟨file, fI, qual, msg, T1, T2⟩, gC⟩ := T
  intro pins s σ H Q I h
  refine wpAny_Call_Name_kw (ld_glob I hg gC ?_ hdb)
  refine PySem.W.callWith_K (h₀ := X.base) I.ok.mod.kin T1.kC (thn (ha.run pos pins s σ H _ I h) fun us s1 ⟨vs, H1, I1, r1, v, ev, q1⟩ => ⟨I1.kIn, ?_⟩) he hpl
  subst ev
  obtain ⟨v', rfl, rv⟩ := vals1 r1
  obtain ⟨mb, bl, same⟩ := I1.ok.mod.blt
  have gl := I1.ok.mod.glob.keeps I1.bk
  have bl1 := bl.keeps I1.bk
  have lim := I1.nolimit
  have inK := I1.kIn
  obtain ⟨hp, g, dr, tk, os⟩ := s1
  refine wpAny_call (err_made T1 T2.fl T2.ns inK lim gl bl1 same (by have := hr.dp; omega) fun h' tk' e d M => ?_)
  show MkP X pins σ Q (.ref e) ⟨h', g, dr, tk', os⟩
  obtain ⟨oe, fv, hoe, hc, hd, hdat, h1⟩ := M.obj
  have hns := M.ns
  obtain ⟨G, g1, g2⟩ := restrict h' fun b => decide (b ≠ e)
  have gk : ∀ b, b ≠ e → G.get? b = h'.get? b := fun b hb => g1 b (decide_eq_true hb)
  have ge : G.get? e = none := g2 e (by simp)
  have old : ∀ b o, hp.get? b = some o → G.get? b = some o := fun b o q => (gk b (Nat.ne_of_lt (Nat.lt_of_lt_of_le (Heap.lt_size q) M.new))).trans (M.keep b o q)
  have ob : ObjOk X.prog X.w (upd H1 d (.xd [(f, v)])) G d (.xd [(f, v)]) := ⟨_, hns.at (fun o q => (gk d M.dne).trans q), fun y => relO_one rv y⟩
  have J : Inv X pins σ (upd H1 d (.xd [(f, v)])) ⟨G, g, dr, tk', os⟩ := I1.laid (t' := tk') old M.dbig ob
  refine ⟨e, oe, fv, ⟨G, g, dr, tk', os⟩, _, .ref C, some d, rfl, J, fun b o q => ?_, ge, hoe, ⟨hc, hd⟩, hdat, h1, ?_, rfl, I1.bare, raises_own T1.exC T1.tyC, q1 d (I1.hok.fresh M.dbig)⟩
  · have hb : b ≠ e := fun z => by
      rw [z, show G.get? e = none from ge] at q
      cases q
    exact (gk b hb).symm.trans q
  · rw [upd_ne (Ne.symm M.dne)]
    exact I1.hok.fresh M.new
def kRs (W : WX) (σ : L2.St) : XK := fun cls d H' => W cls d σ H'
def sErr (C : Addr) (f : Str) (ta : TA) (W : WX) : TS := fun _ σ H => tErr C f ta σ H (kRs W σ)
/-- raise X(e) -/
theorem ps_err {W : WX} {pos2 : Pos} (hc : X.calm = true) (T : ErrC X.prog X.K X.mg x C f) (hr : Room k X.A) (tk : Takes X W) (ha : PA X [a] ta) (hg : Gl X x := by rfl) (hdb : (x == ("__debug__" : Str)) = false := by decide)
    (he : starEach (a :: []) X.env = (false, eval a X.env) :: starEach [] X.env := by rfl) (hpl : (backTo pos (starEach [] X.env)).any (·.1) = false := by rfl) :
    PS X (.Raise (some (.Call (.Name x p) [a] [] pos)) none pos2) (sErr C f ta W) := ps_raise hc tk (pmk_err T hr ha hg hdb he hpl)
theorem r_err {W : WX} {D : Ends} {σ : L2.St} {H : Hp} (q : ta σ H (kErr C f (kRs W σ))) : sErr C f ta W D σ H := q
theorem r_kErr {W : WX} {σ : L2.St} {H : Hp} {v : V} (q : ∀ d H', H d = none → Same H H' → H' d = some (.xd [(f, v)]) → W (.ref C) (some d) σ H') : kErr C f (kRs W σ) [v] H :=
  ⟨v, rfl, fun d hd => q d _ hd (Same.new hd) upd_same⟩
end
end Wp
set_option Elab.async false
set_option linter.all false
set_option maxRecDepth 100000
set_option maxHeartbeats 4000000
/-! try: .. except x as n: .., and the exception stays known behind it. -/
namespace Wp
open PySem PySem.Spec PyProof.Rows L2
/-- an exception of the class cls with the dict d, at a -/
def ExV (cls : Value) (d : Option Addr) (a : Addr) : HO := .ext fun h => ∃ (oe : Obj) (vs : Array Value), h.get? a = some oe ∧ Zc cls d oe ∧ oe.data = .fields vs
theorem exV_ok {P : Program} {w : World} {H : Hp} {h : Heap} {a : Addr} {cls : Value} {d : Option Addr} {oe : Obj} {vs : Array Value} (e : h.get? a = some oe) (z : Zc cls d oe) (q : oe.data = .fields vs) : ObjOk P w H h a (ExV cls d a) :=
  ⟨⟨oe, vs, e, z, q⟩, ⟨oe, e⟩, fun _ _ ⟨o, v, h1, h2, h3⟩ k => ⟨o, v, k o h1, h2, h3⟩⟩
section
variable {X : Cx} {pins : List (Addr × Obj)} {σ : L2.St} {H : Hp} {s : Shared}
/-- an object that stands untracked, made behind the entry, is tracked from now on -/
theorem inv_track {a : Addr} {oe : Obj} {vs : Array Value} {o : HO} (I : Inv X pins σ H s) (ha : s.heap.get? a = some oe) (hd : oe.data = .fields vs) (hn : H a = none) (h0 : X.s_0.heap.get? a = none) (nL : a ≠ X.env.locals) (np : ∀ p ∈ X.pn ++ pins, p.1 ≠ a)
    (ok : ObjOk X.prog X.w (upd H a o) s.heap a o) : Inv X pins σ (upd H a o) s := by
  have up : ∀ {b : Addr} {u : HO}, H b = some u → upd H a o b = some u := fun {b u} e => by rw [upd_ne (ne_of_none e hn)]; exact e
  refine ⟨I.ok, I.os, I.bare, ⟨I.base.keep, I.base.slot, fun b u q n hx => ?_, I.base.there, fun b xs q => up (I.base.tups b xs q), fun b u v q => up (I.base.frzs b u v q), fun b ps q => ?_⟩, I.loc, I.cell, ?_, fun x c e => ?_, fun p hp => ?_, fun b u e => ?_, I.len⟩
  · rw [upd_ne (fun z => by rw [z, h0] at q; cases q)]
    exact I.base.free b u q n hx
  · obtain ⟨more, e⟩ := I.base.tbls b ps q
    exact ⟨more, up e⟩
  · rw [upd_ne (Ne.symm nL)]
    exact I.free
  · obtain ⟨v, u, e1, e2⟩ := I.cell x c e
    rw [upd_ne (fun z => by
      rw [z, ha] at e1
      obtain rfl := Option.some.inj e1
      rw [hd] at e2
      cases e2)]
    exact I.freeC x c e
  · obtain ⟨p1, p2, p3, p4, p5⟩ := I.pin p hp
    exact ⟨p1, by rw [upd_ne (np p hp)]; exact p2, p3, p4, p5⟩
  · by_cases hb : b = a
    · subst hb
      rw [upd_same] at e
      obtain rfl := Option.some.inj e
      exact ok
    · rw [upd_ne hb] at e
      exact (I.hok b u e).stay (fun _ _ _ q => q) (fun c q => up q) fun c xs q => up q
end
/-- what the clause wishes of an exception of the body: slot i is its name's -/
def wKeep (K : PySem.W.Frag) (c : Value) (i : Nat) (ts : Addr → Value → Option Addr → TS) (Wout : WX) (D : Ends) : WX := fun cls d σ H =>
  ∃ b, PySem.W.exmOne K cls c = some b ∧ (b = true → ∀ a, H a = none → ts a cls d { nx := fun σ' H' => D.nx (σ'.set i none) (upd H' a (ExV cls d a)), rt := fun v H' => D.rt v (upd H' a (ExV cls d a)), bk := fun σ' H' => D.bk (σ'.set i none) (upd H' a (ExV cls d a)), ct := fun σ' H' => D.ct (σ'.set i none) (upd H' a (ExV cls d a)) } (σ.set i (some (.ref a))) H) ∧
    (b = false → Wout cls d σ H)
section
variable {X : Cx} {x n : Str} {c : Value} {i : Nat} {body suite : List Stmt} {b₀ : Stmt} {np pos pos' : Pos} {tb : WX → TS} {ts : Addr → Value → Option Addr → TS} {Wout : WX}
theorem ps_try_keep (hs : X.stack = X.env :: X.outer) (hf : X.env.frame = some X.env.locals) (hex : X.ex = []) (hN : X.N.Nodup) (hi : X.N[i]? = some n) (hln : X.env.kindOf n = some .local) (hc : Names X x c) (tk : Takes X Wout)
    (hb : ∀ (W : WX) (pn : List (Addr × Obj)) (xe : Value → Shared → Prop), Takes (X.tr pn xe) W → PassesOwn (model X.prog X.w) X.A X.env xe → PSs (X.tr pn xe) body (tb W))
    (hsu : ∀ (a : Addr) (oe : Obj) (cls : Value) (d : Option Addr) (pn : List (Addr × Obj)), Zc cls d oe → (∃ vs, oe.data = .fields vs) → PSs (X.suite a ((a, oe) :: pn)) (b₀ :: suite) (ts a cls d)) :
    PS X (.Try body [.ExceptHandler (some (.Name x np)) (some n) (b₀ :: suite) pos'] [] [] pos) (fun D σ H => tb (wKeep X.K c i ts Wout D) D σ H) := by
  refine ⟨fun pins s σ H D I h => ?_⟩
  have ok := I.ok
  have frm : X.A.frames = some (X.env :: X.outer) := by rw [ok.frames, hs]
  have ln : Loc X.env.scope n := .inl hln
  refine wpAny_Try_except ?_
  have body := (hb (wKeep X.K c i ts Wout D) (X.pn ++ pins) (fun e s₁ => wpAny (model X.prog X.w) X.A (noteFrame e X.env) (fun _ s₂ => wpAny (model X.prog X.w) X.A (setFlight e none) (fun _ s₃ =>
    wpAny (model X.prog X.w) X.A (handleBy e X.env [.ExceptHandler (some (.Name x np)) (some n) (b₀ :: suite) pos']) (SP X pins D) X.xe s₃) X.xe s₂) X.xe s₁) ?caught PassesOwn.looking).run [] s σ H D (I.toTry _) h
  case caught =>
    rintro u s' ⟨a, B, sI, pins', σ', H', cls, d, rfl, J', nb, up, sky, na, os, ag, b, hb1, hyes, hno⟩
    have J : Inv X pins σ' H' sI := J'.ofTry ok
    have sky' : Sky B (X.env :: X.outer) a (Zc cls d) X.env.locals s'.heap := by rw [← hs]; exact sky
    show wpAny (model X.prog X.w) X.A (noteFrame (.ref a) X.env) _ _ _
    refine Sky.land Zc.steady frm hf sky' fun h3 fl3 up3 => ?_
    have J3 : Inv X pins σ' H' { s' with heap := h3 } := J.landed nb fl3.1 (up.trans up3) os ag
    obtain ⟨oe3, vs3, he3, hz3, hd3⟩ := fl3.there
    have nfr : a ∉ frs (X.env :: X.outer) := fun hm => by
      obtain ⟨_, o', e', hnf⟩ := fl3.2.2.1.mem hm
      rw [he3] at e'
      cases e'
      exact hnf _ hd3
    have nL : a ≠ X.env.locals := fun z => nfr (List.mem_filterMap.mpr ⟨X.env, List.mem_cons_self, by rw [hf, z]⟩)
    have nF : a ∉ X.fs := fun hm => by
      obtain ⟨e, he, q⟩ := List.mem_filterMap.mp hm
      exact nfr (List.mem_filterMap.mpr ⟨e, List.mem_cons_of_mem _ he, q⟩)
    have newI : sI.heap.get? a = none := by
      cases q : sI.heap.get? a with
      | none => rfl
      | some o =>
        have z := nb a o q (by rw [hs]; exact nfr)
        rw [fl3.2.1] at z
        cases z
    have new0 : X.s_0.heap.get? a = none := by
      cases q : X.s_0.heap.get? a with
      | none => rfl
      | some o =>
        obtain ⟨o', z⟩ := J.base.there a o q (by rw [hex]; simp)
        rw [newI] at z
        cases z
    have notPin : ∀ p ∈ X.pn ++ pins, p.1 ≠ a := fun p hp z => by
      have q := (J.pin p hp).1
      rw [z, newI] at q
      cases q
    have S3 := J3.suite he3 hd3 na nL nF
    refine wpAny_handleBy_cons (codeAny_handlers_test ?_) (by intro q; cases q)
    have LT : PySem.W.Looks (model X.prog X.w) h3 (typeOf (.ref a)) cls := fun A Q E s k q => wpAny_typeOf_ref (k _ _ he3) (by rw [hz3.1]; exact q)
    have LM := PySem.W.exm_one (M := model X.prog X.w) (J3.kIn) LT hb1
    have told : ∀ {Q : Value → Shared → Prop} {E : Value → Shared → Prop}, Q c { s' with heap := h3 } → wpAny (model X.prog X.w) (X.A.mark (some (.ref a))) (eval (.Name x np) X.env) Q E { s' with heap := h3 } := fun {Q E} q => by
      obtain ⟨hg, hdbg, hm | ⟨hm, hv, hnn⟩⟩ := hc
      · exact ld_glob (X := X.suite a ((a, oe3) :: (X.pn ++ pins))) S3 hg hm q hdbg
      · exact ld_blt (X := X.suite a ((a, oe3) :: (X.pn ++ pins))) S3 hg hm hv q hnn hdbg
    refine told (LM.here ?_)
    cases b with
    | true =>
      refine codeAny_handlers_suite_as (HandSPX.lands_againZ fl3 fun h4 fl4 up4 => ?_)
      have J4 : Inv X pins σ' H' { s' with heap := h4 } := J.landed nb fl4.1 ((up.trans up3).trans up4) os ag
      obtain ⟨oe4, vs4, he4, hz4, hd4⟩ := fl4.there
      have S4 := J4.suite he4 hd4 na nL nF
      refine store_ok (X := X.suite a ((a, oe4) :: (X.pn ++ pins))) (v := .ref a) S4 hN hi ln rfl (fun s5 S5 => ?_) (.inr hln)
      refine wpAny_mono ((hsu a oe4 cls d (X.pn ++ pins) hz4 ⟨_, hd4⟩).run [] s5 _ H' _ S5 (hyes rfl a na)) (fun fl s6 hsp => ?_) (fun _ _ z => False.elim z)
      have leave : ∀ {σ6 : L2.St} {H6 : Hp} {Q : Shared → Prop}, Inv (X.suite a ((a, oe4) :: (X.pn ++ pins))) [] σ6 H6 s6 → (∀ s7, Inv X pins (σ6.set i none) (upd H6 a (ExV cls d a)) s7 → Q s7) →
          wpAny (model X.prog X.w) X.A (do bindName X.env n .none; unbindBehindTheSuite X.env n pos') (fun _ s7 => Q s7) X.xe s6 := fun {σ6 H6 Q} S6 hq => by
        obtain ⟨p1, p2, _⟩ := S6.pin (a, oe4) (List.mem_append_left _ List.mem_cons_self)
        exact gone_ok (inv_track (S6.unsuite ok) p1 hd4 p2 new0 nL notPin (exV_ok p1 hz4 hd4)) hN hi hln hq
      cases fl with
      | next =>
        obtain ⟨σ6, H6, S6, q6⟩ := hsp
        exact leave S6 fun s7 J7 => ⟨_, _, J7, q6⟩
      | brk =>
        obtain ⟨σ6, H6, S6, q6⟩ := hsp
        exact leave S6 fun s7 J7 => ⟨_, _, J7, q6⟩
      | cont =>
        obtain ⟨σ6, H6, S6, q6⟩ := hsp
        exact leave S6 fun s7 J7 => ⟨_, _, J7, q6⟩
      | ret u =>
        obtain ⟨v6, σ6, H6, S6, r6, q6⟩ := hsp
        exact leave S6 fun s7 J7 => ⟨_, _, _, J7, r6, q6⟩
    | false =>
      show wpAny _ X.A (handleBy (.ref a) X.env []) _ _ _
      refine wpAny_handleBy_nil ?_
      obtain ⟨k1, k2, k3, oe, vs, T, oT, ts', he, hz, hd, h1, hr⟩ := id fl3
      unfold PySem.passOn
      refine wpAny_bind (wpAny_field he hd h1 ?_)
      rw [if_neg (show ¬ ((Value.ref T == Value.none) = true) from by simp)]
      have out : wpAny (model X.prog X.w) X.A (setFlight (.ref a) X.env.frame) (fun _ s4 => wpAny (model X.prog X.w) X.A (throw (.ref a) : Sem Flow) (SP X pins D) X.xe s4) X.xe { s' with heap := h3 } := by
        rw [hf]
        exact HandSPX.setFlight_upZ fl3 fun h4 hh4 up4 => wpAny_throw (tk _ _ ⟨a, B, sI, pins, σ', H', cls, d, rfl, J, nb, (up.trans up3).trans up4, .inr (.inr (by rw [hs]; exact hh4)), na, os, ag, hno rfl⟩)
      first
        | exact wpAny_bind (wpAny_pure (wpAny_bind out))
        | exact wpAny_bind out
  refine wpAny_mono body (fun fl s1 hsp => ?_) fun _ _ he => he
  cases fl with
  | next =>
    obtain ⟨σ', H', J', q⟩ := hsp
    exact wpAny_execs_nil ⟨σ', H', J'.ofTry ok, q⟩
  | brk =>
    obtain ⟨σ', H', J', q⟩ := hsp
    exact ⟨σ', H', J'.ofTry ok, q⟩
  | cont =>
    obtain ⟨σ', H', J', q⟩ := hsp
    exact ⟨σ', H', J'.ofTry ok, q⟩
  | ret u =>
    obtain ⟨v, σ', H', J', r, q⟩ := hsp
    exact ⟨v, σ', H', J'.ofTry ok, r, q⟩
end
end Wp
set_option Elab.async false
set_option linter.all false
set_option maxRecDepth 100000
set_option maxHeartbeats 4000000
/-! Defs that raise. -/
namespace Wp
open PySem PySem.Spec PyProof.Rows L2
/-- an own error without an own __init__ -/
structure ErrB (K : PySem.W.Frag) (mg : Str → Option Value) (x : Str) (C : Addr) : Prop where
  q : PySem.W.excIn K C He.veBase "ValueError.__new__" = true
  k : PySem.W.keepIn K (.ref C) = true
  s : PySem.W.subIn K (.ref C) (.type "BaseException") = some true
  t : PySem.W.typeIn K (.ref C) = some (.type "type")
  g : mg x = some (.ref C)
/-- what a def lets out -/
abbrev wE (E : XK) : WX := fun cls d _ H => E cls d H
section
variable {X : Cx} {C : Addr} {x : Str} {E : XK}
def sErrT (C : Addr) (W : WX) : TS := fun _ σ H => W (.ref C) none σ H
theorem ps_errT {m : Str} {j : Nat} {p p2 pos pos2 : Pos} {W : WX} (hc : X.calm = true) (T : ErrB X.K X.mg x C) (tk : Takes X W) (hg : Gl X x := by rfl) (hdb : (x == ("__debug__" : Str)) = false := by decide) :
    PS X (.Raise (some (.Call (.Name x p) [.Constant (.str m) j p2] [] pos)) none pos2) (sErrT C W) := ps_raise hc tk (pmk_own F.excBase_ValueError T.q T.g T.k (raises_own T.s T.t) hg hdb)
theorem r_errT {W : WX} {D : Ends} {σ : L2.St} {H : Hp} (q : W (.ref C) none σ H) : sErrT C W D σ H := q
/-- a def by name that may raise -/
theorem pe_fnX {k : Nat} {ps : List Str} {sp : Sp} {e : Expr} {es : List Expr} {t : TA} {p pos : Pos} (D : Dn X.prog X.w X.K X.mg X.base (L2.CX X.prog X.w) k x ps sp) (hr : Room k X.A) (tk : Takes X (wE E)) (ha : PA X (e :: es) t) (hg : Gl X x := by rfl)
    (hdb : (x == ("__debug__" : Str)) = false := by decide) (he : starEach (e :: es) X.env = (false, eval e X.env) :: starEach es X.env := by rfl) (hpl : (backTo pos (starEach es X.env)).any (·.1) = false := by rfl) :
    PE X (.Call (.Name x p) (e :: es) [] pos) (tFn sp E t) := pe_fn D hr (passes_call tk fun _ _ _ _ h => h) ha hg hdb he hpl
theorem passX (tk : Takes X (wE E)) : Passes (L2.CX X.prog X.w) X E := passes_call tk fun _ _ _ _ h => h
theorem takes_lam {A : Around} {outer : List Env} {s : Shared} {H : Hp} {scope : Scope} {f c' : Addr} : Takes (LamX.lamCx X A outer s H E scope f c') (wE E) := takes_of rfl rfl rfl rfl
end
section
variable {P : Program} {w : World} {K : PySem.W.Frag} {mg : Str → Option Value} {base : Heap} {x qual : Str} {params : Arguments} {body : List Stmt} {scope : Scope} {dvs : List V} {kws : List (Str × V)} {f : Addr} {fd : FuncData}
/-- a def that may raise, by its body -/
theorem _root_.L2.FunD.okE {N ps : List Str} {k : Nat} {sp : Sp} (F : FunD K x qual params body scope dvs kws f fd) (S : FnScope N ps scope) (len : ∀ vs H Q E, sp vs H Q E → vs.length = ps.length)
    (hbody : ∀ (cdv : Value) (A : Around) (outer : List Env) (s : Shared) (H : Hp) (vs : List V) (Q : VK) (E : XK), Room k (A.deeper (envOfC qual scope s.heap.objs.size f cdv)) → Takes (cxOf (L2.CX P w) P w K mg base N qual scope f cdv A outer s H E) (wE E) → sp vs H Q E →
      ∃ t, PSs (cxOf (L2.CX P w) P w K mg base N qual scope f cdv A outer s H E) body t ∧ t { nx := fun _ H' => Q .non H', rt := Q } (L2.start N vs) H) :
    FnOk P w K mg base (L2.CX P w) (k + 1) f fd ps sp := by
  obtain ⟨oc, od, dV, kV, doc, pm, an, cdv, ct, osl, rfl, lk, hcd, _, _⟩ := F.ex
  exact fn_of lk hcd S len fun A outer s H vs Q E hr hsp => hbody cdv A outer s H vs Q E hr (takes_of rfl rfl rfl rfl) hsp
end
/-- all but the tables of code objects stay -/
theorem ExtN.of_same {H H' : Hp} (e : Same H H') : LamX.ExtN H H' := LamX.ExtN.of fun b o h => e b o h
end Wp
set_option Elab.async false
set_option linter.all false
set_option maxRecDepth 100000
set_option maxHeartbeats 4000000
/-! Properties of own classes: a rule by name, and a look at their getters when the program has been run. -/
namespace Wp
open PySem PySem.Spec PyProof.Rows L2
/-- a property whose getter keeps the promise -/
structure Dpr (P : Program) (w : World) (K : PySem.W.Frag) (mg : Str → Option Value) (base : Heap) (CX : CXT) (k : Nat) (C : Addr) (f : Str) (sp : Sp) : Prop where
  ex : ∃ (p g : Addr) (fd : FuncData) (ps : List Str), PropOf K C f p g ∧ FnOk P w K mg base CX k g fd ps sp ∧ Binds K fd ps []
  cl : Cls K C
def kProp (C : Addr) (sp : Sp) (E : XK) (Q : VK) : VK := fun x H1 => ∃ a dx fs, x = .ref a ∧ H1 a = some (.ins C dx fs) ∧ sp [.ref a] H1 Q E
section
variable {X : Cx} {CX : CXT} {k : Nat} {C a dx : Addr} {f : Str} {sp : Sp} {E : XK} {e : Expr} {pos : Pos} {ta : TE} {fs : List (Str × V)}
theorem pe_propA (D : Dpr X.prog X.w X.K X.mg X.base CX k C f sp) (he : PE X e ta) (hr : Room (k + 1) X.A) (hx : Passes CX X.nox E)
    (hab : attributeBase e f X.env (eval e X.env) = eval e X.env := by rfl) : PE X (.Attribute e f pos) (tProp C sp [] E ta) := by
  obtain ⟨p, g, fd, ps, h1, h2, h3⟩ := D.ex
  exact pe_prop he D.cl h1 h2 hr h3 .nil hx hab
theorem r_prop {σ : L2.St} {H : Hp} {Q : VK} (q : ta σ H (kProp C sp E Q)) : tProp C sp [] E ta σ H Q := q
theorem r_kProp {H : Hp} {Q : VK} (h : H a = some (.ins C dx fs)) (q : sp [.ref a] H Q E) : kProp C sp E Q (.ref a) H := ⟨a, dx, fs, rfl, h, q⟩
end
/-! x += e -/
theorem r_aug {i : Nat} {te : TE} {ti : TIp} {D : Ends} {σ : L2.St} {H : Hp} {x : V} (h : σ[i]? = some (some x)) (q : te σ H fun y H1 => ti x y H1 fun z H2 => D.nx (σ.set i (some z)) H2) : tAug i te ti D σ H := ⟨x, h, q⟩
theorem r_ipI {f : Int → Int → Int} {i j : Int} {H : Hp} {Q : VK} (q : Q (.int (f i j)) H) : ipI f (.int i) (.int j) H Q := ⟨i, j, rfl, rfl, q⟩
/-! ### the look -/
/-- where the getter of the property f of class c stands -/
def gAd (K : PySem.W.Frag) (c f : Str) : Addr := match PySem.W.recIn K (He.ma K (He.ga K c) f) "property" with
  | some (.ref g :: _) => g
  | _ => 0
structure GetD where
  c : Str
  f : Str
  qual : Str
  params : Arguments
  body : List Stmt
  scope : Scope
def fnY (K : PySem.W.Frag) (d : GetD) : He.FnW := match K.lookup (gAd K d.c d.f) with
  | some ⟨_, _, .func z, _⟩ => some (z.name, z.qualname, z.params, z.body, z.scope, z.globals, z.closure, z.builtins)
  | _ => none
def GetD.val (d : GetD) : He.FnW := some (d.f, d.qual, d.params, .stmts d.body, d.scope, mainGlobals, [], builtinsNs)
def propB (K : PySem.W.Frag) (c f : Str) : Bool := He.eqO (PySem.W.findIn K (.ref (He.ga K c)) f) (some (some (.ref (He.ma K (He.ga K c) f)))) &&
  (He.eqO (PySem.W.specialIn K (.ref (He.ma K (He.ga K c) f)) "__get__") (some (some (.builtin "property.__get__"))) && (decide (PySem.W.takesIn K (.ref (He.ma K (He.ga K c) f)) = some true) &&
  (match PySem.W.recIn K (He.ma K (He.ga K c) f) "property" with
  | some (.ref _ :: _) => true
  | _ => false)))
def GetD.ok (K : PySem.W.Frag) (d : GetD) : Bool := propB K d.c d.f && (PySem.W.keepIn K (.ref (gAd K d.c d.f)) && (match K.lookup (gAd K d.c d.f) with
  | some ⟨_, _, .func z, _⟩ => PySem.W.codeIn K z.code d.qual && (He.dflB K z.defaults [] && He.kwdB K z.kwdefaults [])
  | _ => false))
theorem propB_ok {K : PySem.W.Frag} {c f : Str} (h : propB K c f = true) : PropOf K (He.ga K c) f (He.ma K (He.ga K c) f) (gAd K c f) := by
  obtain ⟨h1, h⟩ := He.ba h
  obtain ⟨h2, h⟩ := He.ba h
  obtain ⟨h3, h4⟩ := He.ba h
  refine ⟨He.eqO_ok h1, He.eqO_ok h2, of_decide_eq_true h3, ?_⟩
  unfold gAd
  cases q : PySem.W.recIn K (He.ma K (He.ga K c) f) "property" with
  | none =>
    rw [q] at h4
    cases h4
  | some l =>
    rw [q] at h4
    cases l with
    | nil => cases h4
    | cons x r =>
      cases x with
      | ref g => exact ⟨r, rfl⟩
      | _ => cases h4
theorem GetD.funD {K : PySem.W.Frag} {d : GetD} (e : fnY K d = d.val) (c : d.ok K = true) : PropOf K (He.ga K d.c) d.f (He.ma K (He.ga K d.c) d.f) (gAd K d.c d.f) ∧ ∃ fd, FunD K d.f d.qual d.params d.body d.scope [] [] (gAd K d.c d.f) fd := by
  obtain ⟨hp, c1⟩ := He.ba c
  refine ⟨propB_ok hp, ?_⟩
  obtain ⟨hk, c2⟩ := He.ba c1
  unfold fnY at e
  cases q : K.lookup (gAd K d.c d.f) with
  | none =>
    rw [q] at e
    cases e
  | some o =>
    obtain ⟨a1, a2, a3, a4⟩ := o
    rw [q] at e c2
    cases a3 with
    | func z =>
      obtain ⟨z1, z2, z3, z4, z5, z6, z7, z8, z9, z10, z11, z12, z13, z14, z15⟩ := z
      have e3 : ((z1, z2, z3, z4, z5, z6, z7, z15) : Str × Str × Arguments × FuncBody × Scope × Addr × List (Str × Addr) × Addr) = (d.f, d.qual, d.params, .stmts d.body, d.scope, mainGlobals, [], builtinsNs) := Option.some.inj e
      simp only [Prod.mk.injEq] at e3
      obtain ⟨rfl, rfl, rfl, rfl, rfl, rfl, rfl, rfl⟩ := e3
      obtain ⟨k1, k2⟩ := He.ba (a := PySem.W.codeIn K z13 d.qual) c2
      obtain ⟨k3, k4⟩ := He.ba k2
      exact ⟨_, ⟨a1, a2, z8, z9, z10, z11, z12, z13, z14, a4, rfl, q, k1, He.dflB_ok k3, He.kwdB_ok k4⟩, hk⟩
    | _ => cases e
/-- what is told besides: the getters -/
abbrev AlY : Type := He.AlX × Bool × List He.FnW
def obsY (n : Nat) (fa : List He.Fa) (fn : List He.DefD) (gs : List GetD) (ex : PySem.W.Frag → Bool) (g : Addr → Option Obj) : AlY :=
  (He.obsX n fa fn [] [] ex g, gs.all (fun d => d.ok (He.frT g (He.asD g n))), gs.map fun d => fnY (He.frT g (He.asD g n)) d)
def valY (fn : List He.DefD) (gs : List GetD) (w : World) : AlY := (He.valX fn [] w, true, gs.map GetD.val)
structure SaysY (fa : List He.Fa) (fn : List He.DefD) (gs : List GetD) (ex : PySem.W.Frag → Bool) (w : World) (h : Heap) (K : PySem.W.Frag) : Prop where
  x : He.SaysX fa fn [] [] ex w h K
  g : ∀ d ∈ gs, PropOf K (He.ga K d.c) d.f (He.ma K (He.ga K d.c) d.f) (gAd K d.c d.f) ∧ ∃ fd, FunD K d.f d.qual d.params d.body d.scope [] [] (gAd K d.c d.f) fd
theorem saysY_of {n : Nat} {fa : List He.Fa} {fn : List He.DefD} {gs : List GetD} {ex : PySem.W.Frag → Bool} {w : World} {h : Heap} (e : obsY n fa fn gs ex h.get? = valY fn gs w) : SaysY fa fn gs ex w h (He.frT h.get? (He.asD h.get? n)) := by
  have e1 : He.obsX n fa fn [] [] ex h.get? = He.valX fn [] w := congrArg (fun z : AlY => z.1) e
  have e2 : gs.all (fun d => d.ok (He.frT h.get? (He.asD h.get? n))) = true := congrArg (fun z : AlY => z.2.1) e
  have e3 : gs.map (fun d => fnY (He.frT h.get? (He.asD h.get? n)) d) = gs.map GetD.val := congrArg (fun z : AlY => z.2.2) e
  exact ⟨He.saysX_of e1, fun d hd => GetD.funD (List.map_inj_left.mp e3 d hd) (List.all_eq_true.mp e2 d hd)⟩
def hookY (n : Nat) (fa : List He.Fa) (fn : List He.DefD) (gs : List GetD) (ex : PySem.W.Frag → Bool) : PySem.W.Hook where
  α := AlY
  obs := fun s => obsY n fa fn gs ex s.heap.get?
  val := fun w => valY fn gs w
  says := fun w h => ∃ K : PySem.W.Frag, K.In h ∧ SaysY fa fn gs ex w h K
  of := fun _ _ e => ⟨_, He.frT_in, saysY_of e⟩
  keeps := fun _ _ _ ⟨K, hK, c⟩ k => ⟨K, PySem.W.Frag.In.keeps hK k, ⟨⟨c.x.t, c.x.more, c.x.hd, c.x.out, fun p hp => k _ _ (c.x.empty p hp)⟩, c.g⟩⟩
theorem obsY_eq {n : Nat} {fa : List He.Fa} {fn : List He.DefD} {gs : List GetD} {ex : PySem.W.Frag → Bool} {g : Addr → Option Obj} {s : Shared} (h : ∀ a, g a = s.heap.get? a) : obsY n fa fn gs ex g = (hookY n fa fn gs ex).obs s := by
  obtain rfl : g = s.heap.get? := funext h
  rfl
end Wp
set_option Elab.async false
set_option linter.all false
set_option maxRecDepth 100000
set_option maxHeartbeats 4000000
/-! A look at own errors when the program has been run: what ErrT asks. -/
namespace Wp
open PySem PySem.Spec PyProof.Rows L2
/-- the class object: over ValueError, no __slots__ -/
def eClsB (K : PySem.W.Frag) (C : Addr) : Bool := match K.lookup C with
  | some ⟨.type t, _, .cls cd, sl⟩ => (match cd.mro, sl.toList with
    | .ref C' :: bm, [_, _, _, _, some (.builtin n), _] => decide (t = "type") && (decide (C' = C) && (decide (n = "ValueError.__new__") && (!cd.hasDel && (cd.hasDict && HandSPX.refsVE bm))))
    | _, _ => false)
  | _ => false
theorem eClsB_ok {K : PySem.W.Frag} {C : Addr} (h : eClsB K C = true) : ∃ nm q N bs bm sn sub ab col dd k0 k1 k2 k3 k5, K.lookup C = some (excClassObj nm q C N bs bm true sn sub ab col dd k0 k1 k2 k3 k5 "ValueError.__new__") ∧ HandSPX.refsVE bm = true := by
  unfold eClsB at h
  split at h
  · rename_i t dd cd sl ho
    split at h
    · rename_i C' bm k0 k1 k2 k3 n k5 hm hs
      obtain ⟨e1, h⟩ := He.ba h
      obtain ⟨e2, h⟩ := He.ba h
      obtain ⟨e3, h⟩ := He.ba h
      obtain ⟨e4, h⟩ := He.ba h
      obtain ⟨e5, e6⟩ := He.ba h
      obtain ⟨nm, bs, mro, ns, qn, hd, sn, sub, ab, col, del⟩ := cd
      obtain ⟨l⟩ := sl
      have e1 := of_decide_eq_true e1
      have e2 := of_decide_eq_true e2
      have e3 := of_decide_eq_true e3
      simp only [Bool.not_eq_true'] at e4 e5 hm hs
      subst e1 e2 e3 e4 e5 hm hs
      exact ⟨_, _, _, _, _, _, _, _, _, _, _, _, _, _, _, ho, e6⟩
    · cases h
  · cases h
/-- an own error: its class, the field that it keeps, its __init__ as it stands -/
structure ErD where
  c : Str
  f : Str
  qual : Str
  params : Arguments
  body : List Stmt
  scope : Scope
def iAd (K : PySem.W.Frag) (c : Str) : Addr := He.ma K (He.ga K c) "__init__"
def fnE (K : PySem.W.Frag) (d : ErD) : He.FnW := match K.lookup (iAd K d.c) with
  | some ⟨_, _, .func z, _⟩ => some (z.name, z.qualname, z.params, z.body, z.scope, z.globals, [], z.builtins)
  | _ => none
def ErD.val (d : ErD) : He.FnW := some ("__init__", d.qual, d.params, .stmts d.body, d.scope, mainGlobals, [], builtinsNs)
def fileB (K : PySem.W.Frag) (cd : Value) (file : Str) : Bool := match cd with
  | .ref c => (match K.lookup c with
    | some ⟨_, _, .fields vs, _⟩ => (match (vs[2]? : Option Value) with
      | some (Value.str x _) => decide (x = file)
      | _ => false)
    | _ => false)
  | _ => false
theorem fileB_ok {K : PySem.W.Frag} {cd : Value} {file : Str} (h : fileB K cd file = true) : ∃ (c : Addr) (cl : Value) (dd : Option Addr) (vs : Array Value) (sl : Array (Option Value)) (t : Tok), cd = .ref c ∧ K.lookup c = some ⟨cl, dd, .fields vs, sl⟩ ∧ vs[2]? = some (.str file t) := by
  unfold fileB at h
  split at h
  · split at h
    · split at h
      · rename_i c _ cl dd vs sl ho _ x t hv
        have e := of_decide_eq_true h
        subst e
        exact ⟨_, _, _, _, _, _, rfl, ho, hv⟩
      · cases h
    · cases h
  · cases h
def selfCellB (K : PySem.W.Frag) (C : Addr) (cl : List (Str × Addr)) : Bool := match cl with
  | [(n, c)] => decide (n = "__class__") && (match K.lookup c with
    | some ⟨_, _, .cell (some (.ref C')), _⟩ => decide (C' = C)
    | _ => false)
  | _ => false
theorem selfCellB_ok {K : PySem.W.Frag} {C : Addr} {cl : List (Str × Addr)} (h : selfCellB K C cl = true) : ∃ (c : Addr) (v : Value) (dd : Option Addr) (sl : Array (Option Value)), cl = [(("__class__" : Str), c)] ∧ K.lookup c = some ⟨v, dd, .cell (some (.ref C)), sl⟩ := by
  unfold selfCellB at h
  split at h
  · obtain ⟨h1, h2⟩ := He.ba h
    have e := of_decide_eq_true h1
    subst e
    split at h2
    · rename_i c _ v dd C' sl ho
      have e := of_decide_eq_true h2
      subst e
      exact ⟨_, _, _, _, rfl, ho⟩
    · cases h2
  · cases h
def noneB : Value → Bool
  | .none => true
  | _ => false
theorem noneB_ok {v : Value} (h : noneB v = true) : v = .none := by
  cases v <;> first | rfl | cases h
def erFnB (K : PySem.W.Frag) (file : Str) (d : ErD) : Bool := match K.lookup (iAd K d.c) with
  | some ⟨_, _, .func z, _⟩ => noneB z.defaults && (noneB z.kwdefaults && (PySem.W.codeIn K z.code d.qual && (fileB K z.code file && selfCellB K (He.ga K d.c) z.closure)))
  | _ => false
/-- what isinstance and the reading of a field ask -/
def erIsB (K : PySem.W.Frag) (C : Addr) : Bool := He.eqO (PySem.W.findIn K (.ref C) "__getattribute__") (some (some (.builtin "BaseException.__getattribute__"))) && (He.eqO (PySem.W.findIn K (.ref C) "__getattr__") (some none) && (decide (PySem.W.subIn K (.ref C) (.type "BaseException") = some true) && (PySem.W.hasDictIn K C &&
  (He.eqO (PySem.W.findIn K (.ref C) "__class__") (some (some (.builtin "object.__class__"))) && (He.eqO (PySem.W.specialIn K (.builtin "object.__class__") "__get__") (some (some (.builtin "getset_descriptor.__get__"))) && (decide (PySem.W.takesIn K (.builtin "object.__class__") = some true) && decide (PySem.W.mroIn K C (.type "object") = some true)))))))
theorem erIsB_ok {K : PySem.W.Frag} {C : Addr} (h : erIsB K C = true) : ExcC K C ∧ XfC K C := by
  obtain ⟨h1, h⟩ := He.ba h
  obtain ⟨h2, h⟩ := He.ba h
  obtain ⟨h3, h⟩ := He.ba h
  obtain ⟨h4, h⟩ := He.ba h
  obtain ⟨h5, h⟩ := He.ba h
  obtain ⟨h6, h⟩ := He.ba h
  obtain ⟨h7, h8⟩ := He.ba h
  exact ⟨⟨He.eqO_ok h1, He.eqO_ok h2, of_decide_eq_true h3, h4, He.eqO_ok h5, He.eqO_ok h6, of_decide_eq_true h7, of_decide_eq_true h8⟩, ⟨He.eqO_ok h1, He.eqO_ok h2, of_decide_eq_true h3, h4⟩⟩
def ErD.ok (K : PySem.W.Frag) (file : Str) (d : ErD) : Bool := eClsB K (He.ga K d.c) && (He.eqO (PySem.W.findIn K (.ref (He.ga K d.c)) "__setattr__") (some (some (.builtin "object.__setattr__"))) && (He.eqO (PySem.W.findIn K (.ref (He.ga K d.c)) d.f) (some none) &&
  (He.eqO (PySem.W.findIn K (.ref (He.ga K d.c)) "__init__") (some (some (.ref (iAd K d.c)))) && (decide (PySem.W.typeIn K (.ref (iAd K d.c)) = some (.type "function")) && (PySem.W.keepIn K (.ref (He.ga K d.c)) &&
  (decide (PySem.W.subIn K (.ref (He.ga K d.c)) (.type "BaseException") = some true) && (decide (PySem.W.subIn K (.ref (He.ga K d.c)) (.type "ValueError") = some true) && (decide (PySem.W.mroIn K (He.ga K d.c) (.ref (He.ga K d.c)) = some true) && (decide (PySem.W.typeIn K (.ref (He.ga K d.c)) = some (.type "type")) &&
  (He.eqO (PySem.W.ks_superIn K (He.ga K d.c) (He.ga K d.c) "__init__") (some (some (.builtin "ValueError.__init__"))) && (He.eqO (PySem.W.nsIn K cStatics "thirdparty.any") (some none) && (He.eqO (PySem.W.nsIn K mainGlobals "super") (some none) && (erFnB K file d && erIsB K (He.ga K d.c))))))))))))))
/-- what the text itself shows of such an __init__ -/
structure ErTx (f msg : Str) (params : Arguments) (body : List Stmt) (scope : Scope) : Prop where
  p : ∃ p1 p2, params = eArg f p1 p2
  b : ∃ j p0 p1 p2 p3 p4 p5 q1 q2 q3 q4, body = eBdy f msg j p0 p1 p2 p3 p4 p5 q1 q2 q3 q4 ∧ eRead msg j p0 p1 p2 p3 p4 ∧ ∀ env : Env, swapsWith (.Name f q3) (some (.Attribute (.Name "self" q1) f q2)) q4.line env = pure false
  s : scope = eScp f
  bnd : ∀ (qual : Str) (body : List Stmt) (doc pm : Value) (an : Option Addr) (cdv ct : Value) (cc : Addr) (a1 a2 : Pos) (x v : Value), bindArgs (PySem.W.ksFn "__init__" qual (eArg f a1 a2) body (eScp f) .none .none doc pm an cdv ct cc) ⟨[x, v], []⟩ = pure [(("self" : Str), x), (f, v)]
  l1 : ∀ x v : Value, List.lookup ("self" : Str) ([(("self" : Str), x), (f, v)] : List (Str × Value)).reverse = some x
  l2 : ∀ x v : Value, List.lookup f ([(("self" : Str), x), (f, v)] : List (Str × Value)).reverse = some v
  l3 : List.lookup f (eScp f).names = some .local
  l6 : (f == ("__debug__" : Str)) = false
  l4 : List.lookup ("super" : Str) (eScp f).names = some .globalImplicit
  l5 : List.lookup ("__class__" : Str) (eScp f).names = some .free
theorem ErD.errT {K : PySem.W.Frag} {file msg : Str} {d : ErD} (e : fnE K d = d.val) (c : d.ok K file = true) (t : ErTx d.f msg d.params d.body d.scope) : ErrT K file (He.ga K d.c) (iAd K d.c) d.qual d.f msg ∧ ExcC K (He.ga K d.c) ∧ XfC K (He.ga K d.c) := by
  obtain ⟨c1, c⟩ := He.ba c
  obtain ⟨c2, c⟩ := He.ba c
  obtain ⟨c3, c⟩ := He.ba c
  obtain ⟨c4, c⟩ := He.ba c
  obtain ⟨c5, c⟩ := He.ba c
  obtain ⟨c6, c⟩ := He.ba c
  obtain ⟨c7, c⟩ := He.ba c
  obtain ⟨c8, c⟩ := He.ba c
  obtain ⟨c9, c⟩ := He.ba c
  obtain ⟨c10, c⟩ := He.ba c
  obtain ⟨c11, c⟩ := He.ba c
  obtain ⟨c12, c⟩ := He.ba c
  obtain ⟨c13, c⟩ := He.ba c
  obtain ⟨c14, c15⟩ := He.ba c
  refine ⟨⟨eClsB_ok c1, He.eqO_ok c2, He.eqO_ok c3, He.eqO_ok c4, of_decide_eq_true c5, c6, of_decide_eq_true c7, of_decide_eq_true c8, of_decide_eq_true c9, of_decide_eq_true c10, He.eqO_ok c11, He.eqO_ok c12, He.eqO_ok c13, ?_, t.bnd, t.l1, t.l2, t.l3, t.l6, t.l4, t.l5⟩, erIsB_ok c15⟩
  unfold fnE at e
  unfold erFnB at c14
  cases q : K.lookup (iAd K d.c) with
  | none =>
    rw [q] at e
    cases e
  | some o =>
    obtain ⟨a1, a2, a3, a4⟩ := o
    rw [q] at e c14
    cases a3 with
    | func z =>
      obtain ⟨z1, z2, z3, z4, z5, z6, z7, z8, z9, z10, z11, z12, z13, z14, z15⟩ := z
      have e3 : ((z1, z2, z3, z4, z5, z6, [], z15) : Str × Str × Arguments × FuncBody × Scope × Addr × List (Str × Addr) × Addr) = (("__init__" : Str), d.qual, d.params, FuncBody.stmts d.body, d.scope, mainGlobals, ([] : List (Str × Addr)), builtinsNs) := Option.some.inj e
      simp only [Prod.mk.injEq] at e3
      obtain ⟨rfl, rfl, rfl, rfl, rfl, rfl, _, rfl⟩ := e3
      obtain ⟨k1, k2⟩ := He.ba (a := noneB z8) c14
      obtain ⟨k3, k4⟩ := He.ba (a := noneB z9) k2
      obtain ⟨k5, k6⟩ := He.ba k4
      obtain ⟨k7, k8⟩ := He.ba k6
      obtain rfl := noneB_ok k1
      obtain rfl := noneB_ok k3
      obtain ⟨cda, ccl, cdd, vs, ccs, tf, rfl, g1, g2⟩ := fileB_ok k7
      obtain ⟨cc, cl, cld, csl, rfl, g3⟩ := selfCellB_ok k8
      obtain ⟨p1, p2, hp⟩ := t.p
      obtain ⟨j, b0, b1, b2, b3, b4, b5, q1, q2, q3, q4, hb, hr, hs⟩ := t.b
      have hsc := t.s
      rw [hp, hb, hsc]
      exact ⟨_, _, _, _, _, _, _, _, _, _, _, _, _, _, _, _, _, _, _, _, _, _, _, _, _, _, _, _, _, _, rfl, k5, g3, g1, g2, hr, hs⟩
    | _ => cases e
/-! ### the Hook: properties, errors, tables of code objects -/
abbrev AlZ : Type := He.AlT × Bool × List He.FnW × List He.FnW
def asZ (g : Addr → Option Obj) (n : Nat) : List Addr := He.asD g n ++ [cStatics, sysModules]
def kZ (g : Addr → Option Obj) (n : Nat) : PySem.W.Frag := He.frT g (asZ g n)
def obsZ (n : Nat) (fa : List He.Fa) (fn : List He.DefD) (tf : List He.Defn) (gs : List GetD) (es : List ErD) (file : Str) (ex : PySem.W.Frag → Bool) (g : Addr → Option Obj) : AlZ :=
  (He.obsT fa fn [] (kZ g n), ex (kZ g n) && (He.tabsB g tf (kZ g n) && ((gs.all fun d => d.ok (kZ g n)) && es.all fun d => d.ok (kZ g n) file)), gs.map fun d => fnY (kZ g n) d, es.map fun d => fnE (kZ g n) d)
def valZ (fn : List He.DefD) (gs : List GetD) (es : List ErD) (w : World) : AlZ := (He.valT fn [] w, true, gs.map GetD.val, es.map ErD.val)
structure SaysZ (fa : List He.Fa) (fn : List He.DefD) (tf : List He.Defn) (gs : List GetD) (es : List ErD) (file : Str) (ex : PySem.W.Frag → Bool) (w : World) (h : Heap) (K : PySem.W.Frag) : Prop where
  t : He.SaysT fa fn [] w K
  more : ex K = true
  hd : ∀ p ∈ tf, PySem.W.codeHdIn K (He.cT K p).1 (He.cT K p).2 = true
  out : ∀ p ∈ tf, K.lookup (He.cT K p).2 = none
  empty : ∀ p ∈ tf, h.get? (He.cT K p).2 = some { cls := .none, data := .fields #[] }
  g : ∀ d ∈ gs, PropOf K (He.ga K d.c) d.f (He.ma K (He.ga K d.c) d.f) (gAd K d.c d.f) ∧ ∃ fd, FunD K d.f d.qual d.params d.body d.scope [] [] (gAd K d.c d.f) fd
  e : ∀ d ∈ es, fnE K d = d.val ∧ d.ok K file = true
theorem saysZ_of {n : Nat} {fa : List He.Fa} {fn : List He.DefD} {tf : List He.Defn} {gs : List GetD} {es : List ErD} {file : Str} {ex : PySem.W.Frag → Bool} {w : World} {h : Heap} (e : obsZ n fa fn tf gs es file ex h.get? = valZ fn gs es w) : SaysZ fa fn tf gs es file ex w h (kZ h.get? n) := by
  have e1 : He.obsT fa fn [] (kZ h.get? n) = He.valT fn [] w := congrArg (fun z : AlZ => z.1) e
  have e2 : (ex (kZ h.get? n) && (He.tabsB h.get? tf (kZ h.get? n) && ((gs.all fun d => d.ok (kZ h.get? n)) && es.all fun d => d.ok (kZ h.get? n) file))) = true := congrArg (fun z : AlZ => z.2.1) e
  have e3 : gs.map (fun d => fnY (kZ h.get? n) d) = gs.map GetD.val := congrArg (fun z : AlZ => z.2.2.1) e
  have e4 : es.map (fun d => fnE (kZ h.get? n) d) = es.map ErD.val := congrArg (fun z : AlZ => z.2.2.2) e
  obtain ⟨h1, e2⟩ := He.ba e2
  obtain ⟨h2, e2⟩ := He.ba e2
  obtain ⟨h3, h4⟩ := He.ba e2
  have key : ∀ p ∈ tf, PySem.W.codeHdIn (kZ h.get? n) (He.cT (kZ h.get? n) p).1 (He.cT (kZ h.get? n) p).2 = true ∧ ∃ o, h.get? (He.cT (kZ h.get? n) p).2 = some o ∧ He.emptyTab o = true := fun p hp => by
    obtain ⟨a1, a2⟩ := He.ba (List.all_eq_true.mp h2 p hp)
    refine ⟨a1, ?_⟩
    cases q : h.get? (He.cT (kZ h.get? n) p).2 with
    | none =>
      rw [q] at a2
      cases a2
    | some o =>
      rw [q] at a2
      exact ⟨o, rfl, a2⟩
  refine ⟨e1, h1, fun p hp => (key p hp).1, fun p hp => ?_, fun p hp => ?_, fun d hd => GetD.funD (List.map_inj_left.mp e3 d hd) (List.all_eq_true.mp h3 d hd), fun d hd => ⟨List.map_inj_left.mp e4 d hd, List.all_eq_true.mp h4 d hd⟩⟩
  · obtain ⟨_, o, a1, a2⟩ := key p hp
    exact He.frT_none a1 a2
  · obtain ⟨_, o, a1, a2⟩ := key p hp
    rw [a1, He.emptyTab_eq a2]
def hookZ (n : Nat) (fa : List He.Fa) (fn : List He.DefD) (tf : List He.Defn) (gs : List GetD) (es : List ErD) (file : Str) (ex : PySem.W.Frag → Bool) : PySem.W.Hook where
  α := AlZ
  obs := fun s => obsZ n fa fn tf gs es file ex s.heap.get?
  val := fun w => valZ fn gs es w
  says := fun w h => ∃ K : PySem.W.Frag, K.In h ∧ SaysZ fa fn tf gs es file ex w h K
  of := fun _ _ e => ⟨_, He.frT_in, saysZ_of e⟩
  keeps := fun _ _ _ ⟨K, hK, c⟩ k => ⟨K, PySem.W.Frag.In.keeps hK k, ⟨c.t, c.more, c.hd, c.out, fun p hp => k _ _ (c.empty p hp), c.g, c.e⟩⟩
theorem obsZ_eq {n : Nat} {fa : List He.Fa} {fn : List He.DefD} {tf : List He.Defn} {gs : List GetD} {es : List ErD} {file : Str} {ex : PySem.W.Frag → Bool} {g : Addr → Option Obj} {s : Shared} (h : ∀ a, g a = s.heap.get? a) : obsZ n fa fn tf gs es file ex g = (hookZ n fa fn tf gs es file ex).obs s := by
  obtain rfl : g = s.heap.get? := funext h
  rfl
end Wp
set_option Elab.async false
set_option linter.all false
set_option maxRecDepth 100000
set_option maxHeartbeats 4000000
/-! A Hook as hookZ whose objects are sought with a number of bits in the place of a list: the run's memory is a third. -/
namespace Wp
open PySem PySem.Spec PyProof.Rows L2
/-- the new ones of a list, with the bits of those that were seen -/
def dedF {α : Type} : List Addr → Nat → List Addr → (Nat → List Addr → α) → α
  | [], seen, acc, k => k seen acc
  | a :: r, seen, acc, k => HandSHeadRun.frNat a fun b => match Nat.testBit seen b with
    | true => dedF r seen acc k
    | false => HandSHeadRun.frNat (Nat.lor seen (Nat.shiftLeft 1 b)) fun s => dedF r s (b :: acc) k
def refsF (g : Addr → Option Obj) (a : Addr) : List Addr := match g a with
  | some o => He.refsD o
  | none => []
def bfsF (g : Addr → Option Obj) : Nat → List Addr → Nat → List Addr → List Addr
  | 0, _, _, acc => acc
  | n + 1, fr, seen, acc => dedF (fr.flatMap (refsF g)) seen [] fun s new => bfsF g n new s (acc ++ new)
def asF (g : Addr → Option Obj) (n : Nat) : List Addr := bfsF g n [mainGlobals] (Nat.shiftLeft 1 mainGlobals) [mainGlobals] ++ [cStatics, sysModules]
def kF (g : Addr → Option Obj) (n : Nat) : PySem.W.Frag := He.frT g (asF g n)
def obsF (n : Nat) (fa : List He.Fa) (fn : List He.DefD) (tf : List He.Defn) (gs : List GetD) (es : List ErD) (file : Str) (ex : PySem.W.Frag → Bool) (g : Addr → Option Obj) : AlZ :=
  (He.obsT fa fn [] (kF g n), ex (kF g n) && (He.tabsB g tf (kF g n) && ((gs.all fun d => d.ok (kF g n)) && es.all fun d => d.ok (kF g n) file)), gs.map fun d => fnY (kF g n) d, es.map fun d => fnE (kF g n) d)
theorem saysF_of {n : Nat} {fa : List He.Fa} {fn : List He.DefD} {tf : List He.Defn} {gs : List GetD} {es : List ErD} {file : Str} {ex : PySem.W.Frag → Bool} {w : World} {h : Heap} (e : obsF n fa fn tf gs es file ex h.get? = valZ fn gs es w) : SaysZ fa fn tf gs es file ex w h (kF h.get? n) := by
  have e1 : He.obsT fa fn [] (kF h.get? n) = He.valT fn [] w := congrArg (fun z : AlZ => z.1) e
  have e2 : (ex (kF h.get? n) && (He.tabsB h.get? tf (kF h.get? n) && ((gs.all fun d => d.ok (kF h.get? n)) && es.all fun d => d.ok (kF h.get? n) file))) = true := congrArg (fun z : AlZ => z.2.1) e
  have e3 : gs.map (fun d => fnY (kF h.get? n) d) = gs.map GetD.val := congrArg (fun z : AlZ => z.2.2.1) e
  have e4 : es.map (fun d => fnE (kF h.get? n) d) = es.map ErD.val := congrArg (fun z : AlZ => z.2.2.2) e
  obtain ⟨h1, e2⟩ := He.ba e2
  obtain ⟨h2, e2⟩ := He.ba e2
  obtain ⟨h3, h4⟩ := He.ba e2
  have key : ∀ p ∈ tf, PySem.W.codeHdIn (kF h.get? n) (He.cT (kF h.get? n) p).1 (He.cT (kF h.get? n) p).2 = true ∧ ∃ o, h.get? (He.cT (kF h.get? n) p).2 = some o ∧ He.emptyTab o = true := fun p hp => by
    obtain ⟨a1, a2⟩ := He.ba (List.all_eq_true.mp h2 p hp)
    refine ⟨a1, ?_⟩
    cases q : h.get? (He.cT (kF h.get? n) p).2 with
    | none =>
      rw [q] at a2
      cases a2
    | some o =>
      rw [q] at a2
      exact ⟨o, rfl, a2⟩
  refine ⟨e1, h1, fun p hp => (key p hp).1, fun p hp => ?_, fun p hp => ?_, fun d hd => GetD.funD (List.map_inj_left.mp e3 d hd) (List.all_eq_true.mp h3 d hd), fun d hd => ⟨List.map_inj_left.mp e4 d hd, List.all_eq_true.mp h4 d hd⟩⟩
  · obtain ⟨_, o, a1, a2⟩ := key p hp
    exact He.frT_none a1 a2
  · obtain ⟨_, o, a1, a2⟩ := key p hp
    rw [a1, He.emptyTab_eq a2]
def hookF (n : Nat) (fa : List He.Fa) (fn : List He.DefD) (tf : List He.Defn) (gs : List GetD) (es : List ErD) (file : Str) (ex : PySem.W.Frag → Bool) : PySem.W.Hook where
  α := AlZ
  obs := fun s => obsF n fa fn tf gs es file ex s.heap.get?
  val := fun w => valZ fn gs es w
  says := fun w h => ∃ K : PySem.W.Frag, K.In h ∧ SaysZ fa fn tf gs es file ex w h K
  of := fun _ _ e => ⟨_, He.frT_in, saysF_of e⟩
  keeps := fun _ _ _ ⟨K, hK, c⟩ k => ⟨K, PySem.W.Frag.In.keeps hK k, ⟨c.t, c.more, c.hd, c.out, fun p hp => k _ _ (c.empty p hp), c.g, c.e⟩⟩
theorem obsF_eq {n : Nat} {fa : List He.Fa} {fn : List He.DefD} {tf : List He.Defn} {gs : List GetD} {es : List ErD} {file : Str} {ex : PySem.W.Frag → Bool} {g : Addr → Option Obj} {s : Shared} (h : ∀ a, g a = s.heap.get? a) : obsF n fa fn tf gs es file ex g = (hookF n fa fn tf gs es file ex).obs s := by
  obtain rfl : g = s.heap.get? := funext h
  rfl
/-- the run's equation, of parts -/
theorem map_two {α β γ : Type} {o : Option α} {f : α → β} {g : α → γ} {a : β} {b : γ} (h1 : o.map f = some a) (h2 : o.map g = some b) : o.map (fun s => (f s, g s)) = some (a, b) := by
  cases o with
  | none => cases h1
  | some s => rw [Option.map_some, ← Option.some.inj h1, ← Option.some.inj h2]
end Wp
set_option Elab.async false
set_option linter.all false
set_option maxRecDepth 100000
set_option maxHeartbeats 0
/-! A look at classes: what isinstance needs. -/
namespace Wp
open PySem PySem.Spec PyProof.Rows L2
def insB (K : PySem.W.Frag) (C : Addr) : Bool := decide (PySem.W.findIn K (.ref C) "__class__" = some (some (.builtin "object.__class__"))) && (decide (PySem.W.specialIn K (.builtin "object.__class__") "__get__" = some (some (.builtin "getset_descriptor.__get__")))
  && (decide (PySem.W.takesIn K (.builtin "object.__class__") = some true) && (decide (PySem.W.mroIn K C (.type "object") = some true) && decide (PySem.W.kitOne K (.ref C) (.ref C) = some true))))
theorem insB_ok {K : PySem.W.Frag} {C : Addr} (cl : Cls K C) (h : insB K C = true) : C8.InsC K C := by
  obtain ⟨h1, h⟩ := He.ba h
  obtain ⟨h2, h⟩ := He.ba h
  obtain ⟨h3, h⟩ := He.ba h
  obtain ⟨h4, h5⟩ := He.ba h
  exact ⟨cl, of_decide_eq_true h1, of_decide_eq_true h2, of_decide_eq_true h3, of_decide_eq_true h4, of_decide_eq_true h5⟩
end Wp
set_option Elab.async false
set_option linter.all false
set_option maxRecDepth 100000
set_option maxHeartbeats 0
namespace Wp
open PySem PySem.Spec PyProof.Rows L2
def sysQ (K : PySem.W.Frag) : Bool := match K.lookup sysModules with
  | some ⟨_, _, .dict _ _, _⟩ => true
  | _ => false
def noKitQ (K : PySem.W.Frag) (C : Addr) : Bool := ["NoneType", "bool", "int", "str", "list", "tuple", "dict"].all fun n => decide (PySem.W.kitOne K (.type n) (.ref C) = some false)
def eqQ (K : PySem.W.Frag) (C f : Addr) : Bool := decide (PySem.W.findIn K (.ref C) "__eq__" = some (some (.ref f))) && (PySem.W.isFn K (.ref f) && (decide (PySem.W.findIn K (.ref C) "__ne__" = some (some (.builtin "object.__ne__"))) && decide (PySem.W.mroIn K C (.type "object") = some true)))
def nfQ (K : PySem.W.Frag) (C D : Addr) : Bool := (["NoneType", "bool", "int", "str", "list", "tuple", "dict"].all fun n => PySem.W.notFirst K C (.type n)) && (PySem.W.notFirst K C (.ref D) && (PySem.W.notFirst K C (.ref C) && decide (PySem.W.kitOne K (.ref D) (.ref C) = some false)))
def errsQ (K : PySem.W.Frag) (es : List Str) : Bool := es.all fun c => decide (PySem.W.kitOne K (.ref (He.ga K c)) (.type "ValueError") = some true) && (decide (PySem.W.exmOne K (.ref (He.ga K c)) (.ref (He.ga K "CreditError")) = some true) &&
  es.all fun c' => decide (PySem.W.kitOne K (.ref (He.ga K c)) (.ref (He.ga K c')) = some (decide (c = c'))))
def D__law_begun : He.DefD := ⟨("_law_begun", none), "_law_begun", "_law_begun", defArgs (topS 38), defBody (topS 38), defScope (topS 38), [], []⟩
def D__law_mixed : He.DefD := ⟨("_law_mixed", none), "_law_mixed", "_law_mixed", defArgs (topS 39), defBody (topS 39), defScope (topS 39), [], []⟩
def D__law_take : He.DefD := ⟨("_law_take", none), "_law_take", "_law_take", defArgs (topS 40), defBody (topS 40), defScope (topS 40), [], []⟩
def D__law_pick : He.DefD := ⟨("_law_pick", none), "_law_pick", "_law_pick", defArgs (topS 41), defBody (topS 41), defScope (topS 41), [], []⟩
def D_is_number : He.DefD := ⟨("is_number", none), "is_number", "is_number", defArgs (topS 18), defBody (topS 18), defScope (topS 18), [], []⟩
def D_is_number_in : He.DefD := ⟨("is_number_in", none), "is_number_in", "is_number_in", defArgs (topS 19), defBody (topS 19), defScope (topS 19), [], []⟩
def D_is_list : He.DefD := ⟨("is_list", none), "is_list", "is_list", defArgs (topS 20), defBody (topS 20), defScope (topS 20), [], []⟩
def D_is_name : He.DefD := ⟨("is_name", none), "is_name", "is_name", defArgs (topS 21), defBody (topS 21), defScope (topS 21), [], []⟩
def D_are_lengths : He.DefD := ⟨("are_lengths", none), "are_lengths", "are_lengths", defArgs (topS 22), defBody (topS 22), defScope (topS 22), [], []⟩
def D_is_kind : He.DefD := ⟨("is_kind", none), "is_kind", "is_kind", defArgs (topS 23), defBody (topS 23), defScope (topS 23), [], []⟩
def D_are_kinds : He.DefD := ⟨("are_kinds", none), "are_kinds", "are_kinds", defArgs (topS 24), defBody (topS 24), defScope (topS 24), [], []⟩
def D_is_order : He.DefD := ⟨("is_order", none), "is_order", "is_order", defArgs (topS 25), defBody (topS 25), defScope (topS 25), [], []⟩
def D_Book___init__ : He.DefD := ⟨("Book", some "__init__"), "__init__", "Book.__init__", defArgs (inClass (topS 27) 0), defBody (inClass (topS 27) 0), defScope (inClass (topS 27) 0), [.int 0, .str "day", .non], []⟩
def D_Plan___init__ : He.DefD := ⟨("Plan", some "__init__"), "__init__", "Plan.__init__", defArgs (inClass (topS 32) 0), defBody (inClass (topS 32) 0), defScope (inClass (topS 32) 0), [.bl false], []⟩
def D_Plan___eq__ : He.DefD := ⟨("Plan", some "__eq__"), "__eq__", "Plan.__eq__", defArgs (inClass (topS 32) 5), defBody (inClass (topS 32) 5), defScope (inClass (topS 32) 5), [], []⟩
def D_need_plan : He.DefD := ⟨("need_plan", none), "need_plan", "need_plan", defArgs (topS 33), defBody (topS 33), defScope (topS 33), [], []⟩
def D_need_balance : He.DefD := ⟨("need_balance", none), "need_balance", "need_balance", defArgs (topS 34), defBody (topS 34), defScope (topS 34), [], []⟩
def D_month_with : He.DefD := ⟨("month_with", none), "month_with", "month_with", defArgs (topS 35), defBody (topS 35), defScope (topS 35), [], []⟩
def D_month : He.DefD := ⟨("month", none), "month", "month", defArgs (topS 36), defBody (topS 36), defScope (topS 36), [], []⟩
def D__law_caught : He.DefD := ⟨("_law_caught", none), "_law_caught", "_law_caught", defArgs (topS 47), defBody (topS 47), defScope (topS 47), [], []⟩
def D__law_is_number : He.DefD := ⟨("_law_is_number", none), "_law_is_number", "_law_is_number", defArgs (topS 45), defBody (topS 45), defScope (topS 45), [], []⟩
def D__law_wrong : He.DefD := ⟨("_law_wrong", none), "_law_wrong", "_law_wrong", defArgs (topS 46), defBody (topS 46), defScope (topS 46), [], []⟩
def D__law_shown : He.DefD := ⟨("_law_shown", none), "_law_shown", "_law_shown", defArgs (topS 44), defBody (topS 44), defScope (topS 44), [], []⟩
def D__law_parts : He.DefD := ⟨("_law_parts", none), "_law_parts", "_law_parts", defArgs (topS 42), defBody (topS 42), defScope (topS 42), [], []⟩
def D__law_planned : He.DefD := ⟨("_law_planned", none), "_law_planned", "_law_planned", defArgs (topS 43), defBody (topS 43), defScope (topS 43), [], []⟩
def D__law_sum_drawn : He.DefD := ⟨("_law_sum_drawn", none), "_law_sum_drawn", "_law_sum_drawn", defArgs (topS 49), defBody (topS 49), defScope (topS 49), [], []⟩
def D__law_step : He.DefD := ⟨("_law_step", none), "_law_step", "_law_step", defArgs (topS 50), defBody (topS 50), defScope (topS 50), [], []⟩
def D__law_refused_right : He.DefD := ⟨("_law_refused_right", none), "_law_refused_right", "_law_refused_right", defArgs (topS 48), defBody (topS 48), defScope (topS 48), [], []⟩
def D_law : He.DefD := ⟨("law", none), "law", "law", defArgs (topS 51), defBody (topS 51), defScope (topS 51), [], []⟩
def fnL : List He.DefD := [D__law_begun, D__law_mixed, D__law_take, D__law_pick, D_is_number, D_is_number_in, D_is_list, D_is_name, D_are_lengths, D_is_kind, D_are_kinds, D_is_order, D_Book___init__, D_Plan___init__, D_Plan___eq__, D_need_plan, D_need_balance, D_month_with, D_month, D__law_caught, D__law_is_number, D__law_wrong, D__law_shown, D__law_parts, D__law_planned, D__law_sum_drawn, D__law_step, D__law_refused_right, D_law]
def faL : List He.Fa := ([.glo "_law_begun", .glo "_law_mixed", .glo "_law_take", .glo "_law_pick", .glo "is_number", .glo "is_number_in", .glo "is_list", .glo "is_name", .glo "are_lengths", .glo "is_kind", .glo "are_kinds", .glo "is_order", .glo "need_plan", .glo "need_balance", .glo "month_with", .glo "month", .glo "_law_caught", .glo "_law_is_number", .glo "_law_wrong", .glo "_law_shown", .glo "_law_parts", .glo "_law_planned", .glo "_law_sum_drawn", .glo "_law_step", .glo "_law_refused_right", .glo "law", .glo "CreditError", .glo "BadBook", .glo "BadNumber", .glo "BadPlan"] : List He.Fa) ++ ([.glo "Book", .glo "Plan", .free "all", .free "bool", .free "dict", .free "int", .free "isinstance", .free "len", .free "list", .free "max", .free "min", .free "range", .free "repr", .free "sorted", .free "str", .free "sum", .free "super", .free "tuple", .free "zip", .str "DAY" "day", .str "LETTERS" "abcdefghijklmnopqrstuvwxyz", .int "LONGEST" 31, .int "MOST_BALANCE" 100000, .int "MOST_DAY" 2000, .int "MOST_KINDS" 6, .int "MOST_LEAST" 1000000, .int "MOST_LENGTHS" 4, .int "MOST_MEMORY" 2, .int "MOST_NAME" 8, .int "MOST_RATE" 1000] : List He.Fa) ++ ([.int "SHORTEST" 2, .str "STATEMENT" "statement", .int "THOUSAND" 1000, .cls "Plan", .noat "Plan" "l_parts", .mkr "Plan", .cls "Book", .mkr "Book", .noat "Book" "b_lengths", .noat "Book" "b_due", .noat "Book" "b_kinds", .noat "Book" "b_memory", .noat "Book" "b_begins", .noat "Book" "b_laid"] : List He.Fa)
def exB (K : PySem.W.Frag) : Bool := insB K (He.ga K "Plan") && (noKitQ K (He.ga K "Plan") && (sysQ K && (errsQ K ["BadPlan"] && ((["BadPlan"] : List Str).all (fun c => noKitQ K (He.ga K c)) && (insB K (He.ga K "Book") && (eqQ K (He.ga K "Plan") (He.fAd K ("Plan", some "__eq__")) && nfQ K (He.ga K "Plan") (He.ga K "Book")))))))
abbrev Rw : PySem.W.OpenRow := PySem.W.OpenLaw.row PySem.Challenge.rw_wholepaid_k72_plans_and_months
def G_Plan_rate : GetD := ⟨"Plan", "rate", "Plan.rate", defArgs (inClass (topS 32) 1), defBody (inClass (topS 32) 1), defScope (inClass (topS 32) 1)⟩
def G_Plan_share : GetD := ⟨"Plan", "share", "Plan.share", defArgs (inClass (topS 32) 2), defBody (inClass (topS 32) 2), defScope (inClass (topS 32) 2)⟩
def G_Plan_least : GetD := ⟨"Plan", "least", "Plan.least", defArgs (inClass (topS 32) 3), defBody (inClass (topS 32) 3), defScope (inClass (topS 32) 3)⟩
def G_Plan_plus : GetD := ⟨"Plan", "plus", "Plan.plus", defArgs (inClass (topS 32) 4), defBody (inClass (topS 32) 4), defScope (inClass (topS 32) 4)⟩
def gsL : List GetD := [G_Plan_rate, G_Plan_share, G_Plan_least, G_Plan_plus]
def E_BadPlan : ErD := ⟨"BadPlan", "part", "BadPlan.__init__", defArgs (inClass (topS 5) 0), defBody (inClass (topS 5) 0), defScope (inClass (topS 5) 0)⟩
def esL : List ErD := [E_BadPlan]
def tfL : List He.Defn := [("_law_refused_right", none)]
abbrev hkL : PySem.W.Hook := hookF 6 faL fnL tfL gsL esL "/claim/cut.py" exB
def obL (s : PySem.W.SharedT) : AlZ := obsF 6 faL fnL tfL gsL esL "/claim/cut.py" exB (HandSHeadRun.getT s)
theorem obL_eq (s : PySem.W.SharedT) : obL s = hkL.obs s.abs := obsF_eq (HandSHeadRun.getT_eq s)
def looseL : List Str := (["_wall", "CreditError", "BadBook", "BadNumber", "BadPlan", "LETTERS", "MOST_NAME", "MOST_KINDS", "MOST_RATE", "MOST_LENGTHS", "SHORTEST", "LONGEST", "MOST_MEMORY", "MOST_DAY", "DAY", "STATEMENT", "is_number", "is_number_in", "is_list", "is_name", "are_lengths", "is_kind", "are_kinds", "is_order", "need_number", "Book", "THOUSAND", "MOST_LEAST", "MOST_BALANCE", "Plan"] : List Str) ++ (["need_plan", "need_balance", "month_with", "month", "_law_begun", "_law_mixed", "_law_take", "_law_pick", "_law_parts", "_law_planned", "_law_shown", "_law_is_number", "_law_wrong", "_law_caught", "_law_refused_right", "_law_sum_drawn", "_law_step"] : List Str)
theorem runL (w : World) : HandSHeadRun.RunEq Rw (PySem.W.view Rw.prog [51]) hkL obL 9000 looseL w := by
  intro os
  kernel_rfl
end Wp
open PySem PySem.W PySem.Calls PyProof.Rows
set_option maxHeartbeats 0 in
theorem Wp.holdsL (call : WalkO (view Wp.Rw.prog [51]) Wp.looseL (XL (view Wp.Rw.prog [51]) []) Wp.hkL.says Wp.Rw.toRowW (HandSHeadRun.topDef Wp.Rw.prog 51) [] fun f vs => PySem.call f vs) : PySem.Challenge.rw_wholepaid_k72_plans_and_months.Holds := by
  w_on; o_law
  refine HandSHeadRun.head_any (r := Wp.Rw) (q := view Wp.Rw.prog [51]) (H := Wp.hkL) (ob := Wp.obL) (M := 9000) (loose := Wp.looseL) (d := HandSHeadRun.topDef Wp.Rw.prog 51) (kwd := []) Wp.obL_eq
    (by kernel_rfl) (fun s => by kernel_rfl) Wp.runL (by kernel_rfl) (by kernel_rfl) (by kernel_rfl) (by rfl) (by first | assumption | decide +kernel) (by decide +kernel) ⟨rfl, rfl, rfl, rfl, rfl, by decide +kernel⟩ ?hw call
  case hw => w_witness2
namespace Wp

end Wp
set_option Elab.async false
set_option linter.all false
set_option maxRecDepth 100000
set_option maxHeartbeats 4000000
/-! A caught exception that is kept: isinstance of it, its field, is it None. -/
namespace Wp
open PySem PySem.Spec PyProof.Rows L2
/-- the kept exception's dict -/
def ExD (H : Hp) (d : Option Addr) (fs : List (Str × V)) : Prop := ∀ dd, d = some dd → H dd = some (.xd fs)
theorem exv_kit {K : PySem.W.Frag} {x D : Addr} {ox : Obj} {od : Option Obj} (T : ExcC K D) : PySem.W.KitX K (.ref x) (.ref D) (fun h => PySem.W.InstAt h x ox D od) where
  ty := fun _ _ _ I => I.type
  it := fun M h X _ => by
    obtain ⟨cd, hc, _⟩ := PySem.W.any_some T.hd
    unfold PySem.W.clsIn at hc
    split at hc
    · rename_i ho
      exact fun A Q E s k q => wpAny_bind (wpAny_loadPart (k _ _ (X _ _ ho)) (wpAny_pure q))
    · cases hc
  ne := fun h tp dd its n sl X htp => by
    obtain ⟨cd, hc, _⟩ := PySem.W.any_some T.hd
    cases z : (Value.ref D == .ref tp) with
    | false => rfl
    | true =>
      obtain rfl := Value.ref.inj (beq_iff_eq.mp z)
      unfold PySem.W.clsIn at hc
      split at hc
      · rename_i ho
        cases (X _ _ ho).symm.trans htp
      · cases hc
  ca := fun X I k => PySem.W.kx_classE X I T.hg T.hk T.hs (PySem.W.findObj_dataE (by obtain ⟨cd, hc, _⟩ := PySem.W.any_some T.hd; rw [hc]; rfl) T.ha T.hn T.ht) T.hm k
section
variable {X : Cx} {pins : List (Addr × Obj)} {σ : L2.St} {H : Hp} {s : Shared}
theorem exv_inst {a D : Addr} {d : Option Addr} {fs : List (Str × V)} (I : Inv X pins σ H s) (h : H a = some (ExV (.ref D) d a)) (hd : ExD H d fs) : ∃ ox od, PySem.W.InstAt s.heap a ox D od := by
  obtain ⟨⟨oe, vs, e1, e2, e3⟩, _, _⟩ := I.hok a _ h
  obtain ⟨oc, ocd, dt, sl⟩ := oe
  obtain ⟨h1, h2⟩ := e2
  dsimp only at h1 h2 e3
  subst h1 h2 e3
  cases ocd with
  | none => exact ⟨_, none, e1, rfl, rfl, trivial⟩
  | some dd =>
    obtain ⟨_, ⟨o, _, _, e, _⟩, _⟩ := I.hok dd _ (hd dd rfl)
    exact ⟨_, some o, e1, rfl, rfl, e⟩
end
/-- isinstance(e, c), e an exception that is kept -/
def rIsX (K : PySem.W.Frag) : List V → Hp → VK → Prop := fun xs H Q => ∃ (a D : Addr) (d : Option Addr) (fs : List (Str × V)) (c : V) (cv : Value) (b : Bool), xs = [.ref a, c] ∧ H a = some (ExV (.ref D) d a) ∧ ExD H d fs ∧ ExcC K D ∧ ClsV c cv ∧ PySem.W.kitOne K (.ref D) cv = some b ∧ Q (.bl b) H
theorem call_isX {X : Cx} : CallR X (.builtin "isinstance") (rIsX X.K) := by
  intro pins s σ H xs us Q I r h
  obtain ⟨a, D, d, fs, c, cv, b, rfl, ha, hd, T, hc, e, q⟩ := h
  cases r with
  | cons rx rr =>
    cases rr with
    | cons rt rr =>
      cases rr
      obtain rfl : _ = Value.ref a := rx
      obtain rfl := hc.eq rt
      obtain ⟨ox, od, J⟩ := exv_inst I ha hd
      exact PySem.W.kia_one (exv_kit T) I.kIn J e (fun z => nomatch z) fun tk => ⟨.bl b, H, I.kept (t' := tk) fun _ _ z => z, rfl, q⟩
/-- either way -/
def rIsE (K : PySem.W.Frag) : List V → Hp → VK → Prop := fun xs H Q => rIsi K xs H Q ∨ rIsX K xs H Q
theorem call_isE {X : Cx} (h : CallR X (.builtin "isinstance") (rIsi X.K)) : CallR X (.builtin "isinstance") (rIsE X.K) := fun pins s σ H xs us Q I r z => z.elim (h pins s σ H xs us Q I r) (call_isX pins s σ H xs us Q I r)
theorem r_isE {K : PySem.W.Frag} {H : Hp} {Q : VK} {a D : Addr} {d : Option Addr} {fs : List (Str × V)} {c : V} {cv : Value} {b : Bool} (ha : H a = some (ExV (.ref D) d a)) (hd : ExD H d fs) (T : ExcC K D) (hc : ClsV c cv) (e : PySem.W.kitOne K (.ref D) cv = some b) (q : Q (.bl b) H) : rIsE K [.ref a, c] H Q :=
  .inr ⟨a, D, d, fs, c, cv, b, rfl, ha, hd, T, hc, e, q⟩
/-- e.f of an exception that is kept -/
def kXf (C : Addr) (f : Str) (Q : VK) : VK := fun x H1 => ∃ (a dd : Addr) (fs : List (Str × V)) (v : V), x = .ref a ∧ H1 a = some (ExV (.ref C) (some dd) a) ∧ H1 dd = some (.xd fs) ∧ fs.lookup f = some v ∧ Q v H1
def tXv (C : Addr) (f : Str) (te : TE) : TE := fun σ H Q => te σ H (kXf C f Q)
theorem pe_xv {X : Cx} {C : Addr} {e : Expr} {te : TE} {pos : Pos} {n : Str} (T : XfC X.K C) (hno : PySem.W.findIn X.K (.ref C) n = some none) (he : PE X e te) (hb : attributeBase e n X.env (eval e X.env) = eval e X.env := by rfl) :
    PE X (.Attribute e n pos) (tXv C n te) := by
  refine ⟨fun pins s σ H Q I h => attr_of hb (thn (he.run pins s σ H _ I h) fun u s1 hh => ?_)⟩
  obtain ⟨x, H1, I1, rx, a, dd, fs, v, rfl, ha, hd, l, q⟩ := hh
  obtain rfl : u = Value.ref a := rx
  obtain ⟨⟨oe, vs, e1, e2, e3⟩, _, _⟩ := I1.hok a _ ha
  obtain ⟨mA, hns, hr⟩ := show ObjOk X.prog X.w H1 s1.heap dd (.xd fs) from I1.hok dd _ hd
  obtain ⟨od, ho, hl⟩ := lookIn_ns hns
  obtain ⟨u, hu, ru⟩ := RelO.some_of (v := v) (o := mA n) (by rw [← l]; exact hr n)
  have J : PySem.W.InstAt s1.heap a oe C (some od) := ⟨e1, e2.1, by unfold PySem.W.notCls; rw [e3] <;> rfl, by rw [e2.2]; exact ho⟩
  exact HandSPX.exc_get I1.kIn J T.ga T.gg T.exC (PySem.W.findObj_own T.hdC hno rfl (by rw [hl, hu])) (handed_of ru) ⟨v, H1, I1.tok _, ru, q⟩
theorem r_xv {C : Addr} {f : Str} {te : TE} {σ : L2.St} {H : Hp} {Q : VK} (q : te σ H (kXf C f Q)) : tXv C f te σ H Q := q
theorem r_kXf {C a dd : Addr} {f : Str} {Q : VK} {H : Hp} {fs : List (Str × V)} {v : V} (ha : H a = some (ExV (.ref C) (some dd) a)) (hd : H dd = some (.xd fs)) (l : fs.lookup f = some v) (q : Q v H) : kXf C f Q (.ref a) H := ⟨a, dd, fs, v, rfl, ha, hd, l, q⟩
end Wp
set_option Elab.async false
set_option linter.all false
set_option maxRecDepth 100000
set_option maxHeartbeats 4000000
/-! Readings of texts, slices, dicts, loops over any source. -/
namespace Wp
open PySem PySem.Spec PyProof.Rows L2
section
variable {t u tw : TS} {D : Ends} {σ : L2.St} {H : Hp} {te ta tb tl tk tv td : TE} {tt : TT} {tr : TA} {g : TG} {Q : VK} {v x y : V} {n : Nat} {b : Bool} {K : PySem.W.Frag} {a p q : Addr} {xs ys : List V} {vs : List Nat} {z : Str} {i : Int} {J : It}
/-! slices -/
theorem r_sl {r : V → Option Int → Option Int → Hp → VK → Prop} {tlo thi : TO} (h : te σ H fun x H1 => tlo σ H1 fun l H2 => thi σ H2 fun u H3 => r x l u H3 Q) : tSl r te tlo thi σ H Q := h
theorem r_noPart {QO : Option Int → Hp → Prop} (h : QO none H) : tNoPart σ H QO := h
def kPart (QO : Option Int → Hp → Prop) : VK := fun x H1 => ∃ i, x = .int i ∧ QO (some i) H1
theorem r_part {QO : Option Int → Hp → Prop} (h : te σ H (kPart QO)) : tPart te σ H QO := h
theorem r_kPart {QO : Option Int → Hp → Prop} (h : QO (some i) H) : kPart QO (.int i) H := ⟨i, rfl, h⟩
theorem r_slS {lo hi : Option Int} (hz : z.length ≤ 1000000) (h : Q (.str (cutS z lo hi)) H) : rSlS (.str z) lo hi H Q := ⟨z, rfl, sz5 hz, h⟩
theorem r_slL {lo hi : Option Int} (hl : SqL K H p xs) (h : ∀ q H', H q = none → Same H H' → H' q = some (.lst (cutV xs lo hi)) → Q (.ref q) H') : rSlL K (.ref p) lo hi H Q :=
  ⟨p, xs, rfl, hl, fun q hq => h q _ hq (Same.new hq) upd_same⟩
/-! texts -/
def kM1 (r : V → List V → Hp → VK → Prop) (te : TE) (σ : L2.St) (Q : VK) : VK := fun x H1 => (∃ a, x = .str a) ∧ te σ H1 fun y H2 => r x [y] H2 Q
theorem r_m1 {r : V → List V → Hp → VK → Prop} (h : ta σ H (kM1 r te σ Q)) : tM1 r ta te σ H Q := h
theorem r_kM1 {r : V → List V → Hp → VK → Prop} (h : te σ H fun y H2 => r (.str z) [y] H2 Q) : kM1 r te σ Q (.str z) H := ⟨⟨z, rfl⟩, h⟩
theorem r_ixS {c : Nat} (hz : z.length ≤ 1000000) (e : atI z.cps.toList i = some c) (h : Q (.str ⟨#[c]⟩) H) : rIxS (.str z) (.int i) H Q := ⟨z, i, c, rfl, rfl, sz5 hz, e, h⟩
theorem r_lenS (hz : z.length ≤ 1000000) (h : Q (.int (z.length : Nat)) H) : rLen K [.str z] H Q := ⟨_, _, rfl, ⟨sz5 hz, rfl⟩, h⟩
/-! loops over any source -/
def LoopW (J : It) (g : TG) (tw : TS) (D : Ends) (σ : L2.St) (H1 : Hp) : Prop := ∃ W : Nat → Nat → L2.St → Hp → Prop, (∃ m, W 0 m σ H1) ∧ ∀ i m σ H, W i m σ H →
  (J.stop i H ∧ D.nx σ H) ∨ (J.go i H ∧ ∃ N : L2.St → Hp → Prop, (∀ σ' H', N σ' H' → ∃ m', m' < m ∧ W (i + 1) m' σ' H') ∧ ∀ x H', J.yld i H x H' → g x σ H' fun σ2 H2 => tw { D with nx := N, ct := N, bk := D.nx } σ2 H2)
theorem loop_it (n : Nat) (Pv : Nat → L2.St → Hp → Prop) (h0 : Pv 0 σ H) (hgo : ∀ i σ' H', i < n → Pv i σ' H' → J.go i H') (hst : ∀ σ' H', Pv n σ' H' → J.stop n H')
    (hs : ∀ i x σ' H' H2, i < n → Pv i σ' H' → J.yld i H' x H2 → g x σ' H2 fun σ2 H3 => tw { D with nx := Pv (i + 1), ct := Pv (i + 1), bk := D.nx } σ2 H3)
    (hd : ∀ σ' H', Pv n σ' H' → D.nx σ' H') : LoopW J g tw D σ H := by
  refine ⟨fun i m σ H => m = n - i ∧ i ≤ n ∧ Pv i σ H, ⟨n, by simp, Nat.zero_le _, h0⟩, ?_⟩
  rintro i m σ H ⟨rfl, hi, p⟩
  by_cases hlt : i < n
  · exact .inr ⟨hgo i σ H hlt p, Pv (i + 1), fun σ' H' p' => ⟨n - (i + 1), by omega, rfl, hlt, p'⟩, fun x H' y => hs i x σ H H' hlt p y⟩
  · obtain rfl : i = n := by omega
    exact .inl ⟨hst σ H p, hd σ H p⟩
def LcW (J : It) (g : TG) (tt : TT) (te : TE) (vs : List Nat) (σ : L2.St) (Q : VK) (H1 : Hp) : Prop := ∀ D, H1 D = none → ∃ W : Nat → Nat → Hp → Prop, (∃ m, W 0 m (upd H1 D (.lst []))) ∧ ∀ i m H, W i m H →
  (J.stop i H ∧ Q (.ref D) H) ∨ (J.go i H ∧ ∃ Nx : Hp → Prop, (∀ H', Nx H' → ∃ m', m' < m ∧ W (i + 1) m' H') ∧ ∀ x H', J.yld i H x H' → g x (wipe σ vs) H' fun σ2 H2 => wipe σ2 vs = wipe σ vs ∧ tt σ2 H2 fun b H3 =>
    if b = true then te σ2 H3 fun y H4 => ∃ acc, H4 D = some (.lst acc) ∧ acc.length < sizeLine ∧ Nx (upd H4 D (.lst (acc ++ [y]))) else Nx H3)
theorem lc_it (n : Nat) (Pv : Addr → Nat → Hp → Prop) (h0 : ∀ Da H', H Da = none → Same H H' → H' Da = some (.lst []) → Pv Da 0 H') (hgo : ∀ Da i H', H Da = none → i < n → Pv Da i H' → J.go i H') (hst : ∀ Da H', H Da = none → Pv Da n H' → J.stop n H')
    (hs : ∀ Da i x H' H2, H Da = none → i < n → Pv Da i H' → J.yld i H' x H2 → g x (wipe σ vs) H2 (kLcG tt te vs σ Da Pv i)) (hd : ∀ Da H', H Da = none → Pv Da n H' → Q (.ref Da) H') : LcW J g tt te vs σ Q H := by
  intro Da hD
  refine ⟨fun i m H' => m = n - i ∧ i ≤ n ∧ Pv Da i H', ⟨n, by simp, Nat.zero_le _, h0 Da _ hD (Same.new hD) upd_same⟩, ?_⟩
  rintro i m H' ⟨rfl, hi, p⟩
  by_cases hlt : i < n
  · exact .inr ⟨hgo Da i H' hD hlt p, Pv Da (i + 1), fun H'' p' => ⟨n - (i + 1), by omega, rfl, hlt, p'⟩, fun x H'' y => hs Da i x H' H'' hD hlt p y⟩
  · obtain rfl : i = n := by omega
    exact .inl ⟨hst Da H' hD p, hd Da H' hD p⟩
def DcW (J : It) (g : TG) (tt : TT) (tk tv : TE) (vs : List Nat) (σ : L2.St) (Q : VK) (H1 : Hp) : Prop := ∀ D, H1 D = none → ∃ W : Nat → Nat → Hp → Prop, (∃ m, W 0 m (upd H1 D (.dK []))) ∧ ∀ i m H, W i m H →
  (J.stop i H ∧ Q (.ref D) H) ∨ (J.go i H ∧ ∃ Nx : Hp → Prop, (∀ H', Nx H' → ∃ m', m' < m ∧ W (i + 1) m' H') ∧ ∀ x H', J.yld i H x H' → g x (wipe σ vs) H' fun σ2 H2 => wipe σ2 vs = wipe σ vs ∧ tt σ2 H2 fun b H3 =>
    if b = true then tk σ2 H3 fun y H4 => tv σ2 H4 fun z H5 => ∃ kvs k, y = kV k ∧ H5 D = some (.dK kvs) ∧ kvs.length < sizeLine ∧ Nx (upd H5 D (.dK (putK kvs k z))) else Nx H3)
def kDcE (Da : Addr) (Pv : Addr → Nat → Hp → Prop) (i : Nat) (y : V) : VK := fun z H5 => ∃ kvs k, y = kV k ∧ H5 Da = some (.dK kvs) ∧ kvs.length < sizeLine ∧ Pv Da (i + 1) (upd H5 Da (.dK (putK kvs k z)))
def kDcT (tk tv : TE) (σ2 : L2.St) (Da : Addr) (Pv : Addr → Nat → Hp → Prop) (i : Nat) : Bool → Hp → Prop := fun b H3 => if b = true then tk σ2 H3 fun y H4 => tv σ2 H4 (kDcE Da Pv i y) else Pv Da (i + 1) H3
def kDcG (tt : TT) (tk tv : TE) (vs : List Nat) (σ : L2.St) (Da : Addr) (Pv : Addr → Nat → Hp → Prop) (i : Nat) : L2.St → Hp → Prop := fun σ2 H2 => wipe σ2 vs = wipe σ vs ∧ tt σ2 H2 (kDcT tk tv σ2 Da Pv i)
theorem r_kDcG {Da : Addr} {Pv : Addr → Nat → Hp → Prop} {i : Nat} {σ2 : L2.St} (h : wipe σ2 vs = wipe σ vs) (q : tt σ2 H (kDcT tk tv σ2 Da Pv i)) : kDcG tt tk tv vs σ Da Pv i σ2 H := ⟨h, q⟩
theorem r_kDcT {Da : Addr} {Pv : Addr → Nat → Hp → Prop} {i : Nat} {σ2 : L2.St} (q : if b = true then tk σ2 H fun y H4 => tv σ2 H4 (kDcE Da Pv i y) else Pv Da (i + 1) H) : kDcT tk tv σ2 Da Pv i b H := q
theorem r_kDcE {Da : Addr} {Pv : Addr → Nat → Hp → Prop} {i : Nat} {kvs : List (Key × V)} {kx : Key} {zv : V} (h : H Da = some (.dK kvs)) (hz : kvs.length < 1000000) (q : ∀ H', But Da H H' → H' Da = some (.dK (putK kvs kx zv)) → Pv Da (i + 1) H') : kDcE Da Pv i (kV kx) zv H :=
  ⟨kvs, kx, rfl, h, sz6 hz, q _ But.upd upd_same⟩
theorem dc_it (n : Nat) (Pv : Addr → Nat → Hp → Prop) (h0 : ∀ Da H', H Da = none → Same H H' → H' Da = some (.dK []) → Pv Da 0 H') (hgo : ∀ Da i H', H Da = none → i < n → Pv Da i H' → J.go i H') (hst : ∀ Da H', H Da = none → Pv Da n H' → J.stop n H')
    (hs : ∀ Da i x H' H2, H Da = none → i < n → Pv Da i H' → J.yld i H' x H2 → g x (wipe σ vs) H2 (kDcG tt tk tv vs σ Da Pv i)) (hd : ∀ Da H', H Da = none → Pv Da n H' → Q (.ref Da) H') : DcW J g tt tk tv vs σ Q H := by
  intro Da hD
  refine ⟨fun i m H' => m = n - i ∧ i ≤ n ∧ Pv Da i H', ⟨n, by simp, Nat.zero_le _, h0 Da _ hD (Same.new hD) upd_same⟩, ?_⟩
  rintro i m H' ⟨rfl, hi, p⟩
  by_cases hlt : i < n
  · exact .inr ⟨hgo Da i H' hD hlt p, Pv Da (i + 1), fun H'' p' => ⟨n - (i + 1), by omega, rfl, hlt, p'⟩, fun x H'' y => hs Da i x H' H'' hD hlt p y⟩
  · obtain rfl : i = n := by omega
    exact .inl ⟨hst Da H' hD p, hd Da H' hD p⟩
/-! over a text -/
def kForS (g : TG) (tw : TS) (D : Ends) (σ : L2.St) : VK := fun v H1 => ∃ x, v = .str x ∧ LoopW (Its x) g tw D σ H1
theorem r_forS (h : te σ H (kForS g tw D σ)) : tFor (iStr te) g tw D σ H := h
theorem r_kForS (Pv : Nat → L2.St → Hp → Prop) (h0 : Pv 0 σ H) (hs : ∀ i c σ' H', z.cps[i]? = some c → Pv i σ' H' → g (.str ⟨#[c]⟩) σ' H' fun σ2 H3 => tw { D with nx := Pv (i + 1), ct := Pv (i + 1), bk := D.nx } σ2 H3)
    (hd : ∀ σ' H', Pv z.cps.size σ' H' → D.nx σ' H') : kForS g tw D σ (.str z) H :=
  ⟨z, rfl, loop_it z.cps.size Pv h0 (fun i _ _ hi _ => hi) (fun _ _ _ => Nat.le_refl _) (fun i x σ' H' H2 _ p y => by
    obtain ⟨rfl, c, hc, rfl⟩ := y
    exact hs i c σ' _ hc p) hd⟩
def kLcS (g : TG) (tt : TT) (te : TE) (vs : List Nat) (σ : L2.St) (Q : VK) : VK := fun v H1 => ∃ x, v = .str x ∧ LcW (Its x) g tt te vs σ Q H1
theorem r_lcS (h : ta σ H (kLcS g tt te vs σ Q)) : tLc (iStr ta) g tt te vs σ H Q := h
theorem r_kLcS (Pv : Addr → Nat → Hp → Prop) (h0 : ∀ Da H', H Da = none → Same H H' → H' Da = some (.lst []) → Pv Da 0 H')
    (hs : ∀ Da i c H', H Da = none → z.cps[i]? = some c → Pv Da i H' → g (.str ⟨#[c]⟩) (wipe σ vs) H' (kLcG tt te vs σ Da Pv i)) (hd : ∀ Da H', H Da = none → Pv Da z.cps.size H' → Q (.ref Da) H') : kLcS g tt te vs σ Q (.str z) H :=
  ⟨z, rfl, lc_it z.cps.size Pv h0 (fun _ i _ _ hi _ => hi) (fun _ _ _ _ => Nat.le_refl _) (fun Da i x H' H2 hD _ p y => by
    obtain ⟨rfl, c, hc, rfl⟩ := y
    exact hs Da i c _ hD hc p) hd⟩
/-! over a tuple, in a block -/
def kLcTu (K : PySem.W.Frag) (g : TG) (tt : TT) (te : TE) (vs : List Nat) (σ : L2.St) (Q : VK) : VK := fun x H1 => ∃ a, x = .ref a ∧ (∃ xs, SqT K H1 a xs) ∧ LcW (Itt K a) g tt te vs σ Q H1
theorem r_lcTu (q : tl σ H (kLcTu K g tt te vs σ Q)) : tLc (iTup K tl) g tt te vs σ H Q := q
theorem r_kLcTu (Pv : Addr → Nat → Hp → Prop) (hl : SqT K H a xs) (h0 : ∀ Da H', H Da = none → Same H H' → H' Da = some (.lst []) → Pv Da 0 H') (hk : ∀ Da i H', Pv Da i H' → SqT K H' a xs)
    (hs : ∀ Da i x H', H Da = none → xs[i]? = some x → Pv Da i H' → g x (wipe σ vs) H' (kLcG tt te vs σ Da Pv i)) (hd : ∀ Da H', H Da = none → Pv Da xs.length H' → Q (.ref Da) H') : kLcTu K g tt te vs σ Q (.ref a) H :=
  ⟨a, rfl, ⟨xs, hl⟩, fun Da hD => lc_tup (Pv Da) (h0 Da _ hD (Same.new hD) upd_same) (fun i H' _ p => hk Da i H' p) (fun i x H' hx p => hs Da i x H' hD hx p) (fun H' p => hd Da H' hD p)⟩
end
end Wp
set_option Elab.async false
set_option linter.all false
set_option maxRecDepth 100000
set_option maxHeartbeats 4000000
/-! One rule or another; things locked while they are gone through; sums of tuples. -/
namespace Wp
open PySem PySem.Spec PyProof.Rows L2
/-! ### either -/
def iEither (a b : TI) : TI := fun σ H R => a σ H R ∨ b σ H R
theorem pi_either {X : Cx} {tg l : Expr} {a b : TI} (ha : PI X tg l a) (hb : PI X tg l b) : PI X tg l (iEither a b) :=
  ⟨fun pins s σ H R I h => h.elim (fun h => ha.run pins s σ H R I h) (fun h => hb.run pins s σ H R I h)⟩
def rEither (a b : List V → Hp → VK → Prop) : List V → Hp → VK → Prop := fun xs H Q => a xs H Q ∨ b xs H Q
theorem c_either {X : Cx} {f : Value} {a b : List V → Hp → VK → Prop} (ha : CallR X f a) (hb : CallR X f b) : CallR X f (rEither a b) :=
  fun pins s σ H xs us Q I r h => h.elim (fun h => ha pins s σ H xs us Q I r h) (fun h => hb pins s σ H xs us Q I r h)
/-- code that is not reached -/
theorem pe_dead {X : Cx} {e : Expr} : PE X e (fun _ _ _ => False) := ⟨fun _ _ _ _ _ _ h => h.elim⟩
theorem pt_dead {X : Cx} {e : Expr} : PT X e (fun _ _ _ => False) := ⟨fun _ _ _ _ _ _ h => h.elim⟩
/-- a list or a tuple -/
def SeqV (K : PySem.W.Frag) (H : Hp) (p : Addr) (xs : List V) : Prop := SqL K H p xs ∨ SqT K H p xs
section
variable {K : PySem.W.Frag} {H : Hp} {Q : VK} {p d : Addr} {xs : List V} {σ : L2.St} {g : TG} {tt : TT} {te tk tv ta tl : TE} {vs : List Nat} {i j : Nat}
theorem r_lenSeq (h : SeqV K H p xs) (q : Q (.int (xs.length : Nat)) H) : rLen K [.ref p] H Q := h.elim (fun h => r_lenL h q) (fun h => r_lenT h q)
theorem r_lcEither (hl : SeqV K H p xs) (h : σ[i]? = some (some (.ref p))) (Pv : Addr → Nat → Hp → Prop) (h0 : ∀ Da H', H Da = none → Same H H' → H' Da = some (.lst []) → Pv Da 0 H') (hk : ∀ Da i H', Pv Da i H' → SeqV K H' p xs ∧ Same H H')
    (hs : ∀ Da i x H', H Da = none → xs[i]? = some x → Pv Da i H' → g x (wipe σ vs) H' (kLcG tt te vs σ Da Pv i)) (hd : ∀ Da H', H Da = none → Pv Da xs.length H' → Q (.ref Da) H')
    (keepL : ∀ H', Same H H' → SqL K H p xs → SqL K H' p xs) (keepT : ∀ H', Same H H' → SqT K H p xs → SqT K H' p xs) :
    tLc (iEither (iList K (tVar i)) (iTup K (tVar i))) g tt te vs σ H Q := by
  rcases hl with hl | hl
  · exact .inl (r_lcL (r_var h (r_kLcL Pv hl h0 (fun Da i H' p => keepL H' (hk Da i H' p).2 hl) hs hd)))
  · exact .inr (r_lcTu (r_var h (r_kLcTu Pv hl h0 (fun Da i H' p => keepT H' (hk Da i H' p).2 hl) hs hd)))
theorem SqL.same {H' : Hp} (e : Same H H') (h : SqL K H p xs) : SqL K H' p xs := by
  rcases h with (h | ⟨o, h⟩) | h
  · exact .inl (.inl (e _ _ h))
  · exact .inl (.inr ⟨o, e _ _ h⟩)
  · exact .inr h
theorem SqT.same {H' : Hp} (e : Same H H') (h : SqT K H p xs) : SqT K H' p xs := by
  rcases h with (h | ⟨o, h⟩) | h
  · exact .inl (.inl (e _ _ h))
  · exact .inl (.inr ⟨o, e _ _ h⟩)
  · exact .inr h
theorem SeqV.same {H' : Hp} (e : Same H H') (h : SeqV K H p xs) : SeqV K H' p xs := h.elim (fun h => .inl (SqL.same e h)) (fun h => .inr (SqT.same e h))
/-! ### locks -/
def kLock (d : Addr) (od : Obj) (u : HO) (Q : VK) : VK := fun v H' => H' d = some (.frz od u) ∧ Q v (upd H' d u)
theorem r_lockD {kvs : List (Key × V)} {t : TE} (h : H d = some (.dK kvs)) (q : ∀ od H1, H1 d = some (.frz od (.dK kvs)) → (∀ b o, H b = some o → b ≠ d → H1 b = some o) → (∀ b, H1 b = none → H b = none) → t σ H1 (kLock d od (.dK kvs) Q)) : tLockE t σ H Q :=
  ⟨d, .dK kvs, h, True.intro, fun od => q od _ upd_same (fun b o e n => by rw [upd_ne n]; exact e) (fun b e => by
    by_cases hb : b = d
    · rw [hb, upd_same] at e
      cases e
    · rw [upd_ne hb] at e
      exact e)⟩
theorem r_kLock {od : Obj} {u : HO} {v : V} {H0 H1 : Hp} (h0 : H0 d = some u) (h1 : ∀ b o, H0 b = some o → b ≠ d → H1 b = some o) (hd : H1 d = some (.frz od u)) (e : Same H1 H) (q : ∀ H', Same H0 H' → (∀ b o, H b = some o → b ≠ d → H' b = some o) → Q v H') : kLock d od u Q v H :=
  ⟨e _ _ hd, q _ (fun b o hb => by
    by_cases hbd : b = d
    · rw [hbd] at hb ⊢
      rw [upd_same, ← h0, hb]
    · rw [upd_ne hbd]
      exact e _ _ (h1 b o hb hbd)) (fun b o hb n => by rw [upd_ne n]; exact hb)⟩
def kLcK (g : TG) (tt : TT) (te : TE) (vs : List Nat) (σ : L2.St) (Q : VK) : VK := fun x H1 => ∃ d o, x = .ref d ∧ ((∃ kvs, H1 d = some (.frz o (.dK kvs)) ∧ LcW (Itk d o kvs) g tt te vs σ Q H1) ∨ ∃ kvs, H1 d = some (.frz o (.dT kvs)) ∧ LcW (Itkt d o kvs) g tt te vs σ Q H1)
theorem r_lcK (h : ta σ H (kLcK g tt te vs σ Q)) : tLc (iKeys ta) g tt te vs σ H Q := h
theorem r_kLcK {o : Obj} {kvs : List (Key × V)} (hd : H d = some (.frz o (.dK kvs))) (Pv : Addr → Nat → Hp → Prop) (h0 : ∀ Da H', H Da = none → Same H H' → H' Da = some (.lst []) → Pv Da 0 H') (hk : ∀ Da i H', Pv Da i H' → H' d = some (.frz o (.dK kvs)))
    (hs : ∀ Da i k v H', H Da = none → kvs[i]? = some (k, v) → Pv Da i H' → g (kV k) (wipe σ vs) H' (kLcG tt te vs σ Da Pv i)) (hf : ∀ Da H', H Da = none → Pv Da kvs.length H' → Q (.ref Da) H') : kLcK g tt te vs σ Q (.ref d) H :=
  ⟨d, o, rfl, .inl ⟨kvs, hd, lc_it kvs.length Pv h0 (fun Da i H' _ hi p => ⟨hk Da i H' p, hi⟩) (fun Da H' _ p => ⟨hk Da _ H' p, Nat.le_refl _⟩) (fun Da i x H' H2 hD _ p y => by
    obtain ⟨rfl, k, v, e, rfl⟩ := y
    exact hs Da i k v _ hD e p) hf⟩⟩
theorem r_kDGetF {a : Addr} {kvs : List (Key × V)} {o : Obj} {z : Str} {v : V} (h1 : H a = some (.frz o (.dK kvs))) (h2 : valV kvs (Sum.inr z) = some v) (q : Q v H) : kDGet Q (.ref a) (.str z) H :=
  ⟨a, v, rfl, .inl ⟨kvs, Sum.inr z, .inr ⟨o, h1⟩, rfl, h2.symm⟩, q⟩
def rLenD : List V → Hp → VK → Prop := fun xs H Q => ∃ a kvs, xs = [V.ref a] ∧ H a = some (.dK kvs) ∧ Q (.int kvs.length) H
theorem c_lenD {X : Cx} : CallR X (.builtin "len") rLenD := call_lenD
theorem r_lenD {kvs : List (Key × V)} (h : H d = some (.dK kvs)) (q : Q (.int kvs.length) H) : rLenD [.ref d] H Q := ⟨d, kvs, rfl, h, q⟩
/-! a dict made in a block, over a list -/
def kDcL (K : PySem.W.Frag) (g : TG) (tt : TT) (tk tv : TE) (vs : List Nat) (σ : L2.St) (Q : VK) : VK := fun x H1 => ∃ a, x = .ref a ∧ (∃ xs, SqL K H1 a xs) ∧ DcW (Itl K a) g tt tk tv vs σ Q H1
theorem r_dcL (h : tl σ H (kDcL K g tt tk tv vs σ Q)) : tDc (iList K tl) g tt tk tv vs σ H Q := h
theorem r_kDcL (hl : SqL K H p xs) (Pv : Addr → Nat → Hp → Prop) (h0 : ∀ Da H', H Da = none → Same H H' → H' Da = some (.dK []) → Pv Da 0 H') (hk : ∀ Da i H', Pv Da i H' → SqL K H' p xs)
    (hs : ∀ Da i x H', H Da = none → xs[i]? = some x → Pv Da i H' → g x (wipe σ vs) H' (kDcG tt tk tv vs σ Da Pv i)) (hd : ∀ Da H', H Da = none → Pv Da xs.length H' → Q (.ref Da) H') : kDcL K g tt tk tv vs σ Q (.ref p) H :=
  ⟨p, rfl, ⟨xs, hl⟩, dc_it xs.length Pv h0 (fun Da i H' _ hi p => ⟨xs, xs[i], hk Da i H' p, by simp [hi]⟩) (fun Da H' _ p => ⟨xs, hk Da _ H' p, Nat.le_refl _⟩) (fun Da i x H' H2 hD _ p y => by
    obtain ⟨rfl, y⟩ := y
    exact hs Da i x _ hD (y xs (hk Da i _ p)) p) hd⟩
end
end Wp
set_option Elab.async false
set_option linter.all false
set_option maxRecDepth 100000
set_option maxHeartbeats 4000000
/-! Lists and tuples by their kind; all of bools; slices. -/
namespace Wp
open PySem PySem.Spec PyProof.Rows L2
section
variable {K : PySem.W.Frag} {H : Hp} {Q : VK} {p : Addr} {xs : List V}
theorem SqL.ty (h : SqL K H p xs) : TyX K H (.ref p) (.type "list") := by
  rcases h with (h | ⟨o, h⟩) | ⟨o, its, n, h, hc, _⟩
  · exact .base (.lst h)
  · exact .base (.frz h)
  · exact .kList h hc
theorem SqT.ty (h : SqT K H p xs) : TyX K H (.ref p) (.type "tuple") := by
  rcases h with (h | ⟨o, h⟩) | ⟨o, its, n, h, hc, _⟩
  · exact .base (.tup h)
  · exact .fTuple h
  · exact .kTuple h hc
theorem r_isSeq {tp : Addr} (h : SeqV K H p xs) (ht : H tp = some (.tup [.ty "list", .ty "tuple"])) (q : Q (.bl true) H) : rIsiT K [.ref p, .ref tp] H Q := by
  rcases h with h | h
  · exact ⟨_, tp, _, _, [.type "list", .type "tuple"], true, rfl, ht, .cons (.ty _) (.cons (.ty _) .nil), SqL.ty h, kitAny_cons (kit_ty (r := true) (by decide +kernel)) (fun e => by cases e) (fun _ => rfl), q⟩
  · exact ⟨_, tp, _, _, [.type "list", .type "tuple"], true, rfl, ht, .cons (.ty _) (.cons (.ty _) .nil), SqT.ty h, kitAny_cons (kit_ty (r := false) (by decide +kernel)) (fun _ => kitAny_cons (kit_ty (r := true) (by decide +kernel)) (fun e => by cases e) (fun _ => rfl)) (fun e => by cases e), q⟩
theorem r_inSign {c : Nat} {z : Str} (q : Q (.bl (decide (c ∈ z.cps.toList))) H) : ∃ (c' : Nat) (z' : Str), V.str ⟨#[c]⟩ = .str ⟨#[c']⟩ ∧ V.str z = .str z' ∧ Q (.bl (decide (c' ∈ z'.cps.toList))) H := ⟨c, z, rfl, rfl, q⟩
theorem r_all {bs : List Bool} (h : SqL K H p (bs.map V.bl)) (q : Q (.bl (bs.all id)) H) : rAll K [.ref p] H Q := ⟨p, bs, rfl, h, q⟩
theorem all_rep : ∀ n, (List.replicate n true).all id = true
  | 0 => rfl
  | n + 1 => by rw [List.replicate_succ, List.all_cons, all_rep n]; rfl
theorem rep_more (n : Nat) : (List.replicate (n + 1) true).map V.bl = (List.replicate n true).map V.bl ++ [V.bl true] := by
  rw [List.replicate_succ', List.map_append]
  rfl
theorem r_isiDict {kvs : List (Key × V)} (h : H p = some (.dK kvs)) (q : Q (.bl true) H) : rIsi K [.ref p, .ty "dict"] H Q := r_isiT (.base (.dK h)) (by decide +kernel) q
end
theorem cutV_m1 (xs : List V) : cutV xs none (some (-1)) = xs.dropLast := by
  have e : HT.sIx xs.length xs.length (some (-1)) = xs.length - 1 := by
    show (if (-1 : Int) < 0 then ((-1 : Int) + (xs.length : Int)).toNat else min (-1 : Int).toNat xs.length) = _
    rw [if_pos (by decide)]
    omega
  unfold cutV
  rw [e, List.dropLast_eq_take]
  rfl
end Wp
set_option Elab.async false
set_option linter.all false
set_option maxRecDepth 100000
set_option maxHeartbeats 4000000
/-! dict(zip(t, u)) of two tuples. -/
namespace Wp
open PySem PySem.Spec PyProof.Rows L2
open PySem.Sem (wp)
/-- an iterator over the items xs: S k says that k of them are taken -/
structure Nx (prog : Program) (w : World) (it l : Addr) (xs : Array Value) (S : Nat → Heap → Prop) : Prop where
  step : ∀ {A : Around} {E : Value → Shared → Prop} {s : Shared} {k : Nat} {x : Value} {Q : Value → Shared → Prop}, S k s.heap → xs[k]? = some x →
    (∀ g, S (k + 1) g → Heap.SameBut it s.heap g → Q x { s with heap := g }) → wpAny (model prog w) A (Builtin.SmallTypes.nextOf (.ref it)) Q E s
  stop : ∀ {A : Around} {E : Value → Shared → Prop} {s : Shared} {k : Nat} {Q : Value → Shared → Prop}, A.handled = none → S k s.heap → xs[k]? = none →
    (∀ g e, Heap.ExtBut it s.heap g → (∃ o, g.get? e = some o ∧ o.cls = .type "StopIteration") → E (.ref e) { s with heap := g }) → wpAny (model prog w) A (Builtin.SmallTypes.nextOf (.ref it)) Q E s
  keep : ∀ {k : Nat} {h g : Heap}, S k h → (∀ b, b = it ∨ b = l → ∀ o, h.get? b = some o → g.get? b = some o) → S k g
/-- of a tuple -/
def St (it l : Addr) (xs : Array Value) (k : Nat) (h : Heap) : Prop := h.IsTupleIter it l k ∧ h.IsTuple l xs
theorem nx_tup (prog : Program) (w : World) {it l : Addr} {xs : Array Value} (ne : l ≠ it) : Nx prog w it l xs (St it l xs) where
  step := fun ⟨a, b⟩ hx q => RZ.nextOf_tuple_item a b hx fun g a' sb => q g ⟨a', b.at fun o e => sb.extBut _ _ ne e⟩ sb
  stop := fun hh ⟨a, b⟩ hx q => RZ.nextOf_tuple_end hh a b hx q
  keep := fun ⟨a, b⟩ k => ⟨a.at fun o e => k _ (.inl rfl) o e, b.at fun o e => k _ (.inr rfl) o e⟩
section
variable {prog : Program} {w : World} {A : Around} {E : Value → Shared → Prop} {s : Shared} {z TI TO T i1 i2 l1 l2 : Addr} {f : Bool} {ob : Obj} {k : Nat} {xs ys : Array Value} {x y : Value} {S1 S2 : Nat → Heap → Prop}
/-- a zip whose pair is still held hands out a new one -/
theorem held_next {Q : Value → Shared → Prop} (N1 : Nx prog w i1 l1 xs S1) (N2 : Nx prog w i2 l2 ys S2) (D : ZipApart z TI TO i1 i2 l1 l2) (hz : IsZipHeld s.heap z TI TO T f) (hT : s.heap.get? T = some ob)
    (hp : IsPair s.heap TI (.ref i1) (.ref i2)) (c1 : S1 k s.heap) (c2 : S2 k s.heap) (ex : xs[k]? = some x) (ey : ys[k]? = some y)
    (q : ∀ g, IsZipHeld g z TI TO T true → S1 (k + 1) g → S2 (k + 1) g → IsPair g s.heap.objs.size x y → (∀ c o, c ≠ z → c ≠ i1 → c ≠ i2 → s.heap.get? c = some o → g.get? c = some o) → Q (.ref s.heap.objs.size) { s with heap := g }) :
    wpAny (model prog w) A (Builtin.«zip.__next__» ⟨[.ref z], []⟩) (fun r t => ∃ v, r = .done (.ret v) ∧ Q v t) E s := by
  show wpAny (model prog w) A (field (.ref z) 2 >>= _) _ E s
  refine wpAny_bind (wpAny_field hz rfl (x := .bool false) rfl ?_)
  show wpAny (model prog w) A (field (.ref z) 3 >>= _) _ E s
  refine wpAny_bind (wpAny_field hz rfl (x := .ref TI) rfl (wpAny_bind (wpAny_seqItems hp rfl ?_)))
  show wpAny (model prog w) A (Builtin.SmallTypes.ownedTupleIsFree (.ref z) >>= _) _ E s
  refine wpAny_bind (wpAny_tupleHeld_zip hz hT fun ga za sa => ?_)
  simp only [Bool.false_eq_true, if_false]
  refine wpAny_bind ?_
  rw [← Array.forIn_toList]
  simp only [List.forIn_cons, List.forIn_nil]
  have c1a : S1 k ga := N1.keep c1 fun b hb o e => sa.extBut _ _ (by rcases hb with rfl | rfl; exact D.i1z; exact D.l1z) e
  have c2a : S2 k ga := N2.keep c2 fun b hb o e => sa.extBut _ _ (by rcases hb with rfl | rfl; exact D.i2z; exact D.l2z) e
  refine wpAny_bind (wpAny_bind (wpAny_holding ?_))
  show wpAny (model prog w) A (Builtin.SmallTypes.nextOf (.ref i1) >>= _) _ E { s with heap := ga }
  refine wpAny_bind (N1.step (s := { s with heap := ga }) c1a ex fun gb c1b sb => wpAny_pure (wpAny_pure ?_))
  have c2b : S2 k gb := N2.keep c2a fun b hb o e => sb.extBut _ _ (by rcases hb with rfl | rfl; exact D.i12.symm; exact D.l2i1) e
  refine wpAny_bind (wpAny_bind (wpAny_holding ?_))
  show wpAny (model prog w) A (Builtin.SmallTypes.nextOf (.ref i2) >>= _) _ E { s with heap := gb }
  refine wpAny_bind (N2.step (s := { s with heap := gb }) c2b ey fun gc c2c sc => wpAny_pure (wpAny_pure (wpAny_pure ?_)))
  have c1c : S1 (k + 1) gc := N1.keep c1b fun b hb o e => sc.extBut _ _ (by rcases hb with rfl | rfl; exact D.i12; exact D.l1i2) e
  show wpAny (model prog w) A (newTuple [x, y] >>= _) _ E { s with heap := gc }
  refine wpAny_bind (wpAny_newTuple (wpAny_pure ⟨_, rfl, ?_⟩))
  show Q (.ref gc.objs.size) _
  have sz : gc.objs.size = s.heap.objs.size := sc.1.trans (sb.1.trans sa.1)
  have zc : IsZipHeld gc z TI TO T true := sc.extBut _ _ D.i2z.symm (sb.extBut _ _ D.i1z.symm za)
  have up : ∀ c o, gc.get? c = some o → (gc.push { cls := .type "tuple", data := .seq #[x, y] }).get? c = some o := fun c o e => Heap.get?_push_of_some _ e
  have pr : IsPair (gc.push { cls := .type "tuple", data := .seq #[x, y] }) gc.objs.size x y := Heap.get?_push_size _ rfl
  have fin := q (gc.push { cls := .type "tuple", data := .seq #[x, y] }) (up _ _ zc) (N1.keep c1c fun b _ o e => up b o e) (N2.keep c2c fun b _ o e => up b o e) (by rw [← sz]; exact pr)
    fun c o n1 n2 n3 e => up _ _ (sc.extBut _ _ n3 (sb.extBut _ _ n2 (sa.extBut _ _ n1 e)))
  rw [← sz] at fin
  exact fin
/-- .. or ends -/
theorem held_end {Q : PySem.Fin → Shared → Prop} (hh : A.handled = none) (N1 : Nx prog w i1 l1 xs S1) (N2 : Nx prog w i2 l2 ys S2) (D : ZipApart z TI TO i1 i2 l1 l2) (hz : IsZipHeld s.heap z TI TO T f) (hT : s.heap.get? T = some ob)
    (hp : IsPair s.heap TI (.ref i1) (.ref i2)) (c1 : S1 k s.heap) (ex : xs[k]? = none)
    (q : ∀ g e, (∀ c o, c ≠ z → c ≠ i1 → c ≠ i2 → s.heap.get? c = some o → g.get? c = some o) → (∃ o, g.get? e = some o ∧ o.cls = .type "StopIteration") → E (.ref e) { s with heap := g }) :
    wpAny (model prog w) A (Builtin.«zip.__next__» ⟨[.ref z], []⟩) Q E s := by
  show wpAny (model prog w) A (field (.ref z) 2 >>= _) _ E s
  refine wpAny_bind (wpAny_field hz rfl (x := .bool false) rfl ?_)
  show wpAny (model prog w) A (field (.ref z) 3 >>= _) _ E s
  refine wpAny_bind (wpAny_field hz rfl (x := .ref TI) rfl (wpAny_bind (wpAny_seqItems hp rfl ?_)))
  show wpAny (model prog w) A (Builtin.SmallTypes.ownedTupleIsFree (.ref z) >>= _) _ E s
  refine wpAny_bind (wpAny_tupleHeld_zip hz hT fun ga za sa => ?_)
  simp only [Bool.false_eq_true, if_false]
  refine wpAny_bind ?_
  rw [← Array.forIn_toList]
  simp only [List.forIn_cons, List.forIn_nil]
  have c1a : S1 k ga := N1.keep c1 fun b hb o e => sa.extBut _ _ (by rcases hb with rfl | rfl; exact D.i1z; exact D.l1z) e
  refine wpAny_bind (wpAny_bind (wpAny_holding ?_))
  show wpAny (model prog w) A (Builtin.SmallTypes.nextOf (.ref i1) >>= _) _ E { s with heap := ga }
  exact wpAny_bind (N1.stop (s := { s with heap := ga }) hh c1a ex fun gb e sb he => q gb e (fun c o n1 n2 _ h => sb _ _ n2 (sa.extBut _ _ n1 h)) he)
theorem held_item {Q : Option Value → Shared → Prop} (N1 : Nx prog w i1 l1 xs S1) (N2 : Nx prog w i2 l2 ys S2) (D : ZipApart z TI TO i1 i2 l1 l2) (hz : IsZipHeld s.heap z TI TO T f) (hT : s.heap.get? T = some ob)
    (hp : IsPair s.heap TI (.ref i1) (.ref i2)) (c1 : S1 k s.heap) (c2 : S2 k s.heap) (ex : xs[k]? = some x) (ey : ys[k]? = some y)
    (q : ∀ g, IsZipHeld g z TI TO T true → S1 (k + 1) g → S2 (k + 1) g → IsPair g s.heap.objs.size x y → (∀ c o, c ≠ z → c ≠ i1 → c ≠ i2 → s.heap.get? c = some o → g.get? c = some o) → Q (some (.ref s.heap.objs.size)) { s with heap := g }) :
    wpAny (model prog w) A (pyNext (.ref z)) Q E s := by
  have ty : s.TypeIs (.ref z) "zip" := ⟨_, hz, rfl⟩
  unfold pyNext
  refine wpAny_bind (wpAny_attempt (wpAny_callSpecial?_slot (name := Str.ofString "__next__") ty F.slot_zip_next (wpAny_call_entry F.slot_zip_next ty F.entry_zip_next ?_ (F.args_zip_next_1 _))))
  exact held_next N1 N2 D hz hT hp c1 c2 ex ey fun g p1 p2 p3 p4 p5 => wpAny_pure (q g p1 p2 p3 p4 p5)
theorem held_none {Q : Option Value → Shared → Prop} (hh : A.handled = none) (N1 : Nx prog w i1 l1 xs S1) (N2 : Nx prog w i2 l2 ys S2) (D : ZipApart z TI TO i1 i2 l1 l2) (hz : IsZipHeld s.heap z TI TO T f) (hT : s.heap.get? T = some ob)
    (hp : IsPair s.heap TI (.ref i1) (.ref i2)) (c1 : S1 k s.heap) (ex : xs[k]? = none)
    (q : ∀ g, (∀ c o, c ≠ z → c ≠ i1 → c ≠ i2 → s.heap.get? c = some o → g.get? c = some o) → Q none { s with heap := g }) : wpAny (model prog w) A (pyNext (.ref z)) Q E s := by
  have ty : s.TypeIs (.ref z) "zip" := ⟨_, hz, rfl⟩
  unfold pyNext
  refine wpAny_bind (wpAny_attempt (wpAny_callSpecial?_slot (name := Str.ofString "__next__") ty F.slot_zip_next (wpAny_call_entry F.slot_zip_next ty F.entry_zip_next (held_end hh N1 N2 D hz hT hp c1 ex fun g e kp he => ?_) (F.args_zip_next_1 _))))
  obtain ⟨o, ho, hc⟩ := he
  exact wpAny_bind (wpAny_isInstance (T := "StopIteration") (b := true) ⟨o, ho, hc⟩ isSubtype_stop (wpAny_pure (q _ kp)))
/-- what stands while the pairs of two tuples of one length are drawn -/
def ZSt (z TI TO i1 i2 l1 l2 d : Addr) (xs ys : Array Value) (i : Nat) (h : Heap) : Prop := IsPair h TI (.ref i1) (.ref i2) ∧ St i1 l1 xs i h ∧ St i2 l2 ys i h ∧
  ((IsZip h z TI TO .none ∧ ∃ a b, IsPair h TO a b) ∨ ∃ T f ob, IsZipHeld h z TI TO T f ∧ h.get? T = some ob ∧ T ≠ z ∧ T ≠ i1 ∧ T ≠ i2 ∧ T ≠ d)
theorem zip_src {d : Addr} (hh : A.handled = none) (D : ZipApart z TI TO i1 i2 l1 l2) (hl : xs.size = ys.size) (nd : d ≠ z ∧ d ≠ TI ∧ d ≠ TO ∧ d ≠ i1 ∧ d ≠ i2 ∧ d ≠ l1 ∧ d ≠ l2) :
    PairSrc prog w A z d [z, TO, i1, i2] xs.size (fun i a b => xs[i]? = some a ∧ ys[i]? = some b) (ZSt z TI TO i1 i2 l1 l2 d xs ys) := by
  obtain ⟨dz, dTI, dTO, di1, di2, dl1, dl2⟩ := nd
  have M1 := nx_tup prog w (it := i1) (l := l1) (xs := xs) D.l1i1
  have M2 := nx_tup prog w (it := i2) (l := l2) (xs := ys) D.l2i2
  refine ⟨by simp [dz, dTO, di1, di2], ?_, ?_, ?_⟩
  · rintro i h g ⟨hp, c1, c2, hz⟩ kp
    refine ⟨kp _ _ dTI.symm hp, M1.keep c1 fun b hb o e => kp _ _ (by rcases hb with rfl | rfl; exact di1.symm; exact dl1.symm) e, M2.keep c2 fun b hb o e => kp _ _ (by rcases hb with rfl | rfl; exact di2.symm; exact dl2.symm) e, ?_⟩
    rcases hz with ⟨hz, a, b, hTO⟩ | ⟨T, f, ob, hz, hT, r1, r2, r3, r4⟩
    · exact .inl ⟨kp _ _ dz.symm hz, a, b, kp _ _ dTO.symm hTO⟩
    · exact .inr ⟨T, f, ob, kp _ _ dz.symm hz, kp _ _ r4 hT, r1, r2, r3, r4⟩
  · rintro i s Q E hi ⟨hp, c1, c2, hz⟩ hds q
    have ex := Array.getElem?_eq_getElem hi
    have ey := Array.getElem?_eq_getElem (hl ▸ hi : i < ys.size)
    have new : ∀ {c o}, s.heap.get? c = some o → s.heap.objs.size ≠ c := fun e => Nat.ne_of_gt (Heap.lt_size e)
    have n1 : s.heap.objs.size ≠ i1 := let ⟨_, e, _⟩ := c1.1; new e
    have n2 : s.heap.objs.size ≠ i2 := let ⟨_, e, _⟩ := c2.1; new e
    have out : ∀ {c : Addr}, c ∉ [z, TO, i1, i2] → c ≠ z ∧ c ≠ TO ∧ c ≠ i1 ∧ c ≠ i2 := fun h => by simpa using h
    rcases hz with ⟨hz, a, b, hTO⟩ | ⟨T, f, ob, hz, hT, r1, r2, r3, r4⟩
    · refine RZ.pyNext_zipT_item D hz hp hTO c1.1 c2.1 c1.2 c2.2 ex ey fun g z1 z2 z3 z4 z5 z6 kp => ?_
      refine q _ _ _ g s.toks ⟨ex, ey⟩ (.inl ⟨_, z5, rfl, _, rfl⟩) ⟨kp _ _ D.TIz D.TITO D.TIi1 D.TIi2 hp, ⟨z3, c1.2.at fun o e => kp _ _ D.l1z D.l1TO D.l1i1 D.l1i2 e⟩, ⟨z4, c2.2.at fun o e => kp _ _ D.l2z D.l2TO D.l2i1 D.l2i2 e⟩, .inr ⟨_, false, _, z1, z5, new hz, n1, n2, Nat.ne_of_gt hds⟩⟩ fun c o hc e => ?_
      obtain ⟨o1, o2, o3, o4⟩ := out hc
      exact kp _ _ o1 o2 o3 o4 e
    · refine held_item M1 M2 D hz hT hp c1 c2 ex ey fun g z1 z2 z3 z4 kp => ?_
      refine q _ _ _ g s.toks ⟨ex, ey⟩ (.inl ⟨_, z4, rfl, _, rfl⟩) ⟨kp _ _ D.TIz D.TIi1 D.TIi2 hp, z2, z3, .inr ⟨T, true, ob, z1, kp _ _ r1 r2 r3 hT, r1, r2, r3, r4⟩⟩ fun c o hc e => ?_
      obtain ⟨o1, o2, o3, o4⟩ := out hc
      exact kp _ _ o1 o3 o4 e
  · rintro s Q E ⟨hp, c1, c2, hz⟩ q
    have ex : xs[xs.size]? = none := Array.getElem?_eq_none (Nat.le_refl _)
    have out : ∀ {c : Addr}, c ∉ [z, TO, i1, i2] → c ≠ z ∧ c ≠ TO ∧ c ≠ i1 ∧ c ≠ i2 := fun h => by simpa using h
    rcases hz with ⟨hz, a, b, hTO⟩ | ⟨T, f, ob, hz, hT, r1, r2, r3, r4⟩
    · refine RZ.pyNext_zipT_end hh D hz hp hTO c1.1 c2.1 c1.2 c2.2 (.inl ex) fun g kp => q g s.toks fun c o hc e => ?_
      obtain ⟨o1, o2, o3, o4⟩ := out hc
      exact kp _ _ o1 o2 o3 o4 e
    · refine held_none hh M1 M2 D hz hT hp c1 ex fun g kp => q g s.toks fun c o hc e => ?_
      obtain ⟨o1, o2, o3, o4⟩ := out hc
      exact kp _ _ o1 o3 o4 e
theorem zip_arg (D : ZipApart z TI TO i1 i2 l1 l2) (hl : xs.size = ys.size) : PairArg prog w "zip" z [z, TI, TO, i1, i2, l1, l2] [z, TO, i1, i2] xs.size (fun i a b => xs[i]? = some a ∧ ys[i]? = some b)
    (fun h => IsZip h z TI TO .none ∧ IsPair h TI (.ref i1) (.ref i2) ∧ (∃ a b, IsPair h TO a b) ∧ St i1 l1 xs 0 h ∧ St i2 l2 ys 0 h) where
  type := fun s ok => ⟨_, ok.1, rfl⟩
  notDict := by decide
  keep := fun h g ⟨p1, p2, ⟨a, b, p3⟩, p4, p5⟩ kp => ⟨kp _ _ p1, kp _ _ p2, ⟨a, b, kp _ _ p3⟩, (nx_tup prog w D.l1i1).keep p4 fun b _ o e => kp b o e, (nx_tup prog w D.l2i2).keep p5 fun b _ o e => kp b o e⟩
  there := fun h ⟨p1, p2, ⟨a, c, p3⟩, ⟨⟨_, q1, _⟩, ⟨_, q2, _⟩⟩, ⟨⟨_, q3, _⟩, ⟨_, q4, _⟩⟩⟩ b hb => by
    simp only [List.mem_cons, List.not_mem_nil, or_false] at hb
    rcases hb with rfl | rfl | rfl | rfl | rfl | rfl | rfl
    · exact ⟨_, p1⟩
    · exact ⟨_, p2⟩
    · exact ⟨_, p3⟩
    · exact ⟨_, q1⟩
    · exact ⟨_, q3⟩
    · exact ⟨_, q2⟩
    · exact ⟨_, q4⟩
  sub := fun b hb => by
    simp only [List.mem_cons, List.not_mem_nil, or_false] at hb ⊢
    rcases hb with rfl | rfl | rfl | rfl <;> simp
  noKeys := fun A s Q E hA ok q => getAttrOr_miss_zip ok.1 rfl rfl rfl zip_no_keys (by decide +kernel) hA q
  iter := fun A s d Q E hA ⟨p1, p2, p3, p4, p5⟩ hd nd q => by
    simp only [List.mem_cons, List.not_mem_nil, or_false, not_or] at nd
    exact wpAny_pyIter_zip p1 (q z _ _ s.heap s.toks (zip_src hA D hl nd) ⟨p2, p4, p5, .inl ⟨p1, p3⟩⟩ (fun _ _ e => e) fun b hb => .inl hb)
end
/-- dict(zip(t, u)) -/
def kDZ (K : PySem.W.Frag) (Q : VK) : List V → Hp → Prop := fun vs H1 => ∃ (a b : Addr) (ks : List Key) (ys : List V), vs = [.ref a, .ref b] ∧ SqT K H1 a (ks.map kV) ∧ SqT K H1 b ys ∧ ks.length = ys.length ∧ ks.length ≤ 1000 ∧
  ∀ q, H1 q = none → Q (.ref q) (upd H1 q (.dK (mergeK [] (ks.zip ys))))
def tDZ (K : PySem.W.Frag) (ta : TA) : TE := fun σ H Q => ta σ H (kDZ K Q)
theorem keys_is : ∀ {ks : List Key} {us : List Value}, Vals (ks.map kV) us → ∀ {i : Nat} {u : Value}, us[i]? = some u → ∃ k, ks[i]? = some k ∧ keyIs k u = true
  | [], _, .nil, i, u, h => by simp at h
  | k :: ks, _, .cons r rr, 0, u, h => by
    have e := Option.some.inj h
    subst e
    refine ⟨k, rfl, ?_⟩
    cases k with
    | inl i =>
      obtain ⟨t, rfl⟩ := (show ∃ t, _ = Value.int i t from r)
      exact keyIs_int i t
    | inr x =>
      obtain ⟨t, rfl⟩ := (show ∃ t, _ = Value.str x t from r)
      exact keyIs_str x t
  | _ :: ks, _, .cons r rr, i + 1, u, h => keys_is (ks := ks) rr (i := i) h
theorem kv_zip : ∀ {ks : List Key} {ys : List V} {us : List Value}, Vals ys us → KV (ks.zip ys) (ks.zip us)
  | [], _, _, _ => .nil
  | _ :: _, _, _, .nil => .nil
  | k :: ks, _, _, .cons r rr => .cons ⟨rfl, r⟩ (kv_zip rr)
section
variable {X : Cx} {K : PySem.W.Frag} {a b : Expr} {ta : TA} {p p2 pos pos2 : Pos}
theorem pe_dictZip (hK : X.K = K) (hc : X.calm = true) (hd : Gl X "dict") (md : X.mg "dict" = none) (hz : Gl X "zip") (mz : X.mg "zip" = none) (ha : PA X [a, b] ta)
    (hs : starEach [a, b] X.env = (false, eval a X.env) :: starEach [b] X.env := by rfl) (hpl : (backTo pos2 (starEach [b] X.env)).any (·.1) = false := by rfl)
    (na : starEach [.Call (.Name "zip" p2) [a, b] [] pos2] X.env = (false, eval (.Call (.Name "zip" p2) [a, b] [] pos2) X.env) :: starEach [] X.env := by rfl) :
    PE X (.Call (.Name "dict" p) [.Call (.Name "zip" p2) [a, b] [] pos2] [] pos) (tDZ K ta) := by
  subst hK
  refine ⟨fun pins s σ H Q I h => ?_⟩
  have inner : wpAny (model X.prog X.w) X.A (eval (.Call (.Name "zip" p2) [a, b] [] pos2) X.env)
      (fun v t => ∃ (s1 : Shared) (H1 : Hp) (g : Heap) (l1 l2 : Addr) (ks : List Key) (ys : List V) (xa ya : List Value), Inv X pins σ H1 s1 ∧ t = { s1 with heap := g } ∧ v = .ref (s1.heap.objs.size + 4) ∧
        Vals (ks.map kV) xa ∧ Vals ys ya ∧ ks.length = ys.length ∧ ks.length ≤ 1000 ∧ (∀ q, H1 q = none → Q (.ref q) (upd H1 q (.dK (mergeK [] (ks.zip ys))))) ∧ l1 < s1.heap.objs.size ∧ l2 < s1.heap.objs.size ∧
        (∀ c o, s1.heap.get? c = some o → g.get? c = some o) ∧ g.objs.size = s1.heap.objs.size + 5 ∧ IsZip g (s1.heap.objs.size + 4) (s1.heap.objs.size + 2) (s1.heap.objs.size + 3) .none ∧
        IsPair g (s1.heap.objs.size + 2) (.ref s1.heap.objs.size) (.ref (s1.heap.objs.size + 1)) ∧ IsPair g (s1.heap.objs.size + 3) .none .none ∧
        St s1.heap.objs.size l1 xa.toArray 0 g ∧ St (s1.heap.objs.size + 1) l2 ya.toArray 0 g) X.xe s := by
    refine Call_ (ld_blt I hz mz PyProof.Rows.boot_zip (PyProof.Rows.callWith_type1 (thn (ha.run pos2 pins s σ H _ I h) ?_) hs hpl))
    rintro us s1 ⟨vs, H1, I1, r1, l1, l2, ks, ys, ev, t1, t2, el, e1000, q⟩
    subst ev
    match us, r1 with
    | _, .cons r (.cons r' .nil) =>
      obtain rfl := (show _ = Value.ref l1 from r)
      obtain rfl := (show _ = Value.ref l2 from r')
      obtain ⟨xa, rv, p1, _⟩ := I1.tuple t1
      obtain ⟨ya, rv2, p2, _⟩ := I1.tuple t2
      have q1 : s1.heap.IsTuple l1 xa.toArray := p1
      have q2 : s1.heap.IsTuple l2 ya.toArray := p2
      obtain ⟨o1, ho1, _⟩ := id q1
      obtain ⟨o2, ho2, _⟩ := id q2
      refine RZ.call_zipT q1 q2 fun g z1 z2 z3 z4 z5 z6 kp => ?_
      exact ⟨s1, H1, g, l1, l2, ks, ys, xa, ya, I1, rfl, rfl, rv, rv2, el, e1000, q, Heap.lt_size ho1, Heap.lt_size ho2, kp, z6, z1, z2, z3, ⟨z4, q1.at fun o e => kp _ _ e⟩, ⟨z5, q2.at fun o e => kp _ _ e⟩⟩
  refine Call_ (ld_blt I hd md PyProof.Rows.boot_dict (PyProof.Rows.callWith_type1 (args_cons (thn inner ?_) na) na))
  rintro v t ⟨s1, H1, g, l1, l2, ks, ys, xa, ya, I1, rfl, rfl, rv, rv2, el, e1000, q, lt1, lt2, kp, sz, z1, z2, z3, c1, c2⟩
  refine args_nil ?_
  have lx : xa.length = ks.length := by rw [← rv.length, List.length_map]
  have ly : ya.length = ks.length := by rw [← rv2.length, el]
  have D := PySem.W.ktu_apart s1.heap.objs.size l1 l2 lt1 lt2
  refine PySem.call_dict_pairs (knd := mixKind X.prog X.w) (kvs := ks.zip ya) (s := { s1 with heap := g }) (zip_arg D (by simp [lx, ly])) (I1.ok.hd hc) ⟨z1, z2, ⟨_, _, z3⟩, c1, c2⟩ ⟨?_, ?_⟩ (by simp [lx]; exact sz5 (by omega)) fun g2 tk dct kp2 => ?_
  · simp [lx, ly]
  · rintro i key v ⟨e1, e2⟩
    rw [List.getElem?_toArray] at e1 e2
    obtain ⟨k, hk, kis⟩ := keys_is rv e1
    exact ⟨k, by rw [List.getElem?_zip_eq_some]; exact ⟨hk, e2⟩, kis⟩
  · have sg : g.objs.size = s1.heap.objs.size + 5 := sz
    have big : s1.heap.objs.size ≤ g.objs.size := by omega
    have hm : (g.objs.size == sysModules) = false := beq_eq_false_iff_ne.mpr (Nat.ne_of_gt (Nat.lt_of_lt_of_le I1.big big))
    have hlen : (mergeK [] (ks.zip ys)).length ≤ sizeLine := by
      refine Nat.le_trans (length_mergeK _ []) ?_
      rw [List.length_nil, List.length_zip]
      exact sz5 (by omega)
    have kpt : ∀ c o, s1.heap.get? c = some o → g2.get? c = some o := fun c o e => by
      have hlt := Heap.lt_size e
      refine kp2 c o (fun hm => ?_) (kp _ _ e)
      simp only [List.mem_cons, List.not_mem_nil, or_false] at hm
      rcases hm with z | z | z | z
      · exact absurd (z ▸ hlt) (Nat.not_lt.mpr (Nat.le_add_right _ _))
      · exact absurd (z ▸ hlt) (Nat.not_lt.mpr (Nat.le_add_right _ _))
      · exact absurd (z ▸ hlt) (Nat.lt_irrefl _)
      · exact absurd (z ▸ hlt) (Nat.not_lt.mpr (Nat.le_add_right _ _))
    exact ⟨.ref g.objs.size, upd H1 g.objs.size (.dK (mergeK [] (ks.zip ys))), I1.laid (t' := tk) kpt big (show ObjOk X.prog X.w _ _ _ (.dK (mergeK [] (ks.zip ys))) from ⟨hlen, hm, merged [] (ks.zip ya), KV.merge (kv_zip rv2) .nil, dct⟩), rfl, q _ (I1.hok.fresh big)⟩
theorem r_dz {σ : L2.St} {H : Hp} {Q : VK} (q : ta σ H (kDZ K Q)) : tDZ K ta σ H Q := q
theorem r_kDZ {H : Hp} {Q : VK} {a b : Addr} {ks : List Key} {ys : List V} (h1 : SqT K H a (ks.map kV)) (h2 : SqT K H b ys) (hl : ks.length = ys.length) (hz : ks.length ≤ 1000) (nd : ks.Nodup)
    (q : ∀ p H', H p = none → Same H H' → H' p = some (.dK (ks.zip ys)) → Q (.ref p) H') : kDZ K Q [.ref a, .ref b] H := by
  refine ⟨a, b, ks, ys, rfl, h1, h2, hl, hz, fun p hp => ?_⟩
  have e : mergeK [] (ks.zip ys) = ks.zip ys := mergeK_nil (by
    rw [List.map_fst_zip (by omega)]
    exact nd)
  rw [e]
  exact q p _ hp (Same.new hp) upd_same
end
end Wp
set_option Elab.async false
set_option linter.all false
set_option maxRecDepth 100000
set_option maxHeartbeats 4000000
/-! sum, min and max of a tuple of ints. -/
namespace Wp
open PySem PySem.Spec PyProof.Rows L2
section
variable {P : Program} {w : World} {A : Around} {E : Value → Shared → Prop} {s : Shared} {t : Addr} {us : List Value} {ns : List Int}
theorem begin_tup {items : Array Value} {R : Value → Shared → Prop} (ht : s.heap.IsTuple t items)
    (k : ∀ h2 : Heap, (h2.IsTupleIter s.heap.objs.size t 0 ∧ h2.IsTuple t items) → (∀ b ∈ [s.heap.objs.size, t], b < h2.objs.size) → t ≠ s.heap.objs.size →
      (∀ b o, s.heap.get? b = some o → h2.get? b = some o ∧ b ∉ [s.heap.objs.size]) → R (.ref s.heap.objs.size) { s with heap := h2 }) : wpAny (model P w) A (pyIter (.ref t)) R E s := by
  have lt : t < s.heap.objs.size := by
    obtain ⟨_, e, _⟩ := ht
    exact Heap.lt_size e
  refine wpAny_pyIter_tuple ht (k _ ⟨⟨_, Heap.get?_push_size _ rfl, rfl, rfl⟩, Heap.IsTuple.push ht _⟩ (fun b hb => ?_) (Nat.ne_of_lt lt) fun b o e => ⟨Heap.get?_push_of_some _ e, fun hm => ?_⟩)
  · rw [Heap.size_push]
    rcases List.mem_cons.mp hb with hb | hb
    · rw [hb]
      exact Nat.lt_succ_self _
    · rw [List.mem_singleton.mp hb]
      exact Nat.lt_succ_of_lt lt
  · have h1 : b < s.heap.objs.size := Heap.lt_size e
    have h2 : b = s.heap.objs.size := List.mem_singleton.mp hm
    rw [h2] at h1
    exact Nat.lt_irrefl _ h1
theorem tup_sum {R : Value → Shared → Prop} (hh : A.handled = none) (ht : s.heap.IsTuple t us.toArray) (hi : IntsAre us ns)
    (k : ∀ h' tk t', (∀ b o, s.heap.get? b = some o → h'.get? b = some o) → R (.int ns.sum t') { s with heap := h', toks := tk }) : wpAny (model P w) A (call (.builtin "sum") [.ref t]) R E s := by
  obtain ⟨xs, ex⟩ := hi.allInts.items
  have en : numsOf (intItems xs).toList = ns := by
    rw [← ex]
    exact hi.numsOf
  rw [nums_intItems] at en
  rw [ex] at ht
  refine call_sum_walkG (begin_tup ht fun h2 st fp ne old => ?_)
  refine ⟨_, _, _, _, _, _, numAt xs, rfl, Walks.tuple (A := A.in1) hh _ t ne (intItems xs), st, fp, (fun _ _ => intItems_at), fun h' tk t' hk => ?_⟩
  have z := k h' tk t' fun b o e => hk b o (old b o e).2 (old b o e).1
  rw [preSum_eq, List.take_of_length_le (by simp [intItems]), en]
  exact z
theorem tup_min {R : Value → Shared → Prop} (hh : A.handled = none) (ht : s.heap.IsTuple t us.toArray) (hi : IntsAre us ns) (hne : 0 < ns.length)
    (k : ∀ h' tk m t', (∀ b o, s.heap.get? b = some o → h'.get? b = some o) → m ∈ ns → (∀ a, a ∈ ns → m ≤ a) → R (.int m t') { s with heap := h', toks := tk }) : wpAny (model P w) A (call (.builtin "min") [.ref t]) R E s := by
  obtain ⟨xs, ex⟩ := hi.allInts.items
  have en : numsOf (intItems xs).toList = ns := by
    rw [← ex]
    exact hi.numsOf
  rw [nums_intItems] at en
  subst en
  rw [ex] at ht
  have pos : 0 < xs.size := by simpa using hne
  refine call_min_walk (begin_tup ht fun h2 st fp ne old => ?_)
  refine ⟨_, _, _, _, _, _, _, rfl, Walks.tuple (A := A.in1) hh _ t ne (intItems xs), st, fp, by simpa [intItems] using pos, CmpOf.ints_lt (numAt xs) (fun _ _ => intItems_at), fun v h' tk hP hk => ?_⟩
  obtain ⟨t', rfl⟩ := intItems_at (by simpa [intItems] using hP)
  obtain ⟨b1, b2⟩ := argBest_lt (numAt xs) (xs.size - 1)
  refine k h' tk _ t' (fun b o e => hk b o (old b o e).2 (old b o e).1) ?_ fun a ha => ?_
  · rw [numAt_eq]
    refine PySem.getD_mem ?_
    rw [List.length_map, Array.length_toList]
    omega
  · obtain ⟨j, hj, rfl⟩ := mem_getD ha
    rw [List.length_map, Array.length_toList] at hj
    rw [← numAt_eq]
    exact b2 j (by omega)
end
section
variable {X : Cx} {K : PySem.W.Frag}
def rSumT (K : PySem.W.Frag) : List V → Hp → VK → Prop := fun vs H Q => ∃ (a : Addr) (ns : List Int), vs = [V.ref a] ∧ SqT K H a (ns.map V.int) ∧ Q (.int ns.sum) H
def rMinT (K : PySem.W.Frag) : List V → Hp → VK → Prop := fun vs H Q => ∃ (a : Addr) (ns : List Int), vs = [V.ref a] ∧ SqT K H a (ns.map V.int) ∧ 0 < ns.length ∧ ∀ m, m ∈ ns → (∀ y, y ∈ ns → m ≤ y) → Q (.int m) H
theorem c_sumT (h : X.K = K) (hc : X.calm = true) : CallR X (.builtin "sum") (rSumT K) := by
  subst h
  rintro pins s σ H vs us Q I r ⟨a, ns, rfl, hs, q⟩
  obtain ⟨its, rv, hl, _⟩ := I.tuple hs
  rw [Vals.ref1 r]
  exact tup_sum (I.ok.hd hc) hl rv.ints fun h' tk t' hk => ⟨.int _, H, I.kept hk, ⟨_, rfl⟩, q⟩
theorem c_minT (h : X.K = K) (hc : X.calm = true) : CallR X (.builtin "min") (rMinT K) := by
  subst h
  rintro pins s σ H vs us Q I r ⟨a, ns, rfl, hs, hne, q⟩
  obtain ⟨its, rv, hl, _⟩ := I.tuple hs
  rw [Vals.ref1 r]
  exact tup_min (I.ok.hd hc) hl rv.ints hne fun h' tk m t' hk h1 h2 => ⟨.int _, H, I.kept hk, ⟨_, rfl⟩, q m h1 h2⟩
end
end Wp
set_option Elab.async false
set_option linter.all false
set_option maxRecDepth 100000
set_option maxHeartbeats 4000000
/-! Lists of texts: what is in them. -/
namespace Wp
open PySem PySem.Spec PyProof.Rows L2
section
variable {X : Cx} {K : PySem.W.Frag} {H : Hp} {Q : VK} {p : Addr} {z : Str}
theorem flat_strs : ∀ xs : List Str, (xs.map V.str).all flatV = true
  | [] => rfl
  | _ :: r => by rw [List.map_cons, List.all_cons, flat_strs r]; rfl
theorem in_strs (x : Str) : ∀ xs : List Str, inV (.str x) (xs.map V.str) = decide (x ∈ xs)
  | [] => by simp [inV]
  | y :: r => by
    have ih := in_strs x r
    unfold inV at ih ⊢
    rw [List.map_cons, List.any_cons, ih]
    have e : eqV (.str y) (.str x) = decide (y = x) := rfl
    rw [e]
    by_cases h : y = x
    · simp [h]
    · have h' : ¬ x = y := fun z => h z.symm
      simp [h, h']
theorem r_notInS {x : Str} {xs : List Str} (h : SqL K H p (xs.map V.str)) (q : Q (.bl (!decide (x ∈ xs))) H) : rIn K true (.str x) (.ref p) H Q :=
  ⟨p, xs.map V.str, rfl, .inl h, rfl, flat_strs xs, by rw [in_strs]; exact q⟩
theorem r_inS {x : Str} {xs : List Str} (h : SqL K H p (xs.map V.str)) (q : Q (.bl (decide (x ∈ xs))) H) : rIn K false (.str x) (.ref p) H Q :=
  ⟨p, xs.map V.str, rfl, .inl h, rfl, flat_strs xs, by rw [in_strs]; exact q⟩
theorem strs_get {xs : List Str} {i : Nat} {x : V} (h : (xs.map V.str)[i]? = some x) : ∃ s, x = .str s ∧ xs[i]? = some s := by
  rw [List.getElem?_map] at h
  obtain ⟨s, hs, rfl⟩ := Option.map_eq_some_iff.mp h
  exact ⟨s, rfl, hs⟩
end
end Wp
set_option Elab.async false
set_option linter.all false
set_option maxRecDepth 100000
set_option maxHeartbeats 4000000
/-! Methods by their names; texts in tuples; sorted, list and dict of a dict; xs[::-1]; stars. -/
namespace Wp
open PySem PySem.Spec PyProof.Rows L2
/-- a method that keeps the promise -/
structure Dm (P : Program) (w : World) (K : PySem.W.Frag) (mg : Str → Option Value) (base : Heap) (CX : CXT) (k : Nat) (C : Addr) (m : Str) (sp : Sp) : Prop where
  ex : ∃ (f : Addr) (fd : FuncData) (ps : List Str), Meth K C m f ∧ FnOk P w K mg base CX k f fd ps sp ∧ Binds K fd ps []
  cl : Cls K C
def kMeth (C : Addr) (m : Str) (sp : Sp) (E : XK) (t : TA) (σ : L2.St) (Q : VK) : VK := fun x H1 => ∃ a dx fs, x = .ref a ∧ H1 a = some (.ins C dx fs) ∧ fs.lookup m = none ∧ t σ H1 fun vs H2 => sp (x :: (vs ++ [])) H2 Q E
section
variable {X : Cx} {CX : CXT} {k : Nat} {C a dx : Addr} {m : Str} {sp : Sp} {E : XK} {o e : Expr} {es : List Expr} {apos pos : Pos} {ta : TE} {t : TA} {fs : List (Str × V)}
theorem pe_mt {pl : Sem Bool} (D : Dm X.prog X.w X.K X.mg X.base CX k C m sp) (hr : Room k X.A) (hx : Passes CX X E) (ho : PE X o ta) (ha : PA X (e :: es) t)
    (hst : starEach (e :: es) X.env = (false, eval e X.env) :: starEach es X.env := by rfl) (hpl : (backTo pos (starEach es X.env)).any (·.1) = false := by rfl)
    (ht : eval (.Call (.Attribute o m apos) (e :: es) [] pos) X.env = (do
      let ov ← eval o X.env
      standAt apos.atName
      let (f, first) ← holding [ov] (getMethod ov m pl)
      callWith pos f first (backTo pos (starEach (e :: es) X.env)) (backToKw pos (keywordEach [] X.env))) := by rfl) :
    PE X (.Call (.Attribute o m apos) (e :: es) [] pos) (tMeth C m sp [] E ta t) := by
  obtain ⟨f, fd, ps, h1, h2, h3⟩ := D.ex
  exact pe_meth ho D.cl h1 h2 hr h3 .nil hx ha hst hpl ht
theorem pe_mt0 {pl : Sem Bool} (D : Dm X.prog X.w X.K X.mg X.base CX k C m sp) (hr : Room k X.A) (hx : Passes CX X E) (ho : PE X o ta)
    (ht : eval (.Call (.Attribute o m apos) [] [] pos) X.env = (do
      let ov ← eval o X.env
      standAt apos.atName
      let (f, first) ← holding [ov] (getMethod ov m pl)
      callWith pos f first (backTo pos (starEach [] X.env)) (backToKw pos (keywordEach [] X.env))) := by rfl) :
    PE X (.Call (.Attribute o m apos) [] [] pos) (tMeth C m sp [] E ta tNil) := by
  obtain ⟨f, fd, ps, h1, h2, h3⟩ := D.ex
  exact pe_meth0 ho D.cl h1 h2 hr h3 .nil hx ht
theorem r_meth {σ : L2.St} {H : Hp} {Q : VK} (q : ta σ H (kMeth C m sp E t σ Q)) : tMeth C m sp [] E ta t σ H Q := q
theorem r_kMeth {σ : L2.St} {H : Hp} {Q : VK} (h : H a = some (.ins C dx fs)) (l : fs.lookup m = none) (q : t σ H fun vs H2 => sp (.ref a :: vs) H2 Q E) : kMeth C m sp E t σ Q (.ref a) H := by
  refine ⟨a, dx, fs, rfl, h, l, ?_⟩
  have e : (fun (vs : List V) (H2 : Hp) => sp (.ref a :: (vs ++ [])) H2 Q E) = fun vs H2 => sp (.ref a :: vs) H2 Q E := by
    funext vs H2
    rw [List.append_nil]
  rw [e]
  exact q
end
section
variable {K : PySem.W.Frag} {H : Hp} {Q : VK} {p q : Addr} {x : Str} {xs ys : List Str} {kvs : List (Key × V)}
theorem r_notInTS (h : SqT K H p (xs.map V.str)) (k : Q (.bl (!decide (x ∈ xs))) H) : rIn K true (.str x) (.ref p) H Q := by
  refine ⟨p, _, rfl, .inr h, rfl, flat_strs xs, ?_⟩
  rw [in_strs]
  exact k
theorem r_inTS (h : SqT K H p (xs.map V.str)) (k : Q (.bl (decide (x ∈ xs))) H) : rIn K false (.str x) (.ref p) H Q := by
  refine ⟨p, _, rfl, .inr h, rfl, flat_strs xs, ?_⟩
  rw [in_strs]
  exact k
/-! sorted, list, dict of a dict -/
def rSortedD : List V → Hp → VK → Prop := fun vs H Q => ∃ (a : Addr) (kvs : List (Key × V)) (ks : List Str), vs = [.ref a] ∧ Rd H a (.dK kvs) ∧ kvs.map (·.1) = ks.map Sum.inr ∧ ks.length < 64 ∧
  ∀ ys p, ys.Perm ks → sortedS ys = true → H p = none → Q (.ref p) (upd H p (.lst (ys.map V.str)))
theorem c_sortedD {X : Cx} (hc : X.calm = true) : CallR X (.builtin "sorted") rSortedD := call_sortedD hc
theorem r_sortedD {ks : List Str} (h : H p = some (.dK kvs)) (e : kvs.map (·.1) = ks.map Sum.inr) (hl : ks.length < 64) (k : ∀ ys q H', ys.Perm ks → sortedS ys = true → H q = none → Same H H' → H' q = some (.lst (ys.map V.str)) → Q (.ref q) H') : rSortedD [.ref p] H Q :=
  ⟨p, kvs, ks, rfl, .inl h, e, hl, fun ys q h1 h2 hq => k ys q _ h1 h2 hq (Same.new hq) upd_same⟩
def rListD' : List V → Hp → VK → Prop := fun vs H Q => ∃ (a : Addr) (kvs : List (Key × V)), vs = [.ref a] ∧ Rd H a (.dK kvs) ∧ ∀ p, H p = none → Q (.ref p) (upd H p (.lst (kvs.map fun kv => kV kv.1)))
theorem c_listD {X : Cx} (hc : X.calm = true) : CallR X (.type "list") rListD' := call_listD hc
theorem r_listD (h : H p = some (.dK kvs)) (k : ∀ q H', H q = none → Same H H' → H' q = some (.lst (kvs.map fun kv => kV kv.1)) → Q (.ref q) H') : rListD' [.ref p] H Q :=
  ⟨p, kvs, rfl, .inl h, fun q hq => k q _ hq (Same.new hq) upd_same⟩
def rDictD' : List V → Hp → VK → Prop := fun vs H Q => ∃ (a : Addr) (kvs : List (Key × V)), vs = [.ref a] ∧ Rd H a (.dK kvs) ∧ ∀ p, H p = none → Q (.ref p) (upd H p (.dK kvs))
theorem c_dictD {X : Cx} : CallR X (.type "dict") rDictD' := call_dictD
theorem r_dictD (h : H p = some (.dK kvs)) (k : ∀ q H', H q = none → Same H H' → H' q = some (.dK kvs) → Q (.ref q) H') : rDictD' [.ref p] H Q :=
  ⟨p, kvs, rfl, .inl h, fun q hq => k q _ hq (Same.new hq) upd_same⟩
theorem r_sumT {zs : List Int} (h : SqT K H p (zs.map V.int)) (k : Q (.int zs.sum) H) : rSumT K [.ref p] H Q := ⟨p, zs, rfl, h, k⟩
end
section
variable {X : Cx} {K : PySem.W.Frag} {H : Hp} {Q : VK} {a : Addr} {xs : List V} {σ : L2.St} {te : TE} {tr : TA}
/-! xs[::-1] -/
def kRevL (K : PySem.W.Frag) (Q : VK) : VK := fun x H1 => ∃ a xs, x = .ref a ∧ SqL K H1 a xs ∧ ∀ p, H1 p = none → Q (.ref p) (upd H1 p (.lst xs.reverse))
theorem pe_revLK {e : Expr} {k : Nat} {p1 p2 p3 pos : Pos} (h : X.K = K) (he : PE X e te) : PE X (.Subscript e (.Slice none none (some (.UnaryOp .USub (.Constant (.int 1) k p1) p2)) p3) pos) (tRevL K te) := by
  subst h
  exact pe_revL he
theorem r_revL (q : te σ H (kRevL K Q)) : tRevL K te σ H Q := q
theorem r_kRevL (h : SqL K H a xs) (q : ∀ p H', H p = none → Same H H' → H' p = some (.lst xs.reverse) → Q (.ref p) H') : kRevL K Q (.ref a) H := ⟨a, xs, rfl, h, fun p hp => q p _ hp (Same.new hp) upd_same⟩
/-! stars -/
def kStar (K : PySem.W.Frag) (t : TA) (σ : L2.St) (QA : List V → Hp → Prop) : VK := fun x H1 => ∃ p xs, x = V.ref p ∧ (SqT K H1 p xs ∨ SqL K H1 p xs) ∧ t σ H1 fun ys H2 => QA (xs ++ ys) H2
theorem pa_starK {e : Expr} {es : List Expr} {p : Pos} (h : X.K = K) (he : PE X e te) (hr : PA X es tr) (hs : starEach (.Starred e p :: es) X.env = (true, eval e X.env) :: starEach es X.env := by rfl) : PA X (.Starred e p :: es) (StX.tStar K te tr) := by
  subst h
  exact StX.pa_star he hr hs
theorem r_star {QA : List V → Hp → Prop} (q : te σ H (kStar K tr σ QA)) : StX.tStar K te tr σ H QA := q
theorem r_kStarL {QA : List V → Hp → Prop} (h : SqL K H a xs) (q : tr σ H fun ys H2 => QA (xs ++ ys) H2) : kStar K tr σ QA (.ref a) H := ⟨a, xs, rfl, .inr h, q⟩
theorem r_kStarT {QA : List V → Hp → Prop} (h : SqT K H a xs) (q : tr σ H fun ys H2 => QA (xs ++ ys) H2) : kStar K tr σ QA (.ref a) H := ⟨a, xs, rfl, .inl h, q⟩
end
/-! == of texts and of tuples of ints -/
section
variable {K : PySem.W.Frag} {H : Hp} {Q : VK} {p q : Addr}
theorem dp_strs : ∀ ns : List Str, DpAll K H (ns.map V.str) (ns.map PyData.str)
  | [] => .nil
  | n :: r => .cons (.str n) (dp_strs r)
theorem r_eqTI {as bs : List Int} (h1 : SqT K H p (as.map V.int)) (h2 : SqT K H q (bs.map V.int)) (k : Q (.bl (decide (as = bs))) H) : rEqD K (.ref p) (.ref q) H Q := by
  have shp : ∀ ns : List Int, SeqAt.shaped (.tuple (ns.map PyData.int)) = true := fun ns => by
    show (PyData.canLayAll0 (ns.map PyData.int) && decide (PyData.depthAll (ns.map PyData.int) + 1 ≤ 64)) = true
    rw [lay_ints, dep_ints]
    rfl
  refine ⟨.tuple (as.map .int), .tuple (bs.map .int), .tup h1 (dp_ints as), .tup h2 (dp_ints bs), shp as, shp bs, ?_⟩
  show Q (.bl (PyData.eqvAll (as.map PyData.int) (bs.map PyData.int))) H
  rw [eqv_ints]
  exact k
end
end Wp
set_option linter.all false
/-! Names: one to eight small letters (plain Lean). -/
namespace Wp
open PySem PyProof.Rows L2
def Low (s : Str) : Prop := ∀ c ∈ s.cps.toList, 97 ≤ c ∧ c ≤ 122
structure NameOk (s : Str) : Prop where
  lo : 1 ≤ s.length
  hi : s.length ≤ 8
  low : Low s
def abc : Str := "abcdefghijklmnopqrstuvwxyz"
def pool : List Str := ["a", "b", "buy", "pay", "cash", "end", "free", "day", "laid", "zzzzzzzz", "rate", "statement"]
theorem abc_list : abc.cps.toList = [97, 98, 99, 100, 101, 102, 103, 104, 105, 106, 107, 108, 109, 110, 111, 112, 113, 114, 115, 116, 117, 118, 119, 120, 121, 122] := by decide +kernel
theorem abc_mem {c : Nat} : c ∈ abc.cps.toList ↔ 97 ≤ c ∧ c ≤ 122 := by
  rw [abc_list]
  simp only [List.mem_cons, List.not_mem_nil, or_false]
  omega
theorem abc_len : abc.length = 26 := by decide +kernel
theorem abc_at {i : Nat} {c : Nat} (h : abc.cps.toList[i]? = some c) : 97 ≤ c ∧ c ≤ 122 := abc_mem.mp (List.mem_of_getElem? h)
theorem split_pool : Txt.split "a b buy pay cash end free day laid zzzzzzzz rate statement" " " = pool := by decide +kernel
def lowB (s : Str) : Bool := decide (1 ≤ s.length) && s.cps.toList.all fun c => decide (97 ≤ c) && decide (c ≤ 122)
theorem lowB_ok {s : Str} (h : lowB s = true) : 1 ≤ s.length ∧ Low s := by
  simp only [lowB, Bool.and_eq_true, decide_eq_true_eq, List.all_eq_true] at h
  exact ⟨h.1, fun c hc => h.2 c hc⟩
theorem pool_ok : ∀ s ∈ pool, lowB s = true := by decide +kernel
theorem pool_len : ∀ s ∈ pool, s.length ≤ 9 := by decide +kernel
theorem cut_list (z : Str) (k : Nat) : (cutS z none (some (k : Int))).cps.toList = z.cps.toList.take k := by
  have h : z.length = z.cps.toList.length := by simp [Str.length]
  have e : HT.sIx z.length z.length (some (k : Int)) = min k z.length := by
    unfold HT.sIx
    simp only
    split <;> omega
  unfold cutS
  rw [e]
  have e0 : HT.sIx z.length 0 none = 0 := rfl
  rw [e0, List.drop_zero, Nat.sub_zero, List.toList_toArray, h, ← List.take_eq_take_min]
theorem cut_len (z : Str) (k : Nat) : (cutS z none (some (k : Int))).length = min k z.length := by
  have h : ∀ s : Str, s.length = s.cps.toList.length := fun s => by simp [Str.length]
  rw [h, cut_list, List.length_take, ← h]
theorem cut_low {z : Str} (k : Nat) (h : Low z) : Low (cutS z none (some (k : Int))) := fun c hc => by
  rw [cut_list] at hc
  exact h c (List.mem_of_mem_take hc)
theorem cut8 {z : Str} (h : 1 ≤ z.length) (hl : Low z) : NameOk (cutS z none (some 8)) :=
  have e : (cutS z none (some 8)).length = min 8 z.length := cut_len z 8
  ⟨by omega, by omega, cut_low 8 hl⟩
/-- the label's first seven signs and a letter -/
def near (z : Str) (c : Nat) : Str := cutS z none (some 7) ++ ⟨#[c]⟩
theorem near_list (z : Str) (c : Nat) : (near z c).cps.toList = z.cps.toList.take 7 ++ [c] := by
  unfold near
  rw [Str.cps_append, Array.toList_append, show (cutS z none (some 7)).cps.toList = z.cps.toList.take 7 from cut_list z 7]
theorem near_inj {z : Str} {c d : Nat} (h : near z c = near z d) : c = d := by
  have e := congrArg (fun s : Str => s.cps.toList) h
  simp only [near_list] at e
  have := List.append_cancel_left e
  simpa using this
theorem near_ok {z : Str} {c : Nat} (hl : Low z) (hc : 97 ≤ c ∧ c ≤ 122) : NameOk (near z c) := by
  have h : (near z c).length = (z.cps.toList.take 7).length + 1 := by
    have : (near z c).length = (near z c).cps.toList.length := by simp [Str.length]
    rw [this, near_list, List.length_append]
    rfl
  rw [List.length_take] at h
  refine ⟨by omega, by omega, fun d hd => ?_⟩
  rw [near_list] at hd
  rcases List.mem_append.mp hd with hd | hd
  · exact hl d (List.mem_of_mem_take hd)
  · rw [List.mem_singleton.mp hd]
    exact hc
theorem nodup_le {α : Type} [DecidableEq α] : ∀ {xs ys : List α}, xs.Nodup → (∀ x ∈ xs, x ∈ ys) → xs.length ≤ ys.length
  | [], _, _, _ => Nat.zero_le _
  | x :: xs, ys, hn, hs => by
    have hx := hs x (List.mem_cons_self ..)
    have h1 := (List.nodup_cons.mp hn).1
    have h2 := nodup_le (xs := xs) (ys := ys.erase x) (List.nodup_cons.mp hn).2 fun y hy => by
      refine (List.mem_erase_of_ne ?_).mpr (hs y (List.mem_cons_of_mem _ hy))
      rintro rfl
      exact h1 hy
    rw [List.length_erase_of_mem hx] at h2
    have : 0 < ys.length := List.length_pos_of_mem hx
    simp only [List.length_cons]
    omega
/-- one of the twenty-six is new -/
theorem near_new {z : Str} {found : List Str} (h : found.length < 26) : ∃ c, c ∈ abc.cps.toList ∧ near z c ∉ found := by
  by_cases hc : ∃ c, c ∈ abc.cps.toList ∧ near z c ∉ found
  · exact hc
  · have hall : ∀ s ∈ abc.cps.toList.map (near z), s ∈ found := by
      intro s hs
      obtain ⟨c, hc1, rfl⟩ := List.mem_map.mp hs
      by_cases hm : near z c ∈ found
      · exact hm
      · exact absurd ⟨c, hc1, hm⟩ hc
    have hnd : (abc.cps.toList.map (near z)).Nodup := by
      refine List.pairwise_map.mpr ?_
      have h0 : abc.cps.toList.Nodup := by
        rw [abc_list]
        decide
      exact List.Pairwise.imp (fun hne e => hne (near_inj e)) h0
    have := nodup_le hnd hall
    rw [List.length_map, abc_list] at this
    simp at this
    omega
theorem join_signs (cs : List Nat) : (Txt.join ⟨#[]⟩ (cs.map fun c => (⟨#[c]⟩ : Str))) = ⟨cs.toArray⟩ := by
  have h := join_nil_signs (⟨cs.toArray⟩ : Str)
  unfold Txt.join
  rw [PySem.StrLaws.glued_eq_join]
  exact h
theorem join_ok {cs : List Nat} (h1 : 1 ≤ cs.length) (h2 : cs.length ≤ 8) (hl : ∀ c ∈ cs, 97 ≤ c ∧ c ≤ 122) : NameOk (⟨cs.toArray⟩ : Str) := by
  have e : (⟨cs.toArray⟩ : Str).length = cs.length := by simp [Str.length]
  exact ⟨by omega, by omega, fun c hc => hl c (by simpa using hc)⟩
/-- names, all unlike -/
structure NamesOk (xs : List Str) : Prop where
  ok : ∀ x ∈ xs, NameOk x
  nd : xs.Nodup
theorem NamesOk.nil : NamesOk [] := ⟨fun _ h => (by cases h), List.nodup_nil⟩
theorem NamesOk.snoc {xs : List Str} {x : Str} (h : NamesOk xs) (hx : NameOk x) (hn : x ∉ xs) : NamesOk (xs ++ [x]) :=
  ⟨fun y hy => by
    rcases List.mem_append.mp hy with hy | hy
    · exact h.ok y hy
    · rw [List.mem_singleton.mp hy]
      exact hx, by
    refine List.nodup_append.mpr ⟨h.nd, by simp, fun a ha b hb => ?_⟩
    rw [List.mem_singleton.mp hb]
    rintro rfl
    exact hn ha⟩
end Wp
set_option Elab.async false
set_option linter.all false
set_option maxRecDepth 100000
set_option maxHeartbeats 4000000
/-! Books: their parts, the dict of parts, slices of lengths. -/
namespace Wp
open PySem PySem.Spec PyProof.Rows L2
/-- kinds: a dict of names, each to a rate and whether it is free -/
inductive KAt (H : Hp) : List (Key × V) → List (Str × Int × Bool) → Prop
  | nil : KAt H [] []
  | cons {n : Str} {r : Int} {b : Bool} {t : Addr} {kvs : List (Key × V)} {ks : List (Str × Int × Bool)} : H t = some (.tup [.int r, .bl b]) → KAt H kvs ks → KAt H ((Sum.inr n, .ref t) :: kvs) ((n, r, b) :: ks)
theorem KAt.keep {H H' : Hp} {kvs : List (Key × V)} {ks : List (Str × Int × Bool)} (h : KAt H kvs ks) (e : ∀ t xs, H t = some (.tup xs) → H' t = some (.tup xs)) : KAt H' kvs ks := by
  induction h with
  | nil => exact .nil
  | cons h _ ih => exact .cons (e _ _ h) ih
theorem KAt.len {H : Hp} {kvs : List (Key × V)} {ks : List (Str × Int × Bool)} (h : KAt H kvs ks) : kvs.length = ks.length := by
  induction h with
  | nil => rfl
  | cons _ _ ih => simp [ih]
theorem KAt.keys {H : Hp} {kvs : List (Key × V)} {ks : List (Str × Int × Bool)} (h : KAt H kvs ks) : kvs.map (·.1) = (ks.map (·.1)).map Sum.inr := by
  induction h with
  | nil => rfl
  | cons _ _ ih => simp [ih]
theorem KAt.get {H : Hp} {kvs : List (Key × V)} {ks : List (Str × Int × Bool)} (h : KAt H kvs ks) : ∀ {i : Nat} {k : Key} {v : V}, kvs[i]? = some (k, v) → ∃ n r b t, k = Sum.inr n ∧ v = .ref t ∧ H t = some (.tup [.int r, .bl b]) ∧ ks[i]? = some (n, r, b) := by
  induction h with
  | nil => intro i k v e; simp at e
  | @cons n r b t kvs ks h _ ih =>
    intro i k v e
    cases i with
    | zero =>
      have e := Option.some.inj e
      cases e
      exact ⟨n, r, b, t, rfl, rfl, h, rfl⟩
    | succ i =>
      obtain ⟨n', r', b', t', h1, h2, h3, h4⟩ := ih (i := i) (by simpa using e)
      exact ⟨n', r', b', t', h1, h2, h3, by simpa using h4⟩
theorem KAt.val {H : Hp} {kvs : List (Key × V)} {ks : List (Str × Int × Bool)} (h : KAt H kvs ks) (nd : (ks.map (·.1)).Nodup) : ∀ {n : Str} {r : Int} {b : Bool}, (n, r, b) ∈ ks → ∃ t, valV kvs (Sum.inr n) = some (.ref t) ∧ H t = some (.tup [.int r, .bl b]) := by
  induction h with
  | nil => intro n r b e; cases e
  | @cons n r b t kvs ks h _ ih =>
    intro n' r' b' e
    rw [List.map_cons, List.nodup_cons] at nd
    rcases List.mem_cons.mp e with e | e
    · cases e
      exact ⟨t, by simp [valV], h⟩
    · obtain ⟨t', h1, h2⟩ := ih nd.2 e
      have hne : n ≠ n' := by
        rintro rfl
        exact nd.1 (List.mem_map.mpr ⟨_, e, rfl⟩)
      exact ⟨t', by rw [valV_neg (fun z => hne (Sum.inr.inj z))]; exact h1, h2⟩
theorem KAt.snoc {H : Hp} {kvs : List (Key × V)} {ks : List (Str × Int × Bool)} {n : Str} {r : Int} {b : Bool} {t : Addr} (h : KAt H kvs ks) (ht : H t = some (.tup [.int r, .bl b])) : KAt H (kvs ++ [(Sum.inr n, .ref t)]) (ks ++ [(n, r, b)]) := by
  induction h with
  | nil => exact .cons ht .nil
  | cons h _ ih => exact .cons h ih
theorem KAt.fresh {H : Hp} {kvs : List (Key × V)} {ks : List (Str × Int × Bool)} {n : Str} (h : KAt H kvs ks) (hn : n ∉ ks.map (·.1)) : valV kvs (Sum.inr n) = none := by
  induction h with
  | nil => rfl
  | @cons n' r b t kvs ks h _ ih =>
    rw [List.map_cons, List.mem_cons, not_or] at hn
    rw [valV_neg (fun z => hn.1 (Sum.inr.inj z).symm)]
    exact ih hn.2
structure KindsOk (ks : List (Str × Int × Bool)) : Prop where
  lo : 1 ≤ ks.length
  hi : ks.length ≤ 6
  nm : NamesOk (ks.map (·.1))
  rt : ∀ k ∈ ks, 0 ≤ k.2.1 ∧ k.2.1 ≤ 1000
/-- a book -/
structure Bk where
  ls : List Int
  due : Int
  ks : List (Str × Int × Bool)
  mem : Int
  beg : Str
  laid : Option (List Str)
structure Bk.Ok (B : Bk) : Prop where
  l1 : 1 ≤ B.ls.length
  l2 : B.ls.length ≤ 4
  l3 : ∀ n ∈ B.ls, 2 ≤ n ∧ n ≤ 31
  d0 : 0 ≤ B.due
  d1 : ∀ n ∈ B.ls, B.due < n
  kn : KindsOk B.ks
  m0 : 0 ≤ B.mem
  m1 : B.mem ≤ 2
  bg : B.beg = "day" ∨ B.beg = "statement"
def fBook (tl kd : Addr) (B : Bk) (lv : V) : List (Str × V) := [("b_lengths", .ref tl), ("b_due", .int B.due), ("b_kinds", .ref kd), ("b_memory", .int B.mem), ("b_begins", .str B.beg), ("b_laid", lv)]
/-- a tuple that is known to have no dict of its own: its methods can be called -/
def FrzT (H : Hp) (t : Addr) (xs : List V) : Prop := ∃ o : Obj, o.dict = none ∧ H t = some (.frz o (.tup xs))
theorem FrzT.keep {H H' : Hp} {t : Addr} {xs : List V} (h : FrzT H t xs) (e : ∀ t o xs, H t = some (.frz o (.tup xs)) → H' t = some (.frz o (.tup xs))) : FrzT H' t xs := by
  obtain ⟨o, h1, h2⟩ := h
  exact ⟨o, h1, e _ _ _ h2⟩
theorem FrzT.same {H H' : Hp} {t : Addr} {xs : List V} (h : FrzT H t xs) (e : Same H H') : FrzT H' t xs := h.keep fun t o xs q => e _ _ q
theorem FrzT.sq {K : PySem.W.Frag} {H : Hp} {t : Addr} {xs : List V} (h : FrzT H t xs) : SqT K H t xs := by
  obtain ⟨o, _, h2⟩ := h
  exact .inl (.inr ⟨o, h2⟩)
/-- tuple(list), with what is known of the new object -/
def rTupF (K : PySem.W.Frag) : List V → Hp → VK → Prop := fun xs H Q => ∃ p ys, xs = [.ref p] ∧ SqL K H p ys ∧ ∀ (l : Addr) (o : Obj), H l = none → o.dict = none → Q (.ref l) (upd H l (.frz o (.tup ys)))
theorem c_tupleF {X : Cx} {K : PySem.W.Frag} (h : X.K = K) : CallR X (.type "tuple") (rTupF K) := by
  subst h
  intro pins s σ H xs us Q I r h
  obtain ⟨p, ys, rfl, hq, q⟩ := h
  obtain ⟨u, rfl, rx⟩ := vals1 r
  cases rx
  obtain ⟨its, r', pl, hz⟩ := I.list hq
  have hlen := r'.length
  refine call_tuple_list pl.isList (fun h' kp => ?_) (by simp only [List.size_toArray] <;> omega)
  have I1 : Inv X pins σ H { s with heap := h' } := I.kept (t' := s.toks) kp
  have I2 : Inv X pins σ (upd H h'.objs.size (.frz { cls := .type "tuple", data := .seq its.toArray } (.tup ys))) { s with heap := h'.push { cls := .type "tuple", data := .seq its.toArray } } :=
    I1.laid (t' := s.toks) (fun b o e => Heap.get?_push_of_some _ e) (Nat.le_refl _) (show ObjOk X.prog X.w _ _ _ (.frz _ (.tup ys)) from ⟨Heap.get?_push_size _ rfl, hz, its, r', IsTup.new _ _⟩)
  exact ⟨.ref h'.objs.size, _, I2, rfl, q _ _ (I1.hok.fresh (Nat.le_refl _)) rfl⟩
theorem r_tupF {K : PySem.W.Frag} {H : Hp} {Q : VK} {p : Addr} {xs : List V} (h : SqL K H p xs) (k : ∀ t H', H t = none → Same H H' → FrzT H' t xs → Q (.ref t) H') : rTupF K [.ref p] H Q :=
  ⟨p, xs, rfl, h, fun t o ht ho => k t _ ht (Same.new ht) ⟨o, ho, upd_same⟩⟩
/-- tuple(xs) of a list, or of a tuple with known methods -/
def rTupFF (K : PySem.W.Frag) : List V → Hp → VK → Prop := fun xs H Q => rTupF K xs H Q ∨ ∃ p ys, xs = [.ref p] ∧ FrzT H p ys ∧ Q (.ref p) H
theorem c_tupleFF {X : Cx} {K : PySem.W.Frag} (h : X.K = K) : CallR X (.type "tuple") (rTupFF K) := by
  intro pins s σ H xs us Q I r hq
  rcases hq with hq | ⟨p, ys, rfl, hf, q⟩
  · exact c_tupleF h pins s σ H xs us Q I r hq
  · subst h
    obtain ⟨u, rfl, rx⟩ := vals1 r
    cases rx
    obtain ⟨its, r', pl, hz⟩ := I.tuple hf.sq
    exact call_tuple_tup pl ⟨.ref p, H, I, rfl, q⟩
theorem r_tupFF {K : PySem.W.Frag} {H : Hp} {Q : VK} {p : Addr} {xs : List V} (h : SqL K H p xs ∨ FrzT H p xs) (k : ∀ t H', Same H H' → FrzT H' t xs → Q (.ref t) H') : rTupFF K [.ref p] H Q :=
  h.elim (fun h => .inl (r_tupF h fun t H' _ e ht => k t H' e ht)) fun h => .inr ⟨p, xs, rfl, h, k p H (Same.refl _) h⟩
def LaidV (H : Hp) : Option (List Str) → V → Prop
  | none, v => v = .non
  | some ns, v => ∃ t, v = .ref t ∧ FrzT H t (ns.map V.str)
theorem LaidV.keep {H H' : Hp} {o : Option (List Str)} {v : V} (h : LaidV H o v) (e : ∀ t o xs, H t = some (.frz o (.tup xs)) → H' t = some (.frz o (.tup xs))) : LaidV H' o v := by
  cases o with
  | none => exact h
  | some ns =>
    obtain ⟨t, rfl, ht⟩ := h
    exact ⟨t, rfl, ht.keep e⟩
/-- a book stands at p, its parts at tl, kd and lv -/
structure BookIn (C : Addr) (H : Hp) (p : Addr) (B : Bk) (dx tl kd : Addr) (lv : V) (kvs : List (Key × V)) : Prop where
  i : H p = some (.ins C dx (fBook tl kd B lv))
  l : FrzT H tl (B.ls.map V.int)
  k : H kd = some (.dK kvs)
  a : KAt H kvs B.ks
  d : LaidV H B.laid lv
def BookAt (C : Addr) (H : Hp) (p : Addr) (B : Bk) : Prop := ∃ dx tl kd lv kvs, BookIn C H p B dx tl kd lv kvs
theorem BookIn.keep {C p dx tl kd : Addr} {H H' : Hp} {B : Bk} {lv : V} {kvs : List (Key × V)} (h : BookIn C H p B dx tl kd lv kvs) (e : Same H H') : BookIn C H' p B dx tl kd lv kvs :=
  ⟨e _ _ h.i, h.l.same e, e _ _ h.k, h.a.keep fun t xs q => e _ _ q, h.d.keep fun t o xs q => e _ _ q⟩
theorem BookAt.keep {C p : Addr} {H H' : Hp} {B : Bk} (h : BookAt C H p B) (e : Same H H') : BookAt C H' p B := by
  obtain ⟨dx, tl, kd, lv, kvs, h⟩ := h
  exact ⟨dx, tl, kd, lv, kvs, h.keep e⟩
/-! the dict of the six parts -/
def wkv (a b c d e f : V) : List (Key × V) := [(Sum.inr ("lengths" : Str), a), (Sum.inr ("due" : Str), b), (Sum.inr ("kinds" : Str), c), (Sum.inr ("memory" : Str), d), (Sum.inr ("begins" : Str), e), (Sum.inr ("laid" : Str), f)]
def wks : List Key := [Sum.inr ("lengths" : Str), Sum.inr ("due" : Str), Sum.inr ("kinds" : Str), Sum.inr ("memory" : Str), Sum.inr ("begins" : Str), Sum.inr ("laid" : Str)]
theorem wks_nd : wks.Nodup := by decide +kernel
theorem kne {x y : Str} (h : decide (x = y) = false) : ¬ (Sum.inr x : Key) = Sum.inr y := fun z => of_decide_eq_false h (Sum.inr.inj z)
section
variable {a b c d e f x : V}
theorem wz_zip : wks.zip [a, b, c, d, e, f] = wkv a b c d e f := rfl
theorem wv1 : valV (wkv a b c d e f) (Sum.inr ("lengths" : Str)) = some a := valV_pos rfl
theorem wv2 : valV (wkv a b c d e f) (Sum.inr ("due" : Str)) = some b := by
  unfold wkv
  rw [valV_neg (kne (by decide +kernel)), valV_pos rfl]
theorem wv3 : valV (wkv a b c d e f) (Sum.inr ("kinds" : Str)) = some c := by
  unfold wkv
  rw [valV_neg (kne (by decide +kernel)), valV_neg (kne (by decide +kernel)), valV_pos rfl]
theorem wv4 : valV (wkv a b c d e f) (Sum.inr ("memory" : Str)) = some d := by
  unfold wkv
  rw [valV_neg (kne (by decide +kernel)), valV_neg (kne (by decide +kernel)), valV_neg (kne (by decide +kernel)), valV_pos rfl]
theorem wv5 : valV (wkv a b c d e f) (Sum.inr ("begins" : Str)) = some e := by
  unfold wkv
  rw [valV_neg (kne (by decide +kernel)), valV_neg (kne (by decide +kernel)), valV_neg (kne (by decide +kernel)), valV_neg (kne (by decide +kernel)), valV_pos rfl]
theorem wv6 : valV (wkv a b c d e f) (Sum.inr ("laid" : Str)) = some f := by
  unfold wkv
  rw [valV_neg (kne (by decide +kernel)), valV_neg (kne (by decide +kernel)), valV_neg (kne (by decide +kernel)), valV_neg (kne (by decide +kernel)), valV_neg (kne (by decide +kernel)), valV_pos rfl]
theorem wput {k : Key} (h : (valV (wkv a b c d e f) k).isSome = true) : putK (wkv a b c d e f) k x = (wkv a b c d e f).map (fun kv => if kv.1 = k then (kv.1, x) else kv) := by
  unfold putK
  rw [if_pos (by rw [valV_any]; exact h)]
theorem wp1 : putK (wkv a b c d e f) (Sum.inr ("lengths" : Str)) x = wkv x b c d e f := by
  rw [wput (by rw [wv1]; rfl)]
  simp only [wkv, List.map_cons, List.map_nil, if_pos trivial, if_neg (kne (x := "due") (y := "lengths") (by decide +kernel)), if_neg (kne (x := "kinds") (y := "lengths") (by decide +kernel)), if_neg (kne (x := "memory") (y := "lengths") (by decide +kernel)), if_neg (kne (x := "begins") (y := "lengths") (by decide +kernel)), if_neg (kne (x := "laid") (y := "lengths") (by decide +kernel))]
theorem wp2 : putK (wkv a b c d e f) (Sum.inr ("due" : Str)) x = wkv a x c d e f := by
  rw [wput (by rw [wv2]; rfl)]
  simp only [wkv, List.map_cons, List.map_nil, if_pos trivial, if_neg (kne (x := "lengths") (y := "due") (by decide +kernel)), if_neg (kne (x := "kinds") (y := "due") (by decide +kernel)), if_neg (kne (x := "memory") (y := "due") (by decide +kernel)), if_neg (kne (x := "begins") (y := "due") (by decide +kernel)), if_neg (kne (x := "laid") (y := "due") (by decide +kernel))]
theorem wp3 : putK (wkv a b c d e f) (Sum.inr ("kinds" : Str)) x = wkv a b x d e f := by
  rw [wput (by rw [wv3]; rfl)]
  simp only [wkv, List.map_cons, List.map_nil, if_pos trivial, if_neg (kne (x := "lengths") (y := "kinds") (by decide +kernel)), if_neg (kne (x := "due") (y := "kinds") (by decide +kernel)), if_neg (kne (x := "memory") (y := "kinds") (by decide +kernel)), if_neg (kne (x := "begins") (y := "kinds") (by decide +kernel)), if_neg (kne (x := "laid") (y := "kinds") (by decide +kernel))]
theorem wp4 : putK (wkv a b c d e f) (Sum.inr ("memory" : Str)) x = wkv a b c x e f := by
  rw [wput (by rw [wv4]; rfl)]
  simp only [wkv, List.map_cons, List.map_nil, if_pos trivial, if_neg (kne (x := "lengths") (y := "memory") (by decide +kernel)), if_neg (kne (x := "due") (y := "memory") (by decide +kernel)), if_neg (kne (x := "kinds") (y := "memory") (by decide +kernel)), if_neg (kne (x := "begins") (y := "memory") (by decide +kernel)), if_neg (kne (x := "laid") (y := "memory") (by decide +kernel))]
theorem wp5 : putK (wkv a b c d e f) (Sum.inr ("begins" : Str)) x = wkv a b c d x f := by
  rw [wput (by rw [wv5]; rfl)]
  simp only [wkv, List.map_cons, List.map_nil, if_pos trivial, if_neg (kne (x := "lengths") (y := "begins") (by decide +kernel)), if_neg (kne (x := "due") (y := "begins") (by decide +kernel)), if_neg (kne (x := "kinds") (y := "begins") (by decide +kernel)), if_neg (kne (x := "memory") (y := "begins") (by decide +kernel)), if_neg (kne (x := "laid") (y := "begins") (by decide +kernel))]
theorem wp6 : putK (wkv a b c d e f) (Sum.inr ("laid" : Str)) x = wkv a b c d e x := by
  rw [wput (by rw [wv6]; rfl)]
  simp only [wkv, List.map_cons, List.map_nil, if_pos trivial, if_neg (kne (x := "lengths") (y := "laid") (by decide +kernel)), if_neg (kne (x := "due") (y := "laid") (by decide +kernel)), if_neg (kne (x := "kinds") (y := "laid") (by decide +kernel)), if_neg (kne (x := "memory") (y := "laid") (by decide +kernel)), if_neg (kne (x := "begins") (y := "laid") (by decide +kernel))]
end
/-- a permutation of images is the image of a permutation -/
theorem perm_lift {α β : Type} [DecidableEq α] (f : α → β) : ∀ (ys : List β) (ks : List α), ys.Perm (ks.map f) → ∃ ms : List α, ms.Perm ks ∧ ms.map f = ys
  | [], ks, h => by
    have e : ks = [] := List.map_eq_nil_iff.mp (List.Perm.nil_eq h).symm
    subst e
    exact ⟨[], .nil, rfl⟩
  | y :: r, ks, h => by
    obtain ⟨k, hk, rfl⟩ := List.mem_map.mp (h.mem_iff.mp (List.mem_cons_self ..))
    have h2 : (f k :: r).Perm (f k :: (ks.erase k).map f) := h.trans (((List.perm_cons_erase hk).map f))
    obtain ⟨ms, p, e⟩ := perm_lift f r (ks.erase k) (List.Perm.cons_inv h2)
    exact ⟨k :: ms, (p.cons k).trans (List.perm_cons_erase hk).symm, by rw [List.map_cons, e]⟩
/-! slices and sums of lengths -/
theorem cutV_take {xs : List V} {i : Int} (h0 : 0 ≤ i) : cutV xs none (some i) = xs.take i.toNat := by
  have e : HT.sIx xs.length xs.length (some i) = min i.toNat xs.length := by
    show (if i < 0 then (i + (xs.length : Int)).toNat else min i.toNat xs.length) = _
    rw [if_neg (by omega)]
  unfold cutV
  rw [e]
  show (xs.drop 0).take (min i.toNat xs.length - 0) = _
  rw [List.drop_zero, Nat.sub_zero]
  by_cases h : i.toNat ≤ xs.length
  · rw [Nat.min_eq_left h]
  · rw [Nat.min_eq_right (by omega), List.take_length, List.take_of_length_le (by omega)]
section
variable {K : PySem.W.Frag} {H : Hp} {Q : VK} {p : Addr} {xs : List V}
theorem r_slT_take {i : Int} (h : SqT K H p xs) (h0 : 0 ≤ i) (h1 : i < xs.length) (q : ∀ t H', H t = none → Same H H' → H' t = some (.tup (xs.take i.toNat)) → Q (.ref t) H') : rSlT K (.ref p) none (some i) H Q := by
  refine ⟨p, xs, rfl, h, ?_, fun t ht => ?_⟩
  · rintro ⟨_, e⟩
    have e2 : (if i < 0 then (i + (xs.length : Int)).toNat else min i.toNat xs.length) = xs.length := e
    rw [if_neg (by omega)] at e2
    omega
  · rw [cutV_take h0]
    exact q t _ ht (Same.new ht) upd_same
theorem r_minSeq {ns : List Int} (h : SeqV K H p (ns.map V.int)) (h0 : 0 < ns.length) (k : ∀ m, m ∈ ns → (∀ y ∈ ns, m ≤ y) → Q (.int m) H) : rEither (rMin K) (rMinT K) [.ref p] H Q := by
  rcases h with h | h
  · exact .inl ⟨p, ns, rfl, h, h0, fun m hm hy => k m hm hy⟩
  · exact .inr ⟨p, ns, rfl, h, h0, fun m hm hy => k m hm hy⟩
theorem r_tupOf (h : H p = some (.lst xs) ∨ H p = some (.tup xs)) (k : ∀ t H', Same H H' → H' t = some (.tup xs) → Q (.ref t) H') : rTupOf K [.ref p] H Q := by
  rcases h with h | h
  · exact ⟨p, xs, rfl, .inl ⟨SqL.of h, fun t ht => k t _ (Same.new ht) upd_same⟩⟩
  · exact ⟨p, xs, rfl, .inr ⟨SqT.of h, k p H (Same.refl _) h⟩⟩
end
namespace Bk
/-- the first day of a month -/
def first (B : Bk) (m : Int) : Int := m / (B.ls.length : Int) * B.ls.sum + (B.ls.take (m % (B.ls.length : Int)).toNat).sum
def rateOf (B : Bk) (n : Str) : Int := ((B.ks.find? fun k => decide (k.1 = n)).map (·.2.1)).getD 0
def freeOf (B : Bk) (n : Str) : Bool := ((B.ks.find? fun k => decide (k.1 = n)).map (·.2.2)).getD false
theorem find_of : ∀ {ks : List (Str × Int × Bool)} {n : Str} {r : Int} {b : Bool}, (ks.map (·.1)).Nodup → (n, r, b) ∈ ks → (ks.find? fun k => decide (k.1 = n)) = some (n, r, b)
  | [], _, _, _, _, h => by cases h
  | k :: ks, n, r, b, nd, h => by
    rw [List.map_cons, List.nodup_cons] at nd
    rcases List.mem_cons.mp h with e | e
    · subst e
      simp
    · have hne : ¬ k.1 = n := fun z => nd.1 (by rw [z]; exact List.mem_map.mpr ⟨_, e, rfl⟩)
      rw [List.find?_cons, decide_eq_false hne]
      exact find_of nd.2 e
end Bk
end Wp
set_option Elab.async false
set_option linter.all false
set_option maxRecDepth 100000
/-! Months and tallies, plain. -/
namespace Wp
/-! months -/
def firstL (ls : List Int) (m : Int) : Int := m / (ls.length : Int) * ls.sum + (ls.take (m % (ls.length : Int)).toNat).sum
def cntL : List Int → Int → Nat
  | [], _ => 0
  | x :: xs, r => if r < x then 0 else cntL xs (r - x) + 1
def monthL (ls : List Int) (d : Int) : Int := d / ls.sum * (ls.length : Int) + (cntL ls (d % ls.sum) : Nat)
def fdL (ls : List Int) (u d : Int) : Int := firstL ls (monthL ls d + 1) + u - d
structure LsOk (ls : List Int) : Prop where
  l1 : 1 ≤ ls.length
  l2 : ls.length ≤ 4
  l3 : ∀ n ∈ ls, 2 ≤ n ∧ n ≤ 31
theorem sum_lohi : ∀ {ls : List Int}, (∀ n ∈ ls, 2 ≤ n ∧ n ≤ 31) → 2 * (ls.length : Int) ≤ ls.sum ∧ ls.sum ≤ 31 * (ls.length : Int)
  | [], _ => by simp
  | a :: r, h => by
    have h1 := sum_lohi (ls := r) fun n hn => h n (List.mem_cons_of_mem _ hn)
    have h2 := h a (List.mem_cons_self ..)
    simp only [List.sum_cons, List.length_cons]
    omega
theorem LsOk.sum {ls : List Int} (h : LsOk ls) : 2 ≤ ls.sum ∧ ls.sum ≤ 124 := by
  have := sum_lohi h.l3
  have := h.l1
  have := h.l2
  omega
/-- within the sum: how it stands -/
theorem cntL_spec : ∀ {ls : List Int} {r : Int}, (∀ n ∈ ls, 2 ≤ n ∧ n ≤ 31) → 0 ≤ r → r < ls.sum → cntL ls r < ls.length ∧ (ls.take (cntL ls r)).sum ≤ r ∧ r < (ls.take (cntL ls r + 1)).sum
  | [], r, _, h0, h1 => by simp at h1; omega
  | x :: xs, r, h, h0, h1 => by
    unfold cntL
    split
    · simp; omega
    · rename_i hx
      have h2 := cntL_spec (ls := xs) (r := r - x) (fun n hn => h n (List.mem_cons_of_mem _ hn)) (by omega) (by rw [List.sum_cons] at h1; omega)
      simp only [List.length_cons, List.take_succ_cons, List.sum_cons]
      omega
theorem take_sum_mono : ∀ {ls : List Int} (i j : Nat), (∀ n ∈ ls, 2 ≤ n ∧ n ≤ 31) → i ≤ j → (ls.take i).sum ≤ (ls.take j).sum
  | [], i, j, _, _ => by simp
  | x :: xs, 0, j, h, _ => by
    have h3 : ∀ n ∈ (x :: xs).take j, 2 ≤ n ∧ n ≤ 31 := fun n hn => h n (List.mem_of_mem_take hn)
    have := (sum_lohi h3).1
    simp only [List.take_zero, List.sum_nil]
    omega
  | x :: xs, i + 1, j + 1, h, hij => by
    have := take_sum_mono (ls := xs) i j (fun n hn => h n (List.mem_cons_of_mem _ hn)) (by omega)
    simp only [List.take_succ_cons, List.sum_cons]
    omega
/-- a step of the program's own count -/
theorem cntL_drop : ∀ {ls : List Int} {r : Int} (j : Nat) {x : Int}, ls[j]? = some x → cntL (ls.drop j) r = if r < x then 0 else cntL (ls.drop (j + 1)) (r - x) + 1
  | [], r, j, x, h => by simp at h
  | y :: ys, r, 0, x, h => by
    simp at h
    subst h
    simp [cntL]
  | y :: ys, r, j + 1, x, h => by
    have := cntL_drop (ls := ys) (r := r) j (x := x) (by simpa using h)
    simpa using this
theorem firstL_at {ls : List Int} (q : Int) (j : Nat) (h : j < ls.length) : firstL ls (q * (ls.length : Int) + (j : Int)) = q * ls.sum + (ls.take j).sum := by
  have e1 : (q * (ls.length : Int) + (j : Int)) / (ls.length : Int) = q := by
    rw [Int.add_comm, Int.add_mul_ediv_right _ _ (by omega), Int.ediv_eq_zero_of_lt (by omega) (by omega)]
    omega
  have e2 : (q * (ls.length : Int) + (j : Int)) % (ls.length : Int) = (j : Int) := by
    rw [Int.add_comm, Int.add_mul_emod_self_right, Int.emod_eq_of_lt (by omega) (by omega)]
  unfold firstL
  rw [e1, e2, Int.toNat_natCast]
theorem firstL_at' {ls : List Int} (q : Int) (j : Nat) (h1 : 1 ≤ ls.length) (h : j ≤ ls.length) : firstL ls (q * (ls.length : Int) + (j : Int)) = q * ls.sum + (ls.take j).sum := by
  by_cases e : j < ls.length
  · exact firstL_at q j e
  · have e : j = ls.length := by omega
    subst e
    have := firstL_at (ls := ls) (q + 1) 0 (by omega)
    rw [List.take_length]
    have e2 : q * (ls.length : Int) + (ls.length : Int) = (q + 1) * (ls.length : Int) + ((0 : Nat) : Int) := by
      rw [Int.add_mul]; omega
    rw [e2, this, Int.add_mul]
    simp
/-- the law's own step -/
theorem law_step {ls : List Int} (ok : LsOk ls) (d : Int) (j : Nat) (h : j ≤ cntL ls (d % ls.sum)) :
    (firstL ls (d / ls.sum * (ls.length : Int) + (j : Int) + 1) ≤ d) ↔ j < cntL ls (d % ls.sum) := by
  have hs := ok.sum
  have hr0 := Int.emod_nonneg d (b := ls.sum) (by omega)
  have hr1 := Int.emod_lt_of_pos d (b := ls.sum) (by omega)
  obtain ⟨c1, c2, c3⟩ := cntL_spec ok.l3 hr0 hr1
  have hd := Int.emod_add_mul_ediv d ls.sum
  have l1 := ok.l1
  have e : d / ls.sum * (ls.length : Int) + (j : Int) + 1 = d / ls.sum * (ls.length : Int) + ((j + 1 : Nat) : Int) := by omega
  rw [e, firstL_at' _ _ ok.l1 (by omega)]
  have hc : ls.sum * (d / ls.sum) = d / ls.sum * ls.sum := Int.mul_comm _ _
  constructor
  · intro h1
    by_cases h2 : j < cntL ls (d % ls.sum)
    · exact h2
    · have : j = cntL ls (d % ls.sum) := by omega
      subst this
      omega
  · intro h1
    have := take_sum_mono (ls := ls) (j + 1) (cntL ls (d % ls.sum)) ok.l3 (by omega)
    omega
theorem month_bounds {ls : List Int} (ok : LsOk ls) (d : Int) : firstL ls (monthL ls d) ≤ d ∧ d < firstL ls (monthL ls d + 1) ∧ firstL ls (monthL ls d + 1) ≤ firstL ls (monthL ls d) + 31 := by
  have hs := ok.sum
  have hr0 := Int.emod_nonneg d (b := ls.sum) (by omega)
  have hr1 := Int.emod_lt_of_pos d (b := ls.sum) (by omega)
  obtain ⟨c1, c2, c3⟩ := cntL_spec ok.l3 hr0 hr1
  have hd := Int.emod_add_mul_ediv d ls.sum
  have l1 := ok.l1
  have hc : ls.sum * (d / ls.sum) = d / ls.sum * ls.sum := Int.mul_comm _ _
  unfold monthL
  have e : d / ls.sum * (ls.length : Int) + (cntL ls (d % ls.sum) : Nat) + 1 = d / ls.sum * (ls.length : Int) + ((cntL ls (d % ls.sum) + 1 : Nat) : Int) := by omega
  rw [e, firstL_at' _ _ ok.l1 (by omega), firstL_at' _ _ ok.l1 (by omega)]
  have h1 : (ls.take (cntL ls (d % ls.sum) + 1)).sum = (ls.take (cntL ls (d % ls.sum))).sum + ls[cntL ls (d % ls.sum)] := by
    rw [List.take_succ, List.getElem?_eq_getElem c1, List.sum_append]
    simp
  have h2 := ok.l3 _ (List.getElem_mem c1)
  omega
theorem fd_bounds {ls : List Int} (ok : LsOk ls) (u d : Int) : u + 1 ≤ fdL ls u d ∧ fdL ls u d ≤ u + 31 := by
  have := month_bounds ok d
  unfold fdL
  omega
/-! tallies -/
def lookT : List (Int × Int) → Int → Option Int
  | [], _ => none
  | (k, c) :: r, z => if k = z then some c else lookT r z
def putI (t : List (Int × Int)) (z c : Int) : List (Int × Int) := if (t.any fun p => decide (p.1 = z)) = true then t.map (fun p => if p.1 = z then (p.1, c) else p) else t ++ [(z, c)]
def bump (t : List (Int × Int)) (z : Int) : List (Int × Int) := putI t z ((lookT t z).getD 0 + 1)
def tally (xs : List Int) : List (Int × Int) := xs.foldl bump []
theorem tally_snoc (xs : List Int) (z : Int) : tally (xs ++ [z]) = bump (tally xs) z := by
  unfold tally
  rw [List.foldl_append]
  rfl
theorem any_look : ∀ (t : List (Int × Int)) (z : Int), (t.any fun p => decide (p.1 = z)) = (lookT t z).isSome
  | [], z => rfl
  | (k, c) :: r, z => by
    unfold lookT
    by_cases h : k = z
    · simp [h]
    · rw [List.any_cons, any_look r z]
      simp [h]
theorem putI_keys (t : List (Int × Int)) (z c : Int) : (putI t z c).map (·.1) = if (lookT t z).isSome = true then t.map (·.1) else t.map (·.1) ++ [z] := by
  unfold putI
  rw [any_look]
  split
  · rw [List.map_map]
    refine List.map_congr_left fun p _ => ?_
    show (if p.1 = z then (p.1, c) else p).1 = p.1
    split <;> rfl
  · simp
theorem look_none : ∀ {t : List (Int × Int)} {z : Int}, lookT t z = none ↔ z ∉ t.map (·.1)
  | [], z => by simp [lookT]
  | (k, c) :: r, z => by
    have := look_none (t := r) (z := z)
    unfold lookT
    by_cases h : k = z
    · simp [h]
    · rw [if_neg h, this]
      simp
      intro _ e
      exact h e.symm
theorem look_map (c z y : Int) : ∀ (t : List (Int × Int)), lookT (t.map fun p => if p.1 = z then (p.1, c) else p) y = if y = z then (lookT t z).map (fun _ => c) else lookT t y
  | [] => by simp [lookT]
  | (k, e) :: r => by
    have := look_map c z y r
    rw [List.map_cons]
    by_cases hk : k = z
    · subst hk
      rw [if_pos rfl]
      unfold lookT
      by_cases hy : y = k
      · simp [hy]
      · rw [if_neg (fun z => hy z.symm), this, if_neg hy, if_neg hy, if_neg (fun z => hy z.symm)]
    · rw [if_neg hk]
      show (if k = y then some e else lookT (r.map _) y) = _
      rw [this]
      by_cases hy : y = z
      · subst hy
        rw [if_neg hk, if_pos rfl, if_pos rfl]
        simp [lookT, hk]
      · rw [if_neg hy, if_neg hy]
        rfl
theorem look_snoc (z c y : Int) : ∀ (t : List (Int × Int)), lookT t z = none → lookT (t ++ [(z, c)]) y = if y = z then some c else lookT t y
  | [], _ => by
    simp only [List.nil_append, lookT]
    by_cases h : z = y
    · simp [h]
    · rw [if_neg h, if_neg (fun e => h e.symm)]
  | (k, e) :: r, h => by
    unfold lookT at h
    by_cases hk : k = z
    · rw [if_pos hk] at h; cases h
    · rw [if_neg hk] at h
      have := look_snoc z c y r h
      show (if k = y then some e else lookT (r ++ [(z, c)]) y) = _
      rw [this]
      by_cases hy : y = z
      · subst hy
        rw [if_neg hk, if_pos rfl, if_pos rfl]
      · rw [if_neg hy, if_neg hy]
        rfl
theorem putI_look (t : List (Int × Int)) (z c y : Int) : lookT (putI t z c) y = if y = z then some c else lookT t y := by
  unfold putI
  rw [any_look]
  cases h : lookT t z with
  | none =>
    rw [if_neg (by simp)]
    exact look_snoc z c y t h
  | some e =>
    rw [if_pos (by simp), look_map, h]
    rfl
theorem snoc_ind {P : List Int → Prop} (h0 : P []) (hs : ∀ xs z, P xs → P (xs ++ [z])) : ∀ xs, P xs := fun xs => by
  have : ∀ ys : List Int, P ys.reverse := fun ys => by
    induction ys with
    | nil => exact h0
    | cons y r ih => rw [List.reverse_cons]; exact hs _ _ ih
  have := this xs.reverse
  rwa [List.reverse_reverse] at this
theorem tally_look (z : Int) : ∀ xs : List Int, lookT (tally xs) z = if xs.count z = 0 then none else some (xs.count z : Int) := by
  refine snoc_ind rfl fun xs y ih => ?_
  rw [tally_snoc]
  unfold bump
  rw [putI_look, List.count_append]
  by_cases h : z = y
  · subst h
    rw [if_pos rfl, ih]
    have : List.count z [z] = 1 := by simp
    rw [this, if_neg (Nat.succ_ne_zero _)]
    by_cases h0 : List.count z xs = 0
    · rw [if_pos h0, h0]; rfl
    · rw [if_neg h0]; simp
  · rw [if_neg h, ih]
    have : List.count z [y] = 0 := by simp [List.count_cons]; exact fun e => h e.symm
    rw [this, Nat.add_zero]
theorem tally_mem (xs : List Int) (z : Int) : z ∈ (tally xs).map (·.1) ↔ z ∈ xs := by
  have h1 := look_none (t := tally xs) (z := z)
  rw [tally_look] at h1
  have h2 := List.count_pos_iff (a := z) (l := xs)
  by_cases h : xs.count z = 0
  · rw [if_pos h] at h1
    have h3 := h1.mp rfl
    exact ⟨fun e => absurd e h3, fun e => by have := h2.mpr e; omega⟩
  · rw [if_neg h] at h1
    constructor
    · intro _; exact h2.mp (by omega)
    · intro _
      refine Classical.byContradiction fun e => ?_
      cases h1.mpr e
theorem tally_keys (xs : List Int) (z : Int) : (tally (xs ++ [z])).map (·.1) = if z ∈ xs then (tally xs).map (·.1) else (tally xs).map (·.1) ++ [z] := by
  rw [tally_snoc]
  unfold bump
  rw [putI_keys, tally_look]
  have := List.count_pos_iff (a := z) (l := xs)
  by_cases h : xs.count z = 0
  · rw [if_pos h, if_neg (by simp), if_neg (fun e => by have := this.mpr e; omega)]
  · rw [if_neg h, if_pos (by simp), if_pos (this.mp (by omega))]
theorem tally_nd : ∀ xs : List Int, ((tally xs).map (·.1)).Nodup := by
  refine snoc_ind List.nodup_nil fun xs y ih => ?_
  rw [tally_keys]
  split
  · exact ih
  · rename_i h
    rw [List.nodup_append]
    refine ⟨ih, by simp, fun a ha b hb e => ?_⟩
    rw [List.mem_singleton.mp hb] at e
    subst e
    exact h ((tally_mem xs _).mp ha)
theorem tally_asc : ∀ xs : List Int, xs.Pairwise (· ≤ ·) → ((tally xs).map (·.1)).Pairwise (· ≤ ·) := by
  refine snoc_ind (fun _ => List.Pairwise.nil) fun xs y ih h => ?_
  rw [List.pairwise_append] at h
  rw [tally_keys]
  split
  · exact ih h.1
  · rw [List.pairwise_append]
    exact ⟨ih h.1, by simp, fun a ha b hb => h.2.2 a ((tally_mem xs a).mp ha) b hb⟩
theorem look_of_mem : ∀ {t : List (Int × Int)} {p : Int × Int}, (t.map (·.1)).Nodup → p ∈ t → lookT t p.1 = some p.2
  | [], p, _, h => by cases h
  | (k, c) :: r, p, nd, h => by
    rw [List.map_cons, List.nodup_cons] at nd
    rcases List.mem_cons.mp h with e | e
    · subst e
      simp [lookT]
    · unfold lookT
      rw [if_neg (fun z => nd.1 (by rw [show k = p.1 from z]; exact List.mem_map.mpr ⟨p, e, rfl⟩))]
      exact look_of_mem nd.2 e
theorem tally_perm_keys {xs ys : List Int} (h : xs.Perm ys) : ((tally xs).map (·.1)).Perm ((tally ys).map (·.1)) := by
  rw [List.perm_ext_iff_of_nodup (tally_nd xs) (tally_nd ys)]
  intro a
  rw [tally_mem, tally_mem, h.mem_iff]
theorem tally_perm_len {xs ys : List Int} (h : xs.Perm ys) : (tally xs).length = (tally ys).length := by
  have := (tally_perm_keys h).length_eq
  rwa [List.length_map, List.length_map] at this
theorem tally_perm_look {xs ys : List Int} (h : xs.Perm ys) (z : Int) : lookT (tally xs) z = lookT (tally ys) z := by
  rw [tally_look, tally_look, h.count_eq]
/-- a tally is its keys with what stands at each -/
theorem tally_self (t : List (Int × Int)) (nd : (t.map (·.1)).Nodup) : (t.map (·.1)).map (fun k => (k, (lookT t k).getD 0)) = t := by
  rw [List.map_map]
  conv => rhs; rw [← List.map_id t]
  refine List.map_congr_left fun p hp => ?_
  show (p.1, (lookT t p.1).getD 0) = p
  rw [look_of_mem nd hp]
  rfl
/-- what the law lists: the sorted keys with what the other tally has -/
theorem tally_list {xs ys ks : List Int} (h : ys.Perm xs) (ha : ys.Pairwise (· ≤ ·)) (hk : ks.Perm ((tally xs).map (·.1))) (hka : ks.Pairwise (· ≤ ·)) : ks.map (fun k => (k, (lookT (tally xs) k).getD 0)) = tally ys := by
  have e : ks = (tally ys).map (·.1) := List.Perm.eq_of_pairwise (fun _ _ _ _ h1 h2 => Int.le_antisymm h1 h2) hka (tally_asc ys ha) (hk.trans (tally_perm_keys h).symm)
  subst e
  have := tally_self (tally ys) (tally_nd ys)
  refine Eq.trans ?_ this
  refine List.map_congr_left fun k _ => ?_
  rw [tally_perm_look h]
theorem range_len {l : List Int} {a : Int} (nd : l.Nodup) (h : ∀ z ∈ l, a + 1 ≤ z ∧ z ≤ a + 31) : l.length ≤ 31 := by
  have : l.length ≤ ((List.range 31).map fun i : Nat => a + 1 + (i : Int)).length := by
    refine List.Nodup.length_le_of_subset nd fun z hz => ?_
    have := h z hz
    refine List.mem_map.mpr ⟨(z - a - 1).toNat, List.mem_range.mpr (by omega), by omega⟩
  simpa using this
/-- the free days of one round -/
def rndL (ls : List Int) (u : Int) (n : Nat) : List Int := (List.range n).map fun i : Nat => fdL ls u (i : Int)
theorem rndL_succ (ls : List Int) (u : Int) (n : Nat) : rndL ls u (n + 1) = rndL ls u n ++ [fdL ls u (n : Int)] := by
  unfold rndL
  rw [List.range_succ, List.map_append]
  rfl
theorem rndL_len (ls : List Int) (u : Int) (n : Nat) : (rndL ls u n).length = n := by simp [rndL]
def rnd (ls : List Int) (u : Int) : List Int := rndL ls u ls.sum.toNat
theorem rndL_mem {ls : List Int} (ok : LsOk ls) {u : Int} {n : Nat} : ∀ z ∈ rndL ls u n, u + 1 ≤ z ∧ z ≤ u + 31 := fun z hz => by
  obtain ⟨i, _, rfl⟩ := List.mem_map.mp hz
  exact fd_bounds ok u _
theorem tally_keys_len {ls : List Int} (ok : LsOk ls) {u : Int} {n : Nat} : ((tally (rndL ls u n)).map (·.1)).length ≤ 31 :=
  range_len (a := u) (tally_nd _) fun z hz => rndL_mem ok z ((tally_mem _ z).mp hz)
theorem count_le {xs : List Int} {p : Int × Int} (h : p ∈ tally xs) : 0 ≤ p.2 ∧ p.2 ≤ xs.length := by
  have h1 := look_of_mem (tally_nd xs) h
  rw [tally_look] at h1
  split at h1
  · cases h1
  · have h2 := Option.some.inj h1
    have := List.count_le_length (a := p.1) (l := xs)
    omega
/-- least and greatest of the keys, and of what was counted -/
theorem least_eq {xs : List Int} {a b : Int} (h1 : a ∈ xs) (h2 : ∀ y ∈ xs, a ≤ y) (h3 : b ∈ (tally xs).map (·.1)) (h4 : ∀ y ∈ (tally xs).map (·.1), b ≤ y) : a = b :=
  Int.le_antisymm (h2 b ((tally_mem xs b).mp h3)) (h4 a ((tally_mem xs a).mpr h1))
theorem most_eq {xs : List Int} {a b : Int} (h1 : a ∈ xs) (h2 : ∀ y ∈ xs, y ≤ a) (h3 : b ∈ (tally xs).map (·.1)) (h4 : ∀ y ∈ (tally xs).map (·.1), y ≤ b) : a = b :=
  Int.le_antisymm (h4 a ((tally_mem xs a).mpr h1)) (h2 b ((tally_mem xs b).mp h3))
end Wp
set_option Elab.async false
set_option linter.all false
set_option maxRecDepth 100000
set_option maxHeartbeats 4000000
/-! sorted of a list or a tuple of data that are alike: one list. -/
namespace Wp
open PySem PySem.Spec PyProof.Rows L2
section
variable {prog : Program} {w : World} {A : Around} {E : Value → Shared → Prop} {s : Shared} {l : Addr} {vs : List Value}
theorem collectT {Q : List Value → Shared → Prop} (hl : s.heap.IsTuple l vs.toArray) (hz : vs.length ≤ sizeLine)
    (h : Q vs { s with heap := (s.heap.push (seqObj "list" #[] 0)).update s.heap.objs.size (Obj.mapSeq (· ++ vs.toArray)) }) : wpAny (model prog w) A (collect (.ref l)) Q E s := by
  obtain ⟨o, ho, hc, n, hd⟩ := hl
  have up := Heap.get?_push_of_some (seqObj "list" #[] 0) ho
  have own : (s.heap.push (seqObj "list" #[] 0)).get? s.heap.objs.size = some (seqObj "list" #[] 0) := Heap.get?_push_size _ rfl
  unfold collect
  refine wpAny_bind (wpAny_runValue (codeAny_builtin entry_proto_collect' ?_))
  show wpAny (model prog w) A.in1 (do again (.builtin "list.__iadd__" ⟨[← newList [], .ref l], []⟩)) _ _ s
  refine wpAny_bind (wpAny_newList (wpAny_pure ⟨Code.quiet_builtin _ (by decide +kernel), codeAny_builtin entry_list_iadd' ?_⟩))
  show wpAny (model prog w) _ (Builtin.List.listExtendWith (.ref s.heap.objs.size) (.ref l) (.ref s.heap.objs.size)) _ _ { s with heap := s.heap.push (seqObj "list" #[] 0) }
  unfold Builtin.List.listExtendWith
  refine wpAny_bind (wpAny_typeOf (T := "tuple") ⟨o, up, hc⟩ ?_)
  have tt : (Value.type "tuple" == Value.type "tuple") = true := by rfl
  rw [if_pos (by rw [tt, Bool.or_true])]
  refine wpAny_bind (listItems_at up hd (wpAny_bind (listItems_at (n := 0) own rfl ?_)))
  rw [if_neg (by simp)]
  refine wpAny_bind (listUpdate_at (n := 0) own rfl (wpAny_pure ?_) (Nat.zero_le _) ?_)
  · show wpAny (model prog w) A (load s.heap.objs.size >>= fun o => match o.data with | .seq xs _ => pure xs.toList | _ => unsupported "internal:collect") Q E _
    refine wpAny_bind (wpAny_load (get?_update_seq own _) ?_)
    have e : ((#[] : Array Value) ++ vs.toArray).toList = vs := by simp
    show wpAny (model prog w) A (pure ((#[] : Array Value) ++ vs.toArray).toList) Q E _
    rw [e]
    exact wpAny_pure h
  · show ((#[] : Array Value) ++ vs.toArray).size ≤ sizeLine + 1
    simp
    omega
theorem sortedT_of {Q : Value → Shared → Prop} (hl : s.heap.IsTuple l vs.toArray) (hz : vs.length ≤ sizeLine)
    (body : ∀ E' : Value → Shared → Prop, wpAny (model prog w) A.in1.in1 (Builtin.«list.sort» ⟨[.ref (s.heap.objs.size + 1)], []⟩) (fun r t => r = .done (.ret .none) ∧ Q (.ref (s.heap.objs.size + 1)) t) E' { s with heap := PySem.W.copyHeap s.heap vs }) :
    wpAny (model prog w) A (call (.builtin "sorted") [.ref l]) Q E s := by
  refine Calls.call_function_entry kind_sorted plain_sorted entry_sorted (args_sorted1 _) ?_
  unfold Builtin.«sorted»
  refine wpAny_bind (m := checkCount "sorted" 1 1 _) (wpAny_pure (wpAny_bind (collectT hl hz (wpAny_bind (wpAny_newList ?_ hz)))))
  have sz : ((s.heap.push (seqObj "list" #[] 0)).update s.heap.objs.size (Obj.mapSeq (· ++ vs.toArray))).objs.size = s.heap.objs.size + 1 := by
    rw [Heap.size_update, size_push']
  show wpAny (model prog w) _ _ _ _ { s with heap := PySem.W.copyHeap s.heap vs }
  rw [sz]
  refine wpAny_bind (wpAny_holding (wpAny_call_entry slot_list_sort ⟨_, PySem.W.copyHeap_at s.heap vs, rfl⟩ entry_list_sort ?_ (args_list_sort _)))
  refine wpAny_mono (body _) (fun r t hr => ?_) fun _ _ e => e
  obtain ⟨rfl, q⟩ := hr
  exact ⟨_, rfl, wpAny_pure ⟨_, rfl, q⟩⟩
theorem sortedT_data {β : Type} {R : Value → β → Prop} {enc : β → PyData} {bs : List β} {Q : Value → Shared → Prop} (hl : s.heap.IsTuple l vs.toArray) (e : PySem.W.EachIs R vs bs) (er : PySem.W.EachIs (fun v b => ∃ as, Reads s.heap v (enc b) as) vs bs) (hal : PySem.W.AllAlike (bs.map enc)) (hk : PySem.W.Sortable (bs.map enc)) (hL : bs.length ≤ sizeLine)
    (hu : ∀ b, b ∈ bs → A.units + 2 + (enc b).depth < cLine) (h : ∀ out, out.length = bs.length → PySem.W.EachIs R out (bs.mergeSort (PySem.W.dataLe false enc)) → Q (.ref (s.heap.objs.size + 1)) { s with heap := sortedAll s.heap vs (List.toArray out) }) :
    wpAny (model prog w) A (call (.builtin "sorted") [.ref l]) Q E s := by
  have hL2 : vs.length ≤ sizeLine := by rw [e.length]; exact hL
  have er2 : PySem.W.EachIs (fun v b => ∃ as, Reads (PySem.W.sortingHeap (PySem.W.copyHeap s.heap vs) (s.heap.objs.size + 1) vs) v (enc b) as) vs bs := er.mono fun _ _ ⟨as, r⟩ => ⟨as, PyProof.Rows.Reads.keeps (fun _ _ => PySem.W.sorting_copy_old) r⟩
  have S := PySem.W.SortsAt.data (prog := prog) (w := w) (A := A.in1.in1) (s := { s with heap := PySem.W.sortingHeap (PySem.W.copyHeap s.heap vs) (s.heap.objs.size + 1) vs }) (PySem.W.each_map (R := fun v d => ∃ as, Reads (PySem.W.sortingHeap (PySem.W.copyHeap s.heap vs) (s.heap.objs.size + 1) vs) v d as) enc er2) hal hk (PySem.W.bound_map hu)
  refine sortedT_of hl hL2 fun _ => PySem.W.list_sort_vals (s := { s with heap := PySem.W.copyHeap s.heap vs }) (PySem.W.copyHeap_at s.heap vs) S hL2 ⟨rfl, ?_⟩
  exact h _ (by rw [PySem.W.sortVals_length false rfl]; exact e.length) (PySem.W.sortVals_data false e er2 hal)
end
/-- sorted of alike data -/
def srtV (xs : List V) (ds : List PyData) : List V := ((xs.zip ds).mergeSort (PySem.W.dataLe false (·.2))).map (·.1)
def rSortD (K : PySem.W.Frag) : List V → Hp → VK → Prop := fun vs H Q => ∃ (a : Addr) (xs : List V) (ds : List PyData), vs = [.ref a] ∧ SeqV K H a xs ∧ DpAll K H xs ds ∧ PySem.W.AllAlike ds ∧ PySem.W.Sortable ds ∧ xs.length ≤ 1000000 ∧ (∀ d ∈ ds, d.depth ≤ 20) ∧
  ∀ p, H p = none → Q (.ref p) (upd H p (.lst (srtV xs ds)))
theorem dpAll_len {K : PySem.W.Frag} {H : Hp} : ∀ {xs : List V} {ds : List PyData}, DpAll K H xs ds → xs.length = ds.length
  | _, _, .nil => rfl
  | _, _, .cons _ r => by simp [dpAll_len r]
theorem each_rel {X : Cx} {pins : List (Addr × Obj)} {σ : L2.St} {H : Hp} {s : Shared} (I : Inv X pins σ H s) : ∀ {xs : List V} {ds : List PyData} {us : List Value}, Vals xs us → DpAll X.K H xs ds →
    PySem.W.EachIs (fun (v : Value) (b : V × PyData) => RelV b.1 v) us (xs.zip ds) ∧ PySem.W.EachIs (fun (v : Value) (b : V × PyData) => ∃ as, Reads s.heap v b.2 as) us (xs.zip ds)
  | _, _, _, .nil, .nil => ⟨.nil, .nil⟩
  | _, _, _, .cons r rr, .cons d dd => by
    obtain ⟨h1, h2⟩ := each_rel I rr dd
    exact ⟨.cons r h1, .cons (Dp.reads I _ _ _ d r) h2⟩
theorem vals_each : ∀ {bs : List (V × PyData)} {us : List Value}, PySem.W.EachIs (fun (v : Value) (b : V × PyData) => RelV b.1 v) us bs → Vals (bs.map (·.1)) us
  | _, _, .nil => .nil
  | _, _, .cons r rr => .cons r (vals_each rr)
theorem map_snd_zip {xs : List V} {ds : List PyData} (h : xs.length = ds.length) : (xs.zip ds).map (fun b => b.2) = ds := List.map_snd_zip (by omega)
theorem c_sortD {X : Cx} {K : PySem.W.Frag} {k : Nat} (hK : X.K = K) (hr : Room k X.A) : CallR X (.builtin "sorted") (rSortD K) := by
  subst hK
  intro pins s σ H vs us Q I r h
  obtain ⟨a, xs, ds, rfl, hs, hd, al, so, hz, hdep, q⟩ := h
  have hlen := dpAll_len hd
  obtain ⟨u, rfl, ru⟩ := vals1 r
  obtain rfl : u = Value.ref a := ru
  have hu := hr.units
  have fin : ∀ (its : List Value), its.length = xs.length → ∀ out, out.length = (xs.zip ds).length → PySem.W.EachIs (fun (v : Value) (b : V × PyData) => RelV b.1 v) out ((xs.zip ds).mergeSort (PySem.W.dataLe false (·.2))) →
      EP X pins σ Q (.ref (s.heap.objs.size + 1)) { s with heap := sortedAll s.heap its (List.toArray out) } := by
    intro its hil out ho he
    obtain ⟨ep, at_⟩ := sortedAll_at s.heap its out.toArray
    refine ⟨.ref _, upd H (s.heap.objs.size + 1) (.lst (srtV xs ds)), I.laid (t' := s.toks) (fun _ _ => sortedAll_old) (Nat.le_succ _) ⟨?_, out, ep, vals_each he, at_⟩, rfl, q _ (I.hok.fresh (Nat.le_succ _))⟩
    unfold srtV
    rw [List.length_map, List.length_mergeSort, List.length_zip]
    exact sz5 (by omega)
  have al' : PySem.W.AllAlike ((xs.zip ds).map (fun b => b.2)) := by rw [map_snd_zip hlen]; exact al
  have so' : PySem.W.Sortable ((xs.zip ds).map (fun b => b.2)) := by rw [map_snd_zip hlen]; exact so
  have hL : (xs.zip ds).length ≤ sizeLine := by rw [List.length_zip]; exact sz5 (by omega)
  have hu2 : ∀ b, b ∈ xs.zip ds → X.A.units + 2 + b.2.depth < cLine := fun b hb => by
    have := hdep b.2 (List.of_mem_zip hb).2
    omega
  rcases hs with hs | hs
  · obtain ⟨its, rv, pl, _⟩ := I.list hs
    obtain ⟨e1, e2⟩ := each_rel I rv hd
    exact PySem.W.sorted_data pl.isList e1 e2 al' so' hL hu2 (fin its rv.length.symm)
  · obtain ⟨its, rv, pl, _⟩ := I.tuple hs
    obtain ⟨e1, e2⟩ := each_rel I rv hd
    exact sortedT_data (show s.heap.IsTuple a its.toArray from pl) e1 e2 al' so' hL hu2 (fin its rv.length.symm)
end Wp
set_option Elab.async false
set_option linter.all false
set_option maxRecDepth 100000
set_option maxHeartbeats 4000000
/-! What sorted makes of texts and of other data. -/
namespace Wp
open PySem PySem.Spec PyProof.Rows L2
theorem zip_maps {β : Type} (v : β → V) (e : β → PyData) : ∀ bs : List β, (bs.map v).zip (bs.map e) = bs.map fun b => (v b, e b)
  | [] => rfl
  | b :: r => by simp [zip_maps v e r]
theorem srt_map {β : Type} (bs : List β) (v : β → V) (e : β → PyData) : srtV (bs.map v) (bs.map e) = (bs.mergeSort (PySem.W.dataLe false e)).map v := by
  unfold srtV
  rw [zip_maps, ← List.map_mergeSort (r := PySem.W.dataLe false e) (s := PySem.W.dataLe false (fun b : V × PyData => b.2)) (f := fun b => (v b, e b)) (fun a _ b _ => rfl), List.map_map]
  rfl
def leS (a b : Str) : Bool := decide (a.cps.toList ≤ b.cps.toList)
theorem leS_eq : PySem.W.dataLe false PyData.str = leS := PySem.W.dataLe_str (fun b : Str => b)
theorem leS_trans (a b c : Str) (h1 : leS a b = true) (h2 : leS b c = true) : leS a c = true := decide_eq_true (List.le_trans (of_decide_eq_true h1) (of_decide_eq_true h2))
theorem leS_total (a b : Str) : (leS a b || leS b a) = true := by
  rcases List.le_total a.cps.toList b.cps.toList with h | h
  · rw [show leS a b = true from decide_eq_true h]
    rfl
  · rw [show leS b a = true from decide_eq_true h, Bool.or_true]
theorem leS_anti {a b : Str} (h1 : leS a b = true) (h2 : leS b a = true) : a = b := PySem.W.str_of_cps (List.le_antisymm (of_decide_eq_true h1) (of_decide_eq_true h2))
def srtS (xs : List Str) : List Str := xs.mergeSort leS
theorem srtS_perm (xs : List Str) : (srtS xs).Perm xs := List.mergeSort_perm xs leS
theorem srtS_asc (xs : List Str) : (srtS xs).Pairwise (fun a b => leS a b = true) := List.pairwise_mergeSort leS_trans leS_total xs
/-- two ascending arrangements are one -/
theorem asc_uniq {xs ys : List Str} (h1 : xs.Pairwise (fun a b => leS a b = true)) (h2 : ys.Pairwise (fun a b => leS a b = true)) (p : xs.Perm ys) : xs = ys := List.Perm.eq_of_pairwise (fun _ _ _ _ a b => leS_anti a b) h1 h2 p
theorem srtS_eq {xs ys : List Str} (h : xs.Perm ys) : srtS xs = srtS ys := asc_uniq (srtS_asc xs) (srtS_asc ys) ((srtS_perm xs).trans (h.trans (srtS_perm ys).symm))
theorem rising_asc : ∀ (p : Str) (l : List Str), risingS p l = true → (p :: l).Pairwise (fun a b => leS a b = true)
  | p, [], _ => List.pairwise_singleton _ _
  | p, x :: r, h => by
    have h : (!ltCps x.cps.toList p.cps.toList && risingS x r) = true := h
    obtain ⟨h1, h2⟩ := Bool.and_eq_true_iff.mp h
    have ih := rising_asc x r h2
    have hpx : leS p x = true := by
      have e : ltCps x.cps.toList p.cps.toList = false := by simpa using h1
      rw [ltCps_eq] at e
      exact decide_eq_true (List.not_lt.mp (of_decide_eq_false e))
    refine List.pairwise_cons.mpr ⟨fun y hy => ?_, ih⟩
    rcases List.mem_cons.mp hy with rfl | hy
    · exact hpx
    · exact leS_trans _ _ _ hpx ((List.pairwise_cons.mp ih).1 y hy)
theorem sortedS_asc {l : List Str} (h : sortedS l = true) : l.Pairwise (fun a b => leS a b = true) := by
  cases l with
  | nil => exact .nil
  | cons p r => exact rising_asc p r h
theorem sortedS_uniq {xs ys : List Str} (h1 : sortedS xs = true) (h2 : sortedS ys = true) (p : xs.Perm ys) : xs = ys := asc_uniq (sortedS_asc h1) (sortedS_asc h2) p
section
variable {K : PySem.W.Frag} {H : Hp} {Q : VK} {p : Addr} {xs : List Str}
theorem alike_strs (xs : List Str) : PySem.W.AllAlike (xs.map PyData.str) := PySem.W.AllAlike.of fun _ _ => rfl
theorem sortable_strs (xs : List Str) : PySem.W.Sortable (xs.map PyData.str) := PySem.W.Sortable.others fun b => ⟨(fun z => by cases z), fun ys z => by cases z⟩
theorem depth_strs (xs : List Str) : ∀ d ∈ xs.map PyData.str, d.depth ≤ 20 := fun d hd => by
  obtain ⟨z, _, rfl⟩ := List.mem_map.mp hd
  simp [PyData.depth]
theorem r_sortS (h : SeqV K H p (xs.map V.str)) (hz : xs.length ≤ 1000000) (q : ∀ t H', H t = none → Same H H' → H' t = some (.lst ((srtS xs).map V.str)) → Q (.ref t) H') : rSortD K [.ref p] H Q := by
  refine ⟨p, _, xs.map .str, rfl, h, dp_strs xs, alike_strs xs, sortable_strs xs, by rw [List.length_map]; exact hz, depth_strs xs, fun t ht => ?_⟩
  rw [srt_map, leS_eq]
  exact q t _ ht (Same.new ht) upd_same
theorem lay_strs : ∀ l : List Str, (∀ z ∈ l, PyData.strOk z = true) → PyData.canLayAll0 (l.map PyData.str) = true ∧ PyData.depthAll (l.map PyData.str) = 0
  | [], _ => ⟨rfl, rfl⟩
  | a :: r, h => by
    obtain ⟨i1, i2⟩ := lay_strs r fun z hz => h z (List.mem_cons_of_mem _ hz)
    refine ⟨?_, ?_⟩
    · rw [List.map_cons, PyData.canLayAll0, i1]
      simp [PyData.canLay0, h a (List.mem_cons_self ..)]
    · rw [List.map_cons, PyData.depthAll, i2]
      simp [PyData.depth]
theorem shp_strs {l : List Str} (h : ∀ z ∈ l, PyData.strOk z = true) : SeqAt.shaped (.list (l.map PyData.str)) = true := by
  obtain ⟨y1, y2⟩ := lay_strs l h
  show (PyData.canLayAll0 _ && decide (PyData.depthAll _ + 1 ≤ 64)) = true
  rw [y1, y2]
  rfl
end
end Wp
set_option Elab.async false
set_option linter.all false
set_option maxRecDepth 100000
set_option maxHeartbeats 4000000
/-! A new dict that is walked and then left; three at once; max of three. -/
namespace Wp
open PySem PySem.Spec PyProof.Rows L2
def kFrz (Q : VK) : VK := fun x H1 => ∃ d kvs, x = .ref d ∧ H1 d = some (.dK kvs) ∧ ∀ od, Q (.ref d) (upd H1 d (.frz od (.dK kvs)))
def tFrz (t : TE) : TE := fun σ H Q => t σ H (kFrz Q)
section
variable {X : Cx} {e : Expr} {t : TE} {σ : L2.St} {H : Hp} {Q : VK} {d : Addr} {kvs : List (Key × V)}
theorem pe_frz (h : PE X e t) : PE X e (tFrz t) := by
  refine ⟨fun pins s σ H Q I hw => thn (h.run pins s σ H _ I hw) fun v s1 ⟨x, H1, I1, r, d, kvs, ex, hd, q⟩ => ?_⟩
  obtain ⟨od, I2⟩ := I1.lock hd True.intro
  exact ⟨.ref d, _, I2, by rw [← ex]; exact r, q od⟩
theorem r_frz (q : t σ H (kFrz Q)) : tFrz t σ H Q := q
theorem r_kFrz (h : H d = some (.dK kvs)) (q : ∀ od H', H' d = some (.frz od (.dK kvs)) → But d H H' → (∀ b, H' b = none → H b = none) → Q (.ref d) H') : kFrz Q (.ref d) H :=
  ⟨d, kvs, rfl, h, fun od => q od _ upd_same But.upd fun b e => by
    by_cases hb : b = d
    · rw [hb, upd_same] at e
      cases e
    · rw [upd_ne hb] at e
      exact e⟩
end
section
variable {ta : TA} {D : Ends} {σ : L2.St} {H : Hp} {i j l : Nat} {x y z : V} {Q : VK}
def kPar3 (i j l : Nat) (D : Ends) (σ : L2.St) : List V → Hp → Prop := fun vs H1 => ∃ u v w, vs = [u, v, w] ∧ D.nx (((σ.set i (some u)).set j (some v)).set l (some w)) H1
theorem r_par3 (q : ta σ H (kPar3 i j l D σ)) : tPar3 i j l ta D σ H := q
theorem r_kPar3 (q : D.nx (((σ.set i (some x)).set j (some y)).set l (some z)) H) : kPar3 i j l D σ [x, y, z] H := ⟨x, y, z, rfl, q⟩
theorem r_max3 {a b c : Int} (q : ∀ m : Int, Q (.int m) H) : rNuC3 nuMax3 [.int a, .int b, .int c] H Q := by
  have h2 : ∀ a b : Int, ∃ m : Int, nuMax2 (.int a) (.int b) = some (.int m) := fun a b => by
    have e : nuMax2 (.int a) (.int b) = some (if decide (a < b) = true then V.int b else V.int a) := rfl
    rw [e]
    by_cases h : a < b
    · exact ⟨b, by rw [if_pos (decide_eq_true h)]⟩
    · exact ⟨a, by rw [if_neg (by rw [decide_eq_false h]; decide)]⟩
  obtain ⟨m, hm⟩ := h2 a b
  obtain ⟨n, hn⟩ := h2 m c
  exact ⟨_, _, _, _, rfl, by show (nuMax2 (.int a) (.int b)).bind _ = _; rw [hm]; exact hn, q n⟩
end
/-! data that can stand in lists that are compared -/
structure GoodD (K : PySem.W.Frag) (H : Hp) (v : V) (d : PyData) : Prop where
  p : Dp K H v d
  l : PyData.canLay0 d = true
  h : d.depth ≤ 20
theorem GoodD.keep {K : PySem.W.Frag} {H H' : Hp} {v : V} {d : PyData} (g : GoodD K H v d) (e : Same H H') : GoodD K H' v d := ⟨Dp.mono e g.p, g.l, g.h⟩
/-- a list of such data -/
inductive GoodL (K : PySem.W.Frag) (H : Hp) : List V → List PyData → Prop
  | nil : GoodL K H [] []
  | cons {v : V} {d : PyData} {vs : List V} {ds : List PyData} : GoodD K H v d → GoodL K H vs ds → GoodL K H (v :: vs) (d :: ds)
section
variable {K : PySem.W.Frag} {H H' : Hp} {vs : List V} {ds : List PyData} {p q : Addr} {Q : VK} {v : V} {d : PyData}
theorem GoodL.dp (g : GoodL K H vs ds) : DpAll K H vs ds ∧ PyData.canLayAll0 ds = true ∧ PyData.depthAll ds ≤ 20 ∧ vs.length = ds.length := by
  induction g with
  | nil => exact ⟨.nil, rfl, Nat.zero_le _, rfl⟩
  | @cons v d vs ds h _ ih =>
    obtain ⟨h1, h2, h3, h4⟩ := ih
    refine ⟨.cons h.p h1, ?_, ?_, by simp [h4]⟩
    · rw [PyData.canLayAll0, h.l, h2]
      rfl
    · rw [PyData.depthAll]
      have := h.h
      omega
theorem GoodL.keep (g : GoodL K H vs ds) (e : Same H H') : GoodL K H' vs ds := by
  induction g with
  | nil => exact .nil
  | cons h _ ih => exact .cons (h.keep e) ih
theorem GoodL.snoc (g : GoodL K H vs ds) (h : GoodD K H v d) : GoodL K H (vs ++ [v]) (ds ++ [d]) := by
  induction g with
  | nil => exact .cons h .nil
  | cons h' _ ih => exact .cons h' ih
theorem GoodD.int (i : Int) : GoodD K H (.int i) (.int i) := ⟨.int i, rfl, by simp [PyData.depth]⟩
theorem GoodD.str {z : Str} (h : PyData.strOk z = true) : GoodD K H (.str z) (.str z) := ⟨.str z, h, by simp [PyData.depth]⟩
/-- a tuple, a list of good data, not too deep -/
theorem GoodL.tup (g : GoodL K H vs ds) (h : PyData.depthAll ds ≤ 18) (hp : H p = some (.tup vs)) : GoodD K H (.ref p) (.tuple ds) := by
  obtain ⟨h1, h2, _, _⟩ := g.dp
  exact ⟨.tup (SqT.of hp) h1, h2, by rw [PyData.depth]; omega⟩
theorem GoodL.lst (g : GoodL K H vs ds) (h : PyData.depthAll ds ≤ 18) (hp : H p = some (.lst vs)) : GoodD K H (.ref p) (.list ds) := by
  obtain ⟨h1, h2, _, _⟩ := g.dp
  exact ⟨.lst (SqL.of hp) h1, h2, by rw [PyData.depth]; omega⟩
/-- xs != [] -/
theorem r_neNil (g : GoodL K H vs ds) (hp : H p = some (.lst vs)) (hq : H q = some (.lst [])) (k : Q (.bl (!decide (vs = []))) H) : rNeD K (.ref p) (.ref q) H Q := by
  obtain ⟨h1, h2, h3, h4⟩ := g.dp
  refine ⟨.list ds, .list [], .lst (SqL.of hp) h1, .lst (SqL.of hq) .nil, ?_, by decide +kernel, ?_⟩
  · show (PyData.canLayAll0 ds && decide (PyData.depthAll ds + 1 ≤ 64)) = true
    rw [h2, decide_eq_true (by omega)]
    rfl
  · have e : PyData.eqv (.list ds) (.list []) = decide (vs = []) := by
      show PyData.eqvAll ds [] = _
      cases ds with
      | nil =>
        have : vs = [] := List.length_eq_zero_iff.mp h4
        rw [this]
        rfl
      | cons a r =>
        cases vs with
        | nil => cases h4
        | cons b s =>
          show PyData.eqvAll (a :: r) [] = _
          simp [PyData.eqvAll]
    rw [e]
    exact k
end
/-! a list, whatever is in it, against [] -/
def rNeNil (K : PySem.W.Frag) : R2 := fun x y H Q => ∃ (p q : Addr) (xs : List V), x = .ref p ∧ y = .ref q ∧ SqL K H p xs ∧ SqL K H q [] ∧ Q (.bl (!decide (xs = []))) H
def rEqNil (K : PySem.W.Frag) : R2 := fun x y H Q => ∃ (p q : Addr) (xs : List V), x = .ref p ∧ y = .ref q ∧ SqL K H p xs ∧ SqL K H q [] ∧ Q (.bl (decide (xs = []))) H
section
variable {X : Cx} {K : PySem.W.Frag} {H : Hp} {Q : VK} {p q : Addr} {xs : List V}
theorem nil_cmp (hu : X.A.units < cLine) {pins : List (Addr × Obj)} {s : Shared} {σ : L2.St} (I : Inv X pins σ H s) (h1 : SqL X.K H p xs) (h2 : SqL X.K H q []) :
    (∀ (R : Value → Shared → Prop) (E : Value → Shared → Prop), R (.bool (decide (xs = []))) s → wpAny (model X.prog X.w) X.A (compareOp .Eq (.ref p) (.ref q)) R E s) ∧
    (∀ (R : Value → Shared → Prop) (E : Value → Shared → Prop), R (.bool (!decide (xs = []))) s → wpAny (model X.prog X.w) X.A (compareOp .NotEq (.ref p) (.ref q)) R E s) := by
  obtain ⟨us, rv, p1, _⟩ := I.list h1
  obtain ⟨ws, rw2, p2, _⟩ := I.list h2
  have e2 : ws = [] := by
    cases rw2
    rfl
  subst e2
  cases xs with
  | nil =>
    have e1 : us = [] := by
      cases rv
      rfl
    subst e1
    refine ⟨fun R E hR => ?_, fun R E hR => ?_⟩
    · exact SeqAt.eq_listAt (e := fun _ => true) p1.isList p2.isList rfl hu (fun j h => absurd h (by simp)) (by simpa using hR)
    · exact SeqAt.RcNeAt.lists (e := fun _ => true) p1.isList p2.isList rfl hu (fun j h => absurd h (by simp)) X.prog X.w E R (by simpa using hR)
  | cons v vs =>
    have hz : (us.toArray.size != ([] : List Value).toArray.size) = true := by
      have := rv.length
      cases us with
      | nil => cases this
      | cons a r => simp
    refine ⟨fun R E hR => ?_, fun R E hR => ?_⟩
    · exact SeqAt.eq_list_lengthsAt p1.isList p2.isList hz hu (by simpa using hR)
    · exact SeqAt.RcNeAt.lists_lengths p1.isList p2.isList hz hu X.prog X.w E R (by simpa using hR)
theorem neNilK (h : X.K = K) (hu : X.A.units + 64 < cLine) : OpR X (compareOp .NotEq) (rNeNil K) := by
  subst h
  intro pins s σ H x y v u Q I rx ry h
  obtain ⟨p, q, xs, rfl, rfl, h1, h2, k⟩ := h
  obtain rfl : v = .ref p := rx
  obtain rfl : u = .ref q := ry
  exact (nil_cmp (by omega) I h1 h2).2 _ _ ⟨.bl _, H, I, rfl, k⟩
theorem eqNilK (h : X.K = K) (hu : X.A.units + 64 < cLine) : OpR X (compareOp .Eq) (rEqNil K) := by
  subst h
  intro pins s σ H x y v u Q I rx ry h
  obtain ⟨p, q, xs, rfl, rfl, h1, h2, k⟩ := h
  obtain rfl : v = .ref p := rx
  obtain rfl : u = .ref q := ry
  exact (nil_cmp (by omega) I h1 h2).1 _ _ ⟨.bl _, H, I, rfl, k⟩
theorem r_neNilA (h1 : SqL K H p xs) (h2 : SqL K H q []) (k : Q (.bl (!decide (xs = []))) H) : rNeNil K (.ref p) (.ref q) H Q := ⟨p, q, xs, rfl, rfl, h1, h2, k⟩
theorem r_eqNilA (h1 : SqL K H p xs) (h2 : SqL K H q []) (k : Q (.bl (decide (xs = []))) H) : rEqNil K (.ref p) (.ref q) H Q := ⟨p, q, xs, rfl, rfl, h1, h2, k⟩
end
end Wp
set_option Elab.async false
set_option linter.all false
set_option maxRecDepth 100000
set_option maxHeartbeats 4000000
/-! repr of data: how long it is at most. -/
namespace Wp
open PySem PySem.Spec PyProof.Rows L2
mutual
/-- no dicts, ints below 10 ^ 60 -/
def smI : PyData → Bool
  | .none => true
  | .bool _ => true
  | .int i => decide (i.natAbs < 10 ^ 60)
  | .str x => x.cps.toList.all fun c => decide (c < 16 ^ 8)
  | .list xs => smAll xs
  | .tuple xs => smAll xs
  | .dict _ => false
def smAll : List PyData → Bool
  | [] => true
  | x :: xs => smI x && smAll xs
end
mutual
def wz : PyData → Nat
  | .none => 4
  | .bool _ => 5
  | .int _ => 61
  | .str x => 10 * x.cps.size + 8
  | .list xs => wzAll xs + 3
  | .tuple xs => wzAll xs + 3
  | .dict _ => 0
def wzAll : List PyData → Nat
  | [] => 0
  | x :: xs => wz x + 2 + wzAll xs
end
theorem smAll_cons {x : PyData} {xs : List PyData} : smAll (x :: xs) = (smI x && smAll xs) := by rw [smAll]
theorem shownAll_len : ∀ xs : List PyData, (PyData.shownAll xs).length = xs.length
  | [] => by simp [PyData.shownAll]
  | x :: xs => by simp [PyData.shownAll, shownAll_len xs]
mutual
theorem shown_wz : ∀ d : PyData, smI d = true → d.shown.length ≤ wz d
  | .none, _ => by
    simp only [PyData.shown, wz]
    decide
  | .bool b, _ => by
    simp only [PyData.shown, wz]
    cases b <;> decide
  | .int i, h => by
    have e := int_text_length_le10 (k := 60) (by decide) (of_decide_eq_true (by simpa [smI] using h))
    simp only [PyData.shown, wz]
    rw [PySem.ofString_length]
    exact e
  | .str x, h => by
    have e := PyData.shown_le 8 (by decide) (.str x) (by simpa [PyData.leavesShort, smI] using h)
    simp only [PyData.weight] at e
    simp only [wz]
    omega
  | .list xs, h => by
    have h1 := shown_wzAll xs (by simpa [smI] using h)
    have h2 := listText_len_le (PyData.shownAll xs)
    rw [shownAll_len] at h2
    simp only [PyData.shown, wz]
    omega
  | .tuple xs, h => by
    have h1 := shown_wzAll xs (by simpa [smI] using h)
    have h2 := tupleText_len_le (PyData.shownAll xs)
    rw [shownAll_len] at h2
    simp only [PyData.shown, wz]
    omega
  | .dict kvs, h => by simp [smI] at h
theorem shown_wzAll : ∀ xs : List PyData, smAll xs = true → ((PyData.shownAll xs).map (·.length)).sum + 2 * xs.length ≤ wzAll xs
  | [], _ => by simp [PyData.shownAll, wzAll]
  | x :: xs, h => by
    rw [smAll_cons] at h
    obtain ⟨h1, h2⟩ := Bool.and_eq_true_iff.mp h
    have e1 := shown_wz x h1
    have e2 := shown_wzAll xs h2
    simp only [PyData.shownAll, List.map_cons, List.sum_cons, List.length_cons, wzAll]
    omega
end
mutual
theorem show_sm : ∀ d : PyData, smI d = true → d.showable = true ∧ d.hasDict = false
  | .none, _ => by simp [PyData.showable, PyData.hasDict]
  | .bool b, _ => by simp [PyData.showable, PyData.hasDict]
  | .int i, h => by
    have e : i.natAbs < 10 ^ 60 := of_decide_eq_true (by simpa [smI] using h)
    refine ⟨?_, by simp [PyData.hasDict]⟩
    simp only [PyData.showable, decide_eq_true_eq]
    by_cases h0 : i.natAbs = 0
    · rw [h0]
      decide
    · exact (Nat.log2_lt h0).mpr (Nat.lt_of_lt_of_le e (by decide +kernel))
  | .str x, _ => by simp [PyData.showable, PyData.hasDict]
  | .list xs, h => by
    have e := show_smAll xs (by simpa [smI] using h)
    simpa [PyData.showable, PyData.hasDict] using e
  | .tuple xs, h => by
    have e := show_smAll xs (by simpa [smI] using h)
    simpa [PyData.showable, PyData.hasDict] using e
  | .dict kvs, h => by simp [smI] at h
theorem show_smAll : ∀ xs : List PyData, smAll xs = true → PyData.showableAll xs = true ∧ PyData.hasDictAll xs = false
  | [], _ => by simp [PyData.showableAll, PyData.hasDictAll]
  | x :: xs, h => by
    rw [smAll_cons] at h
    obtain ⟨h1, h2⟩ := Bool.and_eq_true_iff.mp h
    obtain ⟨e1, e2⟩ := show_sm x h1
    obtain ⟨e3, e4⟩ := show_smAll xs h2
    simp [PyData.showableAll, PyData.hasDictAll, e1, e2, e3, e4]
end
section
variable {K : PySem.W.Frag} {H : Hp} {Q : VK} {v : V} {d : PyData}
theorem r_repr (hd : Dp K H v d) (h1 : smI d = true) (h2 : d.depth ≤ 60) (h3 : wz d ≤ 16777216) (q : Q (.str d.shown) H) : rRepr K [v] H Q := by
  obtain ⟨e1, e2⟩ := show_sm d h1
  exact ⟨v, d, rfl, hd, e1, h2, by rw [sizeLine_eq]; exact Nat.le_trans (shown_wz d h1) h3, e2, q⟩
theorem sm_ints : ∀ {ns : List Int}, (∀ n ∈ ns, n.natAbs < 10 ^ 60) → smAll (ns.map PyData.int) = true
  | [], _ => by simp [smAll]
  | n :: r, h => by
    rw [List.map_cons, smAll_cons, sm_ints fun m hm => h m (List.mem_cons_of_mem _ hm)]
    simp [smI, h n (List.mem_cons_self ..)]
theorem wz_ints : ∀ ns : List Int, wzAll (ns.map PyData.int) = 63 * ns.length
  | [] => by simp [wzAll]
  | n :: r => by
    simp only [List.map_cons, wzAll, wz, List.length_cons]
    rw [wz_ints r]
    omega
end
end Wp
set_option Elab.async false
set_option linter.all false
set_option maxRecDepth 100000
set_option maxHeartbeats 4000000
/-! Dicts from ints to ints; lists of pairs of ints. -/
namespace Wp
open PySem PySem.Spec PyProof.Rows L2
def encT (t : List (Int × Int)) : List (Key × V) := t.map fun p => (Sum.inl p.1, V.int p.2)
theorem valV_enc (z : Int) : ∀ t : List (Int × Int), valV (encT t) (Sum.inl z : Key) = (lookT t z).map V.int
  | [] => rfl
  | (k, c) :: r => by
    have := valV_enc z r
    show valV ((Sum.inl k, V.int c) :: encT r) (Sum.inl z : Key) = (if k = z then some c else lookT r z).map V.int
    by_cases h : k = z
    · rw [if_pos h, valV_pos (by rw [h])]
      rfl
    · rw [if_neg h, valV_neg (fun e => h (Sum.inl.inj e)), this]
theorem enc_any (z : Int) : ∀ t : List (Int × Int), ((encT t).any fun kv => decide (kv.1 = (Sum.inl z : Key))) = t.any fun p => decide (p.1 = z)
  | [] => rfl
  | (k, c) :: r => by
    have := enc_any z r
    show (decide ((Sum.inl k : Key) = Sum.inl z) || (encT r).any _) = (decide (k = z) || r.any _)
    rw [this]
    congr 1
    exact decide_eq_decide.mpr ⟨fun e => Sum.inl.inj e, fun e => by rw [e]⟩
theorem putK_enc (t : List (Int × Int)) (z c : Int) : putK (encT t) (Sum.inl z : Key) (.int c) = encT (putI t z c) := by
  unfold putK putI
  rw [enc_any]
  split
  · unfold encT
    rw [List.map_map, List.map_map]
    refine List.map_congr_left fun p _ => ?_
    show (if (Sum.inl p.1 : Key) = Sum.inl z then (Sum.inl p.1, V.int c) else (Sum.inl p.1, V.int p.2)) = (Sum.inl (if p.1 = z then (p.1, c) else p).1, V.int (if p.1 = z then (p.1, c) else p).2)
    by_cases h : p.1 = z
    · rw [if_pos (by rw [h]), if_pos h]
    · rw [if_neg (fun e => h (Sum.inl.inj e)), if_neg h]
  · unfold encT
    rw [List.map_append]
    rfl
theorem enc_keys (t : List (Int × Int)) : (encT t).map (·.1) = (t.map (·.1)).map (Sum.inl : Int → Key) := by
  unfold encT
  rw [List.map_map, List.map_map]
  rfl
theorem enc_kV (t : List (Int × Int)) : ((encT t).map fun kv => kV kv.1) = (t.map (·.1)).map V.int := by
  unfold encT
  rw [List.map_map, List.map_map]
  rfl
theorem enc_len (t : List (Int × Int)) : (encT t).length = t.length := List.length_map _
/-- pairs of ints in tuples -/
inductive PLs (H : Hp) : List V → List (Int × Int) → Prop
  | nil : PLs H [] []
  | cons {t : Addr} {a b : Int} {vs : List V} {ps : List (Int × Int)} : H t = some (.tup [.int a, .int b]) → PLs H vs ps → PLs H (.ref t :: vs) ((a, b) :: ps)
theorem PLs.keep {H H' : Hp} {vs : List V} {ps : List (Int × Int)} (h : PLs H vs ps) (e : ∀ t xs, H t = some (.tup xs) → H' t = some (.tup xs)) : PLs H' vs ps := by
  induction h with
  | nil => exact .nil
  | cons h _ ih => exact .cons (e _ _ h) ih
theorem PLs.snoc {H : Hp} {vs : List V} {ps : List (Int × Int)} {t : Addr} {a b : Int} (h : PLs H vs ps) (ht : H t = some (.tup [.int a, .int b])) : PLs H (vs ++ [.ref t]) (ps ++ [(a, b)]) := by
  induction h with
  | nil => exact .cons ht .nil
  | cons h _ ih => exact .cons h ih
theorem PLs.len {H : Hp} {vs : List V} {ps : List (Int × Int)} (h : PLs H vs ps) : vs.length = ps.length := by
  induction h with
  | nil => rfl
  | cons _ _ ih => simp [ih]
def encP (p : Int × Int) : PyData := .tuple [.int p.1, .int p.2]
theorem PLs.dp {K : PySem.W.Frag} {H : Hp} {vs : List V} {ps : List (Int × Int)} (h : PLs H vs ps) : DpAll K H vs (ps.map encP) := by
  induction h with
  | nil => exact .nil
  | cons h _ ih => exact .cons (.tup (SqT.of h) (.cons (.int _) (.cons (.int _) .nil))) ih
theorem PLs.of_items {H : Hp} : ∀ {ts : List Addr} {t : List (Int × Int)}, Paired (fun (t : Addr) (q : Key × V) => H t = some (.tup [kV q.1, q.2])) ts (encT t) → PLs H (ts.map V.ref) t
  | [], [], _ => .nil
  | _ :: _, (a, b) :: r, .cons h hr => .cons h (of_items hr)
theorem sm_pairs : ∀ {ps : List (Int × Int)}, (∀ p ∈ ps, p.1.natAbs < 10 ^ 60 ∧ p.2.natAbs < 10 ^ 60) → smAll (ps.map encP) = true ∧ wzAll (ps.map encP) = 131 * ps.length
  | [], _ => ⟨rfl, by simp [wzAll]⟩
  | r :: rs, h => by
    obtain ⟨h1, h2⟩ := sm_pairs fun r' hr' => h r' (List.mem_cons_of_mem _ hr')
    obtain ⟨a1, a2⟩ := h r (List.mem_cons_self ..)
    constructor
    · rw [List.map_cons, smAll_cons, h1, Bool.and_true]
      simp only [encP, smI, smAll_cons]
      rw [decide_eq_true a1, decide_eq_true a2]
      simp [smAll]
    · rw [List.map_cons, wzAll]
      simp only [encP, wz, wzAll, List.length_cons]
      omega
theorem depth_pairs : ∀ rs : List (Int × Int), PyData.depthAll (rs.map encP) ≤ 2
  | [] => by simp [PyData.depthAll]
  | r :: rs => by
    have := depth_pairs rs
    simp only [List.map_cons, PyData.depthAll, encP, PyData.depth]
    omega
section
variable {K : PySem.W.Frag} {H : Hp} {p a b : Addr} {vs : List V} {ps : List (Int × Int)} {Q : VK} {σ : L2.St} {te td ty tx : TE} {t u : List (Int × Int)} {i j : Int} {D : Ends}
theorem r_reprP (h : SqL K H p vs) (hr : PLs H vs ps) (ok : ∀ p ∈ ps, p.1.natAbs < 10 ^ 60 ∧ p.2.natAbs < 10 ^ 60) (hz : ps.length ≤ 1000) (q : Q (.str (PyData.list (ps.map encP)).shown) H) : rRepr K [.ref p] H Q := by
  obtain ⟨h1, h2⟩ := sm_pairs ok
  refine r_repr (d := .list (ps.map encP)) (.lst h hr.dp) ?_ ?_ ?_ q
  · simpa [smI] using h1
  · have := depth_pairs ps
    simp only [PyData.depth]
    omega
  · simp only [wz]
    omega
theorem r_reprI {ns : List Int} (h : SqL K H p (ns.map V.int)) (ok : ∀ n ∈ ns, n.natAbs < 10 ^ 60) (hz : ns.length ≤ 1000) (q : Q (.str (PyData.list (ns.map PyData.int)).shown) H) : rRepr K [.ref p] H Q := by
  refine r_repr (d := .list (ns.map PyData.int)) (.lst h (dp_ints ns)) ?_ ?_ ?_ q
  · simpa [smI] using sm_ints ok
  · have := dep_ints ns
    simp only [PyData.depth]
    omega
  · simp only [wz]
    rw [wz_ints]
    omega
def kDGet2z (a : Addr) (Q : VK) (y : V) : VK := fun z H3 => ∃ o, DGet H3 a y o ∧ Q (o.getD z) H3
def kDGet2 (ty tx : TE) (σ : L2.St) (Q : VK) : VK := fun x H1 => ∃ a, x = .ref a ∧ IsD H1 a ∧ ty σ H1 fun y H2 => tx σ H2 (kDGet2z a Q y)
theorem r_dget2 (q : td σ H (kDGet2 ty tx σ Q)) : tDGet2 td ty tx σ H Q := q
theorem r_kDGet2 {kvs : List (Key × V)} (h : H a = some (.dK kvs)) (q : ty σ H fun y H2 => tx σ H2 (kDGet2z a Q y)) : kDGet2 ty tx σ Q (.ref a) H := ⟨a, rfl, .inl ⟨kvs, .inl h⟩, q⟩
theorem r_kDGet2z (h : H a = some (.dK (encT t))) (q : Q (.int ((lookT t i).getD j)) H) : kDGet2z a Q (.int i) (.int j) H := by
  refine ⟨_, .inl ⟨encT t, Sum.inl i, .inl h, rfl, rfl⟩, ?_⟩
  rw [valV_enc]
  cases h : lookT t i with
  | none => rw [h] at q; exact q
  | some c => rw [h] at q; exact q
theorem r_kDGetT {c : Int} (h : H a = some (.dK (encT t))) (e : lookT t i = some c) (q : Q (.int c) H) : kDGet Q (.ref a) (.int i) H := r_kDGetI h (by rw [valV_enc, e]; rfl) q
theorem r_kDPutT {c : Int} (h : H a = some (.dK (encT t))) (hz : t.length < 1000000) (q : ∀ H', But a H H' → H' a = some (.dK (encT (putI t i c))) → D.nx σ H') : kDPut D σ (.int c) (.ref a) (.int i) H :=
  ⟨a, _, rfl, .inl ⟨encT t, Sum.inl i, h, rfl, sz6 (by rw [enc_len]; exact hz), rfl⟩, q _ But.upd (by rw [← putK_enc]; exact upd_same)⟩
theorem r_neDT {xs ys : List Int} (h1 : H a = some (.dK (encT (tally xs)))) (h2 : H b = some (.dK (encT (tally ys)))) (pm : xs.Perm ys) (q : Q (.bl false) H) : rNeDA (.ref a) (.ref b) H Q := by
  refine ⟨a, b, _, _, rfl, rfl, h1, h2, by rw [enc_len, enc_len]; exact tally_perm_len pm, fun kv hkv => ?_, q⟩
  obtain ⟨z, hz, rfl⟩ := List.mem_map.mp hkv
  refine ⟨?_, rfl⟩
  show valV (encT (tally ys)) (Sum.inl z.1 : Key) = some (V.int z.2)
  rw [valV_enc, ← tally_perm_look pm, look_of_mem (tally_nd xs) hz]
  rfl
def kItems (Q : VK) : VK := fun x H1 => LiI.rItemsL x H1 Q
theorem r_listItems (q : te σ H (kItems Q)) : LiI.tListItems te σ H Q := q
theorem r_kItems (h : H a = some (.dK (encT t))) (q : ∀ p ws H', H p = none → Same H H' → H' p = some (.lst ws) → PLs H' ws t → Q (.ref p) H') : kItems Q (.ref a) H :=
  ⟨a, _, rfl, h, fun H' p ts e np _ _ hp hq => q p _ H' np e hp (PLs.of_items hq)⟩
def kBM0 (K : PySem.W.Frag) (T : String) (r : V → List V → Hp → VK → Prop) (Q : VK) : VK := fun x H1 => tyV K T x H1 ∧ r x [] H1 Q
theorem r_bm0 {T : String} {r : V → List V → Hp → VK → Prop} (q : te σ H (kBM0 K T r Q)) : tBM0 K T r te σ H Q := q
theorem r_kClear {kvs : List (Key × V)} (h : H a = some (.dK kvs)) (q : ∀ H', But a H H' → H' a = some (.dK []) → Q .non H') : kBM0 K "dict" rDClear Q (.ref a) H :=
  ⟨.inr (.inr (.inl ⟨rfl, .inl ⟨kvs, h⟩⟩)), a, kvs, rfl, rfl, h, q _ But.upd upd_same⟩
theorem r_sortedI {ns : List Int} (h : SqL K H a (ns.map V.int)) (q : ∀ (ms : List Int) (p : Addr) (H' : Hp), ms.Perm ns → ms.Pairwise (· ≤ ·) → H p = none → Same H H' → H' p = some (.lst (ms.map V.int)) → Q (.ref p) H') : rSortedI K [.ref a] H Q :=
  ⟨a, ns, rfl, h, fun ms p pm ha hp => q ms p _ pm ha hp (Same.new hp) upd_same⟩
def rSortedDI : List V → Hp → VK → Prop := fun xs H Q => ∃ (a : Addr) (kvs : List (Key × V)) (ks : List Int), xs = [.ref a] ∧ Rd H a (.dK kvs) ∧ kvs.map (·.1) = ks.map Sum.inl ∧ ks.length < 64 ∧
    ∀ (ys : List Int) (p : Addr), ys.Perm ks → ys.Pairwise (· ≤ ·) → H p = none → Q (.ref p) (upd H p (.lst (ys.map V.int)))
theorem r_sortedDI (h : H a = some (.dK (encT t))) (hl : t.length < 64) (q : ∀ (ys : List Int) (p : Addr) (H' : Hp), ys.Perm (t.map (·.1)) → ys.Pairwise (· ≤ ·) → H p = none → Same H H' → H' p = some (.lst (ys.map V.int)) → Q (.ref p) H') : rSortedDI [.ref a] H Q :=
  ⟨a, _, t.map (·.1), rfl, .inl h, enc_keys t, by rw [List.length_map]; exact hl, fun ys p pm ha hp => q ys p _ pm ha hp (Same.new hp) upd_same⟩
theorem r_listDT (h : H p = some (.dK (encT t))) (k : ∀ q H', H q = none → Same H H' → H' q = some (.lst ((t.map (·.1)).map V.int)) → Q (.ref q) H') : rListD' [.ref p] H Q :=
  r_listD h fun q H' nq e hq => k q H' nq e (by rw [← enc_kV]; exact hq)
theorem r_minI {ns : List Int} (h : SqL K H p (ns.map V.int)) (h0 : 0 < ns.length) (k : ∀ m, m ∈ ns → (∀ y ∈ ns, m ≤ y) → Q (.int m) H) : rMin K [.ref p] H Q := ⟨p, ns, rfl, h, h0, k⟩
theorem r_maxI {ns : List Int} (h : SqL K H p (ns.map V.int)) (h0 : 0 < ns.length) (k : ∀ m, m ∈ ns → (∀ y ∈ ns, y ≤ m) → Q (.int m) H) : rMax K [.ref p] H Q := ⟨p, ns, rfl, h, h0, k⟩
theorem cutV_takeL {xs : List V} {i : Int} (h0 : 0 ≤ i) : cutV xs none (some i) = xs.take i.toNat := by
  have e : HT.sIx xs.length xs.length (some i) = min i.toNat xs.length := by
    show (if i < 0 then (i + (xs.length : Int)).toNat else min i.toNat xs.length) = _
    rw [if_neg (by omega)]
  unfold cutV
  rw [e]
  show (xs.drop 0).take (min i.toNat xs.length - 0) = _
  rw [List.drop_zero, Nat.sub_zero]
  by_cases h : i.toNat ≤ xs.length
  · rw [Nat.min_eq_left h]
  · rw [Nat.min_eq_right (by omega), List.take_length, List.take_of_length_le (by omega)]
theorem r_slL_take {xs : List V} (h : SqL K H p xs) (h0 : 0 ≤ i) (q : ∀ t H', H t = none → Same H H' → H' t = some (.lst (xs.take i.toNat)) → Q (.ref t) H') : rSlL K (.ref p) none (some i) H Q := by
  refine ⟨p, xs, rfl, h, fun t ht => ?_⟩
  rw [cutV_takeL h0]
  exact q t _ ht (Same.new ht) upd_same
end
section
variable {X : Cx} {K : PySem.W.Frag}
theorem c_sortedIK (h : X.K = K) : CallR X (.builtin "sorted") (rSortedI K) := by subst h; exact cr_sortedI
theorem c_sortedDI (hc : X.calm = true) : CallR X (.builtin "sorted") rSortedDI := call_sortedDI hc
theorem neDAK (hu : X.A.units + 64 < cLine) : OpR X (compareOp .NotEq) rNeDA := op_ne_dictA (by omega)
theorem pe_dclearK {o : Expr} {to : TE} {apos cpos : Pos} (h : X.K = K) (ho : PE X o to) (hbase : attributeBase o "clear" X.env (eval o X.env) = eval o X.env := by rfl) (hline : (apos.endLine == cpos.line) = true := by rfl) : PE X (.Call (.Attribute o "clear" apos) [] [] cpos) (tBM0 K "dict" rDClear to) := by
  subst h
  exact pe_dclear ho hbase hline
end
end Wp
set_option Elab.async false
set_option linter.all false
set_option maxRecDepth 100000
set_option maxHeartbeats 4000000
/-! Courses, plain: rows, what is open, how payments are laid. -/
namespace Wp
open PySem PySem.Spec PyProof.Rows L2
inductive CR
  | buy (d : Int) (k : Str) (c : Int)
  | pay (d : Int) (c : Int)
def CR.day : CR → Int
  | .buy d _ _ => d
  | .pay d _ => d
def CR.sum : CR → Int
  | .buy _ _ c => c
  | .pay _ c => -c
def owedC (rs : List CR) : Int := (rs.map CR.sum).sum
def lastDay (rs : List CR) : Int := (rs.getLast?.map CR.day).getD 0
theorem owedC_snoc (rs : List CR) (r : CR) : owedC (rs ++ [r]) = owedC rs + r.sum := by
  unfold owedC
  rw [List.map_append, List.sum_append]
  simp
theorem lastDay_snoc (rs : List CR) (r : CR) : lastDay (rs ++ [r]) = r.day := by
  unfold lastDay
  simp
def okRow (ks : List Str) (d o : Int) : CR → Prop
  | .buy d' k c => d ≤ d' ∧ k ∈ ks ∧ 1 ≤ c ∧ c ≤ 1000000
  | .pay d' c => d ≤ d' ∧ 1 ≤ c ∧ c ≤ o
def VR (ks : List Str) (rs : List CR) : Prop := ∀ (i : Nat) (r : CR), rs[i]? = some r → okRow ks (lastDay (rs.take i)) (owedC (rs.take i)) r
theorem VR.nil (ks : List Str) : VR ks [] := fun i r h => by simp at h
theorem VR.snoc {ks : List Str} {rs : List CR} {r : CR} (h : VR ks rs) (hr : okRow ks (lastDay rs) (owedC rs) r) : VR ks (rs ++ [r]) := fun i x hx => by
  by_cases hi : i < rs.length
  · rw [List.getElem?_append_left hi] at hx
    rw [List.take_append_of_le_length (by omega)]
    exact h i x hx
  · have hi2 := (List.getElem?_eq_some_iff.mp hx).1
    rw [List.length_append, List.length_singleton] at hi2
    have e : i = rs.length := by omega
    subst e
    rw [List.getElem?_append_right (Nat.le_refl _), Nat.sub_self] at hx
    obtain rfl := Option.some.inj hx
    rw [List.take_append_of_le_length (Nat.le_refl _), List.take_length]
    exact hr
/-! what is open: rank, row, cents -/
abbrev Op := Int × Int × Int
def ltO (a b : Op) : Prop := a.1 < b.1 ∨ (a.1 = b.1 ∧ a.2.1 < b.2.1)
instance (a b : Op) : Decidable (ltO a b) := by unfold ltO; infer_instance
theorem ltO_trans {a b c : Op} (h1 : ltO a b) (h2 : ltO b c) : ltO a c := by unfold ltO at *; omega
def insO (x : Op) : List Op → List Op
  | [] => [x]
  | y :: S => if ltO y x then y :: insO x S else x :: y :: S
theorem insO_perm (x : Op) : ∀ S : List Op, (insO x S).Perm (x :: S)
  | [] => .refl _
  | y :: S => by
    unfold insO
    split
    · exact ((insO_perm x S).cons y).trans (.swap _ _ _)
    · exact .refl _
theorem insO_asc {x : Op} : ∀ {S : List Op}, S.Pairwise ltO → (∀ y ∈ S, y.2.1 ≠ x.2.1) → (insO x S).Pairwise ltO
  | [], _, _ => by simp [insO]
  | y :: S, h, hx => by
    rw [List.pairwise_cons] at h
    unfold insO
    split
    · rename_i hy
      rw [List.pairwise_cons]
      refine ⟨fun z hz => ?_, insO_asc h.2 fun z hz => hx z (List.mem_cons_of_mem _ hz)⟩
      rcases List.mem_cons.mp ((insO_perm x S).mem_iff.mp hz) with rfl | hz
      · exact hy
      · exact h.1 z hz
    · rename_i hy
      have hxy : ltO x y := by
        have := hx y (List.mem_cons_self ..)
        unfold ltO at *
        omega
      rw [List.pairwise_cons]
      refine ⟨fun z hz => ?_, List.pairwise_cons.mpr h⟩
      rcases List.mem_cons.mp hz with rfl | hz
      · exact hxy
      · exact ltO_trans hxy (h.1 z hz)
def sumO (S : List Op) : Int := (S.map (·.2.2)).sum
theorem sumO_cons (x : Op) (S : List Op) : sumO (x :: S) = x.2.2 + sumO S := by simp [sumO]
theorem sumO_insO (x : Op) (S : List Op) : sumO (insO x S) = x.2.2 + sumO S := by
  unfold sumO
  have : ∀ {l m : List Int}, l.Perm m → l.sum = m.sum := fun {l m} p => by
    induction p with
    | nil => rfl
    | cons x _ ih => simp [ih]
    | swap x y l => simp; omega
    | trans _ _ h1 h2 => exact h1.trans h2
  rw [this ((insO_perm x S).map (·.2.2))]
  simp
/-- a payment laid on what is open: the parts, and what is left -/
def payS : List Op → Int → List (Int × Int) × List Op
  | [], _ => ([], [])
  | o :: S, c => if c ≤ 0 then ([], o :: S) else if c < o.2.2 then ([(o.2.1, c)], (o.1, o.2.1, o.2.2 - c) :: S) else ((o.2.1, o.2.2) :: (payS S (c - o.2.2)).1, (payS S (c - o.2.2)).2)
/-! the dict of what was paid: by row and day -/
abbrev Pd := List ((Int × Int) × Int)
def lookP : Pd → Int × Int → Option Int
  | [], _ => none
  | (k, c) :: r, z => if k = z then some c else lookP r z
def putP (t : Pd) (z : Int × Int) (c : Int) : Pd := if (t.any fun p => decide (p.1 = z)) = true then t.map (fun p => if p.1 = z then (p.1, c) else p) else t ++ [(z, c)]
def addP (t : Pd) (z : Int × Int) (c : Int) : Pd := putP t z ((lookP t z).getD 0 + c)
/-- the open ones as they must be, behind n rows -/
structure SOk (S : List Op) (n : Int) : Prop where
  asc : S.Pairwise ltO
  pos : ∀ o ∈ S, 1 ≤ o.2.2
  at' : ∀ o ∈ S, 0 ≤ o.2.1 ∧ o.2.1 < n
  nd : (S.map (·.2.1)).Nodup
theorem SOk.nil : SOk [] 0 := ⟨.nil, fun o h => (by cases h), fun o h => (by cases h), .nil⟩
theorem SOk.mono {S : List Op} {n m : Int} (h : SOk S n) (l : n ≤ m) : SOk S m := ⟨h.asc, h.pos, fun o ho => by have := h.at' o ho; omega, h.nd⟩
theorem SOk.ins {S : List Op} {n r c : Int} (h : SOk S n) (hn : 0 ≤ n) (hc : 1 ≤ c) : SOk (insO (r, n, c) S) (n + 1) := by
  have hne : ∀ y ∈ S, y.2.1 ≠ n := fun y hy => by have := h.at' y hy; omega
  have p := insO_perm (r, n, c) S
  refine ⟨insO_asc h.asc hne, fun o ho => ?_, fun o ho => ?_, ?_⟩
  · rcases List.mem_cons.mp (p.mem_iff.mp ho) with rfl | ho
    · exact hc
    · exact h.pos o ho
  · rcases List.mem_cons.mp (p.mem_iff.mp ho) with rfl | ho
    · show 0 ≤ n ∧ n < n + 1; omega
    · have := h.at' o ho; omega
  · rw [(p.map (·.2.1)).nodup_iff, List.map_cons, List.nodup_cons]
    refine ⟨fun hm => ?_, h.nd⟩
    obtain ⟨y, hy, e⟩ := List.mem_map.mp hm
    exact hne y hy e
theorem SOk.tail {o : Op} {S : List Op} {n : Int} (h : SOk (o :: S) n) : SOk S n := ⟨(List.pairwise_cons.mp h.asc).2, fun x hx => h.pos x (List.mem_cons_of_mem _ hx), fun x hx => h.at' x (List.mem_cons_of_mem _ hx), by have := h.nd; rw [List.map_cons, List.nodup_cons] at this; exact this.2⟩
theorem SOk.less {o : Op} {S : List Op} {n c : Int} (h : SOk (o :: S) n) (hc : c < o.2.2) : SOk ((o.1, o.2.1, o.2.2 - c) :: S) n := by
  obtain ⟨h1, h2, h3, h4⟩ := h
  rw [List.pairwise_cons] at h1
  refine ⟨List.pairwise_cons.mpr ⟨fun y hy => h1.1 y hy, h1.2⟩, fun x hx => ?_, fun x hx => ?_, h4⟩
  · rcases List.mem_cons.mp hx with rfl | hx
    · show 1 ≤ o.2.2 - c; omega
    · exact h2 x (List.mem_cons_of_mem _ hx)
  · rcases List.mem_cons.mp hx with rfl | hx
    · exact h3 o (List.mem_cons_self ..)
    · exact h3 x (List.mem_cons_of_mem _ hx)
theorem sumO_nonneg {S : List Op} (h : ∀ o ∈ S, 1 ≤ o.2.2) : 0 ≤ sumO S := by
  induction S with
  | nil => simp [sumO]
  | cons o S ih =>
    rw [sumO_cons]
    have := h o (List.mem_cons_self ..)
    have := ih fun x hx => h x (List.mem_cons_of_mem _ hx)
    omega
theorem payS_ok : ∀ {S : List Op} {n c : Int}, SOk S n → SOk (payS S c).2 n
  | [], n, c, h => h
  | o :: S, n, c, h => by
    unfold payS
    split
    · exact h
    · split
      · rename_i h1
        exact h.less h1
      · exact payS_ok h.tail
theorem payS_sum : ∀ {S : List Op} {c : Int}, (∀ o ∈ S, 1 ≤ o.2.2) → 0 ≤ c → c ≤ sumO S → sumO (payS S c).2 = sumO S - c
  | [], c, _, h0, h1 => by
    simp [sumO] at h1
    have : c = 0 := by omega
    subst this
    simp [payS, sumO]
  | o :: S, c, h, h0, h1 => by
    unfold payS
    split
    · have : c = 0 := by omega
      subst this
      simp
    · split
      · rw [sumO_cons, sumO_cons]
        show o.2.2 - c + sumO S = _
        omega
      · rw [sumO_cons] at h1 ⊢
        have := payS_sum (S := S) (c := c - o.2.2) (fun x hx => h x (List.mem_cons_of_mem _ hx)) (by omega) (by omega)
        show sumO (payS S (c - o.2.2)).2 = _
        omega
/-- an account: what is open, what was paid -/
structure Ac where
  S : List Op
  P : Pd
def Ac.pay (A : Ac) (d c : Int) : Ac := ⟨(payS A.S c).2, (payS A.S c).1.foldl (fun P x => addP P (x.1, d) x.2) A.P⟩
def Ac.step (rk : Str → Int) (A : Ac) (n : Int) : CR → Ac
  | .buy _ k c => ⟨insO (rk k, n, c) A.S, A.P⟩
  | .pay d c => A.pay d c
def acOf (rk : Str → Int) (rs : List CR) : Ac := (rs.foldl (fun (x : Ac × Int) r => (x.1.step rk x.2 r, x.2 + 1)) (⟨[], []⟩, 0)).1
theorem foldl_ix (rk : Str → Int) : ∀ (rs : List CR) (A : Ac) (n : Int), (rs.foldl (fun (x : Ac × Int) r => (x.1.step rk x.2 r, x.2 + 1)) (A, n)).2 = n + rs.length
  | [], A, n => by simp
  | r :: rs, A, n => by
    rw [List.foldl_cons, foldl_ix rk rs]
    simp
    omega
theorem acOf_snoc (rk : Str → Int) (rs : List CR) (r : CR) : acOf rk (rs ++ [r]) = (acOf rk rs).step rk rs.length r := by
  unfold acOf
  rw [List.foldl_append]
  show ((_ : Ac × Int).1.step rk (_ : Ac × Int).2 r) = _
  rw [foldl_ix]
  simp
theorem acOf_nil (rk : Str → Int) : acOf rk [] = ⟨[], []⟩ := rfl
theorem VR.take {ks : List Str} {rs : List CR} (h : VR ks rs) (n : Nat) : VR ks (rs.take n) := fun i r hr => by
  rw [List.getElem?_take] at hr
  split at hr
  · rename_i hi
    have := h i r hr
    rw [List.take_take, Nat.min_eq_left (by omega)]
    exact this
  · cases hr
/-- behind valid rows the account is as it must be -/
theorem acOf_ok {ks : List Str} (rk : Str → Int) : ∀ (n : Nat) {rs : List CR}, rs.length = n → VR ks rs → SOk (acOf rk rs).S rs.length ∧ sumO (acOf rk rs).S = owedC rs
  | 0, rs, hl, h => by
    obtain rfl := List.eq_nil_of_length_eq_zero hl
    exact ⟨SOk.nil, rfl⟩
  | n + 1, rs, hl, h => by
    obtain ⟨r0, x, rfl⟩ : ∃ r0 x, rs = r0 ++ [x] := ⟨rs.dropLast, rs.getLast (by intro z; rw [z] at hl; simp at hl), (List.dropLast_concat_getLast _).symm⟩
    have hl0 : r0.length = n := by simpa using hl
    have hv : VR ks r0 := by
      have := h.take r0.length
      rwa [List.take_left] at this
    obtain ⟨h1, h2⟩ := acOf_ok rk n hl0 hv
    have hx := h r0.length x (by simp)
    rw [List.take_left] at hx
    rw [acOf_snoc, owedC_snoc]
    have hlen : ((r0 ++ [x]).length : Int) = (r0.length : Int) + 1 := by simp
    rw [hlen]
    cases x with
    | buy d k c =>
      obtain ⟨_, _, hc, _⟩ := hx
      exact ⟨h1.ins (by omega) hc, by show sumO (insO _ _) = _; rw [sumO_insO, h2]; simp only [CR.sum]; omega⟩
    | pay d c =>
      obtain ⟨_, hc, ho⟩ := hx
      refine ⟨(payS_ok h1).mono (by omega), ?_⟩
      show sumO (payS _ c).2 = _
      rw [payS_sum h1.pos (by omega) (by rw [h2]; exact ho), h2]
      simp only [CR.sum]
      omega
def settle (rk : Str → Int) (rs : List CR) (e : Int) : Pd := ((acOf rk rs).pay e (owedC rs)).P
end Wp
set_option Elab.async false
set_option linter.all false
set_option maxRecDepth 100000
set_option maxHeartbeats 4000000
/-! Dicts keyed by pairs of ints; least of pairs; sorted keys; methods of tuples. -/
namespace Wp
open PySem PySem.Spec PyProof.Rows L2
def keyP (z : Int × Int) : List Key := [Sum.inl z.1, Sum.inl z.2]
theorem keyP_inj {a b : Int × Int} (h : keyP a = keyP b) : a = b := by
  unfold keyP at h
  injection h with h1 h2
  injection h2 with h3 _
  exact Prod.ext (Sum.inl.inj h1) (Sum.inl.inj h3)
def encPD (t : Pd) : List (List Key × V) := t.map fun p => (keyP p.1, V.int p.2)
theorem valV_encPD (z : Int × Int) : ∀ t : Pd, valV (encPD t) (keyP z) = (lookP t z).map V.int
  | [] => rfl
  | (k, c) :: r => by
    have := valV_encPD z r
    show valV ((keyP k, V.int c) :: encPD r) (keyP z) = (if k = z then some c else lookP r z).map V.int
    by_cases h : k = z
    · rw [if_pos h, valV_pos (by rw [h])]
      rfl
    · rw [if_neg h, valV_neg (fun e => h (keyP_inj e)), this]
theorem encPD_any (z : Int × Int) : ∀ t : Pd, ((encPD t).any fun kv => decide (kv.1 = keyP z)) = t.any fun p => decide (p.1 = z)
  | [] => rfl
  | (k, c) :: r => by
    have := encPD_any z r
    show (decide (keyP k = keyP z) || (encPD r).any _) = (decide (k = z) || r.any _)
    rw [this]
    congr 1
    exact decide_eq_decide.mpr ⟨fun e => keyP_inj e, fun e => by rw [e]⟩
theorem putK_encPD (t : Pd) (z : Int × Int) (c : Int) : putK (encPD t) (keyP z) (.int c) = encPD (putP t z c) := by
  unfold putK putP
  rw [encPD_any]
  split
  · unfold encPD
    rw [List.map_map, List.map_map]
    refine List.map_congr_left fun p _ => ?_
    show (if keyP p.1 = keyP z then (keyP p.1, V.int c) else (keyP p.1, V.int p.2)) = (keyP (if p.1 = z then (p.1, c) else p).1, V.int (if p.1 = z then (p.1, c) else p).2)
    by_cases h : p.1 = z
    · rw [if_pos (by rw [h]), if_pos h]
    · rw [if_neg (fun e => h (keyP_inj e)), if_neg h]
  · unfold encPD
    rw [List.map_append]
    rfl
theorem encPD_len (t : Pd) : (encPD t).length = t.length := List.length_map _
section
variable {K : PySem.W.Frag} {H : Hp} {p a b : Addr} {Q : VK} {σ : L2.St} {te td ty tx : TE} {ta : TA} {t : Pd} {i d j : Int} {D : Ends}
theorem r_dnewT (q : ∀ p H', H p = none → Same H H' → H' p = some (.dT (encPD [])) → Q (.ref p) H') : tDNewT σ H Q := fun p hp => q p _ hp (Same.new hp) upd_same
theorem r_kDGet2T (h : H a = some (.dT (encPD t))) (q : ty σ H fun y H2 => tx σ H2 (kDGet2z a Q y)) : kDGet2 ty tx σ Q (.ref a) H := ⟨a, rfl, .inr ⟨_, .inl h⟩, q⟩
theorem r_kDGet2zT (h : H a = some (.dT (encPD t))) (hb : H b = some (.tup [.int i, .int d])) (q : Q (.int ((lookP t (i, d)).getD j)) H) : kDGet2z a Q (.ref b) (.int j) H := by
  refine ⟨_, .inr ⟨encPD t, keyP (i, d), b, .inl h, rfl, hb, rfl⟩, ?_⟩
  rw [valV_encPD]
  cases h : lookP t (i, d) with
  | none => rw [h] at q; exact q
  | some c => rw [h] at q; exact q
theorem r_kDGetP {c : Int} (h : H a = some (.dT (encPD t))) (hb : H b = some (.tup [.int i, .int d])) (e : lookP t (i, d) = some c) (q : Q (.int c) H) : kDGet Q (.ref a) (.ref b) H :=
  ⟨a, .int c, rfl, .inr ⟨encPD t, keyP (i, d), b, .inl h, rfl, hb, by rw [valV_encPD, e]; rfl⟩, q⟩
theorem r_kDPutP {c : Int} (h : H a = some (.dT (encPD t))) (hb : H b = some (.tup [.int i, .int d])) (hz : t.length < 1000000) (q : ∀ H', But a H H' → H' a = some (.dT (encPD (putP t (i, d) c))) → D.nx σ H') : kDPut D σ (.int c) (.ref a) (.ref b) H :=
  ⟨a, _, rfl, .inr ⟨encPD t, keyP (i, d), b, h, rfl, hb, sz6 (by rw [encPD_len]; exact hz), rfl⟩, q _ But.upd (by rw [← putK_encPD]; exact upd_same)⟩
/-! del d[k] of a dict from ints -/
def kDDel (D : Ends) (σ : L2.St) (x : V) : VK := fun y H2 => ∃ (a : Addr) (kvs : List (Key × V)) (k : Key), x = .ref a ∧ H2 a = some (.dK kvs) ∧ y = kV k ∧ (valV kvs k).isSome = true ∧ D.nx σ (upd H2 a (.dK (dropK kvs k)))
theorem r_ddel (q : td σ H fun x H1 => ty σ H1 (kDDel D σ x)) : sDDel td ty D σ H := q
def dropI (t : List (Int × Int)) (z : Int) : List (Int × Int) := t.filter fun p => decide (p.1 ≠ z)
theorem dropK_enc (t : List (Int × Int)) (z : Int) : dropK (encT t) (Sum.inl z : Key) = encT (dropI t z) := by
  unfold dropK encT dropI
  rw [List.filter_map]
  congr 1
  refine List.filter_congr fun p _ => ?_
  show decide ((Sum.inl p.1 : Key) ≠ Sum.inl z) = decide (p.1 ≠ z)
  exact decide_eq_decide.mpr ⟨fun h e => h (by rw [e]), fun h e => h (Sum.inl.inj e)⟩
theorem r_kDDel {t : List (Int × Int)} {c : Int} (h : H a = some (.dK (encT t))) (e : lookT t i = some c) (q : ∀ H', But a H H' → H' a = some (.dK (encT (dropI t i))) → D.nx σ H') : kDDel D σ (.ref a) (.int i) H :=
  ⟨a, _, Sum.inl i, rfl, h, rfl, by rw [valV_enc, e]; rfl, q _ But.upd (by rw [← dropK_enc]; exact upd_same)⟩
/-! d[k] op= v of a dict from ints -/
def kDAug (ti : V → V → Hp → VK → Prop) : Prop := True
/-! min(d) of a dict from ints -/
theorem r_minKT {t : List (Int × Int)} (h : H a = some (.dK (encT t))) (hne : t ≠ []) (q : ∀ m, m ∈ t.map (·.1) → (∀ y ∈ t.map (·.1), m ≤ y) → Q (.int m) H) : rMinK [.ref a] H Q :=
  ⟨a, _, t.map (·.1), rfl, h, enc_keys t, by simpa using hne, q⟩
/-! a method of a tuple -/
def kBMF (r : V → List V → Hp → VK → Prop) (t : TA) (σ : L2.St) (Q : VK) : VK := fun x H1 => (∃ p xs, x = .ref p ∧ FrzT H1 p xs) ∧ t σ H1 fun xs H2 => r x xs H2 Q
def tBMF (r : V → List V → Hp → VK → Prop) (to : TE) (t : TA) : TE := fun σ H Q => to σ H (kBMF r t σ Q)
theorem r_bmF {r : V → List V → Hp → VK → Prop} (q : te σ H (kBMF r ta σ Q)) : tBMF r te ta σ H Q := q
theorem r_kBMF {r : V → List V → Hp → VK → Prop} {xs : List V} (h : FrzT H p xs) (q : ta σ H fun ys H2 => r (.ref p) ys H2 Q) : kBMF r ta σ Q (.ref p) H := ⟨⟨p, xs, rfl, h⟩, q⟩
def rTIx (K : PySem.W.Frag) : V → List V → Hp → VK → Prop := fun x xs H Q => ∃ p, ∃ ys : List Str, ∃ z j, x = .ref p ∧ xs = [.str z] ∧ SqT K H p (ys.map V.str) ∧ ys[j]? = some z ∧ (∀ m, m < j → ys[m]? ≠ some z) ∧ Q (.int (j : Nat)) H
theorem r_tix {ys : List Str} {z : Str} (h : SqT K H p (ys.map V.str)) (hz : z ∈ ys) (q : Q (.int (ys.idxOf z : Nat)) H) : rTIx K (.ref p) [.str z] H Q := by
  refine ⟨p, ys, z, ys.idxOf z, rfl, rfl, h, List.getElem?_eq_some_iff.mpr ⟨List.idxOf_lt_length_of_mem hz, List.getElem_idxOf _⟩, fun m hm e => ?_, q⟩
  have hml : m < ys.length := (List.getElem?_eq_some_iff.mp e).1
  have h2 := List.not_of_lt_findIdx (p := fun y => y == z) (xs := ys) (i := m) hm
  rw [(List.getElem?_eq_some_iff.mp e).2] at h2
  simp at h2
end
section
variable {X : Cx} {K : PySem.W.Frag}
theorem pe_tix {o e : Expr} {to : TE} {t : TA} {apos cpos : Pos} (hK : X.K = K) (ho : PE X o to) (ha : PA X [e] t)
    (hbase : attributeBase o "index" X.env (eval o X.env) = eval o X.env := by rfl)
    (hfew : ((backTo cpos (starEach [e] X.env)).all (fun x => !x.1) && (backToKw cpos (keywordEach [] X.env)).all (fun x => x.1.isSome)
      && decide ([e].length + ([] : List Keyword).length + (if ([] : List Keyword).isEmpty then 0 else 1) < 30)) = true := by rfl)
    (hline : (apos.endLine == cpos.line) = true := by rfl) (hs : starEach [e] X.env = (false, eval e X.env) :: starEach [] X.env := by rfl) (hplain : (backTo cpos (starEach [] X.env)).any (·.1) = false := by rfl) :
    PE X (.Call (.Attribute o "index" apos) [e] [] cpos) (tBMF (rTIx K) to t) := by
  subst hK
  refine ⟨fun pins s σ H Q I h => ?_⟩
  refine wpAny_Call_method_late hbase hfew hline rfl (thn (ho.run pins s σ H _ I h) fun v s1 ⟨x, H1, I1, r1, ⟨p, xs, ex, ob, hno, hf⟩, q1⟩ => ?_)
  subst ex
  obtain rfl : v = Value.ref p := r1
  obtain ⟨ho1, hz, its, rv, hT⟩ := (show ObjOk X.prog X.w H1 s1.heap p (.frz ob (.tup xs)) from I1.hok p _ hf)
  refine ⟨"tuple", "tuple.index", PySem.F.plainAttrs_tuple, PySem.F.slot_tuple_index, PySem.F.type_tuple_index, ?_, fun a e => ?_, ?_⟩
  · obtain ⟨o', h1, h2, _⟩ := hT
    exact ⟨o', h1, h2⟩
  · cases e
    exact ⟨ob, ho1, hno⟩
  have hA := ha.run cpos pins s1 σ H1 _ I1 q1
  rw [hs] at hA ⊢
  refine Calls.callWith_builtin (by show (false || (backTo cpos (starEach [] X.env)).any (·.1)) = false; rw [hplain] <;> rfl) (Calls.evalArgs_plain ?_)
  exact thn hA fun us s2 ⟨vs, H2, I2, r2, q2⟩ => mt_tup_index pins s2 σ H2 (.ref p) vs (.ref p) us Q I2 rfl r2 q2
end
end Wp
set_option Elab.async false
set_option linter.all false
set_option maxRecDepth 100000
set_option maxHeartbeats 4000000
/-! sorted(d) of a dict keyed by pairs of ints; min of a list of pairs of ints. -/
namespace Wp
open PySem PySem.Spec PyProof.Rows L2
def leP (p q : Int × Int) : Bool := decide (p.1 < q.1 ∨ (p.1 = q.1 ∧ p.2 ≤ q.2))
theorem leP_eq : PySem.W.dataLe false encP = leP := by
  have := PySem.W.dataLe_ii (fun p : Int × Int => p.1) (fun p : Int × Int => p.2)
  exact this
def srtK (ks : List (Int × Int)) : List (Int × Int) := ks.mergeSort leP
theorem srtK_perm (ks : List (Int × Int)) : (srtK ks).Perm ks := List.mergeSort_perm _ _
theorem PLs.zip {H : Hp} : ∀ (zs : List (Addr × (Int × Int))), (∀ z ∈ zs, H z.1 = some (.tup [.int z.2.1, .int z.2.2])) → PLs H (zs.map fun z => V.ref z.1) (zs.map (·.2))
  | [], _ => .nil
  | z :: zs, h => .cons (h z (List.mem_cons_self ..)) (PLs.zip zs fun y hy => h y (List.mem_cons_of_mem _ hy))
theorem pairs_alike (ks : List (Int × Int)) : PySem.W.AllAlike (ks.map encP) := PySem.W.AllAlike.of fun a b => by simp [encP, PySem.W.alike, PySem.W.alikeAll]
theorem pairs_sortable (ks : List (Int × Int)) : PySem.W.Sortable (ks.map encP) := PySem.W.Sortable.tuples fun r => ⟨_, _, rfl⟩
theorem encP_depth (k : Int × Int) : (encP k).depth ≤ 2 := by simp [encP, PyData.depth, PyData.depthAll]
def rSortDT : List V → Hp → VK → Prop := fun vs H Q => ∃ (a : Addr) (t : Pd), vs = [.ref a] ∧ H a = some (.dT (encPD t)) ∧ t.length ≤ 1000000 ∧
  ∀ (p : Addr) (ws : List V), H p = none → PLs H ws (srtK (t.map (·.1))) → Q (.ref p) (upd H p (.lst ws))
theorem keys_of {H : Hp} : ∀ {t : Pd} {ks : List (List Key × Addr × Value)}, Paired (fun (p : List Key × V) (q : List Key × Addr × Value) => p.1 = q.1 ∧ H q.2.1 = some (.tup (p.1.map kV)) ∧ RelV p.2 q.2.2) (encPD t) ks →
    ∃ zs : List (Addr × (Int × Int)), zs.map (·.2) = t.map (·.1) ∧ (ks.map fun x => x.2.1) = zs.map (·.1) ∧ ∀ z ∈ zs, H z.1 = some (.tup [.int z.2.1, .int z.2.2])
  | [], [], _ => ⟨[], rfl, rfl, fun z h => by cases h⟩
  | (k, c) :: t, q :: ks, .cons h hr => by
    obtain ⟨zs, h1, h2, h3⟩ := keys_of hr
    refine ⟨(q.2.1, k) :: zs, by rw [List.map_cons, List.map_cons, h1], by rw [List.map_cons, List.map_cons, h2], fun z hz => ?_⟩
    rcases List.mem_cons.mp hz with rfl | hz
    · exact h.2.1
    · exact h3 z hz
theorem each_refs {X : Cx} {pins : List (Addr × Obj)} {σ : L2.St} {H : Hp} {s : Shared} (I : Inv X pins σ H s) : ∀ {zs : List (Addr × (Int × Int))}, (∀ z ∈ zs, H z.1 = some (.tup [.int z.2.1, .int z.2.2])) →
    PySem.W.EachIs (fun (v : Value) (b : Addr × (Int × Int)) => v = Value.ref b.1) (zs.map fun z => Value.ref z.1) zs ∧ PySem.W.EachIs (fun (v : Value) (b : Addr × (Int × Int)) => ∃ as, Reads s.heap v (encP b.2) as) (zs.map fun z => Value.ref z.1) zs
  | [], _ => ⟨.nil, .nil⟩
  | z :: zs, h => by
    obtain ⟨h1, h2⟩ := each_refs I fun y hy => h y (List.mem_cons_of_mem _ hy)
    refine ⟨.cons rfl h1, .cons ?_ h2⟩
    exact Dp.reads I _ _ _ (show Dp X.K H (.ref z.1) (encP z.2) from .tup (SqT.of (h z (List.mem_cons_self ..))) (.cons (.int _) (.cons (.int _) .nil))) rfl
theorem c_sortDT {X : Cx} {k : Nat} (hc : X.calm = true) (hr : Room k X.A) : CallR X (.builtin "sorted") rSortDT := by
  intro pins s σ H vs us Q I r h
  obtain ⟨a, t, rfl, ha, hz, q⟩ := h
  obtain ⟨u, rfl, ru⟩ := vals1 r
  obtain rfl : u = Value.ref a := ru
  have hu := hr.units
  obtain ⟨_, hs, ks, pr, o, es, ep, ho, hx, hdt, he, hn⟩ := (show ObjOk X.prog X.w H s.heap a (.dT (encPD t)) from I.hok a _ ha)
  have l1 : es.size = ks.length := size_of_entries he
  have l2 : (encPD t).length = ks.length := Paired.length pr
  rw [encPD_len] at l2
  obtain ⟨zs, z1, z2, z3⟩ := keys_of pr
  have lz : zs.length = t.length := by
    have := congrArg List.length z1
    rwa [List.length_map, List.length_map] at this
  refine Calls.call_function_entry PyProof.Rows.kind_sorted PyProof.Rows.plain_sorted PyProof.Rows.entry_sorted (PyProof.Rows.args_sorted1 _) ?_
  unfold Builtin.«sorted»
  refine wpAny_bind (m := checkCount "sorted" 1 1 _) (wpAny_pure ?_)
  refine wpAny_bind (PySem.W.kdu_collect (A := X.A.in1) (kdl_raw hs hx hdt) (I.ok.hd hc) ho (by rw [l1, ← l2]; exact sz5 hz) fun h' tk acc hk it => ?_)
  have ea : acc.toList = zs.map fun z => Value.ref z.1 := by
    have e0 : acc.toList = ks.map fun x => Value.ref x.2.1 := by
      have hl : acc.toList.length = ks.length := by rw [Array.length_toList, it.1]; exact l1
      apply List.ext_getElem?
      intro j
      rw [List.getElem?_map]
      cases hj : acc.toList[j]? with
      | none =>
        have h1 := List.getElem?_eq_none_iff.mp hj
        rw [List.getElem?_eq_none (by omega)]
        all_goals rfl
      | some v =>
        obtain ⟨en, hen, hv⟩ := it.2 j v (by rw [← Array.getElem?_toList]; exact hj)
        have qe := entry_at he j
        rw [hen] at qe
        cases hb : ks[j]? with
        | none =>
          rw [hb] at qe
          exact nomatch (show some en = none from qe)
        | some b =>
          rw [hb] at qe
          have e2 : en = entryOfKey (tupleKind (mixKind X.prog X.w)) b := Option.some.inj qe
          rw [hv, e2]
          all_goals rfl
    rw [e0]
    have := congrArg (List.map Value.ref) z2
    rw [List.map_map, List.map_map] at this
    exact this
  have I1 : Inv X pins σ H { s with heap := h', toks := tk } := I.kept hk
  have hal : acc.toList.length = zs.length := by rw [ea, List.length_map]
  have hL : acc.toList.length ≤ sizeLine := by rw [hal, lz]; exact sz5 hz
  refine wpAny_bind (wpAny_newList ?_ hL)
  have hoL : (h'.push (seqObj "list" acc.toList.toArray 0)).get? h'.objs.size = some (seqObj "list" acc.toList.toArray 0) := Heap.get?_push_size _ rfl
  show wpAny _ _ _ _ _ { s with heap := h'.push (seqObj "list" acc.toList.toArray 0), toks := tk }
  obtain ⟨g1, g2⟩ := each_refs I1 z3
  rw [← ea] at g1 g2
  have g3 : PySem.W.EachIs (fun (v : Value) (b : Addr × (Int × Int)) => ∃ as, Reads (PySem.W.sortingHeap (h'.push (seqObj "list" acc.toList.toArray 0)) h'.objs.size acc.toList) v (encP b.2) as) acc.toList zs :=
    g2.mono fun _ _ ⟨as, r⟩ => ⟨as, PyProof.Rows.Reads.keeps (fun b ob e => PySem.W.sortingHeap_old (Nat.ne_of_lt (Heap.lt_size e)) (Heap.get?_push_of_some _ e)) r⟩
  have al : PySem.W.AllAlike (zs.map fun b => encP b.2) := by
    have := pairs_alike (zs.map (·.2))
    rwa [List.map_map] at this
  have so : PySem.W.Sortable (zs.map fun b => encP b.2) := by
    have := pairs_sortable (zs.map (·.2))
    rwa [List.map_map] at this
  have S := PySem.W.SortsAt.data (prog := X.prog) (w := X.w) (A := X.A.in1.in1) (s := { s with heap := PySem.W.sortingHeap (h'.push (seqObj "list" acc.toList.toArray 0)) h'.objs.size acc.toList, toks := tk })
    (PySem.W.each_map (R := fun v d => ∃ as, Reads (PySem.W.sortingHeap (h'.push (seqObj "list" acc.toList.toArray 0)) h'.objs.size acc.toList) v d as) (fun b : Addr × (Int × Int) => encP b.2) g3) al so (fun d hd => by
      obtain ⟨b, _, rfl⟩ := List.mem_map.mp hd
      have := encP_depth b.2
      show X.A.units + 1 + 1 + (encP b.2).depth < cLine
      omega)
  refine wpAny_bind (wpAny_holding (wpAny_call_entry PyProof.Rows.slot_list_sort ⟨_, hoL, rfl⟩ PyProof.Rows.entry_list_sort
    (PySem.W.list_sort_vals (s := { s with heap := h'.push (seqObj "list" acc.toList.toArray 0), toks := tk }) hoL S hL ⟨_, rfl, ?_⟩) (PyProof.Rows.args_list_sort _)))
  have out := PySem.W.sortVals_data false g1 g3 al
  obtain ⟨e', he'⟩ := PyProof.Rows.sortedHeap_at (vs := acc.toList) (out := (PySem.W.sortVals _ false acc.toList acc.toList).toArray) hoL
  have hv : Vals ((zs.mergeSort (PySem.W.dataLe false fun b => encP b.2)).map fun z => V.ref z.1) (PySem.W.sortVals (PySem.W.dataKind (PySem.W.sortingHeap (h'.push (seqObj "list" acc.toList.toArray 0)) h'.objs.size acc.toList) (zs.map fun b => encP b.2)) false acc.toList acc.toList) := by
    have : ∀ {bs : List (Addr × (Int × Int))} {us : List Value}, PySem.W.EachIs (fun (v : Value) (b : Addr × (Int × Int)) => v = Value.ref b.1) us bs → Vals (bs.map fun z => V.ref z.1) us := by
      intro bs us h
      induction h with
      | nil => exact .nil
      | cons r _ ih => exact .cons r ih
    exact this out
  have hks : (zs.mergeSort (PySem.W.dataLe false fun b => encP b.2)).map (·.2) = srtK (t.map (·.1)) := by
    unfold srtK
    rw [← z1, ← leP_eq, ← List.map_mergeSort (r := PySem.W.dataLe false fun b : Addr × (Int × Int) => encP b.2) (f := fun b : Addr × (Int × Int) => b.2) (fun a _ b _ => rfl)]
  have hP : PLs H ((zs.mergeSort (PySem.W.dataLe false fun b => encP b.2)).map fun z => V.ref z.1) (srtK (t.map (·.1))) := by
    rw [← hks]
    exact PLs.zip _ fun z hz => z3 z ((List.mergeSort_perm _ _).mem_iff.mp hz)
  have hl2 : ((zs.mergeSort (PySem.W.dataLe false fun b => encP b.2)).map fun z => V.ref z.1).length ≤ sizeLine := by
    rw [List.length_map, List.length_mergeSort, lz]
    exact sz5 hz
  refine wpAny_pure ⟨_, rfl, .ref h'.objs.size, upd H h'.objs.size (.lst _), I1.laid (t' := tk) (fun b u e => ?_) (Nat.le_refl _)
    (show ObjOk X.prog X.w _ _ _ (.lst ((zs.mergeSort (PySem.W.dataLe false fun b => encP b.2)).map fun z => V.ref z.1)) from ⟨hl2, _, e', hv, he'⟩), rfl, q _ _ (I1.hok.fresh (Nat.le_refl _)) hP⟩
  have hb : b < h'.objs.size := Heap.lt_size e
  rw [PyProof.Rows.sortedHeap_old (Nat.ne_of_lt hb) (by rw [size_push']; exact Nat.lt_succ_of_lt hb)]
  exact Heap.get?_push_of_some _ e
theorem r_sortDT {H : Hp} {Q : VK} {a : Addr} {t : Pd} (h : H a = some (.dT (encPD t))) (hz : t.length ≤ 1000000) (q : ∀ p ws H', H p = none → Same H H' → H' p = some (.lst ws) → PLs H' ws (srtK (t.map (·.1))) → Q (.ref p) H') : rSortDT [.ref a] H Q :=
  ⟨a, t, rfl, h, hz, fun p ws np hP => q p ws _ np (Same.new np) upd_same (hP.keep fun u xs hu => Same.new np _ _ hu)⟩
/-! the least of pairs -/
theorem minD_pairs : ∀ (ks : List (Int × Int)) (k : Int × Int), ∃ m ∈ k :: ks, PySem.W.minD (encP k) (ks.map encP) = encP m ∧ ∀ y ∈ k :: ks, leP m y = true
  | [], k => ⟨k, List.mem_cons_self .., rfl, fun y hy => by rw [List.mem_singleton.mp hy]; simp [leP]⟩
  | x :: ks, k => by
    have e : PySem.W.dataLt (encP x) (encP k) = decide (x.1 < k.1 ∨ (x.1 = k.1 ∧ x.2 < k.2)) := PySem.W.dataLt_ii _ _ _ _
    by_cases h : x.1 < k.1 ∨ (x.1 = k.1 ∧ x.2 < k.2)
    · obtain ⟨m, h1, h2, h3⟩ := minD_pairs ks x
      refine ⟨m, List.mem_cons_of_mem _ h1, ?_, fun y hy => ?_⟩
      · rw [← h2]
        unfold PySem.W.minD
        rw [List.map_cons, List.foldl_cons, e, decide_eq_true h]
        rfl
      · rcases List.mem_cons.mp hy with rfl | hy
        · have := of_decide_eq_true (h3 x (List.mem_cons_self ..))
          refine decide_eq_true ?_
          omega
        · exact h3 y hy
    · obtain ⟨m, h1, h2, h3⟩ := minD_pairs ks k
      refine ⟨m, ?_, ?_, fun y hy => ?_⟩
      · rcases List.mem_cons.mp h1 with rfl | h1
        · exact List.mem_cons_self ..
        · exact List.mem_cons_of_mem _ (List.mem_cons_of_mem _ h1)
      · rw [← h2]
        unfold PySem.W.minD
        rw [List.map_cons, List.foldl_cons, e, decide_eq_false h]
        rfl
      · rcases List.mem_cons.mp hy with rfl | hy
        · exact h3 y (List.mem_cons_self ..)
        · rcases List.mem_cons.mp hy with rfl | hy
          · have := of_decide_eq_true (h3 k (List.mem_cons_self ..))
            refine decide_eq_true ?_
            omega
          · exact h3 y (List.mem_cons_of_mem _ hy)
theorem encP_inj {a b : Int × Int} (h : encP a = encP b) : a = b := by
  unfold encP at h
  simp at h
  exact Prod.ext h.1 h.2
def rMinP (K : PySem.W.Frag) : List V → Hp → VK → Prop := fun vs H Q => ∃ (a : Addr) (ws : List V) (ks : List (Int × Int)), vs = [.ref a] ∧ SqL K H a ws ∧ PLs H ws ks ∧ ks ≠ [] ∧
  ∀ (t : Addr) (k : Int × Int), k ∈ ks → (∀ y ∈ ks, leP k y = true) → H t = some (.tup [.int k.1, .int k.2]) → Q (.ref t) H
theorem PLs.at {H : Hp} {ws : List V} {ks : List (Int × Int)} (h : PLs H ws ks) : ∀ {i : Nat} {x : V}, ws[i]? = some x → ∃ t k, x = .ref t ∧ ks[i]? = some k ∧ H t = some (.tup [.int k.1, .int k.2]) := by
  induction h with
  | nil => intro i x e; simp at e
  | @cons t a b vs ps h _ ih =>
    intro i x e
    cases i with
    | zero =>
      obtain rfl := Option.some.inj e
      exact ⟨t, (a, b), rfl, rfl, h⟩
    | succ i =>
      obtain ⟨t', k', h1, h2, h3⟩ := ih (i := i) (by simpa using e)
      exact ⟨t', k', h1, by simpa using h2, h3⟩
theorem c_minP {X : Cx} {K : PySem.W.Frag} {k : Nat} (hK : X.K = K) (hc : X.calm = true) (hr : Room k X.A) : CallR X (.builtin "min") (rMinP K) := by
  subst hK
  intro pins s σ H vs us Q I r h
  obtain ⟨a, ws, ks, rfl, hs, hP, hne, q⟩ := h
  obtain ⟨u, rfl, ru⟩ := vals1 r
  obtain rfl : u = Value.ref a := ru
  have hu := hr.units
  obtain ⟨its, rv, pl, hz⟩ := I.list hs
  cases ks with
  | nil => exact absurd rfl hne
  | cons k0 ks =>
    have hd : DpAll X.K H ws (encP k0 :: ks.map encP) := hP.dp
    obtain ⟨as, hR⟩ := Dp.readsAll I _ _ _ hd rv
    refine PySem.W.min_list_data (I.ok.hd hc) pl.isList hR ?_ ?_ fun i v h' tk bs hv hrd hk => ?_
    · refine ⟨fun x hx y hy => ?_, fun x hx => ?_⟩
      · obtain ⟨x', _, rfl⟩ := List.mem_map.mp (show x ∈ (k0 :: ks).map encP from hx)
        obtain ⟨y', _, rfl⟩ := List.mem_map.mp (show y ∈ (k0 :: ks).map encP from hy)
        simp [encP, PySem.W.alike, PySem.W.alikeAll]
      · obtain ⟨x', _, rfl⟩ := List.mem_map.mp (show x ∈ (k0 :: ks).map encP from hx)
        intro z
        cases z
    · have := depth_pairs (k0 :: ks)
      show X.A.units + 1 + PyData.depthAll ((k0 :: ks).map encP) < cLine
      omega
    · obtain ⟨m, hm, em, lm⟩ := minD_pairs ks k0
      rw [em] at hrd
      have hil : i < its.length := by
        have := (Array.getElem?_eq_some_iff.mp hv).1
        simpa using this
      have hwl := rv.length
      have hx : ws[i]? = some ws[i] := List.getElem?_eq_getElem (by omega)
      obtain ⟨t, kk, h1, h2, h3⟩ := hP.at hx
      obtain ⟨v', hv', rr⟩ := rv.get hx
      have hvv : v' = v := by
        have : its[i]? = some v := by simpa using hv
        rw [hv'] at this
        exact Option.some.inj this
      subst hvv
      rw [h1] at rr
      obtain rfl : v' = Value.ref t := rr
      have hrd0 : ∃ as, Reads s.heap (.ref t) (encP kk) as := Dp.reads I _ _ _ (show Dp X.K H (.ref t) (encP kk) from .tup (SqT.of h3) (.cons (.int _) (.cons (.int _) .nil))) rfl
      obtain ⟨as0, hrd0⟩ := hrd0
      have hdet := (reads_det (h := s.heap) (h' := h') (fun b o e _ => hk b o e) hrd0 hrd).1
      obtain rfl := encP_inj hdet
      exact ⟨.ref t, H, I.kept hk, rfl, q t _ hm lm h3⟩
theorem r_minP {K : PySem.W.Frag} {H : Hp} {Q : VK} {a : Addr} {ws : List V} {ks : List (Int × Int)} (h : SqL K H a ws) (hP : PLs H ws ks) (hne : ks ≠ []) (q : ∀ (t : Addr) (k : Int × Int), k ∈ ks → (∀ y ∈ ks, leP k y = true) → H t = some (.tup [.int k.1, .int k.2]) → Q (.ref t) H) : rMinP K [.ref a] H Q :=
  ⟨a, ws, ks, rfl, h, hP, hne, q⟩
end Wp
set_option Elab.async false
set_option linter.all false
set_option maxRecDepth 100000
set_option maxHeartbeats 4000000
/-! enumerate(tuple). -/
namespace Wp
open PySem PySem.Spec PyProof.Rows L2
open PySem.Sem (wp)
theorem meets_enum1 {v : Value} {o : Obj} {H : Heap → Prop} (B : Begins v o H) :
    Meets (Builtin.«enumerate.__new__» ⟨[.type "enumerate", v], []⟩) (fun _ R s => H s.heap ∧
      R (.ok (.ret (.ref (s.heap.push o).objs.size))) { s with heap := (s.heap.push o).push { cls := .type "enumerate", data := .fields #[.none, .bool false, .ref s.heap.objs.size, rawInt 0, .none, .none] } }) :=
  .of_wp fun prog w A R s h => by
    obtain ⟨hp, g, d, tk, os⟩ := s; obtain ⟨h1, h⟩ := h
    have hsub := sub_enumerate
    have q1 : ∀ {A' : Around} {E : Value → Shared → Prop} {Q : Value → Shared → Prop}, Q (.ref hp.objs.size) ⟨hp.push o, g, d, tk, os⟩ → wpAny (model prog w) A' (pyIter v) Q E ⟨hp, g, d, tk, os⟩ :=
      fun q => B.iter prog w _ _ ⟨hp, g, d, tk, os⟩ _ h1 q
    wp_walk using q1
    refine wpAny_stack_any fun st => wpAny_pure ?_
    split
    · rename_i c _ _ _ _ _
      cases (c == Value.type "enumerate")
      · wp_walk using q1
        exact ⟨_, rfl, h⟩
      · wp_walk using q1
        exact ⟨_, rfl, h⟩
    · wp_walk using q1
      exact ⟨_, rfl, h⟩
section
variable {prog : Program} {w : World} {A : Around} {E : Value → Shared → Prop} {s : Shared}
theorem enum1_begins {v : Value} {o : Obj} {H : Heap → Prop} {Q : Value → Shared → Prop} (B : Begins v o H) (h1 : H s.heap)
    (h : ∀ h', IsEnum h' (s.heap.objs.size + 1) s.heap.objs.size 0 .none → h'.get? s.heap.objs.size = some o → h'.objs.size = s.heap.objs.size + 2 →
      (∀ b o, s.heap.get? b = some o → h'.get? b = some o) → Q (.ref (s.heap.objs.size + 1)) { s with heap := h' }) :
    wpAny (model prog w) A (call (.type "enumerate") [v]) Q E s := by
  refine callType_new F.called_enumerate (by decide) (F.typeCall_enumerate_1 _) (F.newCall_enumerate_1 _) (fun obj => F.args_object_init_2 obj _) F.entry_enumerate_new (meets_enum1 B) ⟨h1, ?_⟩
  have hz : (s.heap.push o).objs.size = s.heap.objs.size + 1 := Heap.size_push ..
  show _ ∧ _
  rw [hz]
  have he : IsEnum ((s.heap.push o).push { cls := .type "enumerate", data := .fields #[.none, .bool false, .ref s.heap.objs.size, rawInt 0, .none, .none] }) (s.heap.objs.size + 1) s.heap.objs.size 0 .none := by
    have := Heap.get?_push_size (s.heap.push o) (o := { cls := .type "enumerate", data := .fields #[.none, .bool false, .ref s.heap.objs.size, rawInt 0, .none, .none] }) rfl
    rw [hz] at this; exact this
  refine ⟨⟨_, he, rfl⟩, h _ he (Heap.get?_push_of_some _ (Heap.get?_push_size _ B.free)) (by rw [Heap.size_push, hz]) fun b o x => Heap.get?_push_of_some _ (Heap.get?_push_of_some _ x)⟩
theorem enumT_end {e it l : Addr} {i : Int} {k : Nat} {items : Array Value} {old : Value} {Q : Option Value → Shared → Prop} (hh : A.handled = none)
    (he : IsEnum s.heap e it i old) (hit : s.heap.IsTupleIter it l k) (hl : s.heap.IsTuple l items) (hx : items[k]? = none)
    (hQ : ∀ h', Heap.ExtBut it s.heap h' → Q none { s with heap := h' }) : wpAny (model prog w) A (pyNext (.ref e)) Q E s := by
  have hT : s.TypeIs (.ref e) "enumerate" := ⟨_, he, rfl⟩
  unfold pyNext
  refine wpAny_bind (wpAny_attempt (wpAny_callSpecial?_slot (name := Str.ofString "__next__") hT F.slot_enumerate_next
    (wpAny_call_entry F.slot_enumerate_next hT F.entry_enumerate_next ?_ (F.args_enumerate_next_1 _))))
  show wpAny _ _ (field (.ref e) 2 >>= _) _ _ _
  refine wpAny_bind (wpAny_field he rfl (x := .ref it) rfl ?_)
  refine wpAny_bind (wpAny_nextOf_tuple_end hh hit hl hx fun h' x he' hx' => ?_)
  obtain ⟨o, ho, hc⟩ := hx'
  refine wpAny_bind (wpAny_isInstance (T := "StopIteration") (b := true) ⟨o, ho, hc⟩ isSubtype_stop ?_)
  exact wpAny_pure (hQ _ he')
end
/-- the tuple at a, each item in a new pair -/
def IteT (K : PySem.W.Frag) (a : Addr) : It :=
  ⟨fun i H => ∃ (xs : List V) (x : V), SqT K H a xs ∧ xs[i]? = some x, fun i H v H' => ∃ T x, v = .ref T ∧ H T = none ∧ H' = upd H T (.tup [.int (i : Nat), x]) ∧ ∀ xs, SqT K H a xs → xs[i]? = some x, fun i H => ∃ xs : List V, SqT K H a xs ∧ xs.length ≤ i⟩
theorem turn_enumT {P : Program} {w : World} {K : PySem.W.Frag} {elts : List Expr} {kk : Nat} {tpos : Pos} (a e it : Addr) :
    Turn P w K (.Tuple elts kk tpos) (IteT K a) [e, it] e (fun i h => (∃ old, IsEnum h e it ((i : Nat) : Int) old) ∧ h.IsTupleIter it a i ∧ e ≠ it) where
  mem := by simp
  obj := fun i h st b hb => by
    obtain ⟨⟨old, he⟩, ⟨o, ho, hc, hd⟩, _⟩ := st
    have e' : b = e ∨ b = it := by simpa using hb
    rcases e' with z | z
    · rw [z]; exact ⟨_, he, fun v q => nomatch q⟩
    · rw [z]; exact ⟨o, ho, fun v q => by rw [hd] at q; cases q⟩
  keep := fun i h h' st k => let ⟨⟨old, he⟩, hi, hne⟩ := st; ⟨⟨old, k e (by simp) _ he⟩, hi.at fun o q => k it (by simp) o q, hne⟩
  item := by
    intro X hP hw hK hc i pins s σ H E I hf st hg
    subst hP hw hK
    obtain ⟨⟨old, he⟩, hit, hne⟩ := st
    obtain ⟨xs, x, hq, hx⟩ := hg
    obtain ⟨its, rv, p, hz⟩ := I.tuple hq
    have p : s.heap.IsTuple a its.toArray := p
    obtain ⟨u, hu, ru⟩ := rv.get hx
    have hel : e < s.heap.objs.size := Heap.lt_size he
    have hil : it < s.heap.objs.size := by obtain ⟨_, q, _⟩ := hit; exact Heap.lt_size q
    have hea : e ≠ a := by
      rintro rfl
      obtain ⟨o, ho, hc', _⟩ := p
      rw [he] at ho
      cases ho
      exact absurd (show Value.type "enumerate" = Value.type "tuple" from hc') (by decide +kernel)
    have hia : a ≠ it := by
      rintro rfl
      obtain ⟨o, ho, hc', _⟩ := p
      obtain ⟨o2, ho2, hc2, _⟩ := hit
      rw [ho2] at ho
      cases ho
      rw [hc2] at hc'
      exact absurd hc' (by decide +kernel)
    have hsz : i < its.toArray.size := by
      have := (List.getElem?_eq_some_iff.mp hu).1
      simpa using this
    refine wpAny_pyNext_enum_itemD (Draws.tuple (A := X.A.in1) (I.ok.hd hc) it a hia its.toArray) he ⟨hit, p⟩ hsz hne (by simp [hne, hea]) fun u' h' tk hu' ho hst' hT hsz' hk => ?_
    obtain rfl : u' = u := by
      have : its[i]? = some u' := by simpa using hu'
      rw [hu] at this
      exact (Option.some.inj this).symm
    refine ⟨_, rfl, wpAny_letOwnedTupleGo_enum (s := { s with heap := h', toks := tk + 1 }) ho fun h'' he' sb => ?_⟩
    have hT2 : h''.get? s.heap.objs.size = some { cls := .type "tuple", data := .seq #[.int i tk, u'] } := (sb.2 _ (Nat.ne_of_gt hel)).trans hT
    have new : ObjOk X.prog X.w (upd H s.heap.objs.size (.tup [.int (i : Nat), x])) h'' s.heap.objs.size (.tup [.int (i : Nat), x]) :=
      ⟨by show 2 ≤ sizeLine; decide, [.int i tk, u'], .cons ⟨_, rfl⟩ (.cons ru .nil), ⟨_, hT2, rfl, _, rfl⟩⟩
    have I1 : Inv X pins σ (upd H s.heap.objs.size (.tup [.int (i : Nat), x])) { s with heap := h'', toks := tk + 1 } :=
      I.turnedNew (ch := [e, it]) (fun b ob hb q => (sb.2 b (fun z => hb (by simp [z]))).trans (hk b ob (fun z => hb (by simp [z])) (fun z => hb (by simp [z])) q)) hf (Nat.le_refl _) new
    refine ⟨.ref s.heap.objs.size, _, I1, rfl, ⟨_, x, rfl, I.hok.fresh (Nat.le_refl _), rfl, fun ys hy => by rw [I.tuple_inj hy hq]; exact hx⟩, ⟨⟨u', ?_⟩, hst'.1.at fun o q => (sb.2 it (Ne.symm hne)).trans q, hne⟩, fun b hb => ?_⟩
    · have e1 : ((i + 1 : Nat) : Int) = (i : Int) + 1 := by omega
      rw [e1]; exact he'
    · have hb' : b < s.heap.objs.size := by
        have e' : b = e ∨ b = it := by simpa using hb
        rcases e' with z | z
        · rw [z]; exact hel
        · rw [z]; exact hil
      rw [upd_ne (Nat.ne_of_lt hb')]
      exact (hf b hb).1
  done := by
    intro X hP hw hK hc i pins s σ H E I hf st hg
    subst hP hw hK
    obtain ⟨⟨old, he⟩, hit, hne⟩ := st
    obtain ⟨xs, hq, hx⟩ := hg
    obtain ⟨its, rv, p, hz⟩ := I.tuple hq
    have p : s.heap.IsTuple a its.toArray := p
    obtain ⟨f0, f1, f2, f3, f4, f5⟩ := hf it (by simp)
    have hl := rv.length
    exact enumT_end (I.ok.hd hc) he hit p (by simp; omega) fun h' eb => ⟨rfl, I.turned (t' := s.toks) (fun b o hb q => eb b o hb q) f0 f1 f3 f4 f5⟩
  self := fun A i s Q E st h => let ⟨⟨_, he⟩, _⟩ := st; wpAny_pyIter_enum he h
def iEnumT (K : PySem.W.Frag) (ta : TA) : TI := fun σ H R => ta σ H fun vs H1 => ∃ a xs, vs = [.ref a] ∧ SqT K H1 a xs ∧ R (IteT K a) H1
theorem pi_enumT {X : Cx} {e : Expr} {ta : TA} {p pos tpos : Pos} {elts : List Expr} {kk : Nat} (hg : Gl X "enumerate") (hm : X.mg "enumerate" = none) (ha : PA X [e] ta) (hs : starEach [e] X.env = [(false, eval e X.env)] := by rfl) :
    PI X (.Tuple elts kk tpos) (.Call (.Name "enumerate" p) [e] [] pos) (iEnumT X.K ta) := by
  refine ⟨fun pins s σ H R I h => ?_⟩
  refine Call_ (ld_blt I hg hm boot_enumerate (PyProof.Rows.callWith_type1 (thn (ha.run pos pins s σ H _ I h) fun us s1 ⟨vs, H1, I1, r1, q1⟩ => ?_) hs rfl))
  obtain ⟨a, xs, ex, hq, q⟩ := q1
  subst ex
  cases r1 with
  | cons r rr =>
    cases rr
    cases r
    obtain ⟨its, rv, p', hz⟩ := I1.tuple hq
    refine enum1_begins (begins_tuple a its.toArray) p' fun h' he hit hsz hk => wpAny_pyIter_enum he ?_
    have I2 : Inv X pins σ H1 { s1 with heap := h' } := I1.kept (t' := s1.toks) hk
    refine ⟨s1.heap.objs.size + 1, [s1.heap.objs.size + 1, s1.heap.objs.size], _, _, H1, rfl, I2, turn_enumT a (s1.heap.objs.size + 1) s1.heap.objs.size, ⟨⟨.none, he⟩, ⟨_, hit, rfl, rfl⟩, Nat.succ_ne_self _⟩, fun b hb => ?_, q⟩
    have e' : b = s1.heap.objs.size + 1 ∨ b = s1.heap.objs.size := by simpa using hb
    have hle : s1.heap.objs.size ≤ b := by
      rcases e' with z | z
      · rw [z]; exact Nat.le_add_right _ _
      · rw [z]; exact Nat.le_refl _
    exact I1.fpOk hle (I1.hok.fresh hle)
end Wp
set_option Elab.async false
set_option linter.all false
set_option maxRecDepth 100000
set_option maxHeartbeats 4000000
/-! Comprehensions of two clauses; over enumerate. -/
namespace Wp
open PySem PySem.Spec PyProof.Rows L2
def LcIn (J1 : It) (g1 : TG) (tt1 : TT) (te : TE) (vs1 : List Nat) (σ2 : L2.St) (Da : Addr) (Nx : Hp → Prop) (H4 : Hp) : Prop := ∃ W1 : Nat → Nat → Hp → Prop, (∃ m, W1 0 m H4) ∧ ∀ j k H, W1 j k H →
  (J1.stop j H ∧ Nx H) ∨ (J1.go j H ∧ ∃ Nx1 : Hp → Prop, (∀ H', Nx1 H' → ∃ k', k' < k ∧ W1 (j + 1) k' H') ∧ ∀ x H', J1.yld j H x H' → g1 x (wipe σ2 vs1) H' fun σ3 H5 => wipe σ3 vs1 = wipe σ2 vs1 ∧ tt1 σ3 H5 fun b H6 =>
    if b = true then te σ3 H6 fun y H7 => ∃ acc, H7 Da = some (.lst acc) ∧ acc.length < sizeLine ∧ Nx1 (upd H7 Da (.lst (acc ++ [y]))) else Nx1 H6)
def kLc2T (wi1 : TI) (g1 : TG) (tt1 : TT) (te : TE) (vs1 : List Nat) (σ2 : L2.St) (Da : Addr) (Nx : Hp → Prop) : Bool → Hp → Prop := fun b H3 => if b = true then wi1 σ2 H3 (fun J1 H4 => LcIn J1 g1 tt1 te vs1 σ2 Da Nx H4) else Nx H3
def kLc2G (tt : TT) (wi1 : TI) (g1 : TG) (tt1 : TT) (te : TE) (vs vs1 : List Nat) (σ : L2.St) (Da : Addr) (Nx : Hp → Prop) : L2.St → Hp → Prop := fun σ2 H2 => wipe σ2 vs = wipe σ vs ∧ tt σ2 H2 (kLc2T wi1 g1 tt1 te vs1 σ2 Da Nx)
def kLc2In (K : PySem.W.Frag) (g1 : TG) (tt1 : TT) (te : TE) (vs1 : List Nat) (σ2 : L2.St) (Da : Addr) (Nx : Hp → Prop) : VK := fun x H1 => ∃ a, x = .ref a ∧ (∃ xs, SqT K H1 a xs) ∧ LcIn (Itt K a) g1 tt1 te vs1 σ2 Da Nx H1
def LcW2 (J : It) (g : TG) (tt : TT) (wi1 : TI) (g1 : TG) (tt1 : TT) (te : TE) (vs vs1 : List Nat) (σ : L2.St) (Q : VK) (H1 : Hp) : Prop := ∀ D, H1 D = none → ∃ W : Nat → Nat → Hp → Prop, (∃ m, W 0 m (upd H1 D (.lst []))) ∧ ∀ i m H, W i m H →
  (J.stop i H ∧ Q (.ref D) H) ∨ (J.go i H ∧ ∃ Nx : Hp → Prop, (∀ H', Nx H' → ∃ m', m' < m ∧ W (i + 1) m' H') ∧ ∀ x H', J.yld i H x H' → g x (wipe σ vs) H' (kLc2G tt wi1 g1 tt1 te vs vs1 σ D Nx))
def kLc2E (K : PySem.W.Frag) (g : TG) (tt : TT) (wi1 : TI) (g1 : TG) (tt1 : TT) (te : TE) (vs vs1 : List Nat) (σ : L2.St) (Q : VK) : List V → Hp → Prop := fun ws H1 => ∃ a xs, ws = [.ref a] ∧ SqT K H1 a xs ∧ LcW2 (IteT K a) g tt wi1 g1 tt1 te vs vs1 σ Q H1
section
variable {K : PySem.W.Frag} {g g1 : TG} {tt tt1 : TT} {wi1 : TI} {te tl : TE} {ta : TA} {vs vs1 : List Nat} {σ σ2 : L2.St} {H : Hp} {Q : VK} {Da a : Addr} {Nx : Hp → Prop} {xs ys : List V} {b : Bool}
theorem r_lc2E (q : ta σ H (kLc2E K g tt wi1 g1 tt1 te vs vs1 σ Q)) : tLc2 (iEnumT K ta) g tt wi1 g1 tt1 te vs vs1 σ H Q := q
theorem r_kLc2G (h : wipe σ2 vs = wipe σ vs) (q : tt σ2 H (kLc2T wi1 g1 tt1 te vs1 σ2 Da Nx)) : kLc2G tt wi1 g1 tt1 te vs vs1 σ Da Nx σ2 H := ⟨h, q⟩
theorem r_kLc2T (q : tl σ2 H (kLc2In K g1 tt1 te vs1 σ2 Da Nx)) : kLc2T (iTup K tl) g1 tt1 te vs1 σ2 Da Nx true H := q
theorem r_kLc2In (R : Nat → Hp → Prop) (hl : SqT K H a ys) (h0 : R 0 H) (hk : ∀ j H', R j H' → SqT K H' a ys)
    (hs : ∀ j z H', ys[j]? = some z → R j H' → g1 z (wipe σ2 vs1) H' (kLcG tt1 te vs1 σ2 Da (fun _ => R) j)) (hd : ∀ H', R ys.length H' → Nx H') : kLc2In K g1 tt1 te vs1 σ2 Da Nx (.ref a) H := by
  refine ⟨a, rfl, ⟨ys, hl⟩, fun j m H => m = ys.length - j ∧ j ≤ ys.length ∧ R j H, ⟨ys.length, by simp, Nat.zero_le _, h0⟩, ?_⟩
  rintro i m H ⟨rfl, hi, p⟩
  have q := hk i H p
  by_cases hlt : i < ys.length
  · refine .inr ⟨⟨ys, ys[i], q, by simp [hlt]⟩, R (i + 1), fun H' p' => ⟨ys.length - (i + 1), by omega, rfl, hlt, p'⟩, fun x H' y => ?_⟩
    obtain ⟨e, y⟩ := y
    subst e
    exact hs i x _ (y ys q) p
  · have e : i = ys.length := by omega
    subst e
    exact .inl ⟨⟨ys, q, Nat.le_refl _⟩, hd H p⟩
theorem r_kLc2E (Pv : Addr → Nat → Hp → Prop) (hl : SqT K H a xs) (h0 : ∀ Da H', H Da = none → Same H H' → H' Da = some (.lst []) → Pv Da 0 H') (hk : ∀ Da i H', Pv Da i H' → SqT K H' a xs)
    (hs : ∀ Da i x T H1 H', H Da = none → xs[i]? = some x → Pv Da i H1 → H1 T = none → Same H1 H' → H' T = some (.tup [.int (i : Nat), x]) → g (.ref T) (wipe σ vs) H' (kLc2G tt wi1 g1 tt1 te vs vs1 σ Da (Pv Da (i + 1))))
    (hd : ∀ Da H', H Da = none → Pv Da xs.length H' → Q (.ref Da) H') : kLc2E K g tt wi1 g1 tt1 te vs vs1 σ Q [.ref a] H := by
  refine ⟨a, xs, rfl, hl, fun D hD => ⟨fun i m H => m = xs.length - i ∧ i ≤ xs.length ∧ Pv D i H, ⟨xs.length, by simp, Nat.zero_le _, h0 D _ hD (Same.new hD) upd_same⟩, ?_⟩⟩
  rintro i m H ⟨rfl, hi, p⟩
  have q := hk D i H p
  by_cases hlt : i < xs.length
  · refine .inr ⟨⟨xs, xs[i], q, by simp [hlt]⟩, Pv D (i + 1), fun H' p' => ⟨xs.length - (i + 1), by omega, rfl, hlt, p'⟩, fun x H' y => ?_⟩
    obtain ⟨T, z, rfl, nT, rfl, y⟩ := y
    exact hs D i z T H _ hD (y xs q) p nT (Same.new nT) upd_same
  · have e : i = xs.length := by omega
    subst e
    exact .inl ⟨⟨xs, q, Nat.le_refl _⟩, hd D H hD p⟩
/-! for over enumerate(list) -/
def kForE (K : PySem.W.Frag) (g : TG) (tw : TS) (D : Ends) (σ : L2.St) : List V → Hp → Prop := fun ws H1 => ∃ a xs, ws = [.ref a] ∧ SqL K H1 a xs ∧
  ∃ W : Nat → Nat → L2.St → Hp → Prop, (∃ m, W 0 m σ H1) ∧ ∀ i m σ H, W i m σ H →
  ((Ite K a).stop i H ∧ D.nx σ H) ∨ ((Ite K a).go i H ∧ ∃ N : L2.St → Hp → Prop, (∀ σ' H', N σ' H' → ∃ m', m' < m ∧ W (i + 1) m' σ' H') ∧
    ∀ x H', (Ite K a).yld i H x H' → g x σ H' fun σ2 H2 => tw { D with nx := N, ct := N, bk := D.nx } σ2 H2)
variable {tw : TS} {D : Ends}
theorem r_forE (q : ta σ H (kForE K g tw D σ)) : tFor (iEnum K ta) g tw D σ H := q
theorem r_kForE (Pv : Nat → L2.St → Hp → Prop) (hl : SqL K H a xs) (h0 : Pv 0 σ H) (hk : ∀ i σ' H', Pv i σ' H' → SqL K H' a xs)
    (hs : ∀ i x T σ' H1 H', xs[i]? = some x → Pv i σ' H1 → H1 T = none → Same H1 H' → H' T = some (.tup [.int (i : Nat), x]) → g (.ref T) σ' H' fun σ2 H2 => tw { D with nx := Pv (i + 1), ct := Pv (i + 1), bk := D.nx } σ2 H2)
    (hd : ∀ σ' H', Pv xs.length σ' H' → D.nx σ' H') : kForE K g tw D σ [.ref a] H := by
  refine ⟨a, xs, rfl, hl, fun i m σ H => m = xs.length - i ∧ i ≤ xs.length ∧ Pv i σ H, ⟨xs.length, by simp, Nat.zero_le _, h0⟩, ?_⟩
  rintro i m σ H ⟨rfl, hi, p⟩
  have q := hk i σ H p
  by_cases hlt : i < xs.length
  · refine .inr ⟨⟨xs, xs[i], q, by simp [hlt]⟩, Pv (i + 1), fun σ' H' p' => ⟨xs.length - (i + 1), by omega, rfl, hlt, p'⟩, fun x H' y => ?_⟩
    obtain ⟨T, z, rfl, nT, rfl, y⟩ := y
    exact hs i z T σ H _ (y xs q) p nT (Same.new nT) upd_same
  · have e : i = xs.length := by omega
    subst e
    exact .inl ⟨⟨xs, q, Nat.le_refl _⟩, hd σ H p⟩
end
end Wp
set_option Elab.async false
set_option linter.all false
set_option maxRecDepth 100000
set_option maxHeartbeats 4000000
/-! f(e, *y); enumerate with the frag named. -/
namespace Wp
open PySem PySem.Spec PyProof.Rows L2
section
variable {X : Cx} {K : PySem.W.Frag}
theorem pe_fnS {CX : CXT} {k : Nat} {x : Str} {ps : List Str} {sp : Sp} {E : XK} {e : Expr} {es : List Expr}
    {t : TA} {p pos : Pos} (D : Dn X.prog X.w X.K X.mg X.base CX k x ps sp) (hr : Room k X.A)
    (hx : Passes CX X E) (ha : PA X (e :: es) t) (hg : Gl X x := by rfl)
    (hdb : (x == ("__debug__" : Str)) = false := by decide)
    (he : starEach (e :: es) X.env = (false, eval e X.env) :: starEach es X.env := by rfl)
    (hpl : (backTo pos (starEach es X.env)).any (·.1) = true := by rfl) :
    PE X (.Call (.Name x p) (e :: es) [] pos) (tFn sp E t) := by
  obtain ⟨fd, F, b⟩ := D.ex
  have F2 : FnR X.prog X.w X.K X.mg X.base CX k (He.ga X.K x) sp := (F.raw b .nil).imp fun vs H Q E h => by
    show sp (vs ++ []) H Q E
    rw [List.append_nil]
    exact h
  exact StX.pe_callS2 F2 hr D.kp hg D.gm hx ha hdb he hpl
theorem pi_enumTK {e : Expr} {ta : TA} {p pos tpos : Pos} {elts : List Expr} {kk : Nat} (h : X.K = K) (hg : Gl X "enumerate") (hm : X.mg "enumerate" = none) (ha : PA X [e] ta) (hs : starEach [e] X.env = [(false, eval e X.env)] := by rfl) :
    PI X (.Tuple elts kk tpos) (.Call (.Name "enumerate" p) [e] [] pos) (iEnumT K ta) := by
  subst h
  exact pi_enumT hg hm ha hs
theorem pi_enumK {e : Expr} {ta : TA} {p pos tpos : Pos} {elts : List Expr} {kk : Nat} (h : X.K = K) (hg : Gl X "enumerate") (hm : X.mg "enumerate" = none) (ha : PA X [e] ta) (hs : starEach [e] X.env = [(false, eval e X.env)] := by rfl) :
    PI X (.Tuple elts kk tpos) (.Call (.Name "enumerate" p) [e] [] pos) (iEnum K ta) := by
  subst h
  exact pi_enum hg hm ha hs
theorem pe_orTK {a b : Expr} {ta tb : TE} {rest : List Expr} {pos : Pos} (h : X.K = K) (ha : PE X a ta) (hb : PE X (.BoolOp .Or (b :: rest) pos) tb) : PE X (.BoolOp .Or (a :: b :: rest) pos) (tOrT K ta tb) := by
  subst h
  exact pe_orT ha hb
def kOrT (K : PySem.W.Frag) (tb : TE) (σ : L2.St) (Q : VK) : VK := fun x H1 => ∃ k, TruV K x H1 k ∧ if k = true then Q x H1 else tb σ H1 Q
variable {ta tb : TE} {σ : L2.St} {H : Hp} {Q : VK}
theorem r_orT (q : ta σ H (kOrT K tb σ Q)) : tOrT K ta tb σ H Q := q
theorem r_kOrTn (q : tb σ H Q) : kOrT K tb σ Q .non H := ⟨false, rfl, q⟩
theorem r_kOrTt {p : Addr} {xs : List V} (h : SqT K H p xs) (q1 : xs ≠ [] → Q (.ref p) H) (q2 : xs = [] → tb σ H Q) : kOrT K tb σ Q (.ref p) H := by
  cases xs with
  | nil => exact ⟨false, .inr (.inl ⟨[], h, rfl⟩), q2 rfl⟩
  | cons x xs => exact ⟨true, .inr (.inl ⟨_, h, rfl⟩), q1 (List.cons_ne_nil _ _)⟩
end
end Wp
set_option Elab.async false
set_option linter.all false
set_option maxRecDepth 100000
set_option maxHeartbeats 4000000
/-! x.f op= v, d[k] op= v; for over enumerate of a list or a tuple. -/
namespace Wp
open PySem PySem.Spec PyProof.Rows L2
section
variable {X : Cx} {K : PySem.W.Frag}
theorem ps_fldaugK {o value : Expr} {f : Str} {op : Operator} {tpos pos : Pos} {ta tv : TE} {rd : V → V → Hp → VK → Prop} (h : X.K = K) (ha : PE X o ta) (hv : PE X value tv) (hop : InOp X op rd) : PS X (.AugAssign (.Attribute o f tpos) op value pos) (sFldAug K ta tv rd f) := by
  subst h
  exact ps_fldaug ha hv hop
end
section
variable {K : PySem.W.Frag} {H : Hp} {p a b C dx : Addr} {Q : VK} {σ : L2.St} {te td ty tv ta : TE} {tr : TA} {t : List (Int × Int)} {i j c : Int} {D : Ends} {fs : List (Str × V)} {f : Str} {v x y z : V} {rd : V → V → Hp → VK → Prop}
def kFldAug2 (f : Str) (a C : Addr) (D : Ends) (σ : L2.St) : VK := fun z H3 => ∃ dx' fs', H3 a = some (.ins C dx' fs') ∧ fs'.length < 1000 ∧ D.nx σ (upd H3 a (.ins C dx' (putF f z fs')))
def kFldAug (K : PySem.W.Frag) (tv : TE) (rd : V → V → Hp → VK → Prop) (f : Str) (D : Ends) (σ : L2.St) : VK := fun x H1 => ∃ a C dx fs v, x = .ref a ∧ H1 a = some (.ins C dx fs) ∧ Cls K C ∧ NoAttr K C f ∧ fs.lookup f = some v ∧
  tv σ H1 fun y H2 => rd v y H2 (kFldAug2 f a C D σ)
theorem r_fldaug (q : ta σ H (kFldAug K tv rd f D σ)) : sFldAug K ta tv rd f D σ H := q
theorem r_kFldAug (h1 : H a = some (.ins C dx fs)) (h2 : Cls K C) (h3 : NoAttr K C f) (h4 : fs.lookup f = some v) (q : tv σ H fun y H2 => rd v y H2 (kFldAug2 f a C D σ)) : kFldAug K tv rd f D σ (.ref a) H := ⟨a, C, dx, fs, v, rfl, h1, h2, h3, h4, q⟩
theorem r_kFldAug2 (h1 : H a = some (.ins C dx fs)) (hl : fs.length < 1000) (q : ∀ H', But a H H' → H' a = some (.ins C dx (putF f z fs)) → D.nx σ H') : kFldAug2 f a C D σ z H := ⟨dx, fs, h1, hl, q _ But.upd upd_same⟩
theorem r_rAdd (q : Q (.int (i + j)) H) : rAdd (.int i) (.int j) H Q := ⟨i, j, rfl, rfl, q⟩
theorem r_rSub (q : Q (.int (i - j)) H) : rSub (.int i) (.int j) H Q := ⟨i, j, rfl, rfl, q⟩
def kDAug2 (a : Addr) (y : V) (D : Ends) (σ : L2.St) : VK := fun z H4 => ∃ H5, DPut H4 a y z H5 ∧ D.nx σ H5
def kDAugY (tv : TE) (rd : V → V → Hp → VK → Prop) (D : Ends) (σ : L2.St) (x : V) : VK := fun y H2 => ∃ a v, x = .ref a ∧ DGet H2 a y (some v) ∧ tv σ H2 fun y2 H3 => rd v y2 H3 (kDAug2 a y D σ)
theorem r_daug (q : td σ H fun x H1 => ty σ H1 (kDAugY tv rd D σ x)) : sDAug td ty tv rd D σ H := q
theorem r_kDAugT (h : H a = some (.dK (encT t))) (e : lookT t i = some c) (q : tv σ H fun y2 H3 => rd (.int c) y2 H3 (kDAug2 a (.int i) D σ)) : kDAugY tv rd D σ (.ref a) (.int i) H :=
  ⟨a, .int c, rfl, .inl ⟨_, Sum.inl i, .inl h, rfl, by rw [valV_enc, e]; rfl⟩, q⟩
theorem r_kDAug2T (h : H a = some (.dK (encT t))) (hz : t.length < 1000000) (q : ∀ H', But a H H' → H' a = some (.dK (encT (putI t i c))) → D.nx σ H') : kDAug2 a (.int i) D σ (.int c) H :=
  ⟨_, .inl ⟨encT t, Sum.inl i, h, rfl, sz6 (by rw [enc_len]; exact hz), rfl⟩, q _ But.upd (by rw [← putK_enc]; exact upd_same)⟩
end
section
variable {K : PySem.W.Frag} {H : Hp} {a : Addr} {σ : L2.St} {g : TG} {tw : TS} {D : Ends} {xs : List V} {n : Nat}
theorem r_forES (hv : σ[n]? = some (some (.ref a))) (hl : SeqV K H a xs) (Pv : Nat → L2.St → Hp → Prop) (h0 : Pv 0 σ H) (hk : ∀ i σ' H', Pv i σ' H' → Same H H')
    (hs : ∀ i x T σ' H1 H', xs[i]? = some x → Pv i σ' H1 → H1 T = none → Same H1 H' → H' T = some (.tup [.int (i : Nat), x]) → g (.ref T) σ' H' fun σ2 H2 => tw { D with nx := Pv (i + 1), ct := Pv (i + 1), bk := D.nx } σ2 H2)
    (hd : ∀ σ' H', Pv xs.length σ' H' → D.nx σ' H') : tFor (iEither (iEnum K (tCons (tVar n) tNil)) (iEnumT K (tCons (tVar n) tNil))) g tw D σ H := by
  rcases hl with hl | hl
  · exact .inl (r_cons (r_var hv (r_nil (r_kForE Pv hl h0 (fun i σ' H' p => SqL.same (hk i σ' H' p) hl) hs hd))))
  · refine .inr (r_cons (r_var hv (r_nil ?_)))
    refine ⟨a, xs, rfl, hl, fun i m σ H => m = xs.length - i ∧ i ≤ xs.length ∧ Pv i σ H, ⟨xs.length, by simp, Nat.zero_le _, h0⟩, ?_⟩
    rintro i m σ H ⟨rfl, hi, p⟩
    have q := SqT.same (hk i σ H p) hl
    by_cases hlt : i < xs.length
    · refine .inr ⟨⟨xs, xs[i], q, by simp [hlt]⟩, Pv (i + 1), fun σ' H' p' => ⟨xs.length - (i + 1), by omega, rfl, hlt, p'⟩, fun x H' y => ?_⟩
      obtain ⟨T, z, rfl, nT, rfl, y⟩ := y
      exact hs i z T σ H _ (y xs q) p nT (Same.new nT) upd_same
    · have e : i = xs.length := by omega
      subst e
      exact .inl ⟨⟨xs, q, Nat.le_refl _⟩, hd σ H p⟩
end
end Wp
set_option Elab.async false
set_option linter.all false
set_option maxRecDepth 100000
set_option maxHeartbeats 4000000
namespace Wp
open PySem PySem.Spec PyProof.Rows L2
abbrev s__law_begun : Stmt := topS 38
abbrev s__law_mixed : Stmt := topS 39
abbrev s__law_take : Stmt := topS 40
abbrev s__law_pick : Stmt := topS 41

/-! ### the source of draws: a dict of four entries -/
def dkv (l c : Addr) (r t : Int) : List (Key × V) :=
  [(Sum.inr ("large" : Str), .ref l), (Sum.inr ("cells" : Str), .ref c), (Sum.inr ("rest" : Str), .int r), (Sum.inr ("turn" : Str), .int t)]
theorem k13 : ¬ (Sum.inr ("large" : Str) : Key) = Sum.inr ("cells" : Str) := by decide +kernel
theorem k12 : ¬ (Sum.inr ("large" : Str) : Key) = Sum.inr ("rest" : Str) := by decide +kernel
theorem k22 : ¬ (Sum.inr ("cells" : Str) : Key) = Sum.inr ("rest" : Str) := by decide +kernel
theorem k32 : ¬ (Sum.inr ("turn" : Str) : Key) = Sum.inr ("rest" : Str) := by decide +kernel
theorem k14 : ¬ (Sum.inr ("large" : Str) : Key) = Sum.inr ("turn" : Str) := by decide +kernel
theorem k24 : ¬ (Sum.inr ("cells" : Str) : Key) = Sum.inr ("turn" : Str) := by decide +kernel
theorem k34 : ¬ (Sum.inr ("rest" : Str) : Key) = Sum.inr ("turn" : Str) := by decide +kernel
section
variable {l c : Addr} {r t r' t' : Int}
theorem dkv_nd : ((dkv l c r t).map (·.1)).Nodup := (by decide +kernel : ([Sum.inr ("large" : Str), Sum.inr ("cells" : Str), Sum.inr ("rest" : Str), Sum.inr ("turn" : Str)] : List Key).Nodup)
theorem v_large : valV (dkv l c r t) (Sum.inr ("large" : Str)) = some (.ref l) := valV_pos rfl
theorem v_cells : valV (dkv l c r t) (Sum.inr ("cells" : Str)) = some (.ref c) := by
  unfold dkv
  rw [valV_neg k13, valV_pos rfl]
theorem v_rest : valV (dkv l c r t) (Sum.inr ("rest" : Str)) = some (.int r) := by
  unfold dkv
  rw [valV_neg k12, valV_neg k22, valV_pos rfl]
theorem v_turn : valV (dkv l c r t) (Sum.inr ("turn" : Str)) = some (.int t) := by
  unfold dkv
  rw [valV_neg k14, valV_neg k24, valV_neg k34, valV_pos rfl]
theorem p_rest : putK (dkv l c r t) (Sum.inr ("rest" : Str)) (.int r') = dkv l c r' t := by
  have a : ((dkv l c r t).any fun kv => decide (kv.1 = Sum.inr ("rest" : Str))) = true := by
    rw [valV_any, v_rest] <;> rfl
  unfold putK
  rw [if_pos a]
  simp only [dkv, List.map_cons, List.map_nil, if_neg k12, if_neg k22, if_neg k32, if_pos trivial]
theorem p_turn : putK (dkv l c r t) (Sum.inr ("turn" : Str)) (.int t') = dkv l c r t' := by
  have a : ((dkv l c r t).any fun kv => decide (kv.1 = Sum.inr ("turn" : Str))) = true := by
    rw [valV_any, v_turn] <;> rfl
  unfold putK
  rw [if_pos a]
  simp only [dkv, List.map_cons, List.map_nil, if_neg k14, if_neg k24, if_neg k34, if_pos trivial]
end

/-- the source of draws stands at st: its large cells at l, the script's copy at c -/
structure DS (st l c : Addr) (cs : List Int) (B : Int) (H : Hp) : Prop where
  d : ∃ r t, 0 ≤ r ∧ 0 ≤ t ∧ t ≤ B ∧ H st = some (.dK (dkv l c r t))
  lg : ∃ zs : List Int, (∀ z ∈ zs, 0 ≤ z) ∧ H l = some (.lst (zs.map V.int))
  cl : H c = some (.lst (cs.map V.int))
  n1 : c ≠ l
theorem DS.ne {st l c : Addr} {cs : List Int} {B : Int} {H : Hp} (D : DS st l c cs B H) : c ≠ st ∧ l ≠ st := by
  obtain ⟨r, t, _, _, _, h⟩ := D.d
  obtain ⟨zs, _, h2⟩ := D.lg
  exact ⟨ne_of D.cl h (by intro z; cases z), ne_of h2 h (by intro z; cases z)⟩
/-- all but the source of draws is as it was -/
def Kp (st l : Addr) (H H' : Hp) : Prop := ∀ b o, H b = some o → b ≠ st → b ≠ l → H' b = some o
theorem Kp.refl {st l : Addr} {H : Hp} : Kp st l H H := fun _ _ h _ _ => h
theorem Kp.trans {st l : Addr} {H H1 H2 : Hp} (a : Kp st l H H1) (b : Kp st l H1 H2) : Kp st l H H2 :=
  fun x o h n1 n2 => b x o (a x o h n1 n2) n1 n2
theorem Kp.of {st l : Addr} {H H' : Hp} (a : Same H H') : Kp st l H H' := fun x o h _ _ => a x o h
theorem DS.keep {st l c : Addr} {cs : List Int} {B : Int} {H H' : Hp} (D : DS st l c cs B H) (e : Same H H') : DS st l c cs B H' := by
  obtain ⟨⟨r, t, hr, h0, h1, h⟩, ⟨zs, hz, h2⟩, h3, n⟩ := D
  exact ⟨⟨r, t, hr, h0, h1, e _ _ h⟩, ⟨zs, hz, e _ _ h2⟩, e _ _ h3, n⟩
theorem DS.mono {st l c : Addr} {cs : List Int} {B B' : Int} {H : Hp} (D : DS st l c cs B H) (h : B ≤ B') : DS st l c cs B' H := by
  obtain ⟨⟨r, t, hr, h0, h1, h⟩, h2, h3, n⟩ := D
  exact ⟨⟨r, t, hr, h0, by omega, h⟩, h2, h3, n⟩

def sp_mixed : Sp := fun vs H Q _ => ∃ (st l c : Addr) (cs : List Int) (B : Int), vs = [.ref st] ∧ B ≤ 35184372088832 ∧ DS st l c cs B H ∧
  ∀ (k : Int) (H' : Hp), 0 ≤ k → DS st l c cs (B + 1) H' → Kp st l H H' → Q (.int k) H'
def sp_take : Sp := fun vs H Q _ => ∃ (st l c : Addr) (cs : List Int) (B n : Int), vs = [.ref st, .int n] ∧ 0 < n ∧ n < 1073741824 ∧ B ≤ 35184372088832 ∧ DS st l c cs B H ∧
  ∀ (k : Int) (H' : Hp), 0 ≤ k → k < n → DS st l c cs (B + 1) H' → Kp st l H H' → Q (.int k) H'
/-- pick: an item of a list -/
def sp_pick : Sp := fun vs H Q _ => ∃ (st l c p : Addr) (cs : List Int) (B : Int) (xs : List V), vs = [.ref st, .ref p] ∧ B ≤ 35184372088832 ∧ DS st l c cs B H ∧ H p = some (.lst xs) ∧ xs ≠ [] ∧ xs.length < 1000000 ∧ p ≠ l ∧
  ∀ (i : Nat) (x : V) (H' : Hp), xs[i]? = some x → DS st l c cs (B + 1) H' → Kp st l H H' → Q x H'
def sp_begun (K : PySem.W.Frag) : Sp := fun vs H Q _ => ∃ (a : Addr) (cs : List Int), vs = [.ref a] ∧ SqL K H a (cs.map V.int) ∧ cs.length ≤ 63 ∧
  ∀ (st l c : Addr) (H' : Hp), H st = none → H l = none → H c = none → Same H H' → DS st l c cs 0 H' → Q (.ref st) H'

structure Tx (K : PySem.W.Frag) (mg : Str → Option Value) : Prop where
  b_all : mg "all" = none
  b_bool : mg "bool" = none
  b_dict : mg "dict" = none
  b_int : mg "int" = none
  b_isinstance : mg "isinstance" = none
  b_len : mg "len" = none
  b_list : mg "list" = none
  b_max : mg "max" = none
  b_min : mg "min" = none
  b_range : mg "range" = none
  b_repr : mg "repr" = none
  b_sorted : mg "sorted" = none
  b_str : mg "str" = none
  b_sum : mg "sum" = none
  b_super : mg "super" = none
  b_tuple : mg "tuple" = none
  b_zip : mg "zip" = none
  c_DAY : ∃ t, mg "DAY" = some (.str "day" t)
  c_LETTERS : ∃ t, mg "LETTERS" = some (.str "abcdefghijklmnopqrstuvwxyz" t)
  c_LONGEST : ∃ t, mg "LONGEST" = some (.int 31 t)
  c_MOST_BALANCE : ∃ t, mg "MOST_BALANCE" = some (.int 100000 t)
  c_MOST_DAY : ∃ t, mg "MOST_DAY" = some (.int 2000 t)
  c_MOST_KINDS : ∃ t, mg "MOST_KINDS" = some (.int 6 t)
  c_MOST_LEAST : ∃ t, mg "MOST_LEAST" = some (.int 1000000 t)
  c_MOST_LENGTHS : ∃ t, mg "MOST_LENGTHS" = some (.int 4 t)
  c_MOST_MEMORY : ∃ t, mg "MOST_MEMORY" = some (.int 2 t)
  c_MOST_NAME : ∃ t, mg "MOST_NAME" = some (.int 8 t)
  c_MOST_RATE : ∃ t, mg "MOST_RATE" = some (.int 1000 t)
  c_SHORTEST : ∃ t, mg "SHORTEST" = some (.int 2 t)
  c_STATEMENT : ∃ t, mg "STATEMENT" = some (.str "statement" t)
  c_THOUSAND : ∃ t, mg "THOUSAND" = some (.int 1000 t)
  g_CreditError : mg "CreditError" = some (.ref (He.ga K "CreditError"))
  g_BadBook : mg "BadBook" = some (.ref (He.ga K "BadBook"))
  g_BadNumber : mg "BadNumber" = some (.ref (He.ga K "BadNumber"))
  g_BadPlan : mg "BadPlan" = some (.ref (He.ga K "BadPlan"))
  g_Book : mg "Book" = some (.ref (He.ga K "Book"))
  g_Plan : mg "Plan" = some (.ref (He.ga K "Plan"))

local macro_rules | `(tactic| walk_at "val") => `(tactic| assumption)
local macro_rules | `(tactic| walk_at "rd1") => `(tactic| first
  | with_reducible refine r_seq ?_ | with_reducible refine r_next ?_ | with_reducible refine r_if ?_ | with_reducible refine r_asg ?_ | with_reducible refine r_gname ?_
  | with_reducible refine r_ret ?_ | with_reducible refine r_retN ?_ | with_reducible refine r_drop ?_ | with_reducible refine r_par ?_ | with_reducible refine r_kPar ?_
  | ((with_reducible refine' r_var ?hv ?_); (case hv => exact rfl)) | with_reducible refine r_c ?_ | with_reducible refine r_nil ?_ | with_reducible refine r_cons ?_
  | with_reducible refine r_fn ?_ | with_reducible refine r_cb ?_ | with_reducible refine r_op ?_ | with_reducible refine r_un ?_ | with_reducible refine r_I0 ?_
  | with_reducible refine r_pow5 ?_ | with_reducible refine r_pow6 ?_ | with_reducible refine r_pow7 ?_ | with_reducible refine r_pow9 ?_ | with_reducible refine r_pow18 ?_ | with_reducible refine r_pow20 ?_ | with_reducible refine r_pow30 ?_
  | with_reducible refine r_isN_non ?_ | with_reducible refine r_isN_ref ?_ | with_reducible refine r_isN_int ?_ | with_reducible refine r_isN_str ?_ | with_reducible refine r_isN_bl ?_ | with_reducible refine r_notN_non ?_ | with_reducible refine r_notN_ref ?_ | with_reducible refine r_notN_int ?_ | with_reducible refine r_notN_str ?_ | with_reducible refine r_notN_bl ?_
  | ((with_reducible refine r_I ?hc ?_); (case hc => walk_at "side")) | with_reducible refine r_U ?_
  | with_reducible refine r_eqI ?_ | with_reducible refine r_neI ?_ | with_reducible refine r_eqS ?_ | with_reducible refine r_neS ?_ | with_reducible refine r_eqB ?_ | with_reducible refine r_neB ?_
  | with_reducible refine r_chain ?_ | with_reducible refine r_test ?_ | with_reducible refine r_tB ?_ | with_reducible refine r_kTest ?_ | with_reducible refine r_not ?_
  | with_reducible refine r_and ?_ | with_reducible refine r_or ?_ | with_reducible refine r_tif ?_ | with_reducible refine r_andV ?_ | with_reducible refine r_orV ?_ | with_reducible refine r_notV ?_
  | with_reducible refine r_kAndV ?_ | with_reducible refine r_kOrV ?_ | with_reducible refine r_kNotV ?_
  | with_reducible refine w_T ?_ | with_reducible refine w_F ?_ | with_reducible refine w_NT ?_ | with_reducible refine w_NF ?_
  | with_reducible refine r_tup ?_ | with_reducible refine r_lst ?_ | with_reducible refine r_fld ?_ | with_reducible refine r_prop ?_ | ((with_reducible refine' r_aug ?h1 ?_); (case h1 => exact rfl)) | with_reducible refine r_ipI ?_ | with_reducible refine r_dget ?_ | with_reducible refine r_dput ?_ | with_reducible refine r_bm ?_
  | ((with_reducible refine' r_kDGetS ?h1 ?h2 ?_); (case h1 => assumption); (case h2 => walk_at "val"))
  | ((with_reducible refine' r_kBML ?h1 ?_); (case h1 => assumption))
  | with_reducible refine r_forL ?_ | with_reducible refine r_forR1 ?_ | with_reducible refine r_forR2 ?_ | with_reducible refine r_forT ?_ | with_reducible refine r_lcL ?_ | with_reducible refine r_lcR1 ?_
  | ((with_reducible refine r_kLcG ?hw ?_); (case hw => exact rfl)) | with_reducible refine r_kLcT ?_ | with_reducible refine r_yes ?_
  | with_reducible refine r_pnil ?_ | with_reducible refine r_pcons ?_
  | with_reducible refine r_fnK ?_ | ((with_reducible refine r_kFnK ?hl ?_); (case hl => exact rfl))
  | with_reducible refine r_isi_ii ?_ | with_reducible refine r_isi_ib ?_ | with_reducible refine r_isi_bi ?_ | with_reducible refine r_isi_bb ?_ | with_reducible refine r_isi_ss ?_ | with_reducible refine r_isi_is ?_ | with_reducible refine r_isi_it ?_
  | ((with_reducible refine' r_isi_tt ?h1 ?_); (case h1 => assumption))
  | with_reducible refine r_sfld ?_ | with_reducible refine r_gnil ?_ | with_reducible refine r_gcons ?_
  | ((with_reducible refine' r_gtup ?h1 ?h2 ?_); (case h1 => exact SqT.of (by assumption)); (case h2 => exact rfl))
  | with_reducible refine r_sl ?_ | with_reducible refine r_noPart ?_ | with_reducible refine r_part ?_ | with_reducible refine r_kPart ?_ | with_reducible refine r_m1 ?_ | with_reducible refine r_kM1 ?_ | with_reducible refine r_forS ?_ | with_reducible refine r_lcS ?_ | with_reducible refine r_lcTu ?_ | with_reducible refine r_lcK ?_ | with_reducible refine r_dcL ?_ | with_reducible refine r_dcK ?_ | with_reducible refine r_lc2L ?_ | with_reducible refine r_kLc2TL ?_ | with_reducible refine r_dcEn ?_ | with_reducible refine r_gslc ?_ | with_reducible refine r_lcEn ?_ | with_reducible refine r_lcZip ?_ | with_reducible refine r_lcEl ?_ | with_reducible refine r_lcR2 ?_ | with_reducible refine r_rg1 ?_ | with_reducible refine r_rg2 ?_ | with_reducible refine r_forET ?_ | with_reducible refine r_lenD ?_
  | ((with_reducible refine r_kDcG ?hw ?_); (case hw => exact rfl)) | with_reducible refine r_kDcT ?_
  | with_reducible refine r_fldaug ?_ | with_reducible refine r_daug ?_ | with_reducible refine r_rAdd ?_ | with_reducible refine r_rSub ?_ | with_reducible refine r_ddel ?_ | with_reducible refine r_bmF ?_ | with_reducible refine r_dget2 ?_ | with_reducible refine r_listItems ?_ | with_reducible refine r_bm0 ?_ | with_reducible refine r_lc2E ?_ | ((with_reducible refine r_kLc2G ?hw ?_); (case hw => exact rfl)) | with_reducible refine r_kLc2T ?_ | with_reducible refine r_forE ?_ | with_reducible refine r_orT ?_ | with_reducible refine r_din ?_ | with_reducible refine r_augS ?_ | with_reducible refine r_dnotin ?_ | with_reducible refine r_lcIT ?_ | with_reducible refine r_cont ?_ | with_reducible refine r_meth ?_ | with_reducible refine r_frz ?_ | with_reducible refine r_par3 ?_ | with_reducible refine r_kPar3 ?_ | with_reducible refine r_dz ?_ | with_reducible refine r_revL ?_ | with_reducible refine r_revT ?_ | with_reducible refine r_star ?_ | with_reducible refine r_int1 ?_ | with_reducible refine r_int1b ?_ | with_reducible refine r_min2 ?_ | with_reducible refine r_max2 ?_ | with_reducible refine r_gsub ?_ | with_reducible refine r_err ?_ | with_reducible refine r_errT ?_ | with_reducible refine r_xv ?_)
local macro_rules | `(tactic| walk_at "rd") => `(tactic| repeat walk_at "rd1")
local macro_rules | `(tactic| walk_at "side") => `(tactic| first | assumption | exact Or.inr ⟨by decide, by decide⟩ | exact Or.inl ⟨by decide, by decide⟩ | (constructor <;> omega) | omega | decide | (refine Or.inl ⟨?_, ?_⟩ <;> omega) | (refine Or.inr ⟨?_, ?_⟩ <;> omega) | (refine ⟨?_, ?_, ?_⟩ <;> first | decide | omega))
local macro_rules | `(tactic| walk_at "val") => `(tactic| first | exact v_rest | exact v_turn | exact v_large | exact v_cells)
section
variable {P : Program} {w : World} {K : PySem.W.Frag} {mg : Str → Option Value} {base : Heap}
theorem primes_mem {x : V} (h : x ∈ [V.int 2147483629, V.int 2147483587, V.int 2147483579, V.int 2147483563, V.int 2147483549, V.int 2147483543]) : ∃ q : Int, x = .int q ∧ 2000000000 < q ∧ q < 2147483648 := by
  simp only [List.mem_cons, List.not_mem_nil, or_false] at h
  rcases h with h | h | h | h | h | h <;> exact ⟨_, h, by decide, by decide⟩
theorem ints_get {xs : List Int} {i : Nat} {x : V} (h : (xs.map V.int)[i]? = some x) : ∃ z, x = .int z ∧ xs[i]? = some z := by
  rw [List.getElem?_map] at h
  cases e : xs[i]? with
  | none => rw [e] at h; cases h
  | some z => rw [e] at h; exact ⟨z, (Option.some.inj h).symm, rfl⟩
theorem ok__law_mixed {f : Addr} {fd : FuncData} (T : Tx K mg) (F : FnP K "_law_mixed" s__law_mixed f fd) :
    FnOk P w K mg base CX0 1 f fd ["_law_state"] sp_mixed := by
  have sc : FnScope ["_law_state", "_law_found", "_law_prime", "_law_blend", "_law_cell"] ["_law_state"] (defScope s__law_mixed) := ⟨rfl, rfl, rfl, by decide +kernel, rfl, by decide +kernel, by decide +kernel⟩
  refine F.ok sc (by rintro vs H Q E ⟨_, _, _, _, _, rfl, _⟩; rfl) (fun cdv A outer s H vs Q E hr h => ⟨_, PSs.nox ((pss_cons (ps_dput (hu_of hr) (pv 0) pe_str (pe_op op_add (pe_dget (hu_of hr) (pv 0) pe_str (fun _ _ => rfl)) pe_int) rfl)
      (pss_cons (ps_set (i := 1) sc.nd rfl (by first | exact Or.inl rfl | exact Or.inr rfl) pe_int)
      (pss_cons (ps_for PassesOwn.never rfl (pi_listK (K := K) rfl (pe_lst (pa_cons pe_int (pa_cons pe_int (pa_cons pe_int (pa_cons pe_int (pa_cons pe_int (pa_cons pe_int pa_nil)))))))) (pg_name (i := 2) sc.nd rfl (by first | exact Or.inl rfl | exact Or.inr rfl)) (pss_cons (ps_set (i := 3) sc.nd rfl (by first | exact Or.inl rfl | exact Or.inr rfl) (pe_op op_add (pe_op op_mul pe_int (pe_dget (hu_of hr) (pv 0) pe_str (fun _ _ => rfl))) (pe_op op_fdiv (pv 2) pe_int)))
      (pss_cons (ps_for PassesOwn.never rfl (pi_listK (K := K) rfl (pe_dget (hu_of hr) (pv 0) pe_str (fun _ _ => rfl))) (pg_name (i := 4) sc.nd rfl (by first | exact Or.inl rfl | exact Or.inr rfl)) (pss_one (ps_set (i := 3) sc.nd rfl (by first | exact Or.inl rfl | exact Or.inr rfl) (pe_op op_mod (pe_callTy c_int1 (by rfl) T.b_int (by decide +kernel) (pa_cons (pe_op op_add (pe_op op_mul (pv 3) pe_int) (pv 4)) pa_nil)) (pv 2)))))
      (pss_one (ps_set (i := 1) sc.nd rfl (by first | exact Or.inl rfl | exact Or.inr rfl) (pe_op op_add (pe_op op_mul (pv 1) pe_int) (pe_op op_mod (pe_callTy c_int1 (by rfl) T.b_int (by decide +kernel) (pa_cons (pe_op op_pow (pv 3) pe_int) pa_nil)) (pv 2))))))))
      (pss_one (ps_ret (pv 1))))))), ?_⟩)
  obtain ⟨st, l, c, cs, B, rfl, hB, D, k⟩ := h
  obtain ⟨⟨r, t, hr0, ht0, htB, hd⟩, ⟨zs, hz, hl⟩, hc, n1⟩ := id D
  obtain ⟨n2, n3⟩ := D.ne
  walk_at "rd"
  refine r_kDPutS hd (show 4 < 1000000 by decide) fun H1 b1 hd1 => ?_
  rw [p_turn] at hd1
  have hc1 := b1 _ _ hc n2
  walk_at "rd"
  refine r_kLst fun p H2 np e2 hp => ?_
  replace hd1 := e2 _ _ hd1
  replace hc1 := e2 _ _ hc1
  refine r_kForL (xs := [V.int 2147483629, V.int 2147483587, V.int 2147483579, V.int 2147483563, V.int 2147483549, V.int 2147483543])
    (fun _ σ' H' => H2 = H' ∧ ∃ (z : Int) (x y u : Option V), σ' = [some (.ref st), some (.int z), x, y, u] ∧ 0 ≤ z) (SqL.of hp) ⟨rfl, _, _, _, _, rfl, Int.le_refl 0⟩ (fun _ σ' H' ⟨e, _⟩ => by rw [← e]; exact SqL.of hp) ?_ ?_
  · rintro i x σ' H' hx ⟨rfl, z, x2, x3, x4, rfl, hz0⟩
    obtain ⟨q, rfl, hq1, hq2⟩ := primes_mem (List.mem_of_getElem? hx)
    walk_at "rd"
    refine r_kForL (xs := cs.map V.int) (fun _ σ' H' => H2 = H' ∧ ∃ (y : Int) (u : Option V), σ' = [some (.ref st), some (.int z), some (.int q), some (.int y), u] ∧ -18446744073709551616 < y ∧ y < 18446744073709551616)
      (SqL.of hc1) ⟨rfl, _, _, rfl, by omega, by omega⟩ (fun _ σ' H' ⟨e, _⟩ => by rw [← e]; exact SqL.of hc1) ?_ ?_
    · rintro j x σ' H' hx ⟨rfl, y, u, rfl, hy1, hy2⟩
      obtain ⟨z', rfl, _⟩ := ints_get hx
      walk_at "rd"
      have h1 := Int.emod_nonneg (y * 48271 + z') (b := q) (by omega)
      have h2 := Int.emod_lt_of_pos (y * 48271 + z') (b := q) (by omega)
      exact ⟨rfl, _, _, rfl, by omega, by omega⟩
    · rintro σ' H' ⟨rfl, y, u, rfl, hy1, hy2⟩
      walk_at "rd"
      have h1 := Int.emod_nonneg (y ^ (5 : Int).toNat) (b := q) (by omega)
      exact ⟨rfl, _, _, _, _, rfl, by omega⟩
  · rintro σ' H' ⟨rfl, z, x2, x3, x4, rfl, hz0⟩
    walk_at "rd"
    refine k z H2 hz0 ⟨⟨r, t + 1, hr0, by omega, by omega, hd1⟩, ⟨zs, hz, e2 _ _ (b1 _ _ hl n3)⟩, hc1, n1⟩ fun b o hb m1 m2 => e2 _ _ (b1 _ _ hb m1)
theorem ok__law_take {f : Addr} {fd : FuncData} (T : Tx K mg) (F : FnP K "_law_take" s__law_take f fd)
    (d__law_mixed : Dn P w K mg base CX0 1 "_law_mixed" ["_law_state"] sp_mixed) :
    FnOk P w K mg base CX0 2 f fd ["_law_state", "_law_size"] sp_take := by
  have sc : FnScope ["_law_state", "_law_size", "_law_found"] ["_law_state", "_law_size"] (defScope s__law_take) := ⟨rfl, rfl, rfl, by decide +kernel, rfl, by decide +kernel, by decide +kernel⟩
  refine F.ok sc (by rintro vs H Q E ⟨_, _, _, _, _, _, rfl, _⟩; rfl) (fun cdv A outer s H vs Q E hr h => ⟨_, PSs.nox ((Evl.pss_cut (ps_if (pt_cmpR op_eq (pe_dget (hu_of hr) (pv 0) pe_str (fun _ _ => rfl)) pe_int (nomark _)) (pss_one (ps_dput (hu_of hr) (pv 0) pe_str (pe_ifExp (pt_cmpR (neDK (K := K) rfl hr.units) (pe_dget (hu_of hr) (pv 0) pe_str (fun _ _ => rfl)) (pe_lst pa_nil) (nomark _)) (pe_bmK (K := K) rfl PySem.F.plainAttrs_list PySem.F.slot_list_pop PySem.F.type_list_pop mt_popAt (pe_dget (hu_of hr) (pv 0) pe_str (fun _ _ => rfl)) (pa_cons pe_int pa_nil)) (pe_fn d__law_mixed (hr.mono (by decide)) pass0 (pa_cons (pv 0) pa_nil))) rfl)) pss_nil)
      (pss_cons (ps_set (i := 2) sc.nd rfl (by first | exact Or.inl rfl | exact Or.inr rfl) (pe_op op_mod (pe_callTy c_int1 (by rfl) T.b_int (by decide +kernel) (pa_cons (pe_dget (hu_of hr) (pv 0) pe_str (fun _ _ => rfl)) pa_nil)) (pv 1)))
      (pss_cons (ps_dput (hu_of hr) (pv 0) pe_str (pe_op op_fdiv (pe_dget (hu_of hr) (pv 0) pe_str (fun _ _ => rfl)) (pv 1)) rfl)
      (pss_one (ps_ret (pv 2))))))), ?_⟩)
  obtain ⟨st, l, c, cs, B, n, rfl, hn, hn2, hB, D, k⟩ := h
  refine r_cut (fun σ' H' => σ' = [some (.ref st), some (.int n), none] ∧ DS st l c cs (B + 1) H' ∧ Kp st l H H') ?_ ?_
  · obtain ⟨⟨r, t, hr0, ht0, htB, hd⟩, ⟨zs, hz, hl⟩, hc, n1⟩ := id D
    obtain ⟨n2, n3⟩ := D.ne
    walk_at "rd"
    refine w_dec (fun h0 => ?_) (fun h0 => ?_)
    · walk_at "rd"
      refine r_kLst fun p H1 np e1 hp => ?_
      refine r_neLI (as := zs) (bs := []) (SqL.of (e1 _ _ hl)) (SqL.of hp) ?_
      walk_at "rd"
      replace hd := e1 _ _ hd
      replace hl := e1 _ _ hl
      replace hc := e1 _ _ hc
      refine w_ndec (fun hn => ?_) (fun hn => ?_)
      · cases zs with
        | nil => exact absurd rfl hn
        | cons z zs =>
          walk_at "rd"
          refine r_popAt0 hl fun H2 b2 hl2 => ?_
          walk_at "rd"
          have hd2 := b2 _ _ hd n3.symm
          refine r_kDPutS hd2 (show 4 < 1000000 by decide) fun H3 b3 hd3 => ?_
          rw [p_rest] at hd3
          refine ⟨rfl, ⟨⟨z, t, hz z (List.mem_cons_self ..), ht0, by omega, hd3⟩, ⟨zs, fun y hy => hz y (List.mem_cons_of_mem _ hy), b3 _ _ hl2 n3⟩, b3 _ _ (b2 _ _ hc n1) n2, n1⟩, fun b o hb m1 m2 => b3 _ _ (b2 _ _ (e1 _ _ hb) m2) m1⟩
      · walk_at "rd"
        refine ⟨st, l, c, cs, B, rfl, hB, D.keep e1, fun m H2 hm D2 k2 => ?_⟩
        obtain ⟨⟨r2, t2, hr2, ht2, htB2, hd2⟩, ⟨zs2, hz2, hl2⟩, hc2, _⟩ := id D2
        walk_at "rd"
        refine r_kDPutS hd2 (show 4 < 1000000 by decide) fun H3 b3 hd3 => ?_
        rw [p_rest] at hd3
        exact ⟨rfl, ⟨⟨m, t2, hm, ht2, htB2, hd3⟩, ⟨zs2, hz2, b3 _ _ hl2 n3⟩, b3 _ _ hc2 n2, n1⟩, fun b o hb m1 m2 => b3 _ _ (k2 _ _ (e1 _ _ hb) m1 m2) m1⟩
    · walk_at "rd"
      exact ⟨rfl, D.mono (by omega), Kp.refl⟩
  · rintro σ' H' ⟨rfl, D2, k2⟩
    obtain ⟨⟨r, t, hr0, ht0, htB, hd⟩, ⟨zs, hz, hl⟩, hc, n1⟩ := id D2
    obtain ⟨n2, n3⟩ := D2.ne
    walk_at "rd"
    refine r_kDPutS hd (show 4 < 1000000 by decide) fun H3 b3 hd3 => ?_
    rw [p_rest] at hd3
    walk_at "rd"
    refine k (r % n) H3 (Int.emod_nonneg _ (by omega)) (Int.emod_lt_of_pos _ hn) ⟨⟨_, t, Int.ediv_nonneg hr0 (Int.le_of_lt hn), ht0, htB, hd3⟩, ⟨zs, hz, b3 _ _ hl n3⟩, b3 _ _ hc n2, n1⟩ fun b o hb m1 m2 => b3 _ _ (k2 _ _ hb m1 m2) m1
theorem ok__law_pick {f : Addr} {fd : FuncData} (T : Tx K mg) (F : FnP K "_law_pick" s__law_pick f fd)
    (d__law_take : Dn P w K mg base CX0 2 "_law_take" ["_law_state", "_law_size"] sp_take) :
    FnOk P w K mg base CX0 3 f fd ["_law_state", "_law_some"] sp_pick := by
  have sc : FnScope ["_law_state", "_law_some"] ["_law_state", "_law_some"] (defScope s__law_pick) := ⟨rfl, rfl, rfl, by decide +kernel, rfl, by decide +kernel, by decide +kernel⟩
  refine F.ok sc (by rintro vs H Q E ⟨_, _, _, _, _, _, _, rfl, _⟩; rfl) (fun cdv A outer s H vs Q E hr h => ⟨_, PSs.nox ((pss_one (ps_ret (pe_ix (ix_listK (K := K) rfl) (pv 1) (pe_fn d__law_take (hr.mono (by decide)) pass0 (pa_cons (pv 0) (pa_cons (pe_callB (c_lenK (K := K) rfl) (by rfl) T.b_len (by decide +kernel) (pa_cons (pv 1) pa_nil)) pa_nil))) (fun _ _ => rfl))))), ?_⟩)
  obtain ⟨st, l, c, p, cs, B, xs, rfl, hB, D, hp, hne, hlen, npl, k⟩ := h
  have h0 : 0 < xs.length := List.length_pos_iff.mpr hne
  have npst : p ≠ st := by
    obtain ⟨r, t, _, _, _, h⟩ := D.d
    exact ne_of hp h (by intro z; cases z)
  walk_at "rd"
  refine r_lenL (SqL.of hp) ?_
  walk_at "rd"
  refine ⟨st, l, c, cs, B, _, rfl, by omega, by omega, hB, D, fun m H1 hm hm2 D1 k1 => ?_⟩
  have hi : m.toNat < xs.length := by omega
  refine r_ixL (SqL.of (k1 _ _ hp npst npl)) (at_get (n := m.toNat) (by omega) (List.getElem?_eq_getElem hi)) ?_
  exact k m.toNat _ H1 (List.getElem?_eq_getElem hi) D1 k1
theorem ok__law_begun {f : Addr} {fd : FuncData} (T : Tx K mg) (F : FnP K "_law_begun" s__law_begun f fd) :
    FnOk P w K mg base CX0 1 f fd ["_law_script"] (sp_begun K) := by
  have sc : FnScope ["_law_script", "_law_large", "_law_cell"] ["_law_script"] (defScope s__law_begun) := ⟨rfl, rfl, rfl, by decide +kernel, rfl, by decide +kernel, by decide +kernel⟩
  refine F.ok sc (by rintro vs H Q E ⟨_, _, rfl, _⟩; rfl) (fun cdv A outer s H vs Q E hr h => ⟨_, PSs.nox ((pss_cons (ps_setLc (i := 1) (own := [("_law_cell", 2)]) (by rfl) sc.nd rfl rfl (sw_true rfl rfl rfl (by decide +kernel)) (pi_listK (K := K) rfl (pv 0)) (blkOk_by (own := [("_law_cell", 2)]) (N := ["_law_script", "_law_large", "_law_cell"]) (sc := defScope s__law_begun) (by decide +kernel)) (fun _ _ _ _ _ => (pg_name (i := 2) sc.nd rfl (by first | exact Or.inl rfl | exact Or.inr rfl))) (fun _ _ _ _ _ => (pts_one (pt_cmpR op_ge (pv 2) (pe_op op_pow pe_int pe_int) (nomark _)))) (fun _ _ _ _ _ => (pe_op op_sub (pv 2) (pe_op op_pow pe_int pe_int))))
      (pss_one (ps_ret (pe_disp (pps_cons pe_str (pv 1) (pps_cons pe_str (pe_callTy (c_listK (K := K) rfl) (by rfl) T.b_list (by decide +kernel) (pa_cons (pv 0) pa_nil)) (pps_cons pe_str pe_int (pps_cons pe_str pe_int pps_nil)))) (by rfl) (by rfl) (fun z => by cases z) (by decide)))))), ?_⟩)
  obtain ⟨a, cs, rfl, hS, hlen, k⟩ := h
  walk_at "rd"
  refine r_kLcL (xs := cs.map V.int) (fun Da i H' => Same H H' ∧ ∃ zs : List Int, (∀ z ∈ zs, 0 ≤ z) ∧ zs.length ≤ i ∧ H' Da = some (.lst (zs.map V.int))) hS (fun Da H' hD e h => ⟨e, [], (fun z hz => nomatch hz), Nat.le_refl _, h⟩)
    (fun Da i H' ⟨e, _⟩ => e.seq hS) ?_ ?_
  · rintro Da i x H' hD hx ⟨e, zs, hz, hl, hDa⟩
    obtain ⟨z, rfl, hz2⟩ := ints_get hx
    have hi : i < cs.length := (List.getElem?_eq_some_iff.mp hz2).1
    walk_at "rd"
    refine w_dec (fun h1 => ?_) (fun h1 => ?_)
    · walk_at "rd"
      refine r_kLcE hDa (by rw [List.length_map]; omega) fun H2 b2 h2 => ⟨Same.mut e b2 hD, zs ++ [z - 1000000000000000000], ?_, by rw [List.length_append]; show zs.length + 1 ≤ i + 1; omega, by rw [List.map_append]; exact h2⟩
      intro y hy
      rcases List.mem_append.mp hy with hy | hy
      · exact hz y hy
      · rw [List.mem_singleton.mp hy]
        omega
    · exact ⟨e, zs, hz, by omega, hDa⟩
  · rintro Da H1 hD ⟨e1, zs, hz, hl, hDa⟩
    walk_at "rd"
    refine r_disp fun p H2 np e2 hp => ?_
    walk_at "rd"
    refine r_listL (e2.seq (e1.seq hS)) fun q H3 nq e3 hq => ?_
    walk_at "rd"
    refine r_kDisp (dkv Da q 0 0) (e3 _ _ hp) rfl (show 4 ≤ 15 by decide) dkv_nd fun H4 b4 h4 => ?_
    have hDa3 := e3 _ _ (e2 _ _ hDa)
    have npq : q ≠ p := ne_of hq (e3 _ _ hp) (by intro z; cases z)
    have npD : Da ≠ p := ne_of hDa3 (e3 _ _ hp) (by intro z; cases z)
    have nqD : q ≠ Da := (ne_of_none (e2 _ _ hDa) nq).symm
    have s03 : Same H H3 := (e1.trans e2).trans e3
    have np0 : H p = none := e1.free np
    refine k p Da q H4 np0 hD ((e1.trans e2).free nq) (Same.mut s03 b4 np0) ⟨⟨0, 0, Int.le_refl _, Int.le_refl _, Int.le_refl _, h4⟩, ⟨zs, hz, b4 _ _ hDa3 npD⟩, b4 _ _ hq npq, nqD⟩
end
end Wp
set_option Elab.async false
set_option linter.all false
set_option maxRecDepth 100000
set_option maxHeartbeats 4000000
namespace Wp
open PySem PySem.Spec PyProof.Rows L2
abbrev s_is_number : Stmt := topS 18
abbrev s_is_number_in : Stmt := topS 19
local macro_rules | `(tactic| walk_at "val") => `(tactic| assumption)
local macro_rules | `(tactic| walk_at "rd1") => `(tactic| first
  | with_reducible refine r_seq ?_ | with_reducible refine r_next ?_ | with_reducible refine r_if ?_ | with_reducible refine r_asg ?_ | with_reducible refine r_gname ?_
  | with_reducible refine r_ret ?_ | with_reducible refine r_retN ?_ | with_reducible refine r_drop ?_ | with_reducible refine r_par ?_ | with_reducible refine r_kPar ?_
  | ((with_reducible refine' r_var ?hv ?_); (case hv => exact rfl)) | with_reducible refine r_c ?_ | with_reducible refine r_nil ?_ | with_reducible refine r_cons ?_
  | with_reducible refine r_fn ?_ | with_reducible refine r_cb ?_ | with_reducible refine r_op ?_ | with_reducible refine r_un ?_ | with_reducible refine r_I0 ?_
  | with_reducible refine r_pow5 ?_ | with_reducible refine r_pow6 ?_ | with_reducible refine r_pow7 ?_ | with_reducible refine r_pow9 ?_ | with_reducible refine r_pow18 ?_ | with_reducible refine r_pow20 ?_ | with_reducible refine r_pow30 ?_
  | with_reducible refine r_isN_non ?_ | with_reducible refine r_isN_ref ?_ | with_reducible refine r_isN_int ?_ | with_reducible refine r_isN_str ?_ | with_reducible refine r_isN_bl ?_ | with_reducible refine r_notN_non ?_ | with_reducible refine r_notN_ref ?_ | with_reducible refine r_notN_int ?_ | with_reducible refine r_notN_str ?_ | with_reducible refine r_notN_bl ?_
  | ((with_reducible refine r_I ?hc ?_); (case hc => walk_at "side")) | with_reducible refine r_U ?_
  | with_reducible refine r_eqI ?_ | with_reducible refine r_neI ?_ | with_reducible refine r_eqS ?_ | with_reducible refine r_neS ?_ | with_reducible refine r_eqB ?_ | with_reducible refine r_neB ?_
  | with_reducible refine r_chain ?_ | with_reducible refine r_test ?_ | with_reducible refine r_tB ?_ | with_reducible refine r_kTest ?_ | with_reducible refine r_not ?_
  | with_reducible refine r_and ?_ | with_reducible refine r_or ?_ | with_reducible refine r_tif ?_ | with_reducible refine r_andV ?_ | with_reducible refine r_orV ?_ | with_reducible refine r_notV ?_
  | with_reducible refine r_kAndV ?_ | with_reducible refine r_kOrV ?_ | with_reducible refine r_kNotV ?_
  | with_reducible refine w_T ?_ | with_reducible refine w_F ?_ | with_reducible refine w_NT ?_ | with_reducible refine w_NF ?_
  | with_reducible refine r_tup ?_ | with_reducible refine r_lst ?_ | with_reducible refine r_fld ?_ | with_reducible refine r_prop ?_ | ((with_reducible refine' r_aug ?h1 ?_); (case h1 => exact rfl)) | with_reducible refine r_ipI ?_ | with_reducible refine r_dget ?_ | with_reducible refine r_dput ?_ | with_reducible refine r_bm ?_
  | ((with_reducible refine' r_kDGetS ?h1 ?h2 ?_); (case h1 => assumption); (case h2 => walk_at "val"))
  | ((with_reducible refine' r_kBML ?h1 ?_); (case h1 => assumption))
  | with_reducible refine r_forL ?_ | with_reducible refine r_forR1 ?_ | with_reducible refine r_forR2 ?_ | with_reducible refine r_forT ?_ | with_reducible refine r_lcL ?_ | with_reducible refine r_lcR1 ?_
  | ((with_reducible refine r_kLcG ?hw ?_); (case hw => exact rfl)) | with_reducible refine r_kLcT ?_ | with_reducible refine r_yes ?_
  | with_reducible refine r_pnil ?_ | with_reducible refine r_pcons ?_
  | with_reducible refine r_fnK ?_ | ((with_reducible refine r_kFnK ?hl ?_); (case hl => exact rfl))
  | with_reducible refine r_isi_ii ?_ | with_reducible refine r_isi_ib ?_ | with_reducible refine r_isi_bi ?_ | with_reducible refine r_isi_bb ?_ | with_reducible refine r_isi_ss ?_ | with_reducible refine r_isi_is ?_ | with_reducible refine r_isi_it ?_
  | ((with_reducible refine' r_isi_tt ?h1 ?_); (case h1 => assumption))
  | with_reducible refine r_sfld ?_ | with_reducible refine r_gnil ?_ | with_reducible refine r_gcons ?_
  | ((with_reducible refine' r_gtup ?h1 ?h2 ?_); (case h1 => exact SqT.of (by assumption)); (case h2 => exact rfl))
  | with_reducible refine r_sl ?_ | with_reducible refine r_noPart ?_ | with_reducible refine r_part ?_ | with_reducible refine r_kPart ?_ | with_reducible refine r_m1 ?_ | with_reducible refine r_kM1 ?_ | with_reducible refine r_forS ?_ | with_reducible refine r_lcS ?_ | with_reducible refine r_lcTu ?_ | with_reducible refine r_lcK ?_ | with_reducible refine r_dcL ?_ | with_reducible refine r_dcK ?_ | with_reducible refine r_lc2L ?_ | with_reducible refine r_kLc2TL ?_ | with_reducible refine r_dcEn ?_ | with_reducible refine r_gslc ?_ | with_reducible refine r_lcEn ?_ | with_reducible refine r_lcZip ?_ | with_reducible refine r_lcEl ?_ | with_reducible refine r_lcR2 ?_ | with_reducible refine r_rg1 ?_ | with_reducible refine r_rg2 ?_ | with_reducible refine r_forET ?_ | with_reducible refine r_lenD ?_
  | ((with_reducible refine r_kDcG ?hw ?_); (case hw => exact rfl)) | with_reducible refine r_kDcT ?_
  | with_reducible refine r_fldaug ?_ | with_reducible refine r_daug ?_ | with_reducible refine r_rAdd ?_ | with_reducible refine r_rSub ?_ | with_reducible refine r_ddel ?_ | with_reducible refine r_bmF ?_ | with_reducible refine r_dget2 ?_ | with_reducible refine r_listItems ?_ | with_reducible refine r_bm0 ?_ | with_reducible refine r_lc2E ?_ | ((with_reducible refine r_kLc2G ?hw ?_); (case hw => exact rfl)) | with_reducible refine r_kLc2T ?_ | with_reducible refine r_forE ?_ | with_reducible refine r_orT ?_ | with_reducible refine r_din ?_ | with_reducible refine r_augS ?_ | with_reducible refine r_dnotin ?_ | with_reducible refine r_lcIT ?_ | with_reducible refine r_cont ?_ | with_reducible refine r_meth ?_ | with_reducible refine r_frz ?_ | with_reducible refine r_par3 ?_ | with_reducible refine r_kPar3 ?_ | with_reducible refine r_dz ?_ | with_reducible refine r_revL ?_ | with_reducible refine r_revT ?_ | with_reducible refine r_star ?_ | with_reducible refine r_int1 ?_ | with_reducible refine r_int1b ?_ | with_reducible refine r_min2 ?_ | with_reducible refine r_max2 ?_ | with_reducible refine r_gsub ?_ | with_reducible refine r_err ?_ | with_reducible refine r_errT ?_ | with_reducible refine r_xv ?_)
local macro_rules | `(tactic| walk_at "rd") => `(tactic| repeat walk_at "rd1")
local macro_rules | `(tactic| walk_at "side") => `(tactic| first | assumption | exact Or.inr ⟨by decide, by decide⟩ | exact Or.inl ⟨by decide, by decide⟩ | (constructor <;> omega) | omega | decide | (refine Or.inl ⟨?_, ?_⟩ <;> omega) | (refine Or.inr ⟨?_, ?_⟩ <;> omega) | (refine ⟨?_, ?_, ?_⟩ <;> first | decide | omega))
def sp_is_number (K : PySem.W.Frag) : Sp := fun vs H Q _ => ∃ (x : V) (o : Option Int), vs = [x] ∧ NumV K H x o ∧ Q (.bl o.isSome) H
def sp_is_number_in (K : PySem.W.Frag) : Sp := fun vs H Q _ => ∃ (x : V) (o : Option Int) (lo hi : Int), vs = [x, .int lo, .int hi] ∧ NumV K H x o ∧ Q (.bl (inB o lo hi)) H
theorem u_in {K : PySem.W.Frag} {H : Hp} {Q : VK} {E : XK} {i lo hi : Int} (h : lo ≤ i ∧ i ≤ hi) (q : Q (.bl true) H) : sp_is_number_in K [.int i, .int lo, .int hi] H Q E := ⟨_, _, _, _, rfl, .int i, by rw [inB_yes h]; exact q⟩
section
variable {P : Program} {w : World} {K : PySem.W.Frag} {mg : Str → Option Value} {base : Heap}
theorem ok_is_number {f : Addr} {fd : FuncData} (T : Tx K mg) (F : FnP K "is_number" s_is_number f fd) : FnOk P w K mg base CX0 1 f fd ["value"] (sp_is_number K) := by
  have sc : FnScope ["value"] ["value"] (defScope s_is_number) := ⟨rfl, rfl, rfl, by decide +kernel, rfl, by decide +kernel, by decide +kernel⟩
  refine F.ok sc (by rintro vs H Q E ⟨_, _, rfl, _⟩; rfl) (fun cdv A outer s H vs Q E hr h => ⟨_, PSs.nox ((pss_one (ps_ret (pe_and (pe_callB (c_isiK (K := K) rfl) (by rfl) T.b_isinstance (by decide +kernel) (pa_cons (pv 0) (pa_cons (pe_bltn (v := .ty "int") (by rfl) T.b_int (by decide +kernel) rfl) pa_nil))) (pe_one (pe_not (pe_callB (c_isiK (K := K) rfl) (by rfl) T.b_isinstance (by decide +kernel) (pa_cons (pv 0) (pa_cons (pe_bltn (v := .ty "bool") (by rfl) T.b_bool (by decide +kernel) rfl) pa_nil))))))))), ?_⟩)
  obtain ⟨x, o, rfl, hx, q⟩ := h
  walk_at "rd"
  cases hx with
  | int i =>
    walk_at "rd"
    exact q
  | @no _ t b1 b2 ht h1 h2 h3 =>
    refine r_isi (.ty "int") ht h1 ?_
    walk_at "rd"
    cases b1 with
    | false =>
      walk_at "rd"
      exact q
    | true =>
      walk_at "rd"
      refine r_isi (.ty "bool") ht h2 ?_
      walk_at "rd"
      have e : (!b2) = false := h3
      rw [e]
      exact q
theorem ok_is_number_in {f : Addr} {fd : FuncData} (T : Tx K mg) (F : FnP K "is_number_in" s_is_number_in f fd) (d_is_number : Dn P w K mg base CX0 1 "is_number" ["value"] (sp_is_number K)) :
    FnOk P w K mg base CX0 2 f fd ["value", "least", "most"] (sp_is_number_in K) := by
  have sc : FnScope ["value", "least", "most"] ["value", "least", "most"] (defScope s_is_number_in) := ⟨rfl, rfl, rfl, by decide +kernel, rfl, by decide +kernel, by decide +kernel⟩
  refine F.ok sc (by rintro vs H Q E ⟨_, _, _, _, rfl, _⟩; rfl) (fun cdv A outer s H vs Q E hr h => ⟨_, PSs.nox ((pss_one (ps_ret (pe_and (pe_fn d_is_number (hr.mono (by decide)) pass0 (pa_cons (pv 0) pa_nil)) (pe_one (pe_chain op_le op_le (pv 1) (pv 0) (pv 2))))))), ?_⟩)
  obtain ⟨x, o, lo, hi, rfl, hx, q⟩ := h
  walk_at "rd"
  refine ⟨x, o, rfl, hx, ?_⟩
  walk_at "rd"
  cases hx with
  | int i =>
    refine w_yes rfl ?_
    walk_at "rd"
    refine r_kChain (fun h1 => ?_) (fun h1 => ?_)
    · walk_at "rd"
      have e : inB (some i) lo hi = decide (i ≤ hi) := by
        show (decide (lo ≤ i) && decide (i ≤ hi)) = _
        rw [h1]
        rfl
      rw [← e]
      exact q
    · have e : inB (some i) lo hi = false := by
        show (decide (lo ≤ i) && decide (i ≤ hi)) = _
        rw [h1]
        rfl
      rw [← e]
      exact q
  | no ht h1 h2 h3 =>
    walk_at "rd"
    exact q
end
end Wp
set_option Elab.async false
set_option linter.all false
set_option maxRecDepth 100000
set_option maxHeartbeats 4000000
namespace Wp
open PySem PySem.Spec PyProof.Rows L2
abbrev s_is_list : Stmt := topS 20
abbrev s_is_name : Stmt := topS 21
abbrev s_are_lengths : Stmt := topS 22
abbrev s_is_kind : Stmt := topS 23
abbrev s_are_kinds : Stmt := topS 24
local macro_rules | `(tactic| walk_at "val") => `(tactic| assumption)
local macro_rules | `(tactic| walk_at "rd1") => `(tactic| first
  | with_reducible refine r_seq ?_ | with_reducible refine r_next ?_ | with_reducible refine r_if ?_ | with_reducible refine r_asg ?_ | with_reducible refine r_gname ?_
  | with_reducible refine r_ret ?_ | with_reducible refine r_retN ?_ | with_reducible refine r_drop ?_ | with_reducible refine r_par ?_ | with_reducible refine r_kPar ?_
  | ((with_reducible refine' r_var ?hv ?_); (case hv => exact rfl)) | with_reducible refine r_c ?_ | with_reducible refine r_nil ?_ | with_reducible refine r_cons ?_
  | with_reducible refine r_fn ?_ | with_reducible refine r_cb ?_ | with_reducible refine r_op ?_ | with_reducible refine r_un ?_ | with_reducible refine r_I0 ?_
  | with_reducible refine r_pow5 ?_ | with_reducible refine r_pow6 ?_ | with_reducible refine r_pow7 ?_ | with_reducible refine r_pow9 ?_ | with_reducible refine r_pow18 ?_ | with_reducible refine r_pow20 ?_ | with_reducible refine r_pow30 ?_
  | with_reducible refine r_isN_non ?_ | with_reducible refine r_isN_ref ?_ | with_reducible refine r_isN_int ?_ | with_reducible refine r_isN_str ?_ | with_reducible refine r_isN_bl ?_ | with_reducible refine r_notN_non ?_ | with_reducible refine r_notN_ref ?_ | with_reducible refine r_notN_int ?_ | with_reducible refine r_notN_str ?_ | with_reducible refine r_notN_bl ?_
  | ((with_reducible refine r_I ?hc ?_); (case hc => walk_at "side")) | with_reducible refine r_U ?_
  | with_reducible refine r_eqI ?_ | with_reducible refine r_neI ?_ | with_reducible refine r_eqS ?_ | with_reducible refine r_neS ?_ | with_reducible refine r_eqB ?_ | with_reducible refine r_neB ?_
  | with_reducible refine r_chain ?_ | with_reducible refine r_test ?_ | with_reducible refine r_tB ?_ | with_reducible refine r_kTest ?_ | with_reducible refine r_not ?_
  | with_reducible refine r_and ?_ | with_reducible refine r_or ?_ | with_reducible refine r_tif ?_ | with_reducible refine r_andV ?_ | with_reducible refine r_orV ?_ | with_reducible refine r_notV ?_
  | with_reducible refine r_kAndV ?_ | with_reducible refine r_kOrV ?_ | with_reducible refine r_kNotV ?_
  | with_reducible refine w_T ?_ | with_reducible refine w_F ?_ | with_reducible refine w_NT ?_ | with_reducible refine w_NF ?_
  | with_reducible refine r_tup ?_ | with_reducible refine r_lst ?_ | with_reducible refine r_fld ?_ | with_reducible refine r_prop ?_ | ((with_reducible refine' r_aug ?h1 ?_); (case h1 => exact rfl)) | with_reducible refine r_ipI ?_ | with_reducible refine r_dget ?_ | with_reducible refine r_dput ?_ | with_reducible refine r_bm ?_
  | ((with_reducible refine' r_kDGetS ?h1 ?h2 ?_); (case h1 => assumption); (case h2 => walk_at "val"))
  | ((with_reducible refine' r_kBML ?h1 ?_); (case h1 => assumption))
  | with_reducible refine r_forL ?_ | with_reducible refine r_forR1 ?_ | with_reducible refine r_forR2 ?_ | with_reducible refine r_forT ?_ | with_reducible refine r_lcL ?_ | with_reducible refine r_lcR1 ?_
  | ((with_reducible refine r_kLcG ?hw ?_); (case hw => exact rfl)) | with_reducible refine r_kLcT ?_ | with_reducible refine r_yes ?_
  | with_reducible refine r_pnil ?_ | with_reducible refine r_pcons ?_
  | with_reducible refine r_fnK ?_ | ((with_reducible refine r_kFnK ?hl ?_); (case hl => exact rfl))
  | with_reducible refine r_isi_ii ?_ | with_reducible refine r_isi_ib ?_ | with_reducible refine r_isi_bi ?_ | with_reducible refine r_isi_bb ?_ | with_reducible refine r_isi_ss ?_ | with_reducible refine r_isi_is ?_ | with_reducible refine r_isi_it ?_
  | ((with_reducible refine' r_isi_tt ?h1 ?_); (case h1 => assumption))
  | with_reducible refine r_sfld ?_ | with_reducible refine r_gnil ?_ | with_reducible refine r_gcons ?_
  | ((with_reducible refine' r_gtup ?h1 ?h2 ?_); (case h1 => exact SqT.of (by assumption)); (case h2 => exact rfl))
  | with_reducible refine r_sl ?_ | with_reducible refine r_noPart ?_ | with_reducible refine r_part ?_ | with_reducible refine r_kPart ?_ | with_reducible refine r_m1 ?_ | with_reducible refine r_kM1 ?_ | with_reducible refine r_forS ?_ | with_reducible refine r_lcS ?_ | with_reducible refine r_lcTu ?_ | with_reducible refine r_lcK ?_ | with_reducible refine r_dcL ?_ | with_reducible refine r_dcK ?_ | with_reducible refine r_lc2L ?_ | with_reducible refine r_kLc2TL ?_ | with_reducible refine r_dcEn ?_ | with_reducible refine r_gslc ?_ | with_reducible refine r_lcEn ?_ | with_reducible refine r_lcZip ?_ | with_reducible refine r_lcEl ?_ | with_reducible refine r_lcR2 ?_ | with_reducible refine r_rg1 ?_ | with_reducible refine r_rg2 ?_ | with_reducible refine r_forET ?_ | with_reducible refine r_lenD ?_
  | ((with_reducible refine r_kDcG ?hw ?_); (case hw => exact rfl)) | with_reducible refine r_kDcT ?_
  | with_reducible refine r_fldaug ?_ | with_reducible refine r_daug ?_ | with_reducible refine r_rAdd ?_ | with_reducible refine r_rSub ?_ | with_reducible refine r_ddel ?_ | with_reducible refine r_bmF ?_ | with_reducible refine r_dget2 ?_ | with_reducible refine r_listItems ?_ | with_reducible refine r_bm0 ?_ | with_reducible refine r_lc2E ?_ | ((with_reducible refine r_kLc2G ?hw ?_); (case hw => exact rfl)) | with_reducible refine r_kLc2T ?_ | with_reducible refine r_forE ?_ | with_reducible refine r_orT ?_ | with_reducible refine r_din ?_ | with_reducible refine r_augS ?_ | with_reducible refine r_dnotin ?_ | with_reducible refine r_lcIT ?_ | with_reducible refine r_cont ?_ | with_reducible refine r_meth ?_ | with_reducible refine r_frz ?_ | with_reducible refine r_par3 ?_ | with_reducible refine r_kPar3 ?_ | with_reducible refine r_dz ?_ | with_reducible refine r_revL ?_ | with_reducible refine r_revT ?_ | with_reducible refine r_star ?_ | with_reducible refine r_int1 ?_ | with_reducible refine r_int1b ?_ | with_reducible refine r_min2 ?_ | with_reducible refine r_max2 ?_ | with_reducible refine r_gsub ?_ | with_reducible refine r_err ?_ | with_reducible refine r_errT ?_ | with_reducible refine r_xv ?_)
local macro_rules | `(tactic| walk_at "rd") => `(tactic| repeat walk_at "rd1")
local macro_rules | `(tactic| walk_at "side") => `(tactic| first | assumption | exact Or.inr ⟨by decide, by decide⟩ | exact Or.inl ⟨by decide, by decide⟩ | (constructor <;> omega) | omega | decide | (refine Or.inl ⟨?_, ?_⟩ <;> omega) | (refine Or.inr ⟨?_, ?_⟩ <;> omega) | (refine ⟨?_, ?_, ?_⟩ <;> first | decide | omega))
def sp_is_list (K : PySem.W.Frag) : Sp := fun vs H Q _ => ∃ (p : Addr) (xs : List V), vs = [.ref p] ∧ SeqV K H p xs ∧ ∀ H', Same H H' → Q (.bl true) H'
def sp_is_name : Sp := fun vs H Q _ => ∃ (z : Str), vs = [.str z] ∧ NameOk z ∧ ∀ H', Same H H' → Q (.bl true) H'
def sp_are_lengths (K : PySem.W.Frag) : Sp := fun vs H Q _ => ∃ (p : Addr) (ns : List Int), vs = [.ref p] ∧ SeqV K H p (ns.map V.int) ∧ 1 ≤ ns.length ∧ ns.length ≤ 4 ∧ (∀ n ∈ ns, 2 ≤ n ∧ n ≤ 31) ∧ ∀ H', Same H H' → Q (.bl true) H'
def sp_is_kind : Sp := fun vs H Q _ => ∃ (t : Addr) (r : Int) (b : Bool), vs = [.ref t] ∧ H t = some (.tup [.int r, .bl b]) ∧ 0 ≤ r ∧ r ≤ 1000 ∧ Q (.bl true) H
def sp_are_kinds : Sp := fun vs H Q _ => ∃ (a : Addr) (kvs : List (Key × V)) (ks : List (Str × Int × Bool)), vs = [.ref a] ∧ H a = some (.dK kvs) ∧ KAt H kvs ks ∧ KindsOk ks ∧ ∀ H', Same H H' → Q (.bl true) H'
section
variable {P : Program} {w : World} {K : PySem.W.Frag} {mg : Str → Option Value} {base : Heap}
theorem ok_is_list {f : Addr} {fd : FuncData} (T : Tx K mg) (F : FnP K "is_list" s_is_list f fd) : FnOk P w K mg base CX0 1 f fd ["value"] (sp_is_list K) := by
  have sc : FnScope ["value"] ["value"] (defScope s_is_list) := ⟨rfl, rfl, rfl, by decide +kernel, rfl, by decide +kernel, by decide +kernel⟩
  refine F.ok sc (by rintro vs H Q E ⟨_, _, rfl, _⟩; rfl) (fun cdv A outer s H vs Q E hr h => ⟨_, PSs.nox ((pss_one (ps_ret (pe_callB (c_isiTK (K := K) rfl) (by rfl) T.b_isinstance (by decide +kernel) (pa_cons (pv 0) (pa_cons (pe_tup (pa_cons (pe_bltn (v := .ty "list") (by rfl) T.b_list (by decide +kernel) rfl) (pa_cons (pe_bltn (v := .ty "tuple") (by rfl) T.b_tuple (by decide +kernel) rfl) pa_nil))) pa_nil)))))), ?_⟩)
  obtain ⟨p, xs, rfl, h, k⟩ := h
  walk_at "rd"
  refine r_kTup fun tp H1 np e1 hp => ?_
  walk_at "rd"
  exact r_isSeq (h.same e1) hp (k H1 e1)
theorem ok_is_name {f : Addr} {fd : FuncData} (T : Tx K mg) (F : FnP K "is_name" s_is_name f fd) : FnOk P w K mg base CX0 1 f fd ["value"] sp_is_name := by
  have sc : FnScope ["value", "sign"] ["value"] (defScope s_is_name) := ⟨rfl, rfl, rfl, by decide +kernel, rfl, by decide +kernel, by decide +kernel⟩
  refine F.ok sc (by rintro vs H Q E ⟨_, rfl, _⟩; rfl) (fun cdv A outer s H vs Q E hr h => ⟨_, PSs.nox ((pss_one (ps_ret (pe_and (pe_callB (c_isiK (K := K) rfl) (by rfl) T.b_isinstance (by decide +kernel) (pa_cons (pv 0) (pa_cons (pe_bltn (v := .ty "str") (by rfl) T.b_str (by decide +kernel) rfl) pa_nil))) (pe_and (pe_chain op_le op_le pe_int (pe_callB (c_lenK (K := K) rfl) (by rfl) T.b_len (by decide +kernel) (pa_cons (pv 0) pa_nil)) (pe_glob (v := .int 8) (by rfl) T.c_MOST_NAME.choose_spec ⟨_, rfl⟩)) (pe_one (pe_callB (c_allK (K := K) rfl rfl) (by rfl) T.b_all (by decide +kernel) (pa_cons (pe_lc (own := [("sign", 1)]) (by rfl) sc.nd (pi_str (pv 0)) (blkOk_by (own := [("sign", 1)]) (N := ["value", "sign"]) (sc := defScope s_is_name) (by decide +kernel)) (fun _ _ _ _ _ => (pg_name (i := 1) sc.nd rfl (by first | exact Or.inl rfl | exact Or.inr rfl))) (fun _ _ _ _ _ => pts_nil) (fun _ _ _ _ _ => (pe_cmpR op_in_sign (pv 1) (pe_glob (v := .str "abcdefghijklmnopqrstuvwxyz") (by rfl) T.c_LETTERS.choose_spec ⟨_, rfl⟩) (by rfl)))) pa_nil)))))))), ?_⟩)
  obtain ⟨z, rfl, ok, k⟩ := h
  have h1 := ok.lo
  have h2 := ok.hi
  walk_at "rd"
  refine r_lenS (by omega) ?_
  walk_at "rd"
  refine r_kChain (fun _ => ?_) (fun hf => absurd (of_decide_eq_false hf) (by omega))
  walk_at "rd"
  refine w_yes (decide_eq_true (by omega)) ?_
  walk_at "rd"
  refine r_kLcS (fun Da i H' => Same H H' ∧ H' Da = some (.lst ((List.replicate i true).map V.bl))) (fun Da H' _ e h => ⟨e, h⟩) ?_ ?_
  · rintro Da i c H' hD hc ⟨e, h⟩
    walk_at "rd"
    refine r_inSign ?_
    have hcl : i < z.cps.size := (Array.getElem?_eq_some_iff.mp hc).1
    have hzl : z.length = z.cps.size := rfl
    have hm : c ∈ abc.cps.toList := abc_mem.mpr (ok.low c (by
      have : z.cps.toList[i]? = some c := by rw [Array.getElem?_toList]; exact hc
      exact List.mem_of_getElem? this))
    rw [decide_eq_true (show c ∈ (Str.ofString "abcdefghijklmnopqrstuvwxyz").cps.toList from hm)]
    refine r_kLcE h (by rw [List.length_map, List.length_replicate]; omega) fun H1 b1 h1 => ⟨Same.mut e b1 hD, ?_⟩
    rw [rep_more]
    exact h1
  · rintro Da H' hD ⟨e, h⟩
    walk_at "rd"
    refine r_all (SqL.of h) ?_
    rw [all_rep]
    exact k H' e
theorem ok_are_lengths {f : Addr} {fd : FuncData} (T : Tx K mg) (F : FnP K "are_lengths" s_are_lengths f fd) (d_is_list : Dn P w K mg base CX0 1 "is_list" ["value"] (sp_is_list K)) (d_is_number_in : Dn P w K mg base CX0 2 "is_number_in" ["value", "least", "most"] (sp_is_number_in K)) :
    FnOk P w K mg base CX0 3 f fd ["value"] (sp_are_lengths K) := by
  have sc : FnScope ["value", "length"] ["value"] (defScope s_are_lengths) := ⟨rfl, rfl, rfl, by decide +kernel, rfl, by decide +kernel, by decide +kernel⟩
  refine F.ok sc (by rintro vs H Q E ⟨_, _, rfl, _⟩; rfl) (fun cdv A outer s H vs Q E hr h => ⟨_, PSs.nox ((pss_cons (ps_if (PW.pt (pw_or (pt_not (pt_val (pe_fn d_is_list (hr.mono (by decide)) pass0 (pa_cons (pv 0) pa_nil)))) (pw_or1 (pt_not (pt_chain op_le op_le pe_int (pe_callB (c_lenK (K := K) rfl) (by rfl) T.b_len (by decide +kernel) (pa_cons (pv 0) pa_nil)) (pe_glob (v := .int 4) (by rfl) T.c_MOST_LENGTHS.choose_spec ⟨_, rfl⟩)))))) (pss_one (ps_ret pe_bl)) pss_nil)
      (pss_one (ps_ret (pe_callB (c_allK (K := K) rfl rfl) (by rfl) T.b_all (by decide +kernel) (pa_cons (pe_lc (own := [("length", 1)]) (by rfl) sc.nd (pi_either (pi_listK (K := K) rfl (pv 0)) (pi_tupK (K := K) rfl (pv 0))) (blkOk_by (own := [("length", 1)]) (N := ["value", "length"]) (sc := defScope s_are_lengths) (by decide +kernel)) (fun _ _ _ _ _ => (pg_name (i := 1) sc.nd rfl (by first | exact Or.inl rfl | exact Or.inr rfl))) (fun _ _ _ _ _ => pts_nil) (fun _ _ _ _ _ => (pe_fn d_is_number_in (hr.mono (by decide)) pass0 (pa_cons (pv 1) (pa_cons (pe_glob (v := .int 2) (by rfl) T.c_SHORTEST.choose_spec ⟨_, rfl⟩) (pa_cons (pe_glob (v := .int 31) (by rfl) T.c_LONGEST.choose_spec ⟨_, rfl⟩) pa_nil)))))) pa_nil)))))), ?_⟩)
  obtain ⟨p, ns, rfl, hS, h1, h2, hn, k⟩ := h
  walk_at "rd"
  refine ⟨p, _, rfl, hS, fun H1 e1 => ?_⟩
  walk_at "rd"
  refine r_lenSeq (hS.same e1) ?_
  rw [List.length_map]
  walk_at "rd"
  refine r_kChain (fun _ => ?_) (fun hf => absurd (of_decide_eq_false hf) (by omega))
  walk_at "rd"
  refine w_no (by rw [decide_eq_true (by omega)]; rfl) ?_
  walk_at "rd"
  refine r_lcEither (xs := ns.map V.int) (hS.same e1) rfl (fun Da i H' => Same H1 H' ∧ H' Da = some (.lst ((List.replicate i true).map V.bl))) (fun Da H' _ e h => ⟨e, h⟩) (fun Da i H' h => ⟨(hS.same e1).same h.1, h.1⟩) ?_ ?_ (fun H' e h => SqL.same e h) (fun H' e h => SqT.same e h)
  · rintro Da i x H' hD hx ⟨e, h⟩
    obtain ⟨n, rfl, hi⟩ := ints_get hx
    have hm := hn n (List.mem_of_getElem? hi)
    have hil := (List.getElem?_eq_some_iff.mp hi).1
    walk_at "rd"
    refine u_in hm ?_
    refine r_kLcE h (by rw [List.length_map, List.length_replicate]; omega) fun H2 b2 h2 => ⟨Same.mut e b2 hD, ?_⟩
    rw [rep_more]
    exact h2
  · rintro Da H' hD ⟨e, h⟩
    walk_at "rd"
    refine r_all (SqL.of h) ?_
    rw [all_rep]
    exact k H' (e1.trans e)
theorem ok_is_kind {f : Addr} {fd : FuncData} (T : Tx K mg) (F : FnP K "is_kind" s_is_kind f fd) (d_is_number_in : Dn P w K mg base CX0 2 "is_number_in" ["value", "least", "most"] (sp_is_number_in K)) :
    FnOk P w K mg base CX0 3 f fd ["value"] sp_is_kind := by
  have sc : FnScope ["value"] ["value"] (defScope s_is_kind) := ⟨rfl, rfl, rfl, by decide +kernel, rfl, by decide +kernel, by decide +kernel⟩
  refine F.ok sc (by rintro vs H Q E ⟨_, _, _, rfl, _⟩; rfl) (fun cdv A outer s H vs Q E hr h => ⟨_, PSs.nox ((pss_cons (ps_if (PW.pt (pw_or (pt_not (pt_val (pe_callB (c_isiK (K := K) rfl) (by rfl) T.b_isinstance (by decide +kernel) (pa_cons (pv 0) (pa_cons (pe_bltn (v := .ty "tuple") (by rfl) T.b_tuple (by decide +kernel) rfl) pa_nil))))) (pw_or1 (pt_cmpR op_ne (pe_callB (c_lenK (K := K) rfl) (by rfl) T.b_len (by decide +kernel) (pa_cons (pv 0) pa_nil)) pe_int (nomark _))))) (pss_one (ps_ret pe_bl)) pss_nil)
      (pss_one (ps_ret (pe_and (pe_fn d_is_number_in (hr.mono (by decide)) pass0 (pa_cons (pe_ix (ix_tupK (K := K) rfl) (pv 0) pe_int (fun _ _ => rfl)) (pa_cons pe_int (pa_cons (pe_glob (v := .int 1000) (by rfl) T.c_MOST_RATE.choose_spec ⟨_, rfl⟩) pa_nil)))) (pe_one (pe_callB (c_isiK (K := K) rfl) (by rfl) T.b_isinstance (by decide +kernel) (pa_cons (pe_ix (ix_tupK (K := K) rfl) (pv 0) pe_int (fun _ _ => rfl)) (pa_cons (pe_bltn (v := .ty "bool") (by rfl) T.b_bool (by decide +kernel) rfl) pa_nil))))))))), ?_⟩)
  obtain ⟨t, r, b, rfl, ht, h0, h1, q⟩ := h
  walk_at "rd"
  refine r_lenT (SqT.of ht) ?_
  walk_at "rd"
  refine w_ndec (fun hne => absurd rfl hne) (fun _ => ?_)
  walk_at "rd"
  refine r_ixT (SqT.of ht) (at_get (n := 0) rfl rfl) ?_
  walk_at "rd"
  refine u_in ⟨h0, h1⟩ ?_
  walk_at "rd"
  refine r_ixT (SqT.of ht) (at_get (n := 1) rfl rfl) ?_
  walk_at "rd"
  exact q
theorem ok_are_kinds {f : Addr} {fd : FuncData} (T : Tx K mg) (F : FnP K "are_kinds" s_are_kinds f fd) (d_is_name : Dn P w K mg base CX0 1 "is_name" ["value"] sp_is_name) (d_is_kind : Dn P w K mg base CX0 3 "is_kind" ["value"] sp_is_kind) :
    FnOk P w K mg base CX0 4 f fd ["value"] sp_are_kinds := by
  have sc : FnScope ["value", "name"] ["value"] (defScope s_are_kinds) := ⟨rfl, rfl, rfl, by decide +kernel, rfl, by decide +kernel, by decide +kernel⟩
  refine F.ok sc (by rintro vs H Q E ⟨_, _, _, rfl, _⟩; rfl) (fun cdv A outer s H vs Q E hr h => ⟨_, PSs.nox ((pss_cons (ps_if (PW.pt (pw_or (pt_not (pt_val (pe_callB (c_isiK (K := K) rfl) (by rfl) T.b_isinstance (by decide +kernel) (pa_cons (pv 0) (pa_cons (pe_bltn (v := .ty "dict") (by rfl) T.b_dict (by decide +kernel) rfl) pa_nil))))) (pw_or1 (pt_not (pt_chain op_le op_le pe_int (pe_callB c_lenD (by rfl) T.b_len (by decide +kernel) (pa_cons (pv 0) pa_nil)) (pe_glob (v := .int 6) (by rfl) T.c_MOST_KINDS.choose_spec ⟨_, rfl⟩)))))) (pss_one (ps_ret pe_bl)) pss_nil)
      (pss_one (ps_ret (pe_callB (c_allK (K := K) rfl rfl) (by rfl) T.b_all (by decide +kernel) (pa_cons (pe_lock (pe_lc (own := [("name", 1)]) (by rfl) sc.nd (pi_keys (pv 0)) (blkOk_by (own := [("name", 1)]) (N := ["value", "name"]) (sc := defScope s_are_kinds) (by decide +kernel)) (fun _ _ _ _ _ => (pg_name (i := 1) sc.nd rfl (by first | exact Or.inl rfl | exact Or.inr rfl))) (fun _ _ _ _ _ => pts_nil) (fun _ _ _ _ _ => (pe_and (pe_fn d_is_name (hr.mono (by decide)) pass0 (pa_cons (pv 1) pa_nil)) (pe_one (pe_fn d_is_kind (hr.mono (by decide)) pass0 (pa_cons (pe_dget (hu_of hr) (pv 0) (pv 1) (fun _ _ => rfl)) pa_nil))))))) pa_nil)))))), ?_⟩)
  obtain ⟨a, kvs, ks, rfl, ha, hK, ok, k⟩ := h
  have hl := hK.len
  have h1 := ok.lo
  have h2 := ok.hi
  walk_at "rd"
  refine r_isiDict ha ?_
  walk_at "rd"
  refine r_lenD ha ?_
  walk_at "rd"
  refine r_kChain (fun _ => ?_) (fun hf => absurd (of_decide_eq_false hf) (by omega))
  walk_at "rd"
  refine w_no (by rw [decide_eq_true (by omega)]; rfl) ?_
  walk_at "rd"
  refine r_lockD ha fun od H1 hd1 ho1 hn1 => ?_
  walk_at "rd"
  refine r_kLcK hd1 (fun Da i H' => Same H1 H' ∧ H' Da = some (.lst ((List.replicate i true).map V.bl))) (fun Da H' _ e h => ⟨e, h⟩) (fun Da i H' h => h.1 _ _ hd1) ?_ ?_
  · rintro Da i key v H' hD hi ⟨e, h⟩
    obtain ⟨n, r, b, t, rfl, rfl, ht, hks⟩ := hK.get hi
    have hmem := List.mem_of_getElem? hks
    have hil := (List.getElem?_eq_some_iff.mp hks).1
    have nok : NameOk n := ok.nm.ok n (List.mem_map.mpr ⟨_, hmem, rfl⟩)
    obtain ⟨t', hv, ht'⟩ := hK.val ok.nm.nd hmem
    have hne : t' ≠ a := ne_of ht' ha (by intro z; cases z)
    walk_at "rd"
    refine ⟨n, rfl, nok, fun H2 e2 => ?_⟩
    walk_at "rd"
    refine r_kDGetF (e2 _ _ (e _ _ hd1)) hv ?_
    walk_at "rd"
    refine ⟨t', r, b, rfl, e2 _ _ (e _ _ (ho1 _ _ ht' hne)), (ok.rt _ hmem).1, (ok.rt _ hmem).2, ?_⟩
    refine r_kLcE (e2 _ _ h) (by rw [List.length_map, List.length_replicate]; omega) fun H3 b3 h3 => ⟨Same.mut (e.trans e2) b3 hD, ?_⟩
    rw [rep_more]
    exact h3
  · rintro Da H' hD ⟨e, h⟩
    walk_at "rd"
    have hDa : Da ≠ a := by
      rintro rfl
      rw [hd1] at hD
      cases hD
    refine r_kLock ha ho1 hd1 e fun H2 e2 k2 => ?_
    walk_at "rd"
    refine r_all (SqL.of (k2 _ _ h hDa)) ?_
    rw [all_rep]
    exact k H2 e2
end
end Wp
set_option Elab.async false
set_option linter.all false
set_option maxRecDepth 100000
set_option maxHeartbeats 4000000
/-! Books held against each other: why one is dearer; days of the first months. -/
namespace Wp
open PySem PySem.Spec PyProof.Rows L2
def whyF (B1 B2 : Bk) (r1 : Int) (f1 : Bool) (r2 : Int) (f2 : Bool) : Str :=
  if r1 = 0 then "" else if r1 > r2 then "rate" else if f2 = false then "" else
  if B2.beg = "statement" ∧ (f1 = false ∨ B1.beg = "day") then "begin" else if f1 = false then "free" else
  if B1.due < B2.due then "due" else if B1.mem > B2.mem ∧ (B1.beg = "day" ∨ B2.due > 0) then "memory" else ""
section
variable {B1 B2 : Bk} {r1 r2 : Int} {f1 f2 : Bool}
theorem sn1 : ¬ ("" : Str) = "rate" := by decide +kernel
theorem sn2 : ¬ ("" : Str) = "begin" := by decide +kernel
theorem sn3 : ¬ ("" : Str) = "free" := by decide +kernel
theorem sn4 : ¬ ("" : Str) = "due" := by decide +kernel
theorem sn5 : ¬ ("" : Str) = "memory" := by decide +kernel
theorem why_rate (h : whyF B1 B2 r1 f1 r2 f2 = "rate") : r1 > r2 := by
  unfold whyF at h
  by_cases h1 : r1 = 0
  · rw [if_pos h1] at h
    exact absurd h sn1
  · rw [if_neg h1] at h
    by_cases h2 : r1 > r2
    · exact h2
    · rw [if_neg h2] at h
      repeat (split at h; first | exact absurd h (by decide +kernel) | skip)
      all_goals exact absurd h (by decide +kernel)
theorem why_ne (h : ¬ whyF B1 B2 r1 f1 r2 f2 = "") : r1 ≠ 0 := by
  intro z
  unfold whyF at h
  rw [if_pos z] at h
  exact h rfl
theorem why_memory (h : whyF B1 B2 r1 f1 r2 f2 = "memory") : B1.beg = "day" ∨ B2.due > 0 := by
  unfold whyF at h
  by_cases h7 : B1.mem > B2.mem ∧ (B1.beg = "day" ∨ B2.due > 0)
  · exact h7.2
  · rw [if_neg h7] at h
    repeat (split at h; first | exact absurd h (by decide +kernel) | skip)
    all_goals exact absurd h (by decide +kernel)
theorem why_cases : whyF B1 B2 r1 f1 r2 f2 = "" ∨ whyF B1 B2 r1 f1 r2 f2 = "rate" ∨ whyF B1 B2 r1 f1 r2 f2 = "begin" ∨ whyF B1 B2 r1 f1 r2 f2 = "free" ∨ whyF B1 B2 r1 f1 r2 f2 = "due" ∨ whyF B1 B2 r1 f1 r2 f2 = "memory" := by
  unfold whyF
  repeat (split; first | exact .inl rfl | exact .inr (.inl rfl) | exact .inr (.inr (.inl rfl)) | exact .inr (.inr (.inr (.inl rfl))) | exact .inr (.inr (.inr (.inr (.inl rfl)))) | exact .inr (.inr (.inr (.inr (.inr rfl)))))
  exact .inl rfl
end
namespace Bk
/-- how long the months are -/
theorem first_gap {B : Bk} (ok : B.Ok) {m : Int} (h0 : 0 ≤ m) (h3 : m ≤ 3) : 2 ≤ B.first (m + 1) - B.first m ∧ B.first (m + 1) - B.first m ≤ 31 := by
  have l1 := ok.l1
  have l2 := ok.l2
  have l3 := ok.l3
  unfold first
  generalize B.ls = l at *
  have hm : m = 0 ∨ m = 1 ∨ m = 2 ∨ m = 3 := by omega
  match l, l1, l2, l3 with
  | [a], _, _, l3 =>
    have ha := l3 a (by simp)
    rcases hm with rfl | rfl | rfl | rfl <;> simp <;> omega
  | [a, b], _, _, l3 =>
    have ha := l3 a (by simp)
    have hb := l3 b (by simp)
    rcases hm with rfl | rfl | rfl | rfl <;> simp <;> omega
  | [a, b, c], _, _, l3 =>
    have ha := l3 a (by simp)
    have hb := l3 b (by simp)
    have hc := l3 c (by simp)
    rcases hm with rfl | rfl | rfl | rfl <;> simp <;> omega
  | [a, b, c, d], _, _, l3 =>
    have ha := l3 a (by simp)
    have hb := l3 b (by simp)
    have hc := l3 c (by simp)
    have hd := l3 d (by simp)
    rcases hm with rfl | rfl | rfl | rfl <;> simp <;> omega
theorem first0 {B : Bk} (ok : B.Ok) : B.first 0 = 0 := by
  unfold first
  simp
theorem first1 {B : Bk} (ok : B.Ok) : 2 ≤ B.first 1 ∧ B.first 1 ≤ 31 := by
  have h := first_gap ok (Int.le_refl 0) (by decide)
  rw [first0 ok] at h
  have e : (0 : Int) + 1 = 1 := rfl
  rw [e] at h
  omega
theorem due_le {B : Bk} (ok : B.Ok) : B.due ≤ 30 := by
  have l1 := ok.l1
  obtain ⟨a, ha⟩ : ∃ a, a ∈ B.ls := List.exists_mem_of_length_pos (by omega)
  have h1 := ok.d1 a ha
  have h2 := ok.l3 a ha
  omega
end Bk
theorem name_strOk {z : Str} (h : NameOk z) : PyData.strOk z = true := by
  have hl := h.low
  unfold PyData.strOk
  rw [Array.all_eq_true']
  intro c hc
  have := hl c (Array.mem_toList_iff.mpr hc)
  exact decide_eq_true (by omega)
theorem strOk_buy : PyData.strOk "buy" = true := by decide +kernel
theorem strOk_pay : PyData.strOk "pay" = true := by decide +kernel
section
variable {K : PySem.W.Frag} {H : Hp} {t : Addr} {n : Str} {a b : Int}
theorem good_buy (h : PyData.strOk n = true) (ht : H t = some (.tup [.str "buy", .int a, .str n, .int b])) : GoodD K H (.ref t) (.tuple [.str "buy", .int a, .str n, .int b]) :=
  GoodL.tup (.cons (.str strOk_buy) (.cons (.int _) (.cons (.str h) (.cons (.int _) .nil)))) (by simp [PyData.depthAll, PyData.depth]) ht
theorem good_pay (ht : H t = some (.tup [.str "pay", .int a, .int b])) : GoodD K H (.ref t) (.tuple [.str "pay", .int a, .int b]) :=
  GoodL.tup (.cons (.str strOk_pay) (.cons (.int _) (.cons (.int _) .nil))) (by simp [PyData.depthAll, PyData.depth]) ht
end
/-- what course_for hands back -/
def CrsV (K : PySem.W.Frag) (H : Hp) (s : Str) (v : V) : Prop := (s = "" ∧ v = .non) ∨ (¬ s = "" ∧ ∃ t d, v = .ref t ∧ GoodD K H (.ref t) d)
theorem CrsV.keep {K : PySem.W.Frag} {H H' : Hp} {s : Str} {v : V} (h : CrsV K H s v) (e : Same H H') : CrsV K H' s v := by
  rcases h with h | ⟨h1, t, d, h2, h3⟩
  · exact .inl h
  · exact .inr ⟨h1, t, d, h2, h3.keep e⟩
end Wp
set_option Elab.async false
set_option linter.all false
set_option maxRecDepth 100000
set_option maxHeartbeats 4000000
namespace Wp
open PySem PySem.Spec PyProof.Rows L2
abbrev s_is_order : Stmt := topS 25
abbrev s_Book___init__ : Stmt := inClass (topS 27) 0
local macro_rules | `(tactic| walk_at "val") => `(tactic| assumption)
local macro_rules | `(tactic| walk_at "rd1") => `(tactic| first
  | with_reducible refine r_seq ?_ | with_reducible refine r_next ?_ | with_reducible refine r_if ?_ | with_reducible refine r_asg ?_ | with_reducible refine r_gname ?_
  | with_reducible refine r_ret ?_ | with_reducible refine r_retN ?_ | with_reducible refine r_drop ?_ | with_reducible refine r_par ?_ | with_reducible refine r_kPar ?_
  | ((with_reducible refine' r_var ?hv ?_); (case hv => exact rfl)) | with_reducible refine r_c ?_ | with_reducible refine r_nil ?_ | with_reducible refine r_cons ?_
  | with_reducible refine r_fn ?_ | with_reducible refine r_cb ?_ | with_reducible refine r_op ?_ | with_reducible refine r_un ?_ | with_reducible refine r_I0 ?_
  | with_reducible refine r_pow5 ?_ | with_reducible refine r_pow6 ?_ | with_reducible refine r_pow7 ?_ | with_reducible refine r_pow9 ?_ | with_reducible refine r_pow18 ?_ | with_reducible refine r_pow20 ?_ | with_reducible refine r_pow30 ?_
  | with_reducible refine r_isN_non ?_ | with_reducible refine r_isN_ref ?_ | with_reducible refine r_isN_int ?_ | with_reducible refine r_isN_str ?_ | with_reducible refine r_isN_bl ?_ | with_reducible refine r_notN_non ?_ | with_reducible refine r_notN_ref ?_ | with_reducible refine r_notN_int ?_ | with_reducible refine r_notN_str ?_ | with_reducible refine r_notN_bl ?_
  | ((with_reducible refine r_I ?hc ?_); (case hc => walk_at "side")) | with_reducible refine r_U ?_
  | with_reducible refine r_eqI ?_ | with_reducible refine r_neI ?_ | with_reducible refine r_eqS ?_ | with_reducible refine r_neS ?_ | with_reducible refine r_eqB ?_ | with_reducible refine r_neB ?_
  | with_reducible refine r_chain ?_ | with_reducible refine r_test ?_ | with_reducible refine r_tB ?_ | with_reducible refine r_kTest ?_ | with_reducible refine r_not ?_
  | with_reducible refine r_and ?_ | with_reducible refine r_or ?_ | with_reducible refine r_tif ?_ | with_reducible refine r_andV ?_ | with_reducible refine r_orV ?_ | with_reducible refine r_notV ?_
  | with_reducible refine r_kAndV ?_ | with_reducible refine r_kOrV ?_ | with_reducible refine r_kNotV ?_
  | with_reducible refine w_T ?_ | with_reducible refine w_F ?_ | with_reducible refine w_NT ?_ | with_reducible refine w_NF ?_
  | with_reducible refine r_tup ?_ | with_reducible refine r_lst ?_ | with_reducible refine r_fld ?_ | with_reducible refine r_prop ?_ | ((with_reducible refine' r_aug ?h1 ?_); (case h1 => exact rfl)) | with_reducible refine r_ipI ?_ | with_reducible refine r_dget ?_ | with_reducible refine r_dput ?_ | with_reducible refine r_bm ?_
  | ((with_reducible refine' r_kDGetS ?h1 ?h2 ?_); (case h1 => assumption); (case h2 => walk_at "val"))
  | ((with_reducible refine' r_kBML ?h1 ?_); (case h1 => assumption))
  | with_reducible refine r_forL ?_ | with_reducible refine r_forR1 ?_ | with_reducible refine r_forR2 ?_ | with_reducible refine r_forT ?_ | with_reducible refine r_lcL ?_ | with_reducible refine r_lcR1 ?_
  | ((with_reducible refine r_kLcG ?hw ?_); (case hw => exact rfl)) | with_reducible refine r_kLcT ?_ | with_reducible refine r_yes ?_
  | with_reducible refine r_pnil ?_ | with_reducible refine r_pcons ?_
  | with_reducible refine r_fnK ?_ | ((with_reducible refine r_kFnK ?hl ?_); (case hl => exact rfl))
  | with_reducible refine r_isi_ii ?_ | with_reducible refine r_isi_ib ?_ | with_reducible refine r_isi_bi ?_ | with_reducible refine r_isi_bb ?_ | with_reducible refine r_isi_ss ?_ | with_reducible refine r_isi_is ?_ | with_reducible refine r_isi_it ?_
  | ((with_reducible refine' r_isi_tt ?h1 ?_); (case h1 => assumption))
  | with_reducible refine r_sfld ?_ | with_reducible refine r_gnil ?_ | with_reducible refine r_gcons ?_
  | ((with_reducible refine' r_gtup ?h1 ?h2 ?_); (case h1 => exact SqT.of (by assumption)); (case h2 => exact rfl))
  | with_reducible refine r_sl ?_ | with_reducible refine r_noPart ?_ | with_reducible refine r_part ?_ | with_reducible refine r_kPart ?_ | with_reducible refine r_m1 ?_ | with_reducible refine r_kM1 ?_ | with_reducible refine r_forS ?_ | with_reducible refine r_lcS ?_ | with_reducible refine r_lcTu ?_ | with_reducible refine r_lcK ?_ | with_reducible refine r_dcL ?_ | with_reducible refine r_dcK ?_ | with_reducible refine r_lc2L ?_ | with_reducible refine r_kLc2TL ?_ | with_reducible refine r_dcEn ?_ | with_reducible refine r_gslc ?_ | with_reducible refine r_lcEn ?_ | with_reducible refine r_lcZip ?_ | with_reducible refine r_lcEl ?_ | with_reducible refine r_lcR2 ?_ | with_reducible refine r_rg1 ?_ | with_reducible refine r_rg2 ?_ | with_reducible refine r_forET ?_ | with_reducible refine r_lenD ?_
  | ((with_reducible refine r_kDcG ?hw ?_); (case hw => exact rfl)) | with_reducible refine r_kDcT ?_
  | with_reducible refine r_fldaug ?_ | with_reducible refine r_daug ?_ | with_reducible refine r_rAdd ?_ | with_reducible refine r_rSub ?_ | with_reducible refine r_ddel ?_ | with_reducible refine r_bmF ?_ | with_reducible refine r_dget2 ?_ | with_reducible refine r_listItems ?_ | with_reducible refine r_bm0 ?_ | with_reducible refine r_lc2E ?_ | ((with_reducible refine r_kLc2G ?hw ?_); (case hw => exact rfl)) | with_reducible refine r_kLc2T ?_ | with_reducible refine r_forE ?_ | with_reducible refine r_orT ?_ | with_reducible refine r_din ?_ | with_reducible refine r_augS ?_ | with_reducible refine r_dnotin ?_ | with_reducible refine r_lcIT ?_ | with_reducible refine r_cont ?_ | with_reducible refine r_meth ?_ | with_reducible refine r_frz ?_ | with_reducible refine r_par3 ?_ | with_reducible refine r_kPar3 ?_ | with_reducible refine r_dz ?_ | with_reducible refine r_revL ?_ | with_reducible refine r_revT ?_ | with_reducible refine r_star ?_ | with_reducible refine r_int1 ?_ | with_reducible refine r_int1b ?_ | with_reducible refine r_min2 ?_ | with_reducible refine r_max2 ?_ | with_reducible refine r_gsub ?_ | with_reducible refine r_err ?_ | with_reducible refine r_errT ?_ | with_reducible refine r_xv ?_)
local macro_rules | `(tactic| walk_at "rd") => `(tactic| repeat walk_at "rd1")
local macro_rules | `(tactic| walk_at "side") => `(tactic| first | assumption | exact Or.inr ⟨by decide, by decide⟩ | exact Or.inl ⟨by decide, by decide⟩ | (constructor <;> omega) | omega | decide | (refine Or.inl ⟨?_, ?_⟩ <;> omega) | (refine Or.inr ⟨?_, ?_⟩ <;> omega) | (refine ⟨?_, ?_, ?_⟩ <;> first | decide | omega))
/-- a list or a tuple of ints stands at a -/
def LsAt (H : Hp) (a : Addr) (ls : List Int) : Prop := H a = some (.lst (ls.map V.int)) ∨ FrzT H a (ls.map V.int)
theorem LsAt.keep {H H' : Hp} {a : Addr} {ls : List Int} (h : LsAt H a ls) (e : Same H H') : LsAt H' a ls := h.elim (fun h => .inl (e _ _ h)) fun h => .inr (h.same e)
theorem LsAt.seq {K : PySem.W.Frag} {H : Hp} {a : Addr} {ls : List Int} (h : LsAt H a ls) : SeqV K H a (ls.map V.int) := h.elim (fun h => .inl (SqL.of h)) fun h => .inr h.sq
/-- an order of the kinds, if there is one -/
def Bk.LaidOk (B : Bk) : Prop := ∀ ns, B.laid = some ns → ns.Perm (B.ks.map (·.1))
def sp_is_order : Sp := fun vs H Q _ => ∃ (p q : Addr) (xs ys : List Str), vs = [.ref p, .ref q] ∧ H p = some (.lst (xs.map V.str)) ∧ FrzT H q (ys.map V.str) ∧ ys.Perm xs ∧ (∀ z ∈ xs, NameOk z) ∧ xs.length ≤ 100 ∧ ∀ H', Same H H' → Q (.bl true) H'
def sp_Book_init (C : Addr) : Sp := fun vs H Q _ => ∃ (p dx a kd : Addr) (B : Bk) (lv : V) (kvs : List (Key × V)), vs = [.ref p, .ref a, .int B.due, .ref kd, .int B.mem, .str B.beg, lv] ∧ B.Ok ∧ B.LaidOk ∧ LaidV H B.laid lv ∧ H p = some (.ins C dx []) ∧
  LsAt H a B.ls ∧ H kd = some (.dK kvs) ∧ KAt H kvs B.ks ∧ ∀ H' ks, But p H H' → ks.Perm B.ks → sortedS (ks.map (·.1)) = true → BookAt C H' p { B with ks := ks } → Q .non H'
def sp_Book (C : Addr) : Sp := fun vs H Q _ => ∃ (a kd : Addr) (B : Bk) (lv : V) (kvs : List (Key × V)), vs = [.ref a, .int B.due, .ref kd, .int B.mem, .str B.beg, lv] ∧ B.Ok ∧ B.LaidOk ∧ LaidV H B.laid lv ∧
  LsAt H a B.ls ∧ H kd = some (.dK kvs) ∧ KAt H kvs B.ks ∧ ∀ p H' ks, H p = none → Same H H' → ks.Perm B.ks → sortedS (ks.map (·.1)) = true → BookAt C H' p { B with ks := ks } → Q (.ref p) H'
theorem KAt.keepT {H H' : Hp} {kvs : List (Key × V)} {ks : List (Str × Int × Bool)} (h : KAt H kvs ks) (e : Same H H') : KAt H' kvs ks := h.keep fun t xs q => e _ _ q
theorem imp_Book {C : Addr} (vs : List V) (H : Hp) (Q : VK) (E : XK) (h : sp_Book C vs H Q E) : spMk C (sp_Book_init C) [] vs H Q E := by
  obtain ⟨a, kd, B, lv, kvs, rfl, ok, lo, hl, ha, hk, hK, k⟩ := h
  intro x dx nx nd ne
  have up : ∀ c o, H c = some o → upd (upd H dx (.own x)) x (.ins C dx []) c = some o := fun c o hc => by
    rw [upd_ne (ne_of_none hc nx), upd_ne (ne_of_none hc nd)]
    exact hc
  refine ⟨x, dx, a, kd, B, lv, kvs, rfl, ok, lo, hl.keep fun t o xs ht => up _ _ ht, upd_same, ha.keep up, up _ _ hk, hK.keepT up, fun H' ks b p1 p2 hB => ⟨rfl, k x H' ks nx (fun c o hc => ?_) p1 p2 hB⟩⟩
  exact b _ _ (up _ _ hc) (ne_of_none hc nx)
theorem pfl {f : Str} {v : V} : ∀ {fs : List (Str × V)} {n : Nat}, fs.length ≤ n → (putF f v fs).length ≤ n + 1
  | [], n, _ => by simp [putF]
  | (g, x) :: r, n, h => by
    unfold putF
    split
    · simp only [List.length_cons] at *
      omega
    · simp only [List.length_cons] at *
      have := pfl (f := f) (v := v) (fs := r) (n := n - 1) (by omega)
      omega
theorem pf0 : ([] : List (Str × V)).length ≤ 0 := Nat.le_refl _
theorem pf9 {n m : Nat} (h : n ≤ m) (hm : m < 1000 := by decide) : n < 1000 := by omega
def sp_need_book (C : Addr) : Sp := fun vs H Q _ => ∃ (p : Addr) (B : Bk), vs = [.ref p] ∧ BookAt C H p B ∧ Q .non H
/-- what the class must have for its fields -/
structure BkC (K : PySem.W.Frag) (C : Addr) : Prop where
  cl : Cls K C
  n1 : NoAttr K C "b_lengths"
  n2 : NoAttr K C "b_due"
  n3 : NoAttr K C "b_kinds"
  n4 : NoAttr K C "b_memory"
  n5 : NoAttr K C "b_begins"
  n6 : NoAttr K C "b_laid"
section
variable {P : Program} {w : World} {K : PySem.W.Frag} {mg : Str → Option Value} {base : Heap}
theorem ok_is_order {f : Addr} {fd : FuncData} (T : Tx K mg) (F : FnP K "is_order" s_is_order f fd) (d_is_name : Dn P w K mg base CX0 1 "is_name" ["value"] sp_is_name) : FnOk P w K mg base CX0 2 f fd ["names", "value"] sp_is_order := by
  have sc : FnScope ["names", "value", "name"] ["names", "value"] (defScope s_is_order) := ⟨rfl, rfl, rfl, by decide +kernel, rfl, by decide +kernel, by decide +kernel⟩
  refine F.ok sc (by rintro vs H Q E ⟨_, _, _, _, rfl, _⟩; rfl) (fun cdv A outer s H vs Q E hr h => ⟨_, PSs.nox ((pss_cons (ps_if (PW.pt (pw_or (pt_not (pt_val (pe_callB (c_isiK (K := K) rfl) (by rfl) T.b_isinstance (by decide +kernel) (pa_cons (pv 1) (pa_cons (pe_bltn (v := .ty "tuple") (by rfl) T.b_tuple (by decide +kernel) rfl) pa_nil))))) (pw_or1 (pt_not (pt_val (pe_callB (c_allK (K := K) rfl rfl) (by rfl) T.b_all (by decide +kernel) (pa_cons (pe_lc (own := [("name", 2)]) (by rfl) sc.nd (pi_tupK (K := K) rfl (pv 1)) (blkOk_by (own := [("name", 2)]) (N := ["names", "value", "name"]) (sc := defScope s_is_order) (by decide +kernel)) (fun _ _ _ _ _ => (pg_name (i := 2) sc.nd rfl (by first | exact Or.inl rfl | exact Or.inr rfl))) (fun _ _ _ _ _ => pts_nil) (fun _ _ _ _ _ => (pe_fn d_is_name (hr.mono (by decide)) pass0 (pa_cons (pv 2) pa_nil)))) pa_nil))))))) (pss_one (ps_ret pe_bl)) pss_nil)
      (pss_one (ps_ret (pe_cmpR (eqDK (K := K) rfl hr.units) (pe_callB (c_sortD (K := K) rfl hr) (by rfl) T.b_sorted (by decide +kernel) (pa_cons (pv 1) pa_nil)) (pe_callB (c_sortD (K := K) rfl hr) (by rfl) T.b_sorted (by decide +kernel) (pa_cons (pv 0) pa_nil)) (nomark _)))))), ?_⟩)
  obtain ⟨p, q, xs, ys, rfl, hp, hq, pm, nm, hl, k⟩ := h
  have hyl : ys.length = xs.length := pm.length_eq
  have nmy : ∀ z ∈ ys, NameOk z := fun z hz => nm z (pm.mem_iff.mp hz)
  walk_at "rd"
  refine r_isiT (r := true) (SqT.ty hq.sq) (by decide +kernel) ?_
  walk_at "rd"
  refine r_kLcTu (xs := ys.map V.str) (fun Da i H' => Same H H' ∧ H' Da = some (.lst ((List.replicate i true).map V.bl))) hq.sq (fun Da H' _ e h => ⟨e, h⟩) (fun Da i H' h => (hq.same h.1).sq) ?_ ?_
  · rintro Da i x H' hD hx ⟨e, h⟩
    obtain ⟨z, rfl, hz⟩ := strs_get hx
    have hil := (List.getElem?_eq_some_iff.mp hz).1
    walk_at "rd"
    refine ⟨z, rfl, nmy z (List.mem_of_getElem? hz), fun H2 e2 => ?_⟩
    refine r_kLcE (e2 _ _ h) (by rw [List.length_map, List.length_replicate]; omega) fun H3 b3 h3 => ⟨Same.mut (e.trans e2) b3 hD, ?_⟩
    rw [rep_more]
    exact h3
  · rintro Da H1 hD ⟨e1, h1⟩
    walk_at "rd"
    refine r_all (SqL.of h1) ?_
    rw [all_rep]
    walk_at "rd"
    refine r_sortS (.inr (hq.same e1).sq) (by omega) fun t1 H2 _ e2 ht1 => ?_
    walk_at "rd"
    refine r_sortS (.inl (SqL.of (e2 _ _ (e1 _ _ hp)))) (by omega) fun t2 H3 _ e3 ht2 => ?_
    rw [← srtS_eq pm] at ht2
    refine r_eqD_eq (d := .list ((srtS ys).map .str)) (.lst (SqL.of (e3 _ _ ht1)) (dp_strs _)) (.lst (SqL.of ht2) (dp_strs _)) (shp_strs fun z hz => name_strOk (nmy z ((srtS_perm ys).mem_iff.mp hz))) ?_
    exact k H3 ((e1.trans e2).trans e3)
theorem ok_Book_init {f C : Addr} {fd : FuncData} (T : Tx K mg) (bc : BkC K C) (F : FunD K "__init__" "Book.__init__" (defArgs s_Book___init__) (defBody s_Book___init__) (defScope s_Book___init__) [.int 0, .str "day", .non] [] f fd)
    (d_is_number_in : Dn P w K mg base CX0 2 "is_number_in" ["value", "least", "most"] (sp_is_number_in K)) (d_are_lengths : Dn P w K mg base CX0 3 "are_lengths" ["value"] (sp_are_lengths K)) (d_are_kinds : Dn P w K mg base CX0 4 "are_kinds" ["value"] sp_are_kinds) (d_is_order : Dn P w K mg base CX0 2 "is_order" ["names", "value"] sp_is_order) :
    FnOk P w K mg base CX0 5 f fd ["self", "lengths", "due", "kinds", "memory", "begins", "laid"] (sp_Book_init C) := by
  have sc : FnScope ["self", "lengths", "due", "kinds", "memory", "begins", "laid", "name"] ["self", "lengths", "due", "kinds", "memory", "begins", "laid"] (defScope s_Book___init__) := ⟨rfl, rfl, rfl, by decide +kernel, rfl, by decide +kernel, by decide +kernel⟩
  refine F.ok sc (by rintro vs H Q E ⟨_, _, _, _, _, _, _, rfl, _⟩; rfl) (fun cdv A outer s H vs Q E hr h => ⟨_, PSs.nox ((pss_cons (ps_if (pt_not (pt_val (pe_fn d_are_lengths (hr.mono (by decide)) pass0 (pa_cons (pv 1) pa_nil)))) (pss_one ps_never) pss_nil)
      (pss_cons (ps_if (pt_not (pt_val (pe_fn d_is_number_in (hr.mono (by decide)) pass0 (pa_cons (pv 2) (pa_cons pe_int (pa_cons (pe_op op_sub (pe_callB (c_either (c_minK (K := K) rfl rfl) (c_minT (K := K) rfl rfl)) (by rfl) T.b_min (by decide +kernel) (pa_cons (pv 1) pa_nil)) pe_int) pa_nil)))))) (pss_one ps_never) pss_nil)
      (pss_cons (ps_if (pt_not (pt_val (pe_fn d_are_kinds (hr.mono (by decide)) pass0 (pa_cons (pv 3) pa_nil)))) (pss_one ps_never) pss_nil)
      (pss_cons (ps_if (pt_not (pt_val (pe_fn d_is_number_in (hr.mono (by decide)) pass0 (pa_cons (pv 4) (pa_cons pe_int (pa_cons (pe_glob (v := .int 2) (by rfl) T.c_MOST_MEMORY.choose_spec ⟨_, rfl⟩) pa_nil)))))) (pss_one ps_never) pss_nil)
      (pss_cons (ps_if (PW.pt (pw_or (pt_not (pt_val (pe_callB (c_isiK (K := K) rfl) (by rfl) T.b_isinstance (by decide +kernel) (pa_cons (pv 5) (pa_cons (pe_bltn (v := .ty "str") (by rfl) T.b_str (by decide +kernel) rfl) pa_nil))))) (pw_or1 (pt_cmpR (notIn_seqK (K := K) rfl) (pv 5) (pe_tup (pa_cons (pe_glob (v := .str "day") (by rfl) T.c_DAY.choose_spec ⟨_, rfl⟩) (pa_cons (pe_glob (v := .str "statement") (by rfl) T.c_STATEMENT.choose_spec ⟨_, rfl⟩) pa_nil))) (by rfl))))) (pss_one ps_never) pss_nil)
      (Evl.pss_cut (ps_if (PW.pt (pw_and (pt_cmpR op_notN1 (pv 6) pe_non (nomark _)) (pw_and1 (pt_not (pt_val (pe_fn d_is_order (hr.mono (by decide)) pass0 (pa_cons (pe_callTy (c_listD rfl) (by rfl) T.b_list (by decide +kernel) (pa_cons (pv 3) pa_nil)) (pa_cons (pv 6) pa_nil)))))))) (pss_one ps_never) pss_nil)
      (pss_cons (ps_fldK (K := K) rfl (pv 0) (pe_callTy (c_tupleFF (K := K) rfl) (by rfl) T.b_tuple (by decide +kernel) (pa_cons (pv 1) pa_nil)))
      (pss_cons (ps_fldK (K := K) rfl (pv 0) (pv 2))
      (pss_cons (ps_fldK (K := K) rfl (pv 0) (pe_dc (own := [("name", 7)]) (by rfl) sc.nd (pi_listK (K := K) rfl (pe_callB (c_sortedD rfl) (by rfl) T.b_sorted (by decide +kernel) (pa_cons (pv 3) pa_nil))) (blkOk_by (own := [("name", 7)]) (N := ["self", "lengths", "due", "kinds", "memory", "begins", "laid", "name"]) (sc := defScope s_Book___init__) (by decide +kernel)) (fun _ _ _ _ _ => (pg_name (i := 7) sc.nd rfl (by first | exact Or.inl rfl | exact Or.inr rfl))) (fun _ _ _ _ _ => pts_nil) (fun _ _ _ _ _ => (pv 7)) (fun _ _ _ _ _ => (pe_dget (hu_of hr) (pv 3) (pv 7) (fun _ _ => rfl)))))
      (pss_cons (ps_fldK (K := K) rfl (pv 0) (pv 4))
      (pss_cons (ps_fldK (K := K) rfl (pv 0) (pv 5))
      (pss_one (ps_fldK (K := K) rfl (pv 0) (pv 6))))))))))))))), ?_⟩)
  obtain ⟨p, dx, a, kd, B, lv, kvs, rfl, ok, lok, hlv, hp, ha, hk, hK, k⟩ := h
  have hl1 := ok.l1
  walk_at "rd"
  refine ⟨a, B.ls, rfl, ha.seq, ok.l1, ok.l2, ok.l3, fun H1 e1 => ?_⟩
  walk_at "rd"
  refine r_minSeq (ha.keep e1).seq (by omega) fun m hm hmin => ?_
  have hdm := ok.d1 m hm
  walk_at "rd"
  refine u_in ⟨ok.d0, by omega⟩ ?_
  walk_at "rd"
  refine ⟨kd, kvs, B.ks, rfl, e1 _ _ hk, hK.keepT e1, ok.kn, fun H2 e2 => ?_⟩
  have e02 := e1.trans e2
  walk_at "rd"
  refine u_in ⟨ok.m0, ok.m1⟩ ?_
  walk_at "rd"
  refine r_kTup fun t H3 nt e3 ht => ?_
  have e03 := e02.trans e3
  refine r_notInTS (xs := ["day", "statement"]) (SqT.of ht) ?_
  have hb : B.beg ∈ (["day", "statement"] : List Str) := by
    rcases ok.bg with h | h <;> rw [h] <;> simp
  rw [decide_eq_true hb]
  walk_at "rd"
  refine r_cut (fun σ' H' => σ' = [some (.ref p), some (.ref a), some (.int B.due), some (.ref kd), some (.int B.mem), some (.str B.beg), some lv, none] ∧ Same H H') ?_ ?_
  · walk_at "rd"
    cases hB : B.laid with
    | none =>
      rw [hB] at hlv
      obtain rfl : lv = .non := hlv
      walk_at "rd"
      exact ⟨rfl, e03⟩
    | some ns =>
      rw [hB] at hlv
      obtain ⟨tn, rfl, htn⟩ := hlv
      walk_at "rd"
      refine r_listD (e03 _ _ hk) fun l1 H9 _ e9 hl1 => ?_
      have hn : (kvs.map fun kv => kV kv.1) = (B.ks.map (·.1)).map V.str := by
        have e := congrArg (List.map kV) hK.keys
        rw [List.map_map, List.map_map] at e
        exact e
      rw [hn] at hl1
      walk_at "rd"
      refine ⟨l1, tn, B.ks.map (·.1), ns, rfl, hl1, (htn.same e03).same e9, lok ns hB, ok.kn.nm.ok, by rw [List.length_map]; have := ok.kn.hi; omega, fun H10 e10 => ?_⟩
      walk_at "rd"
      exact ⟨rfl, (e03.trans e9).trans e10⟩
  rintro σ' H3 ⟨rfl, e03⟩
  walk_at "rd"
  refine r_tupFF ((ha.keep e03).elim (fun h => .inl (SqL.of h)) .inr) fun tl H4 e4 htl => ?_
  obtain ⟨otl, hotl, htl⟩ := htl
  have nfp : ∀ {u : Addr} {o : Obj} {xs : List V} {G : Hp} {fs : List (Str × V)}, G u = some (.frz o (.tup xs)) → G p = some (.ins C dx fs) → u ≠ p := fun h1 h2 => ne_of h1 h2 (by intro z; cases z)
  have e04 := e03.trans e4
  have ntp : ∀ {u : Addr} {xs : List V} {G : Hp} {fs : List (Str × V)}, G u = some (.tup xs) → G p = some (.ins C dx fs) → u ≠ p := fun h1 h2 => ne_of h1 h2 (by intro z; cases z)
  walk_at "rd"
  refine r_kSFld (e04 _ _ hp) bc.cl bc.n1 (by decide) fun H5 b5 h5 => ?_
  have htl5 := b5 _ _ htl (nfp htl (e04 _ _ hp))
  walk_at "rd"
  refine r_kSFld h5 bc.cl bc.n2 (pf9 (pfl pf0)) fun H6 b6 h6 => ?_
  have htl6 := b6 _ _ htl5 (nfp htl5 h5)
  have nkp : kd ≠ p := ne_of hk hp (by intro z; cases z)
  have hk6 := b6 _ _ (b5 _ _ (e04 _ _ hk) nkp) nkp
  have kp06 : But p H H6 := fun b o hb hn => b6 _ _ (b5 _ _ (e04 _ _ hb) hn) hn
  have hK6 : KAt H6 kvs B.ks := by
    refine hK.keep fun u xs hu => kp06 _ _ hu (ntp hu hp)
  have hlen : B.ks.length < 64 := by
    have := ok.kn.hi
    omega
  walk_at "rd"
  refine r_sortedD (ks := B.ks.map (·.1)) hk6 hK6.keys (by rw [List.length_map]; exact hlen) fun ys q H7 py sy nq e7 hq => ?_
  obtain ⟨ms, pm, em⟩ := perm_lift (·.1) ys B.ks py
  have hk7 := e7 _ _ hk6
  have hK7 := hK6.keepT e7
  have nd := ok.kn.nm.nd
  have ndm : (ms.map (·.1)).Nodup := (pm.map (·.1)).nodup_iff.mpr nd
  have lm : ms.length ≤ 6 := by
    rw [pm.length_eq]
    exact ok.kn.hi
  have eys : ys.map V.str = ms.map fun m => V.str m.1 := by rw [← em, List.map_map]; rfl
  walk_at "rd"
  refine r_kDcL (xs := ys.map V.str) (SqL.of hq) (fun Da i H' => Same H7 H' ∧ ∃ kv, H' Da = some (.dK kv) ∧ KAt H' kv (ms.take i)) (fun Da H' _ e h => ⟨e, [], h, .nil⟩) (fun Da i H' h => SqL.of (h.1 _ _ hq)) ?_ ?_
  · rintro Da i y H' hD hy ⟨e8, kv, hDa, hkv⟩
    rw [eys] at hy
    obtain ⟨mm, hm, rfl⟩ : ∃ mm, ms[i]? = some mm ∧ y = V.str mm.1 := by
      rw [List.getElem?_map] at hy
      obtain ⟨mm, h1, h2⟩ := Option.map_eq_some_iff.mp hy
      exact ⟨mm, h1, h2.symm⟩
    obtain ⟨n, r, b⟩ := mm
    have hil := (List.getElem?_eq_some_iff.mp hm).1
    obtain ⟨t', hv, ht'⟩ := hK7.val nd (pm.mem_iff.mp (List.mem_of_getElem? hm))
    have hfresh : n ∉ (ms.take i).map (·.1) := fun z => by
      have e : ms.take (i + 1) = ms.take i ++ [(n, r, b)] := take_more hm
      have nd2 : ((ms.take (i + 1)).map (·.1)).Nodup := (ndm.sublist ((List.take_sublist _ _).map _))
      rw [e, List.map_append, List.nodup_append] at nd2
      exact nd2.2.2 n z n (by simp) rfl
    walk_at "rd"
    refine r_kDGetS (e8 _ _ hk7) hv ?_
    refine r_kDcE (kx := Sum.inr n) hDa (by rw [hkv.len, List.length_take]; omega) fun H9 b9 h9 => ?_
    rw [putK_new _ (hkv.fresh hfresh)] at h9
    have kp9 : ∀ u xs, H' u = some (.tup xs) → H9 u = some (.tup xs) := fun u xs hu => b9 _ _ hu (ne_of hu hDa (by intro z; cases z))
    refine ⟨Same.mut e8 b9 hD, _, h9, ?_⟩
    rw [take_more hm]
    exact (hkv.keep kp9).snoc (kp9 _ _ (e8 _ _ ht'))
  · rintro Da H8 hD ⟨e8, kv, hDa, hkv⟩
    have hfull : ms.take (ys.map V.str).length = ms := by
      rw [eys, List.length_map]
      exact List.take_length
    rw [hfull] at hkv
    have h8 := e8 _ _ (e7 _ _ h6)
    have ntD : Da ≠ p := ne_of hDa h8 (by intro z; cases z)
    walk_at "rd"
    refine r_kSFld h8 bc.cl bc.n3 (pf9 (pfl (pfl pf0))) fun H9 b9 h9 => ?_
    walk_at "rd"
    refine r_kSFld h9 bc.cl bc.n4 (pf9 (pfl (pfl (pfl pf0)))) fun H10 b10 h10 => ?_
    walk_at "rd"
    refine r_kSFld h10 bc.cl bc.n5 (pf9 (pfl (pfl (pfl (pfl pf0))))) fun H11 b11 h11 => ?_
    walk_at "rd"
    refine r_kSFld h11 bc.cl bc.n6 (pf9 (pfl (pfl (pfl (pfl (pfl pf0)))))) fun H12 b12 h12 => ?_
    have kp : But p H8 H12 := fun b o hb hn => b12 _ _ (b11 _ _ (b10 _ _ (b9 _ _ hb hn) hn) hn) hn
    have kpt : But p H H12 := fun b o hb hn => kp _ _ (e8 _ _ (e7 _ _ (kp06 _ _ hb hn))) hn
    have htl8 := e8 _ _ (e7 _ _ htl6)
    refine k H12 ms kpt pm (by rw [em]; exact sy) ⟨dx, tl, Da, lv, kv, ⟨h12, ⟨otl, hotl, kp _ _ htl8 (nfp htl8 h8)⟩, kp _ _ hDa ntD, hkv.keep fun u xs hu => kp _ _ hu (ntp hu h8), ?_⟩⟩
    exact hlv.keep fun u o xs hu => kpt _ _ hu (ne_of hu hp (by intro z; cases z))
end
end Wp
set_option Elab.async false
set_option linter.all false
set_option maxRecDepth 100000
set_option maxHeartbeats 4000000
/-! An account as it stands in the heap. -/
namespace Wp
open PySem PySem.Spec PyProof.Rows L2
def rkB (B : Bk) : Str → Int := match B.laid with
  | none => fun _ => 0
  | some ns => fun k => (ns.idxOf k : Int)
theorem rkB_none {B : Bk} (h : B.laid = none) (k : Str) : rkB B k = 0 := by unfold rkB; rw [h]
theorem rkB_some {B : Bk} {ns : List Str} (h : B.laid = some ns) (k : Str) : rkB B k = (ns.idxOf k : Int) := by unfold rkB; rw [h]
def fAcc (bk lf kd pd : Addr) (ow : Int) : List (Str × V) := [("a_book", .ref bk), ("a_left", .ref lf), ("a_kinds", .ref kd), ("a_owed", .int ow), ("a_paid", .ref pd)]
theorem putF_owed (bk lf kd pd : Addr) (ow z : Int) : putF "a_owed" (.int z) (fAcc bk lf kd pd ow) = fAcc bk lf kd pd z := by kernel_rfl
structure AcIn (CA CB : Addr) (H0 H : Hp) (q : Addr) (B : Bk) (bk : Addr) (A : Ac) (ow : Int) (n : Nat) (dx lf kd pd : Addr) (lfs : List (Int × Int)) (kds : List (Key × V)) : Prop where
  sm : Same H0 H
  bo : BookAt CB H0 bk B
  nq : H0 q = none
  nl : H0 lf = none
  nk : H0 kd = none
  np : H0 pd = none
  i : H q = some (.ins CA dx (fAcc bk lf kd pd ow))
  l : H lf = some (.dK (encT lfs))
  lp : lfs.Perm (A.S.map (·.2))
  k : H kd = some (.dK kds)
  kl : kds.length ≤ n
  kk : ∀ o ∈ A.S, ∃ z, valV kds (Sum.inl o.2.1 : Key) = some (.str z) ∧ rkB B z = o.1 ∧ z ∈ B.ks.map (·.1)
  p : H pd = some (.dT (encPD A.P))
  ne : lf ≠ kd
def AcAt (CA CB : Addr) (H0 H : Hp) (q : Addr) (B : Bk) (bk : Addr) (A : Ac) (ow : Int) (n : Nat) : Prop := ∃ dx lf kd pd lfs kds, AcIn CA CB H0 H q B bk A ow n dx lf kd pd lfs kds
theorem AcIn.keep {CA CB q bk dx lf kd pd : Addr} {H0 H H' : Hp} {B : Bk} {A : Ac} {ow : Int} {n : Nat} {lfs : List (Int × Int)} {kds : List (Key × V)} (h : AcIn CA CB H0 H q B bk A ow n dx lf kd pd lfs kds) (e : Same H H') : AcIn CA CB H0 H' q B bk A ow n dx lf kd pd lfs kds :=
  ⟨h.sm.trans e, h.bo, h.nq, h.nl, h.nk, h.np, e _ _ h.i, e _ _ h.l, h.lp, e _ _ h.k, h.kl, h.kk, e _ _ h.p, h.ne⟩
theorem AcAt.keep {CA CB q bk : Addr} {H0 H H' : Hp} {B : Bk} {A : Ac} {ow : Int} {n : Nat} (h : AcAt CA CB H0 H q B bk A ow n) (e : Same H H') : AcAt CA CB H0 H' q B bk A ow n := by
  obtain ⟨dx, lf, kd, pd, lfs, kds, h⟩ := h
  exact ⟨dx, lf, kd, pd, lfs, kds, h.keep e⟩
/-! the dict of what is left -/
theorem lf_nd {lfs : List (Int × Int)} {S : List Op} (p : lfs.Perm (S.map (·.2))) (nd : (S.map (·.2.1)).Nodup) : (lfs.map (·.1)).Nodup := by
  have := p.map (·.1)
  rw [List.map_map] at this
  exact this.nodup_iff.mpr nd
theorem lf_look {lfs : List (Int × Int)} {o : Op} {S : List Op} (p : lfs.Perm ((o :: S).map (·.2))) (nd : ((o :: S).map (·.2.1)).Nodup) : lookT lfs o.2.1 = some o.2.2 :=
  look_of_mem (p := o.2) (lf_nd p nd) (p.mem_iff.mpr (List.mem_cons_self ..))
theorem putI_map {t : List (Int × Int)} {z c m : Int} (h : lookT t z = some m) : putI t z c = t.map (fun p => if p.1 = z then (p.1, c) else p) := by
  unfold putI
  rw [any_look, h]
  rfl
theorem map_other {R : List (Int × Int)} {z c : Int} (h : z ∉ R.map (·.1)) : R.map (fun p => if p.1 = z then (p.1, c) else p) = R := by
  conv => rhs; rw [← List.map_id R]
  refine List.map_congr_left fun p hp => ?_
  rw [if_neg fun e => h (List.mem_map.mpr ⟨p, hp, e⟩)]
  rfl
theorem lf_put {lfs : List (Int × Int)} {o : Op} {S : List Op} (p : lfs.Perm ((o :: S).map (·.2))) (nd : ((o :: S).map (·.2.1)).Nodup) (c : Int) : (putI lfs o.2.1 c).Perm ((o.2.1, c) :: S.map (·.2)) := by
  rw [putI_map (lf_look p nd)]
  have := p.map (fun p => if p.1 = o.2.1 then (p.1, c) else p)
  refine this.trans ?_
  rw [List.map_cons, List.map_cons, if_pos rfl]
  rw [map_other (R := S.map (·.2))]
  rw [List.map_cons, List.nodup_cons] at nd
  rw [List.map_map]
  exact nd.1
theorem lf_drop {lfs : List (Int × Int)} {a c : Int} {S : List Op} (p : lfs.Perm ((a, c) :: S.map (·.2))) (na : a ∉ S.map (·.2.1)) : (dropI lfs a).Perm (S.map (·.2)) := by
  unfold dropI
  refine (p.filter _).trans ?_
  rw [List.filter_cons_of_neg (by simp)]
  rw [List.filter_eq_self.mpr]
  intro x hx
  refine decide_eq_true fun e => na ?_
  obtain ⟨o, ho, rfl⟩ := List.mem_map.mp hx
  exact List.mem_map.mpr ⟨o, ho, e⟩
theorem look_putI {lfs : List (Int × Int)} {z c : Int} : lookT (putI lfs z c) z = some c := by rw [putI_look, if_pos rfl]
theorem putI_fresh {lfs : List (Int × Int)} {z c : Int} (h : z ∉ lfs.map (·.1)) : putI lfs z c = lfs ++ [(z, c)] := by
  unfold putI
  rw [any_look, look_none.mpr h]
  rfl
/-! laying, step by step -/
theorem pay_zero (A : Ac) (d : Int) {c : Int} (h : c ≤ 0) : A.pay d c = A := by
  unfold Ac.pay
  cases hS : A.S with
  | nil => simp [payS, ← hS]
  | cons o S => 
    unfold payS
    rw [if_pos h]
    simp [← hS]
theorem pay_part {o : Op} {S : List Op} {P : Pd} {d c : Int} (h0 : 0 < c) (h1 : c < o.2.2) : Ac.pay ⟨o :: S, P⟩ d c = ⟨(o.1, o.2.1, o.2.2 - c) :: S, addP P (o.2.1, d) c⟩ := by
  unfold Ac.pay
  show Ac.mk (payS (o :: S) c).2 _ = _
  unfold payS
  rw [if_neg (by omega), if_pos h1]
  rfl
theorem pay_all {o : Op} {S : List Op} {P : Pd} {d c : Int} (h0 : 0 < c) (h1 : o.2.2 ≤ c) : Ac.pay ⟨o :: S, P⟩ d c = Ac.pay ⟨S, addP P (o.2.1, d) o.2.2⟩ d (c - o.2.2) := by
  unfold Ac.pay
  show Ac.mk (payS (o :: S) c).2 _ = _
  rw [show payS (o :: S) c = ((o.2.1, o.2.2) :: (payS S (c - o.2.2)).1, (payS S (c - o.2.2)).2) by
    conv => lhs; unfold payS
    rw [if_neg (by omega), if_neg (by omega)]]
  rfl
theorem addP_len (P : Pd) (z : Int × Int) (c : Int) : (addP P z c).length ≤ P.length + 1 := by
  unfold addP putP
  split
  · simp
  · simp
/-- the least of what is left is the first one -/
theorem head_least {o : Op} {S : List Op} (h : (o :: S).Pairwise ltO) : ∀ y ∈ (o :: S), leP (o.1, o.2.1) (y.1, y.2.1) = true := fun y hy => by
  rcases List.mem_cons.mp hy with rfl | hy
  · simp [leP]
  · have := (List.pairwise_cons.mp h).1 y hy
    unfold ltO at this
    refine decide_eq_true ?_
    show o.1 < y.1 ∨ o.1 = y.1 ∧ o.2.1 ≤ y.2.1
    omega
theorem leP_anti {a b : Int × Int} (h1 : leP a b = true) (h2 : leP b a = true) : a = b := by
  have h1 := of_decide_eq_true h1
  have h2 := of_decide_eq_true h2
  exact Prod.ext (by omega) (by omega)
end Wp
set_option Elab.async false
set_option linter.all false
set_option maxRecDepth 100000
set_option maxHeartbeats 4000000
/-! Courses, plain: what was paid of each purchase; the law's own laying. -/
namespace Wp
open PySem PySem.Spec PyProof.Rows L2
theorem payS_len : ∀ (S : List Op) (c : Int), (payS S c).1.length ≤ S.length ∧ (payS S c).2.length ≤ S.length
  | [], c => by simp [payS]
  | o :: S, c => by
    unfold payS
    split
    · simp
    · split
      · simp
      · have := payS_len S (c - o.2.2)
        simp only [List.length_cons]
        omega
theorem foldP_len (d : Int) : ∀ (L : List (Int × Int)) (P : Pd), (L.foldl (fun P x => addP P (x.1, d) x.2) P).length ≤ P.length + L.length
  | [], P => by simp
  | x :: L, P => by
    rw [List.foldl_cons]
    have h1 := foldP_len d L (addP P (x.1, d) x.2)
    have h2 := addP_len P (x.1, d) x.2
    simp only [List.length_cons]
    omega
theorem list_snoc_ind {α : Type} {M : List α → Prop} (h0 : M []) (hs : ∀ xs z, M xs → M (xs ++ [z])) : ∀ xs, M xs := fun xs => by
  have : ∀ ys : List α, M ys.reverse := fun ys => by
    induction ys with
    | nil => exact h0
    | cons y r ih => rw [List.reverse_cons]; exact hs _ _ ih
  have := this xs.reverse
  rwa [List.reverse_reverse] at this
theorem acOf_len (rk : Str → Int) : ∀ rs : List CR, (acOf rk rs).S.length ≤ rs.length ∧ (acOf rk rs).P.length ≤ rs.length * rs.length := by
  refine list_snoc_ind (by simp [acOf_nil]) fun rs r ih => ?_
  rw [acOf_snoc, List.length_append, List.length_singleton]
  have e : (rs.length + 1) * (rs.length + 1) = rs.length * rs.length + 2 * rs.length + 1 := by
    rw [Nat.add_mul, Nat.mul_add]; omega
  rw [e]
  cases r with
  | buy d k c =>
    have := (insO_perm (rk k, ((rs.length : Nat) : Int), c) (acOf rk rs).S).length_eq
    rw [List.length_cons] at this
    exact ⟨(show (insO _ _).length ≤ _ by omega), (show (acOf rk rs).P.length ≤ _ by omega)⟩
  | pay d c =>
    have h1 := payS_len (acOf rk rs).S c
    have h2 := foldP_len d (payS (acOf rk rs).S c).1 (acOf rk rs).P
    exact ⟨(show (payS (acOf rk rs).S c).2.length ≤ _ by omega), Nat.le_trans h2 (by omega)⟩
/-! dicts by row and day -/
theorem anyP_look : ∀ (t : Pd) (z : Int × Int), (t.any fun p => decide (p.1 = z)) = (lookP t z).isSome
  | [], z => rfl
  | (k, c) :: r, z => by
    unfold lookP
    by_cases h : k = z
    · simp [h]
    · rw [List.any_cons, anyP_look r z]
      simp [h]
theorem lookP_none : ∀ {t : Pd} {z : Int × Int}, lookP t z = none ↔ z ∉ t.map (·.1)
  | [], z => by simp [lookP]
  | (k, c) :: r, z => by
    have := lookP_none (t := r) (z := z)
    unfold lookP
    by_cases h : k = z
    · simp [h]
    · rw [if_neg h, this]
      simp only [List.map_cons, List.mem_cons, not_or]
      exact ⟨fun x => ⟨fun e => h e.symm, x⟩, fun x => x.2⟩
theorem lookP_mem : ∀ {t : Pd} {p : (Int × Int) × Int}, (t.map (·.1)).Nodup → p ∈ t → lookP t p.1 = some p.2
  | [], p, _, h => by cases h
  | (k, c) :: r, p, nd, h => by
    rw [List.map_cons, List.nodup_cons] at nd
    rcases List.mem_cons.mp h with e | e
    · subst e
      simp [lookP]
    · unfold lookP
      rw [if_neg (fun z => nd.1 (by rw [show k = p.1 from z]; exact List.mem_map.mpr ⟨p, e, rfl⟩))]
      exact lookP_mem nd.2 e
theorem lookP_some {t : Pd} {z : Int × Int} (h : z ∈ t.map (·.1)) : ∃ c, lookP t z = some c := by
  cases e : lookP t z with
  | none => exact absurd h (lookP_none.mp e)
  | some c => exact ⟨c, rfl⟩
theorem putP_keys (t : Pd) (z : Int × Int) (c : Int) : (putP t z c).map (·.1) = if (lookP t z).isSome = true then t.map (·.1) else t.map (·.1) ++ [z] := by
  unfold putP
  rw [anyP_look]
  split
  · rw [List.map_map]
    refine List.map_congr_left fun p _ => ?_
    show (if p.1 = z then (p.1, c) else p).1 = p.1
    split <;> rfl
  · simp
theorem putP_nd {t : Pd} {z : Int × Int} {c : Int} (nd : (t.map (·.1)).Nodup) : ((putP t z c).map (·.1)).Nodup := by
  rw [putP_keys]
  split
  · exact nd
  · rename_i h
    have h1 : lookP t z = none := by
      cases e : lookP t z with
      | none => rfl
      | some c => rw [e] at h; exact absurd rfl h
    rw [List.nodup_append]
    refine ⟨nd, by simp, fun a ha b hb e => ?_⟩
    rw [List.mem_singleton.mp hb] at e
    subst e
    exact lookP_none.mp h1 ha
def sumAt (P : Pd) (n : Int) : Int := ((P.filter fun p => decide (p.1.1 = n)).map (·.2)).sum
theorem sumAt_nil (n : Int) : sumAt [] n = 0 := rfl
theorem sumAt_cons (p : (Int × Int) × Int) (P : Pd) (n : Int) : sumAt (p :: P) n = (if p.1.1 = n then p.2 else 0) + sumAt P n := by
  unfold sumAt
  rw [List.filter_cons]
  by_cases h : p.1.1 = n
  · simp [h]
  · simp [h]
theorem sumAt_app (P R : Pd) (n : Int) : sumAt (P ++ R) n = sumAt P n + sumAt R n := by
  unfold sumAt
  rw [List.filter_append, List.map_append, List.sum_append]
theorem sumAt_map : ∀ {P : Pd} {z : Int × Int} {c v : Int} (n : Int), (P.map (·.1)).Nodup → lookP P z = some v → sumAt (P.map fun p => if p.1 = z then (p.1, c) else p) n = sumAt P n + (if z.1 = n then c - v else 0)
  | [], z, c, v, n, _, h => by simp [lookP] at h
  | p :: P, z, c, v, n, nd, h => by
    rw [List.map_cons, List.nodup_cons] at nd
    rw [List.map_cons, sumAt_cons, sumAt_cons]
    unfold lookP at h
    by_cases e : p.1 = z
    · rw [if_pos e] at h
      have h := Option.some.inj h
      have e2 : P.map (fun p => if p.1 = z then (p.1, c) else p) = P := by
        conv => rhs; rw [← List.map_id P]
        refine List.map_congr_left fun q hq => ?_
        rw [if_neg fun e3 => nd.1 (List.mem_map.mpr ⟨q, hq, e3.trans e.symm⟩)]
        rfl
      rw [e2, if_pos e]
      show (if p.1.1 = n then c else 0) + _ = _
      rw [← e]
      split <;> omega
    · rw [if_neg e] at h
      rw [if_neg e, sumAt_map n nd.2 h]
      omega
theorem sumAt_addP {P : Pd} {z : Int × Int} {c : Int} (n : Int) (nd : (P.map (·.1)).Nodup) : sumAt (addP P z c) n = sumAt P n + (if z.1 = n then c else 0) := by
  unfold addP putP
  rw [anyP_look]
  cases h : lookP P z with
  | none =>
    rw [if_neg (by simp), sumAt_app, sumAt_cons, sumAt_nil]
    show _ + ((if z.1 = n then 0 + c else 0) + 0) = _
    split <;> omega
  | some v =>
    rw [if_pos (by simp), sumAt_map n nd h]
    show _ + (if z.1 = n then v + c - v else 0) = _
    split <;> omega
/-- a dict of what was paid as it must be -/
structure POk (P : Pd) (n M : Int) : Prop where
  nd : (P.map (·.1)).Nodup
  pos : ∀ p ∈ P, 1 ≤ p.2
  at' : ∀ p ∈ P, 0 ≤ p.1.1 ∧ p.1.1 < n
  dy : ∀ p ∈ P, 0 ≤ p.1.2 ∧ p.1.2 ≤ M
theorem POk.nil (n M : Int) : POk [] n M := ⟨List.nodup_nil, fun p h => (by cases h), fun p h => (by cases h), fun p h => (by cases h)⟩
theorem POk.mono {P : Pd} {n m M : Int} (h : POk P n M) (l : n ≤ m) : POk P m M := ⟨h.nd, h.pos, fun p hp => by have := h.at' p hp; omega, h.dy⟩
theorem POk.add {P : Pd} {n M a d c : Int} (h : POk P n M) (ha : 0 ≤ a ∧ a < n) (hd : 0 ≤ d ∧ d ≤ M) (hc : 1 ≤ c) : POk (addP P (a, d) c) n M := by
  have nd := putP_nd (z := (a, d)) (c := (lookP P (a, d)).getD 0 + c) h.nd
  have hv : 1 ≤ (lookP P (a, d)).getD 0 + c := by
    cases e : lookP P (a, d) with
    | none => show 1 ≤ 0 + c; omega
    | some v =>
      have hm : (a, d) ∈ P.map (·.1) := by
        refine Classical.byContradiction fun z => ?_
        rw [lookP_none.mpr z] at e
        cases e
      obtain ⟨p, hp, ep⟩ := List.mem_map.mp hm
      have := lookP_mem h.nd hp
      rw [ep, e] at this
      have := Option.some.inj this
      have := h.pos p hp
      show 1 ≤ v + c
      omega
  have key : ∀ p ∈ addP P (a, d) c, p ∈ P ∨ (p.1 = (a, d) ∧ 1 ≤ p.2) := fun p hp => by
    unfold addP putP at hp
    split at hp
    · obtain ⟨q, hq, rfl⟩ := List.mem_map.mp hp
      by_cases e : q.1 = (a, d)
      · rw [if_pos e]
        exact .inr ⟨e, hv⟩
      · rw [if_neg e]
        exact .inl hq
    · rcases List.mem_append.mp hp with hp | hp
      · exact .inl hp
      · rw [List.mem_singleton.mp hp]
        exact .inr ⟨rfl, hv⟩
  refine ⟨nd, fun p hp => ?_, fun p hp => ?_, fun p hp => ?_⟩
  · rcases key p hp with h1 | ⟨_, h1⟩
    · exact h.pos p h1
    · exact h1
  · rcases key p hp with h1 | ⟨h1, _⟩
    · exact h.at' p h1
    · rw [h1]; exact ha
  · rcases key p hp with h1 | ⟨h1, _⟩
    · exact h.dy p h1
    · rw [h1]; exact hd
def partAt (L : List (Int × Int)) (n : Int) : Int := ((L.filter fun x => decide (x.1 = n)).map (·.2)).sum
theorem partAt_cons (x : Int × Int) (L : List (Int × Int)) (n : Int) : partAt (x :: L) n = (if x.1 = n then x.2 else 0) + partAt L n := by
  unfold partAt
  rw [List.filter_cons]
  by_cases h : x.1 = n
  · simp [h]
  · simp [h]
def openAt (S : List Op) (n : Int) : Int := partAt (S.map (·.2)) n
theorem openAt_cons (o : Op) (S : List Op) (n : Int) : openAt (o :: S) n = (if o.2.1 = n then o.2.2 else 0) + openAt S n := partAt_cons o.2 _ n
theorem partAt_perm {L M : List (Int × Int)} (h : L.Perm M) (n : Int) : partAt L n = partAt M n := by
  induction h with
  | nil => rfl
  | cons x _ ih => rw [partAt_cons, partAt_cons, ih]
  | swap x y l => rw [partAt_cons, partAt_cons, partAt_cons, partAt_cons]; omega
  | trans _ _ h1 h2 => exact h1.trans h2
theorem payS_at : ∀ (S : List Op) (c n : Int), partAt (payS S c).1 n + openAt (payS S c).2 n = openAt S n
  | [], c, n => rfl
  | o :: S, c, n => by
    unfold payS
    split
    · show 0 + openAt (o :: S) n = _
      omega
    · split
      · rw [openAt_cons, openAt_cons, partAt_cons]
        show (if o.2.1 = n then c else 0) + 0 + ((if o.2.1 = n then o.2.2 - c else 0) + openAt S n) = _
        split <;> omega
      · have := payS_at S (c - o.2.2) n
        rw [openAt_cons, partAt_cons]
        show (if o.2.1 = n then o.2.2 else 0) + partAt (payS S (c - o.2.2)).1 n + openAt (payS S (c - o.2.2)).2 n = _
        omega
theorem payS_parts : ∀ {S : List Op} {c : Int}, (∀ o ∈ S, 1 ≤ o.2.2) → ∀ x ∈ (payS S c).1, 1 ≤ x.2 ∧ ∃ o ∈ S, o.2.1 = x.1
  | [], c, _ => fun x hx => by simp [payS] at hx
  | o :: S, c, h => fun x hx => by
    unfold payS at hx
    split at hx
    · cases hx
    · rename_i h1
      split at hx
      · rw [List.mem_singleton.mp hx]
        exact ⟨by show 1 ≤ c; omega, o, List.mem_cons_self .., rfl⟩
      · rcases List.mem_cons.mp hx with rfl | hx
        · exact ⟨h o (List.mem_cons_self ..), o, List.mem_cons_self .., rfl⟩
        · obtain ⟨h2, o', h3, h4⟩ := payS_parts (S := S) (fun y hy => h y (List.mem_cons_of_mem _ hy)) x hx
          exact ⟨h2, o', List.mem_cons_of_mem _ h3, h4⟩
theorem payS_all : ∀ {S : List Op}, (∀ o ∈ S, 1 ≤ o.2.2) → (payS S (sumO S)).2 = []
  | [], _ => by simp [payS]
  | o :: S, h => by
    have h1 := h o (List.mem_cons_self ..)
    have h2 : ∀ x ∈ S, 1 ≤ x.2.2 := fun x hx => h x (List.mem_cons_of_mem _ hx)
    have h3 := sumO_nonneg h2
    rw [sumO_cons]
    unfold payS
    rw [if_neg (by omega), if_neg (by omega)]
    show (payS S (o.2.2 + sumO S - o.2.2)).2 = []
    rw [show o.2.2 + sumO S - o.2.2 = sumO S by omega]
    exact payS_all h2
theorem foldP_ok {n M d : Int} (hd : 0 ≤ d ∧ d ≤ M) : ∀ {L : List (Int × Int)} {P : Pd}, POk P n M → (∀ x ∈ L, 1 ≤ x.2 ∧ 0 ≤ x.1 ∧ x.1 < n) →
    POk (L.foldl (fun P x => addP P (x.1, d) x.2) P) n M ∧ ∀ i, sumAt (L.foldl (fun P x => addP P (x.1, d) x.2) P) i = sumAt P i + partAt L i
  | [], P, h, _ => ⟨h, fun i => by show sumAt P i = sumAt P i + 0; omega⟩
  | x :: L, P, h, hx => by
    have h1 := hx x (List.mem_cons_self ..)
    obtain ⟨a, b⟩ := foldP_ok hd (L := L) (h.add (a := x.1) (d := d) (c := x.2) ⟨h1.2.1, h1.2.2⟩ hd h1.1) fun y hy => hx y (List.mem_cons_of_mem _ hy)
    refine ⟨a, fun i => ?_⟩
    rw [List.foldl_cons, b i, sumAt_addP i h.nd, partAt_cons]
    show sumAt P i + (if x.1 = i then x.2 else 0) + partAt L i = _
    omega
theorem pay_ok {A : Ac} {n M d c : Int} (hP : POk A.P n M) (hS : SOk A.S n) (hd : 0 ≤ d ∧ d ≤ M) : POk (A.pay d c).P n M ∧ ∀ i, sumAt (A.pay d c).P i + openAt (A.pay d c).S i = sumAt A.P i + openAt A.S i := by
  obtain ⟨a, b⟩ := foldP_ok (n := n) hd (L := (payS A.S c).1) hP fun x hx => by
    obtain ⟨h1, o, h2, h3⟩ := payS_parts hS.pos x hx
    have := hS.at' o h2
    exact ⟨h1, by omega, by omega⟩
  refine ⟨a, fun i => ?_⟩
  have := payS_at A.S c i
  have := b i
  show sumAt (List.foldl _ _ _) i + openAt (payS A.S c).2 i = _
  omega
/-- the cents of the purchase at a row -/
def boughtAt (rs : List CR) (i : Nat) : Int := match rs[i]? with
  | some (.buy _ _ c) => c
  | _ => 0
theorem boughtAt_snoc (rs : List CR) (r : CR) (i : Nat) : boughtAt (rs ++ [r]) i = boughtAt rs i + (if rs.length = i then (match r with | .buy _ _ c => c | .pay _ _ => 0) else 0) := by
  unfold boughtAt
  by_cases h : i < rs.length
  · rw [List.getElem?_append_left h, if_neg (by omega)]
    omega
  · by_cases e : rs.length = i
    · subst e
      rw [List.getElem?_append_right (Nat.le_refl _), Nat.sub_self, if_pos rfl, List.getElem?_eq_none (Nat.le_refl _)]
      cases r <;> simp
    · rw [if_neg e, List.getElem?_eq_none (by simp; omega), List.getElem?_eq_none (by omega)]
      rfl
theorem acOf_paid {ks : List Str} (rk : Str → Int) {M : Int} : ∀ rs : List CR, VR ks rs → (∀ r ∈ rs, 0 ≤ r.day ∧ r.day ≤ M) → POk (acOf rk rs).P rs.length M ∧ ∀ i : Nat, sumAt (acOf rk rs).P i + openAt (acOf rk rs).S i = boughtAt rs i := by
  refine list_snoc_ind (fun _ _ => ⟨POk.nil _ _, fun i => by simp [acOf_nil, sumAt_nil, openAt, partAt, boughtAt]⟩) fun rs r ih hv hd => ?_
  have hv0 : VR ks rs := by
    have := hv.take rs.length
    rwa [List.take_left] at this
  obtain ⟨h1, h2⟩ := ih hv0 fun x hx => hd x (List.mem_append_left _ hx)
  obtain ⟨s1, s2⟩ := acOf_ok rk rs.length rfl hv0
  rw [acOf_snoc]
  have hlen : ((rs ++ [r]).length : Int) = (rs.length : Int) + 1 := by simp
  rw [hlen]
  have hdr := hd r (List.mem_append_right _ (List.mem_singleton_self _))
  cases r with
  | buy d k c =>
    refine ⟨h1.mono (by omega), fun i => ?_⟩
    show sumAt (acOf rk rs).P i + openAt (insO (rk k, (rs.length : Int), c) (acOf rk rs).S) i = _
    have e : openAt (insO (rk k, (rs.length : Int), c) (acOf rk rs).S) i = (if (rs.length : Int) = (i : Int) then c else 0) + openAt (acOf rk rs).S i := by
      unfold openAt
      rw [partAt_perm ((insO_perm _ _).map (·.2)), List.map_cons, partAt_cons]
    rw [e, boughtAt_snoc]
    have := h2 i
    by_cases hi : rs.length = i
    · rw [if_pos hi, if_pos (by omega)]
      show _ = boughtAt rs i + c
      omega
    · rw [if_neg hi, if_neg (by omega)]
      omega
  | pay d c =>
    obtain ⟨a, b⟩ := pay_ok (c := c) h1 s1 (d := d) hdr
    refine ⟨a.mono (by omega), fun i => ?_⟩
    have h3 := b i
    have h4 := h2 i
    rw [boughtAt_snoc]
    show sumAt ((acOf rk rs).pay d c).P i + openAt ((acOf rk rs).pay d c).S i = boughtAt rs i + (if rs.length = i then 0 else 0)
    split <;> omega
/-- all is paid in the end -/
theorem settle_ok {ks : List Str} (rk : Str → Int) {M e : Int} {rs : List CR} (hv : VR ks rs) (hd : ∀ r ∈ rs, 0 ≤ r.day ∧ r.day ≤ M) (he : 0 ≤ e ∧ e ≤ M) :
    POk (settle rk rs e) rs.length M ∧ ∀ i : Nat, sumAt (settle rk rs e) i = boughtAt rs i := by
  obtain ⟨h1, h2⟩ := acOf_paid rk rs hv hd
  obtain ⟨s1, s2⟩ := acOf_ok rk rs.length rfl hv
  obtain ⟨a, b⟩ := pay_ok (c := owedC rs) h1 s1 he
  refine ⟨a, fun i => ?_⟩
  have h3 := b i
  have h4 := h2 i
  have h5 : ((acOf rk rs).pay e (owedC rs)).S = [] := by
    show (payS (acOf rk rs).S (owedC rs)).2 = []
    rw [← s2]
    exact payS_all s1.pos
  rw [h5] at h3
  have h6 : openAt [] (i : Int) = 0 := rfl
  show sumAt ((acOf rk rs).pay e (owedC rs)).P i = _
  omega
theorem settle_len (rk : Str → Int) (rs : List CR) (e : Int) : (settle rk rs e).length ≤ rs.length * rs.length + rs.length := by
  have h1 := acOf_len rk rs
  have h2 := payS_len (acOf rk rs).S (owedC rs)
  have h3 := foldP_len e (payS (acOf rk rs).S (owedC rs)).1 (acOf rk rs).P
  exact Nat.le_trans h3 (by omega)
/-! days of valid rows -/
theorem VR.days {ks : List Str} : ∀ rs : List CR, VR ks rs → 0 ≤ lastDay rs ∧ ∀ r ∈ rs, 0 ≤ r.day ∧ r.day ≤ lastDay rs := by
  refine list_snoc_ind (fun _ => ⟨Int.le_refl _, fun r h => (by cases h)⟩) fun rs r ih hv => ?_
  have hv0 : VR ks rs := by
    have := hv.take rs.length
    rwa [List.take_left] at this
  obtain ⟨h0, h1⟩ := ih hv0
  have hx := hv rs.length r (by simp)
  rw [List.take_left] at hx
  have hd : lastDay rs ≤ r.day := by
    cases r with
    | buy d k c => exact hx.1
    | pay d c => exact hx.1
  rw [lastDay_snoc]
  refine ⟨by omega, fun x hm => ?_⟩
  rcases List.mem_append.mp hm with hm | hm
  · have := h1 x hm
    omega
  · rw [List.mem_singleton.mp hm]
    omega
theorem VR.bought {ks : List Str} {rs : List CR} (hv : VR ks rs) (i : Nat) : 0 ≤ boughtAt rs i ∧ boughtAt rs i ≤ 1000000 := by
  unfold boughtAt
  cases e : rs[i]? with
  | none => exact ⟨Int.le_refl _, by decide⟩
  | some r =>
    cases r with
    | buy d k c =>
      obtain ⟨_, _, h1, h2⟩ := hv i _ e
      exact ⟨by show 0 ≤ c; omega, h2⟩
    | pay d c => exact ⟨Int.le_refl _, by show (0 : Int) ≤ 1000000; decide⟩
/-! pieces -/
abbrev Tri := Int × Int × Int
def piecesL (P : Pd) : List Tri := (srtK (P.map (·.1))).map fun k => (k.1, k.2, (lookP P k).getD 0)
theorem piecesL_perm {P : Pd} (nd : (P.map (·.1)).Nodup) : (piecesL P).Perm (P.map fun p => (p.1.1, p.1.2, p.2)) := by
  refine ((srtK_perm (P.map (·.1))).map _).trans ?_
  rw [List.map_map]
  have e : P.map ((fun k => (k.1, k.2, (lookP P k).getD 0)) ∘ (·.1)) = P.map fun p => (p.1.1, p.1.2, p.2) := List.map_congr_left fun p hp => by
    show (p.1.1, p.1.2, (lookP P p.1).getD 0) = _
    rw [lookP_mem nd hp]
    rfl
  rw [e]
theorem sumAt_le {P : Pd} (h : ∀ p ∈ P, 1 ≤ p.2) : ∀ p ∈ P, p.2 ≤ sumAt P p.1.1 ∧ ∀ n, 0 ≤ sumAt P n := by
  have h0 : ∀ (R : Pd), (∀ p ∈ R, 1 ≤ p.2) → ∀ n, 0 ≤ sumAt R n := fun R => by
    induction R with
    | nil => intro _ n; exact Int.le_refl _
    | cons q R ih =>
      intro h n
      rw [sumAt_cons]
      have := ih (fun p hp => h p (List.mem_cons_of_mem _ hp)) n
      have := h q (List.mem_cons_self ..)
      split <;> omega
  intro p hp
  refine ⟨?_, h0 P h⟩
  induction P with
  | nil => cases hp
  | cons q R ih =>
    rw [sumAt_cons]
    have hq := h q (List.mem_cons_self ..)
    have hR : ∀ p ∈ R, 1 ≤ p.2 := fun p hp => h p (List.mem_cons_of_mem _ hp)
    have h1 := h0 R hR p.1.1
    rcases List.mem_cons.mp hp with rfl | hp
    · rw [if_pos rfl]
      omega
    · have := ih hR hp
      split <;> omega
theorem perm_sum {l m : List Int} (p : l.Perm m) : l.sum = m.sum := by
  induction p with
  | nil => rfl
  | cons x _ ih => simp [ih]
  | swap x y l => simp; omega
  | trans _ _ h1 h2 => exact h1.trans h2
theorem pieces_sum {P : Pd} (nd : (P.map (·.1)).Nodup) (n : Int) : (((piecesL P).filter fun t => decide (t.1 = n)).map (·.2.2)).sum = sumAt P n := by
  rw [perm_sum (((piecesL_perm nd).filter _).map _)]
  unfold sumAt
  congr 1
  rw [List.filter_map, List.map_map]
  rfl
/-! the law's own laying -/
def stepL (d : Int) (x : Pd × List Op × Int) (o : Op) : Pd × List Op × Int :=
  (if 0 < min x.2.2 o.2.2 then addP x.1 (o.2.1, d) (min x.2.2 o.2.2) else x.1, x.2.1 ++ (if min x.2.2 o.2.2 < o.2.2 then [(o.1, o.2.1, o.2.2 - min x.2.2 o.2.2)] else []), x.2.2 - min x.2.2 o.2.2)
theorem stepL_zero (d : Int) : ∀ (S : List Op) (P : Pd) (L : List Op), (∀ o ∈ S, 1 ≤ o.2.2) → S.foldl (stepL d) (P, L, 0) = (P, L ++ S, 0)
  | [], P, L, _ => by simp
  | o :: S, P, L, h => by
    have h1 := h o (List.mem_cons_self ..)
    rw [List.foldl_cons]
    have e : stepL d (P, L, 0) o = (P, L ++ [o], 0) := by
      unfold stepL
      have m : min (0 : Int) o.2.2 = 0 := by omega
      show ((if 0 < min (0 : Int) o.2.2 then _ else P), L ++ (if min (0 : Int) o.2.2 < o.2.2 then [(o.1, o.2.1, o.2.2 - min (0 : Int) o.2.2)] else []), (0 : Int) - min (0 : Int) o.2.2) = _
      rw [m, if_neg (by omega), if_pos (by omega), Int.sub_zero]
      rfl
    rw [e, stepL_zero d S P _ fun x hx => h x (List.mem_cons_of_mem _ hx)]
    simp
theorem stepL_pay (d : Int) : ∀ (S : List Op) (P : Pd) (L : List Op) (c : Int), (∀ o ∈ S, 1 ≤ o.2.2) → 0 ≤ c → (S.foldl (stepL d) (P, L, c)).1 = (payS S c).1.foldl (fun P x => addP P (x.1, d) x.2) P ∧ (S.foldl (stepL d) (P, L, c)).2.1 = L ++ (payS S c).2
  | [], P, L, c, _, _ => by simp [payS]
  | o :: S, P, L, c, h, hc => by
    have h1 := h o (List.mem_cons_self ..)
    have h2 : ∀ x ∈ S, 1 ≤ x.2.2 := fun x hx => h x (List.mem_cons_of_mem _ hx)
    by_cases c0 : c ≤ 0
    · have : c = 0 := by omega
      subst this
      rw [stepL_zero d _ P L h]
      unfold payS
      rw [if_pos (Int.le_refl _)]
      exact ⟨rfl, rfl⟩
    · rw [List.foldl_cons]
      by_cases c1 : c < o.2.2
      · have e : stepL d (P, L, c) o = (addP P (o.2.1, d) c, L ++ [(o.1, o.2.1, o.2.2 - c)], 0) := by
          unfold stepL
          show ((if 0 < min c o.2.2 then addP P (o.2.1, d) (min c o.2.2) else P), L ++ (if min c o.2.2 < o.2.2 then [(o.1, o.2.1, o.2.2 - min c o.2.2)] else []), c - min c o.2.2) = _
          rw [show min c o.2.2 = c by omega, if_pos (by omega), if_pos c1, Int.sub_self]
        rw [e, stepL_zero d S _ _ h2]
        unfold payS
        rw [if_neg c0, if_pos c1]
        exact ⟨rfl, by simp⟩
      · have e : stepL d (P, L, c) o = (addP P (o.2.1, d) o.2.2, L, c - o.2.2) := by
          unfold stepL
          show ((if 0 < min c o.2.2 then addP P (o.2.1, d) (min c o.2.2) else P), L ++ (if min c o.2.2 < o.2.2 then [(o.1, o.2.1, o.2.2 - min c o.2.2)] else []), c - min c o.2.2) = _
          rw [show min c o.2.2 = o.2.2 by omega, if_pos (by omega), if_neg (by omega), List.append_nil]
        obtain ⟨a, b⟩ := stepL_pay d S (addP P (o.2.1, d) o.2.2) L (c - o.2.2) h2 (by omega)
        have e2 : payS (o :: S) c = ((o.2.1, o.2.2) :: (payS S (c - o.2.2)).1, (payS S (c - o.2.2)).2) := by
          conv => lhs; unfold payS
          rw [if_neg c0, if_neg c1]
        rw [e, a, b, e2]
        exact ⟨rfl, rfl⟩
theorem stepL_len (d : Int) : ∀ (S : List Op) (x : Pd × List Op × Int), (S.foldl (stepL d) x).2.1.length ≤ x.2.1.length + S.length ∧ (S.foldl (stepL d) x).1.length ≤ x.1.length + S.length
  | [], x => by simp
  | o :: S, x => by
    rw [List.foldl_cons]
    have h1 := stepL_len d S (stepL d x o)
    have h2 : (stepL d x o).2.1.length ≤ x.2.1.length + 1 := by
      unfold stepL
      show (x.2.1 ++ _).length ≤ _
      rw [List.length_append]
      split <;> simp
    have h3 : (stepL d x o).1.length ≤ x.1.length + 1 := by
      unfold stepL
      show (if _ then _ else _ : Pd).length ≤ _
      split
      · exact addP_len _ _ _
      · omega
    simp only [List.length_cons]
    omega
end Wp
set_option Elab.async false
set_option linter.all false
set_option maxRecDepth 100000
set_option maxHeartbeats 4000000
/-! Courses as they stand in the heap; lists of triples; sorted of triples. -/
namespace Wp
open PySem PySem.Spec PyProof.Rows L2
def encCR : CR → List V
  | .buy d k c => [.str "buy", .int d, .str k, .int c]
  | .pay d c => [.str "pay", .int d, .int c]
inductive RAt (H : Hp) : List V → List CR → Prop
  | nil : RAt H [] []
  | cons {t : Addr} {r : CR} {ws : List V} {rs : List CR} : H t = some (.tup (encCR r)) → RAt H ws rs → RAt H (.ref t :: ws) (r :: rs)
theorem RAt.keep {H H' : Hp} {ws : List V} {rs : List CR} (h : RAt H ws rs) (e : ∀ t xs, H t = some (.tup xs) → H' t = some (.tup xs)) : RAt H' ws rs := by
  induction h with
  | nil => exact .nil
  | cons h _ ih => exact .cons (e _ _ h) ih
theorem RAt.same {H H' : Hp} {ws : List V} {rs : List CR} (h : RAt H ws rs) (e : Same H H') : RAt H' ws rs := h.keep fun _ _ q => e _ _ q
theorem RAt.len {H : Hp} {ws : List V} {rs : List CR} (h : RAt H ws rs) : ws.length = rs.length := by
  induction h with
  | nil => rfl
  | cons _ _ ih => simp [ih]
theorem RAt.get {H : Hp} {ws : List V} {rs : List CR} (h : RAt H ws rs) : ∀ {i : Nat} {x : V}, ws[i]? = some x → ∃ t r, x = .ref t ∧ rs[i]? = some r ∧ H t = some (.tup (encCR r)) := by
  induction h with
  | nil => intro i x e; simp at e
  | @cons t r ws rs h _ ih =>
    intro i x e
    cases i with
    | zero => exact ⟨t, r, (Option.some.inj e).symm, rfl, h⟩
    | succ i =>
      obtain ⟨t', r', h1, h2, h3⟩ := ih (i := i) (by simpa using e)
      exact ⟨t', r', h1, by simpa using h2, h3⟩
theorem RAt.snoc {H : Hp} {ws : List V} {rs : List CR} {t : Addr} {r : CR} (h : RAt H ws rs) (ht : H t = some (.tup (encCR r))) : RAt H (ws ++ [.ref t]) (rs ++ [r]) := by
  induction h with
  | nil => exact .cons ht .nil
  | cons h _ ih => exact .cons h ih
/-- a course stands at p -/
def CourAt (K : PySem.W.Frag) (H : Hp) (p : Addr) (rs : List CR) (e : Int) : Prop := ∃ l ws, H p = some (.tup [.ref l, .int e]) ∧ SeqV K H l ws ∧ RAt H ws rs
theorem CourAt.keep {K : PySem.W.Frag} {H H' : Hp} {p : Addr} {rs : List CR} {e : Int} (h : CourAt K H p rs e) (s : Same H H') : CourAt K H' p rs e := by
  obtain ⟨l, ws, h1, h2, h3⟩ := h
  exact ⟨l, ws, s _ _ h1, h2.same s, h3.same s⟩
/-- the law's route -/
def RtAt (lg : Addr) (H : Hp) (p : Addr) (rs : List CR) (e : Int) : Prop := ∃ l ws, H p = some (.tup [.ref l, .int e]) ∧ H l = some (.lst ws) ∧ l ≠ lg ∧ RAt H ws rs
theorem RtAt.keep {lg : Addr} {H H' : Hp} {p : Addr} {rs : List CR} {e : Int} (h : RtAt lg H p rs e) (s : Same H H') : RtAt lg H' p rs e := by
  obtain ⟨l, ws, h1, h2, n, h3⟩ := h
  exact ⟨l, ws, s _ _ h1, s _ _ h2, n, h3.same s⟩
theorem RtAt.cour {K : PySem.W.Frag} {lg : Addr} {H : Hp} {p : Addr} {rs : List CR} {e : Int} (h : RtAt lg H p rs e) : CourAt K H p rs e := by
  obtain ⟨l, ws, h1, h2, n, h3⟩ := h
  exact ⟨l, ws, h1, .inl (SqL.of h2), h3⟩
/-! triples -/
inductive TAt (H : Hp) : List V → List Tri → Prop
  | nil : TAt H [] []
  | cons {t : Addr} {r : Tri} {ws : List V} {rs : List Tri} : H t = some (.tup [.int r.1, .int r.2.1, .int r.2.2]) → TAt H ws rs → TAt H (.ref t :: ws) (r :: rs)
theorem TAt.keep {H H' : Hp} {ws : List V} {rs : List Tri} (h : TAt H ws rs) (e : ∀ t xs, H t = some (.tup xs) → H' t = some (.tup xs)) : TAt H' ws rs := by
  induction h with
  | nil => exact .nil
  | cons h _ ih => exact .cons (e _ _ h) ih
theorem TAt.same {H H' : Hp} {ws : List V} {rs : List Tri} (h : TAt H ws rs) (e : Same H H') : TAt H' ws rs := h.keep fun _ _ q => e _ _ q
theorem TAt.len {H : Hp} {ws : List V} {rs : List Tri} (h : TAt H ws rs) : ws.length = rs.length := by
  induction h with
  | nil => rfl
  | cons _ _ ih => simp [ih]
theorem TAt.get {H : Hp} {ws : List V} {rs : List Tri} (h : TAt H ws rs) : ∀ {i : Nat} {x : V}, ws[i]? = some x → ∃ t r, x = .ref t ∧ rs[i]? = some r ∧ H t = some (.tup [.int r.1, .int r.2.1, .int r.2.2]) := by
  induction h with
  | nil => intro i x e; simp at e
  | @cons t r ws rs h _ ih =>
    intro i x e
    cases i with
    | zero => exact ⟨t, r, (Option.some.inj e).symm, rfl, h⟩
    | succ i =>
      obtain ⟨t', r', h1, h2, h3⟩ := ih (i := i) (by simpa using e)
      exact ⟨t', r', h1, by simpa using h2, h3⟩
theorem TAt.app {H : Hp} {ws us : List V} {rs ss : List Tri} (h : TAt H ws rs) (h2 : TAt H us ss) : TAt H (ws ++ us) (rs ++ ss) := by
  induction h with
  | nil => exact h2
  | cons h _ ih => exact .cons h ih
theorem TAt.zs {H : Hp} {ws : List V} {rs : List Tri} (h : TAt H ws rs) : ∃ zs : List (Addr × Tri), ws = zs.map (fun z => V.ref z.1) ∧ rs = zs.map (·.2) ∧ ∀ z ∈ zs, H z.1 = some (.tup [.int z.2.1, .int z.2.2.1, .int z.2.2.2]) := by
  induction h with
  | nil => exact ⟨[], rfl, rfl, fun z h => by cases h⟩
  | @cons t r ws rs h _ ih =>
    obtain ⟨zs, h1, h2, h3⟩ := ih
    refine ⟨(t, r) :: zs, by rw [h1]; rfl, by rw [h2]; rfl, fun z hz => ?_⟩
    rcases List.mem_cons.mp hz with rfl | hz
    · exact h
    · exact h3 z hz
theorem TAt.of {H : Hp} : ∀ (zs : List (Addr × Tri)), (∀ z ∈ zs, H z.1 = some (.tup [.int z.2.1, .int z.2.2.1, .int z.2.2.2])) → TAt H (zs.map fun z => V.ref z.1) (zs.map (·.2))
  | [], _ => .nil
  | z :: zs, h => .cons (h z (List.mem_cons_self ..)) (TAt.of zs fun y hy => h y (List.mem_cons_of_mem _ hy))
def enc3 (t : Tri) : PyData := .tuple [.int t.1, .int t.2.1, .int t.2.2]
theorem TAt.dp {K : PySem.W.Frag} {H : Hp} {ws : List V} {rs : List Tri} (h : TAt H ws rs) : DpAll K H ws (rs.map enc3) := by
  induction h with
  | nil => exact .nil
  | cons h _ ih => exact .cons (.tup (SqT.of h) (.cons (.int _) (.cons (.int _) (.cons (.int _) .nil)))) ih
def leT (p q : Tri) : Bool := decide (p.1 < q.1 ∨ (p.1 = q.1 ∧ (p.2.1 < q.2.1 ∨ (p.2.1 = q.2.1 ∧ p.2.2 ≤ q.2.2))))
theorem lt3 (x y z x' y' z' : Int) : PySem.W.dataLt (.tuple [.int x, .int y, .int z]) (.tuple [.int x', .int y', .int z']) = decide (x < x' ∨ (x = x' ∧ (y < y' ∨ (y = y' ∧ z < z')))) := by
  rw [PySem.W.dataLt_tuple, PySem.W.dataLt_cons (by simp [PySem.W.alike]), PySem.W.dataLt_cons (by simp [PySem.W.alike]), PySem.W.dataLt_cons (by simp [PySem.W.alike]), PySem.W.dataLt_int, PySem.W.dataLt_int, PySem.W.dataLt_int]
  have e : PyProof.Rows.lexLt PyProof.Rows.itemOrd (PySem.W.keyToksAll []) (PySem.W.keyToksAll []) = false := PyProof.Rows.lex_irrefl _
  rw [e]
  simp only [PyData.eqv, beq_iff_eq]
  by_cases h1 : x = x' <;> by_cases h2 : y = y' <;> by_cases h3 : z = z' <;> simp [h1, h2, h3]
theorem leT_eq : PySem.W.dataLe false enc3 = leT := by
  funext p q
  show (!PySem.W.dataLt (.tuple [.int q.1, .int q.2.1, .int q.2.2]) (.tuple [.int p.1, .int p.2.1, .int p.2.2])) = _
  rw [lt3]
  unfold leT
  by_cases h : q.1 < p.1 ∨ (q.1 = p.1 ∧ (q.2.1 < p.2.1 ∨ (q.2.1 = p.2.1 ∧ q.2.2 < p.2.2)))
  · rw [decide_eq_true h, decide_eq_false (by omega)]
    rfl
  · rw [decide_eq_false h, decide_eq_true (by omega)]
    rfl
theorem leT_trans (a b c : Tri) (h1 : leT a b = true) (h2 : leT b c = true) : leT a c = true := by
  have h1 := of_decide_eq_true h1
  have h2 := of_decide_eq_true h2
  exact decide_eq_true (by omega)
theorem leT_total (a b : Tri) : (leT a b || leT b a) = true := by
  by_cases h : leT a b = true
  · rw [h]; rfl
  · have h := of_decide_eq_false (Bool.eq_false_iff.mpr h)
    rw [show leT b a = true from decide_eq_true (by omega), Bool.or_true]
theorem leT_anti {a b : Tri} (h1 : leT a b = true) (h2 : leT b a = true) : a = b := by
  have h1 := of_decide_eq_true h1
  have h2 := of_decide_eq_true h2
  refine Prod.ext (by omega) (Prod.ext (by omega) (by omega))
theorem ltO_leT {a b : Op} (h : ltO a b) : leT a b = true := by
  unfold ltO at h
  exact decide_eq_true (by omega)
theorem tri_alike (ks : List Tri) : PySem.W.AllAlike (ks.map enc3) := PySem.W.AllAlike.of fun a b => by simp [enc3, PySem.W.alike, PySem.W.alikeAll]
theorem tri_sortable (ks : List Tri) : PySem.W.Sortable (ks.map enc3) := PySem.W.Sortable.tuples fun r => ⟨_, _, rfl⟩
theorem tri_depth (ks : List Tri) : ∀ d ∈ ks.map enc3, d.depth ≤ 20 := fun d hd => by
  obtain ⟨z, _, rfl⟩ := List.mem_map.mp hd
  simp [enc3, PyData.depth, PyData.depthAll]
section
variable {K : PySem.W.Frag} {H : Hp} {Q : VK} {p a : Addr} {ws : List V} {S : List Tri} {σ : L2.St} {g : TG} {tw : TS} {D : Ends} {xs : List V} {n : Nat} {i j : Int} {td ty : TE}
theorem r_sortO {S0 : List Op} (h : SeqV K H p ws) (hO : TAt H ws S) (pm : S.Perm S0) (asc : S0.Pairwise ltO) (hz : ws.length ≤ 1000000) (q : ∀ t ws' H', H t = none → Same H H' → H' t = some (.lst ws') → TAt H' ws' S0 → Q (.ref t) H') : rSortD K [.ref p] H Q := by
  obtain ⟨zs, rfl, rfl, hzs⟩ := hO.zs
  refine ⟨p, _, (zs.map (·.2)).map enc3, rfl, h, hO.dp, tri_alike _, tri_sortable _, hz, tri_depth _, fun t ht => ?_⟩
  have e : srtV (zs.map fun z => V.ref z.1) ((zs.map (·.2)).map enc3) = (zs.mergeSort fun a b => leT a.2 b.2).map fun z => V.ref z.1 := by
    rw [List.map_map, srt_map]
    congr 1
    have : PySem.W.dataLe false (enc3 ∘ fun z : Addr × Tri => z.2) = fun a b => leT a.2 b.2 := by
      funext x y
      exact congrFun (congrFun leT_eq x.2) y.2
    rw [this]
  rw [e]
  have pz := List.mergeSort_perm zs fun a b => leT a.2 b.2
  have e2 : (zs.mergeSort fun a b => leT a.2 b.2).map (·.2) = S0 := by
    refine List.Perm.eq_of_pairwise (le := fun a b => leT a b = true) (fun _ _ _ _ h1 h2 => leT_anti h1 h2) ?_ (asc.imp fun h => ltO_leT h) ((pz.map _).trans pm)
    rw [List.pairwise_map]
    exact List.pairwise_mergeSort (fun a b c => leT_trans a.2 b.2 c.2) (fun a b => leT_total a.2 b.2) zs
  refine q t _ _ ht (Same.new ht) upd_same ?_
  rw [← e2]
  exact TAt.of _ fun z hz => Same.new ht _ _ (hzs z (pz.mem_iff.mp hz))
/-! enumerate of a list or a tuple, while other things change -/
theorem r_forES2 {H0 : Hp} (hv : σ[n]? = some (some (.ref a))) (hl : SeqV K H0 a xs) (h00 : Same H0 H) (Pv : Nat → L2.St → Hp → Prop) (h0 : Pv 0 σ H) (hk : ∀ i σ' H', Pv i σ' H' → Same H0 H')
    (hs : ∀ i x T σ' H1 H', xs[i]? = some x → Pv i σ' H1 → H1 T = none → Same H1 H' → H' T = some (.tup [.int (i : Nat), x]) → g (.ref T) σ' H' fun σ2 H2 => tw { D with nx := Pv (i + 1), ct := Pv (i + 1), bk := D.nx } σ2 H2)
    (hd : ∀ σ' H', Pv xs.length σ' H' → D.nx σ' H') : tFor (iEither (iEnum K (tCons (tVar n) tNil)) (iEnumT K (tCons (tVar n) tNil))) g tw D σ H := by
  rcases hl with hl | hl
  · exact .inl (r_cons (r_var hv (r_nil (r_kForE Pv (SqL.same h00 hl) h0 (fun i σ' H' p => SqL.same (hk i σ' H' p) hl) hs hd))))
  · refine .inr (r_cons (r_var hv (r_nil ?_)))
    refine ⟨a, xs, rfl, SqT.same h00 hl, fun i m σ H => m = xs.length - i ∧ i ≤ xs.length ∧ Pv i σ H, ⟨xs.length, by simp, Nat.zero_le _, h0⟩, ?_⟩
    rintro i m σ H ⟨rfl, hi, p⟩
    have q := SqT.same (hk i σ H p) hl
    by_cases hlt : i < xs.length
    · refine .inr ⟨⟨xs, xs[i], q, by simp [hlt]⟩, Pv (i + 1), fun σ' H' p' => ⟨xs.length - (i + 1), by omega, rfl, hlt, p'⟩, fun x H' y => ?_⟩
      obtain ⟨T, z, rfl, nT, rfl, y⟩ := y
      exact hs i z T σ H _ (y xs q) p nT (Same.new nT) upd_same
    · have e : i = xs.length := by omega
      subst e
      exact .inl ⟨⟨xs, q, Nat.le_refl _⟩, hd σ H p⟩
/-! a key in a dict -/
def kDIn (Q : VK) (y : V) : VK := fun x H2 => ∃ a o, x = .ref a ∧ DGet H2 a y o ∧ Q (.bl o.isSome) H2
theorem r_din (q : ty σ H fun y H1 => td σ H1 (kDIn Q y)) : tDIn ty td σ H Q := q
theorem r_kDInS {kvs : List (Key × V)} {z : Str} {v : V} (h1 : H a = some (.dK kvs)) (h2 : valV kvs (Sum.inr z) = some v) (q : Q (.bl true) H) : kDIn Q (.str z) (.ref a) H :=
  ⟨a, some v, rfl, .inl ⟨kvs, Sum.inr z, .inl h1, rfl, h2.symm⟩, q⟩
theorem r_cont (q : D.ct σ H) : tCont D σ H := q
/-! a list some times -/
theorem r_rep {l : Addr} {k : Int} {xs : List V} (h : H l = some (.lst xs)) (h0 : 0 ≤ k) (h1 : k ≤ 1000) (hz : xs.length ≤ 1000) (q : ∀ p H', H p = none → Same H H' → H' p = some (.lst (List.replicate k.toNat xs).flatten) → Q (.ref p) H') : rRep (.ref l) (.int k) H Q := by
  refine ⟨l, k, xs, rfl, rfl, h, by omega, by omega, ?_, fun p hp => q p _ hp (Same.new hp) upd_same⟩
  refine sz5 (Nat.le_trans (Nat.mul_le_mul hz (show k.toNat ≤ 1000 by omega)) (by decide))
/-! repr of triples -/
theorem sm_tris : ∀ {ps : List Tri}, (∀ p ∈ ps, p.1.natAbs < 10 ^ 60 ∧ p.2.1.natAbs < 10 ^ 60 ∧ p.2.2.natAbs < 10 ^ 60) → smAll (ps.map enc3) = true ∧ wzAll (ps.map enc3) = 194 * ps.length
  | [], _ => ⟨rfl, by simp [wzAll]⟩
  | r :: rs, h => by
    obtain ⟨h1, h2⟩ := sm_tris fun r' hr' => h r' (List.mem_cons_of_mem _ hr')
    obtain ⟨a1, a2, a3⟩ := h r (List.mem_cons_self ..)
    constructor
    · rw [List.map_cons, smAll_cons, h1, Bool.and_true]
      simp only [enc3, smI, smAll_cons]
      rw [decide_eq_true a1, decide_eq_true a2, decide_eq_true a3]
      simp [smAll]
    · rw [List.map_cons, wzAll]
      simp only [enc3, wz, wzAll, List.length_cons]
      omega
theorem depth_tris : ∀ rs : List Tri, PyData.depthAll (rs.map enc3) ≤ 2
  | [] => by simp [PyData.depthAll]
  | r :: rs => by
    have := depth_tris rs
    simp only [List.map_cons, PyData.depthAll, enc3, PyData.depth]
    omega
theorem r_repr3 {ps : List Tri} (h : SqL K H p ws) (hr : TAt H ws ps) (ok : ∀ p ∈ ps, p.1.natAbs < 10 ^ 60 ∧ p.2.1.natAbs < 10 ^ 60 ∧ p.2.2.natAbs < 10 ^ 60) (hz : ps.length ≤ 50000) (q : Q (.str (PyData.list (ps.map enc3)).shown) H) : rRepr K [.ref p] H Q := by
  obtain ⟨h1, h2⟩ := sm_tris ok
  refine r_repr (d := .list (ps.map enc3)) (.lst h hr.dp) ?_ ?_ ?_ q
  · simpa [smI] using h1
  · have := depth_tris ps
    simp only [PyData.depth]
    omega
  · simp only [wz]
    omega
/-! repr of a route -/
def encCRow : CR → PyData
  | .buy d k c => .tuple [.str "buy", .int d, .str k, .int c]
  | .pay d c => .tuple [.str "pay", .int d, .int c]
theorem RAt.dp {ws : List V} {rs : List CR} (h : RAt H ws rs) : DpAll K H ws (rs.map encCRow) := by
  induction h with
  | nil => exact .nil
  | @cons t r ws rs h _ ih =>
    refine .cons ?_ ih
    cases r with
    | buy d k c => exact .tup (SqT.of h) (.cons (.str _) (.cons (.int _) (.cons (.str _) (.cons (.int _) .nil))))
    | pay d c => exact .tup (SqT.of h) (.cons (.str _) (.cons (.int _) (.cons (.int _) .nil)))
theorem sm_nameC {z : Str} (h : NameOk z) : smI (.str z) = true ∧ z.length ≤ 8 := by
  refine ⟨?_, h.hi⟩
  simp only [smI, List.all_eq_true]
  intro c hc
  have := h.low c hc
  exact decide_eq_true (Nat.lt_of_le_of_lt this.2 (by decide))
def RSm : CR → Prop
  | .buy d k c => d.natAbs < 10 ^ 60 ∧ NameOk k ∧ c.natAbs < 10 ^ 60
  | .pay d c => d.natAbs < 10 ^ 60 ∧ c.natAbs < 10 ^ 60
theorem sm_buy : smI (.str "buy") = true ∧ wz (.str "buy") = 38 := by decide +kernel
theorem sm_payw : smI (.str "pay") = true ∧ wz (.str "pay") = 38 := by decide +kernel
theorem sm_crow {r : CR} (h : RSm r) : smI (encCRow r) = true ∧ wz (encCRow r) ≤ 300 := by
  cases r with
  | buy d k c =>
    obtain ⟨h1, h2, h3⟩ := h
    obtain ⟨k1, k2⟩ := sm_nameC h2
    constructor
    · simp only [encCRow]
      rw [smI, smAll_cons, smAll_cons, smAll_cons, smAll_cons, sm_buy.1, k1]
      simp only [smI, smAll]
      rw [decide_eq_true h1, decide_eq_true h3]
      rfl
    · simp only [encCRow]
      rw [wz, wzAll, wzAll, wzAll, wzAll, wzAll, sm_buy.2]
      simp only [wz]
      have : k.length = k.cps.size := rfl
      omega
  | pay d c =>
    obtain ⟨h1, h3⟩ := h
    constructor
    · simp only [encCRow]
      rw [smI, smAll_cons, smAll_cons, smAll_cons, sm_payw.1]
      simp only [smI, smAll]
      rw [decide_eq_true h1, decide_eq_true h3]
      rfl
    · simp only [encCRow]
      rw [wz, wzAll, wzAll, wzAll, wzAll, sm_payw.2]
      simp only [wz]
      omega
theorem sm_crows : ∀ {rs : List CR}, (∀ r ∈ rs, RSm r) → smAll (rs.map encCRow) = true ∧ wzAll (rs.map encCRow) ≤ 302 * rs.length
  | [], _ => ⟨rfl, by simp [wzAll]⟩
  | r :: rs, h => by
    obtain ⟨h1, h2⟩ := sm_crows fun r' hr' => h r' (List.mem_cons_of_mem _ hr')
    obtain ⟨a1, a2⟩ := sm_crow (h r (List.mem_cons_self ..))
    constructor
    · rw [List.map_cons, smAll_cons, h1, a1]
      rfl
    · rw [List.map_cons, wzAll, List.length_cons]
      omega
theorem depth_crows : ∀ rs : List CR, PyData.depthAll (rs.map encCRow) ≤ 2
  | [] => by simp [PyData.depthAll]
  | r :: rs => by
    have := depth_crows rs
    cases r <;> simp only [List.map_cons, PyData.depthAll, encCRow, PyData.depth] <;> omega
def routeD (rs : List CR) (e : Int) : PyData := .tuple [.list (rs.map encCRow), .int e]
theorem r_reprRt {lg p : Addr} {rs : List CR} {e : Int} (h : RtAt lg H p rs e) (ok : ∀ r ∈ rs, RSm r) (he : e.natAbs < 10 ^ 60) (hz : rs.length ≤ 1000) (q : Q (.str (routeD rs e).shown) H) : rRepr K [.ref p] H Q := by
  obtain ⟨l, ws, h1, h2, _, h3⟩ := h
  obtain ⟨s1, s2⟩ := sm_crows ok
  have dd := depth_crows rs
  refine r_repr (d := routeD rs e) (.tup (SqT.of h1) (.cons (.lst (SqL.of h2) h3.dp) (.cons (.int _) .nil))) ?_ ?_ ?_ q
  · simp only [routeD, smI, smAll]
    rw [s1, decide_eq_true he]
    rfl
  · simp only [routeD, PyData.depth, PyData.depthAll]
    omega
  · simp only [routeD, wz, wzAll]
    omega
end
end Wp
set_option Elab.async false
set_option linter.all false
set_option maxRecDepth 100000
set_option maxHeartbeats 4000000
/-! More of the draws; the law's own promise. -/
namespace Wp
open PySem PySem.Spec PyProof.Rows L2
/-- ints within bounds -/
def IntsIn (lo hi : Int) : List V → Prop
  | [] => True
  | x :: xs => (∃ z, x = .int z ∧ lo ≤ z ∧ z ≤ hi) ∧ IntsIn lo hi xs
theorem IntsIn.get {lo hi : Int} : ∀ {xs : List V} {i : Nat} {x : V}, IntsIn lo hi xs → xs[i]? = some x → ∃ z, x = .int z ∧ lo ≤ z ∧ z ≤ hi
  | [], _, _, _, h => by simp at h
  | _ :: _, 0, _, a, h => by
    have e := Option.some.inj h
    subst e
    exact a.1
  | _ :: r, i + 1, x, a, h => IntsIn.get (xs := r) (i := i) a.2 h
def AnyI : List V → Prop
  | [] => True
  | x :: xs => (∃ z, x = .int z) ∧ AnyI xs
theorem AnyI.get : ∀ {xs : List V} {i : Nat} {x : V}, AnyI xs → xs[i]? = some x → ∃ z, x = .int z
  | [], _, _, _, h => by simp at h
  | _ :: _, 0, _, a, h => by
    have e := Option.some.inj h
    subst e
    exact a.1
  | _ :: r, i + 1, x, a, h => AnyI.get (xs := r) (i := i) a.2 h
section
variable {K : PySem.W.Frag} {st l c p : Addr} {cs : List Int} {B n : Int} {H H0 H' : Hp} {Q : VK} {E : XK} {xs : List V}
theorem DS.nl (D : DS st l c cs B H) (h : H p = none) : p ≠ l := by
  obtain ⟨zs, _, hl⟩ := D.lg
  exact (ne_of_none hl h).symm
theorem DS.nst (D : DS st l c cs B H) (h : H p = none) : p ≠ st := by
  obtain ⟨r, t, _, _, _, hd⟩ := D.d
  exact (ne_of_none hd h).symm
theorem u_take (D : DS st l c cs B H) (hB : B ≤ 35184372088832) (h1 : 0 < n) (h2 : n < 1073741824) (k : ∀ (i : Int) (H' : Hp), 0 ≤ i → i < n → DS st l c cs (B + 1) H' → Kp st l H H' → Q (.int i) H') : sp_take [.ref st, .int n] H Q E :=
  ⟨st, l, c, cs, B, n, rfl, h1, h2, hB, D, k⟩
theorem u_pick (D : DS st l c cs B H0) (hB : B ≤ 35184372088832) (np : H0 p = none) (e : Same H0 H) (hp : H p = some (.lst xs)) (hne : xs ≠ []) (hlen : xs.length < 1000000)
    (k : ∀ (i : Nat) (x : V) (H' : Hp), xs[i]? = some x → DS st l c cs (B + 1) H' → Kp st l H0 H' → Q x H') : sp_pick [.ref st, .ref p] H Q E :=
  ⟨st, l, c, p, cs, B, xs, rfl, hB, D.keep e, hp, hne, hlen, D.nl np, fun i x H' hx D' k' => k i x H' hx D' ((Kp.of e).trans k')⟩
theorem Kp.tup {ys : List V} (k : Kp st l H H') (D : DS st l c cs B H) (h : H p = some (.tup ys)) : H' p = some (.tup ys) := by
  obtain ⟨zs, _, hl⟩ := D.lg
  obtain ⟨r, t, _, _, _, hd⟩ := D.d
  exact k _ _ h (ne_of h hd (by intro z; cases z)) (ne_of h hl (by intro z; cases z))
end
def spLaw (K : PySem.W.Frag) : Sp := fun vs H Q _ => ∃ (a : Addr) (cs : List Int), vs = [.ref a] ∧ SqL K H a (cs.map V.int) ∧ cs.length ≤ 63 ∧ ∀ H', Q (.bl true) H'
theorem SqL.kp {K : PySem.W.Frag} {st l a : Addr} {H H1 H2 : Hp} {xs : List V} (h : SqL K H a xs) (e : Same H H1) (n1 : H st = none) (n2 : H l = none) (k : Kp st l H1 H2) : SqL K H2 a xs := by
  rcases h with (h | ⟨o, h⟩) | h
  · exact .inl (.inl (k _ _ (e _ _ h) (ne_of_none h n1) (ne_of_none h n2)))
  · exact .inl (.inr ⟨o, k _ _ (e _ _ h) (ne_of_none h n1) (ne_of_none h n2)⟩)
  · exact .inr h
section
variable {st l c p : Addr} {cs : List Int} {B : Int} {H H0 H' : Hp}
theorem DS.nc (D : DS st l c cs B H) (h : H p = none) : p ≠ c := (ne_of_none D.cl h).symm
theorem DS.but {B' : Int} (D : DS st l c cs B H) (D0 : DS st l c cs B' H0) (n : H0 p = none) (b : But p H H') : DS st l c cs B H' := by
  obtain ⟨⟨r, t, hr, h0, h1, h⟩, ⟨zs, hz, h2⟩, h3, n1⟩ := D
  exact ⟨⟨r, t, hr, h0, h1, b _ _ h (D0.nst n).symm⟩, ⟨zs, hz, b _ _ h2 (D0.nl n).symm⟩, b _ _ h3 (D0.nc n).symm, n1⟩
/-- after a draw and a change of what was new -/
theorem Kp.mut {H1 H2 : Hp} (k : Kp st l H H1) (b : But p H1 H2) (n : H p = none) : Kp st l H H2 := fun x o h n1 n2 => b x o (k x o h n1 n2) (ne_of_none h n)
end
end Wp
set_option Elab.async false
set_option linter.all false
set_option maxRecDepth 100000
set_option maxHeartbeats 4000000
namespace Wp
open PySem PySem.Spec PyProof.Rows L2
local macro_rules | `(tactic| walk_at "val") => `(tactic| assumption)
local macro_rules | `(tactic| walk_at "rd1") => `(tactic| first
  | with_reducible refine r_seq ?_ | with_reducible refine r_next ?_ | with_reducible refine r_if ?_ | with_reducible refine r_asg ?_ | with_reducible refine r_gname ?_
  | with_reducible refine r_ret ?_ | with_reducible refine r_retN ?_ | with_reducible refine r_drop ?_ | with_reducible refine r_par ?_ | with_reducible refine r_kPar ?_
  | ((with_reducible refine' r_var ?hv ?_); (case hv => exact rfl)) | with_reducible refine r_c ?_ | with_reducible refine r_nil ?_ | with_reducible refine r_cons ?_
  | with_reducible refine r_fn ?_ | with_reducible refine r_cb ?_ | with_reducible refine r_op ?_ | with_reducible refine r_un ?_ | with_reducible refine r_I0 ?_
  | with_reducible refine r_pow5 ?_ | with_reducible refine r_pow6 ?_ | with_reducible refine r_pow7 ?_ | with_reducible refine r_pow9 ?_ | with_reducible refine r_pow18 ?_ | with_reducible refine r_pow20 ?_ | with_reducible refine r_pow30 ?_
  | with_reducible refine r_isN_non ?_ | with_reducible refine r_isN_ref ?_ | with_reducible refine r_isN_int ?_ | with_reducible refine r_isN_str ?_ | with_reducible refine r_isN_bl ?_ | with_reducible refine r_notN_non ?_ | with_reducible refine r_notN_ref ?_ | with_reducible refine r_notN_int ?_ | with_reducible refine r_notN_str ?_ | with_reducible refine r_notN_bl ?_
  | ((with_reducible refine r_I ?hc ?_); (case hc => walk_at "side")) | with_reducible refine r_U ?_
  | with_reducible refine r_eqI ?_ | with_reducible refine r_neI ?_ | with_reducible refine r_eqS ?_ | with_reducible refine r_neS ?_ | with_reducible refine r_eqB ?_ | with_reducible refine r_neB ?_
  | with_reducible refine r_chain ?_ | with_reducible refine r_test ?_ | with_reducible refine r_tB ?_ | with_reducible refine r_kTest ?_ | with_reducible refine r_not ?_
  | with_reducible refine r_and ?_ | with_reducible refine r_or ?_ | with_reducible refine r_tif ?_ | with_reducible refine r_andV ?_ | with_reducible refine r_orV ?_ | with_reducible refine r_notV ?_
  | with_reducible refine r_kAndV ?_ | with_reducible refine r_kOrV ?_ | with_reducible refine r_kNotV ?_
  | with_reducible refine w_T ?_ | with_reducible refine w_F ?_ | with_reducible refine w_NT ?_ | with_reducible refine w_NF ?_
  | with_reducible refine r_tup ?_ | with_reducible refine r_lst ?_ | with_reducible refine r_fld ?_ | with_reducible refine r_prop ?_ | ((with_reducible refine' r_aug ?h1 ?_); (case h1 => exact rfl)) | with_reducible refine r_ipI ?_ | with_reducible refine r_dget ?_ | with_reducible refine r_dput ?_ | with_reducible refine r_bm ?_
  | ((with_reducible refine' r_kDGetS ?h1 ?h2 ?_); (case h1 => assumption); (case h2 => walk_at "val"))
  | ((with_reducible refine' r_kBML ?h1 ?_); (case h1 => assumption))
  | with_reducible refine r_forL ?_ | with_reducible refine r_forR1 ?_ | with_reducible refine r_forR2 ?_ | with_reducible refine r_forT ?_ | with_reducible refine r_lcL ?_ | with_reducible refine r_lcR1 ?_
  | ((with_reducible refine r_kLcG ?hw ?_); (case hw => exact rfl)) | with_reducible refine r_kLcT ?_ | with_reducible refine r_yes ?_
  | with_reducible refine r_pnil ?_ | with_reducible refine r_pcons ?_
  | with_reducible refine r_fnK ?_ | ((with_reducible refine r_kFnK ?hl ?_); (case hl => exact rfl))
  | with_reducible refine r_isi_ii ?_ | with_reducible refine r_isi_ib ?_ | with_reducible refine r_isi_bi ?_ | with_reducible refine r_isi_bb ?_ | with_reducible refine r_isi_ss ?_ | with_reducible refine r_isi_is ?_ | with_reducible refine r_isi_it ?_
  | ((with_reducible refine' r_isi_tt ?h1 ?_); (case h1 => assumption))
  | with_reducible refine r_sfld ?_ | with_reducible refine r_gnil ?_ | with_reducible refine r_gcons ?_
  | ((with_reducible refine' r_gtup ?h1 ?h2 ?_); (case h1 => exact SqT.of (by assumption)); (case h2 => exact rfl))
  | with_reducible refine r_sl ?_ | with_reducible refine r_noPart ?_ | with_reducible refine r_part ?_ | with_reducible refine r_kPart ?_ | with_reducible refine r_m1 ?_ | with_reducible refine r_kM1 ?_ | with_reducible refine r_forS ?_ | with_reducible refine r_lcS ?_ | with_reducible refine r_lcTu ?_ | with_reducible refine r_lcK ?_ | with_reducible refine r_dcL ?_ | with_reducible refine r_dcK ?_ | with_reducible refine r_lc2L ?_ | with_reducible refine r_kLc2TL ?_ | with_reducible refine r_dcEn ?_ | with_reducible refine r_gslc ?_ | with_reducible refine r_lcEn ?_ | with_reducible refine r_lcZip ?_ | with_reducible refine r_lcEl ?_ | with_reducible refine r_lcR2 ?_ | with_reducible refine r_rg1 ?_ | with_reducible refine r_rg2 ?_ | with_reducible refine r_forET ?_ | with_reducible refine r_lenD ?_
  | ((with_reducible refine r_kDcG ?hw ?_); (case hw => exact rfl)) | with_reducible refine r_kDcT ?_
  | with_reducible refine r_fldaug ?_ | with_reducible refine r_daug ?_ | with_reducible refine r_rAdd ?_ | with_reducible refine r_rSub ?_ | with_reducible refine r_ddel ?_ | with_reducible refine r_bmF ?_ | with_reducible refine r_dget2 ?_ | with_reducible refine r_listItems ?_ | with_reducible refine r_bm0 ?_ | with_reducible refine r_lc2E ?_ | ((with_reducible refine r_kLc2G ?hw ?_); (case hw => exact rfl)) | with_reducible refine r_kLc2T ?_ | with_reducible refine r_forE ?_ | with_reducible refine r_orT ?_ | with_reducible refine r_din ?_ | with_reducible refine r_augS ?_ | with_reducible refine r_dnotin ?_ | with_reducible refine r_lcIT ?_ | with_reducible refine r_cont ?_ | with_reducible refine r_meth ?_ | with_reducible refine r_frz ?_ | with_reducible refine r_par3 ?_ | with_reducible refine r_kPar3 ?_ | with_reducible refine r_dz ?_ | with_reducible refine r_revL ?_ | with_reducible refine r_revT ?_ | with_reducible refine r_star ?_ | with_reducible refine r_int1 ?_ | with_reducible refine r_int1b ?_ | with_reducible refine r_min2 ?_ | with_reducible refine r_max2 ?_ | with_reducible refine r_gsub ?_ | with_reducible refine r_err ?_ | with_reducible refine r_errT ?_ | with_reducible refine r_xv ?_)
local macro_rules | `(tactic| walk_at "rd") => `(tactic| repeat walk_at "rd1")
local macro_rules | `(tactic| walk_at "side") => `(tactic| first | assumption | exact Or.inr ⟨by decide, by decide⟩ | exact Or.inl ⟨by decide, by decide⟩ | (constructor <;> omega) | omega | decide | (refine Or.inl ⟨?_, ?_⟩ <;> omega) | (refine Or.inr ⟨?_, ?_⟩ <;> omega) | (refine ⟨?_, ?_, ?_⟩ <;> first | decide | omega))
theorem r_popAtN {l : Addr} {xs : List V} {n : Nat} {z : V} {i : Int} {H : Hp} {Q : VK} (h : H l = some (.lst xs)) (hi : i = (n : Int)) (hn : xs[n]? = some z) (hz : xs.length ≤ 1000000) (k : ∀ H', But l H H' → H' l = some (.lst (xs.eraseIdx n)) → Q z H') : rPopAt (.ref l) [.int i] H Q := by
  subst hi
  have hl := (List.getElem?_eq_some_iff.mp hn).1
  refine ⟨l, xs, (n : Int), n, z, rfl, rfl, h, by omega, by omega, ?_, hn, k _ But.upd upd_same⟩
  simp [seqIndex?]
  omega
theorem pop_perm {α : Type} : ∀ {xs : List α} {n : Nat} (h : n < xs.length), ([xs[n]] ++ xs.eraseIdx n).Perm xs
  | x :: xs, 0, _ => List.Perm.refl _
  | x :: xs, n + 1, h => by
    have hn : n < xs.length := by simpa using h
    have ih := pop_perm (xs := xs) (n := n) hn
    show (xs[n] :: x :: xs.eraseIdx n).Perm (x :: xs)
    exact (List.Perm.swap _ _ _).trans (List.Perm.cons x ih)
/-- some of them, drawn one by one -/
def sp_some : Sp := fun vs H Q _ => ∃ (st l c p : Addr) (cs : List Int) (B n : Int) (xs : List V), vs = [.ref st, .ref p, .int n] ∧ B ≤ 17592186044416 ∧ DS st l c cs B H ∧ H p = some (.lst xs) ∧ xs.length ≤ 100 ∧ 0 ≤ n ∧ n ≤ 100 ∧
  ∀ (t : Addr) (ys rest : List V) (H' : Hp), H t = none → (ys ++ rest).Perm xs → (ys.length : Int) = min (xs.length : Int) n → H' t = some (.lst ys) → DS st l c cs (B + 100) H' → Kp st l H H' → Q (.ref t) H'
section
variable {P : Program} {w : World} {K : PySem.W.Frag} {mg : Str → Option Value} {base : Heap}
end
end Wp
set_option Elab.async false
set_option linter.all false
set_option maxRecDepth 100000
set_option maxHeartbeats 4000000
namespace Wp
open PySem PySem.Spec PyProof.Rows L2
local macro_rules | `(tactic| walk_at "val") => `(tactic| assumption)
local macro_rules | `(tactic| walk_at "rd1") => `(tactic| first
  | with_reducible refine r_seq ?_ | with_reducible refine r_next ?_ | with_reducible refine r_if ?_ | with_reducible refine r_asg ?_ | with_reducible refine r_gname ?_
  | with_reducible refine r_ret ?_ | with_reducible refine r_retN ?_ | with_reducible refine r_drop ?_ | with_reducible refine r_par ?_ | with_reducible refine r_kPar ?_
  | ((with_reducible refine' r_var ?hv ?_); (case hv => exact rfl)) | with_reducible refine r_c ?_ | with_reducible refine r_nil ?_ | with_reducible refine r_cons ?_
  | with_reducible refine r_fn ?_ | with_reducible refine r_cb ?_ | with_reducible refine r_op ?_ | with_reducible refine r_un ?_ | with_reducible refine r_I0 ?_
  | with_reducible refine r_pow5 ?_ | with_reducible refine r_pow6 ?_ | with_reducible refine r_pow7 ?_ | with_reducible refine r_pow9 ?_ | with_reducible refine r_pow18 ?_ | with_reducible refine r_pow20 ?_ | with_reducible refine r_pow30 ?_
  | with_reducible refine r_isN_non ?_ | with_reducible refine r_isN_ref ?_ | with_reducible refine r_isN_int ?_ | with_reducible refine r_isN_str ?_ | with_reducible refine r_isN_bl ?_ | with_reducible refine r_notN_non ?_ | with_reducible refine r_notN_ref ?_ | with_reducible refine r_notN_int ?_ | with_reducible refine r_notN_str ?_ | with_reducible refine r_notN_bl ?_
  | ((with_reducible refine r_I ?hc ?_); (case hc => walk_at "side")) | with_reducible refine r_U ?_
  | with_reducible refine r_eqI ?_ | with_reducible refine r_neI ?_ | with_reducible refine r_eqS ?_ | with_reducible refine r_neS ?_ | with_reducible refine r_eqB ?_ | with_reducible refine r_neB ?_
  | with_reducible refine r_chain ?_ | with_reducible refine r_test ?_ | with_reducible refine r_tB ?_ | with_reducible refine r_kTest ?_ | with_reducible refine r_not ?_
  | with_reducible refine r_and ?_ | with_reducible refine r_or ?_ | with_reducible refine r_tif ?_ | with_reducible refine r_andV ?_ | with_reducible refine r_orV ?_ | with_reducible refine r_notV ?_
  | with_reducible refine r_kAndV ?_ | with_reducible refine r_kOrV ?_ | with_reducible refine r_kNotV ?_
  | with_reducible refine w_T ?_ | with_reducible refine w_F ?_ | with_reducible refine w_NT ?_ | with_reducible refine w_NF ?_
  | with_reducible refine r_tup ?_ | with_reducible refine r_lst ?_ | with_reducible refine r_fld ?_ | with_reducible refine r_prop ?_ | ((with_reducible refine' r_aug ?h1 ?_); (case h1 => exact rfl)) | with_reducible refine r_ipI ?_ | with_reducible refine r_dget ?_ | with_reducible refine r_dput ?_ | with_reducible refine r_bm ?_
  | ((with_reducible refine' r_kDGetS ?h1 ?h2 ?_); (case h1 => assumption); (case h2 => walk_at "val"))
  | ((with_reducible refine' r_kBML ?h1 ?_); (case h1 => assumption))
  | with_reducible refine r_forL ?_ | with_reducible refine r_forR1 ?_ | with_reducible refine r_forR2 ?_ | with_reducible refine r_forT ?_ | with_reducible refine r_lcL ?_ | with_reducible refine r_lcR1 ?_
  | ((with_reducible refine r_kLcG ?hw ?_); (case hw => exact rfl)) | with_reducible refine r_kLcT ?_ | with_reducible refine r_yes ?_
  | with_reducible refine r_pnil ?_ | with_reducible refine r_pcons ?_
  | with_reducible refine r_fnK ?_ | ((with_reducible refine r_kFnK ?hl ?_); (case hl => exact rfl))
  | with_reducible refine r_isi_ii ?_ | with_reducible refine r_isi_ib ?_ | with_reducible refine r_isi_bi ?_ | with_reducible refine r_isi_bb ?_ | with_reducible refine r_isi_ss ?_ | with_reducible refine r_isi_is ?_ | with_reducible refine r_isi_it ?_
  | ((with_reducible refine' r_isi_tt ?h1 ?_); (case h1 => assumption))
  | with_reducible refine r_sfld ?_ | with_reducible refine r_gnil ?_ | with_reducible refine r_gcons ?_
  | ((with_reducible refine' r_gtup ?h1 ?h2 ?_); (case h1 => exact SqT.of (by assumption)); (case h2 => exact rfl))
  | with_reducible refine r_sl ?_ | with_reducible refine r_noPart ?_ | with_reducible refine r_part ?_ | with_reducible refine r_kPart ?_ | with_reducible refine r_m1 ?_ | with_reducible refine r_kM1 ?_ | with_reducible refine r_forS ?_ | with_reducible refine r_lcS ?_ | with_reducible refine r_lcTu ?_ | with_reducible refine r_lcK ?_ | with_reducible refine r_dcL ?_ | with_reducible refine r_dcK ?_ | with_reducible refine r_lc2L ?_ | with_reducible refine r_kLc2TL ?_ | with_reducible refine r_dcEn ?_ | with_reducible refine r_gslc ?_ | with_reducible refine r_lcEn ?_ | with_reducible refine r_lcZip ?_ | with_reducible refine r_lcEl ?_ | with_reducible refine r_lcR2 ?_ | with_reducible refine r_rg1 ?_ | with_reducible refine r_rg2 ?_ | with_reducible refine r_forET ?_ | with_reducible refine r_lenD ?_
  | ((with_reducible refine r_kDcG ?hw ?_); (case hw => exact rfl)) | with_reducible refine r_kDcT ?_
  | with_reducible refine r_fldaug ?_ | with_reducible refine r_daug ?_ | with_reducible refine r_rAdd ?_ | with_reducible refine r_rSub ?_ | with_reducible refine r_ddel ?_ | with_reducible refine r_bmF ?_ | with_reducible refine r_dget2 ?_ | with_reducible refine r_listItems ?_ | with_reducible refine r_bm0 ?_ | with_reducible refine r_lc2E ?_ | ((with_reducible refine r_kLc2G ?hw ?_); (case hw => exact rfl)) | with_reducible refine r_kLc2T ?_ | with_reducible refine r_forE ?_ | with_reducible refine r_orT ?_ | with_reducible refine r_din ?_ | with_reducible refine r_augS ?_ | with_reducible refine r_dnotin ?_ | with_reducible refine r_lcIT ?_ | with_reducible refine r_cont ?_ | with_reducible refine r_meth ?_ | with_reducible refine r_frz ?_ | with_reducible refine r_par3 ?_ | with_reducible refine r_kPar3 ?_ | with_reducible refine r_dz ?_ | with_reducible refine r_revL ?_ | with_reducible refine r_revT ?_ | with_reducible refine r_star ?_ | with_reducible refine r_int1 ?_ | with_reducible refine r_int1b ?_ | with_reducible refine r_min2 ?_ | with_reducible refine r_max2 ?_ | with_reducible refine r_gsub ?_ | with_reducible refine r_err ?_ | with_reducible refine r_errT ?_ | with_reducible refine r_xv ?_)
local macro_rules | `(tactic| walk_at "rd") => `(tactic| repeat walk_at "rd1")
local macro_rules | `(tactic| walk_at "side") => `(tactic| first | assumption | exact Or.inr ⟨by decide, by decide⟩ | exact Or.inl ⟨by decide, by decide⟩ | (constructor <;> omega) | omega | decide | (refine Or.inl ⟨?_, ?_⟩ <;> omega) | (refine Or.inr ⟨?_, ?_⟩ <;> omega) | (refine ⟨?_, ?_, ?_⟩ <;> first | decide | omega))
section
variable {X : Cx} {K : PySem.W.Frag} {H : Hp} {Q : VK} {p : Addr} {z : Str}
def rJoin (K : PySem.W.Frag) : V → List V → Hp → VK → Prop := fun x xs H Q => ∃ a p, ∃ ys : List Str, x = .str a ∧ xs = [.ref p] ∧ (SqL K H p (ys.map V.str) ∨ SqT K H p (ys.map V.str)) ∧ (ys.map (·.length)).sum + ys.length * a.length ≤ 16777216 ∧ Q (.str (Txt.join a ys)) H
theorem pe_joinK {o e : Expr} {to te : TE} {apos pos : Pos} (h : X.K = K) (ho : PE X o to) (he : PE X e te) (hs : starEach [e] X.env = [(false, eval e X.env)] := by rfl) (hbase : attributeBase o "join" X.env (eval o X.env) = eval o X.env := by rfl)
    (hline : (apos.endLine == pos.line) = true := by rfl) : PE X (.Call (.Attribute o "join" apos) [e] [] pos) (tM1 (rJoin K) to te) := by
  subst h
  exact pe_join ho he hs hbase hline
theorem r_joinL {ys : List Str} (h : SqL K H p (ys.map V.str)) (hz : (ys.map (·.length)).sum + ys.length * z.length ≤ 16777216) (q : Q (.str (Txt.join z ys)) H) : rJoin K (.str z) [.ref p] H Q := ⟨z, p, ys, rfl, rfl, .inl h, hz, q⟩
theorem r_addS {a b : Str} (h : a.length + b.length ≤ 1000000) (q : Q (.str (a ++ b)) H) : ∃ i j, V.str a = .str i ∧ V.str b = .str j ∧ i.length + j.length ≤ sizeLine ∧ Q (.str (i ++ j)) H := ⟨a, b, rfl, rfl, sz5 h, q⟩
theorem r_split {a b : Str} (h1 : (b.length == 0) = false) (h2 : a.length + 2 ≤ 1000000) (q : ∀ p H', H p = none → Same H H' → H' p = some (.lst ((Txt.split a b).map V.str)) → Q (.ref p) H') :
    ∃ a' b', V.str a = .str a' ∧ [V.str b] = [.str b'] ∧ (b'.length == 0) = false ∧ a'.length + 2 ≤ sizeLine ∧ rNewStrs (Txt.split a' b') H Q := ⟨a, b, rfl, rfl, h1, sz5 h2, fun p hp => q p _ hp (Same.new hp) upd_same⟩
end
def sp_pickS : Sp := fun vs H Q _ => ∃ (st l c : Addr) (cs : List Int) (B : Int) (z : Str), vs = [.ref st, .str z] ∧ B ≤ 35184372088832 ∧ DS st l c cs B H ∧ 0 < z.length ∧ z.length < 1000 ∧
  ∀ (i : Nat) (d : Nat) (H' : Hp), z.cps.toList[i]? = some d → DS st l c cs (B + 1) H' → Kp st l H H' → Q (.str ⟨#[d]⟩) H'
def sp_names : Sp := fun vs H Q _ => ∃ (st l c : Addr) (cs : List Int) (B n : Int), vs = [.ref st, .int n] ∧ B ≤ 17592186044416 ∧ DS st l c cs B H ∧ 0 ≤ n ∧ n ≤ 20 ∧
  ∀ (t : Addr) (xs : List Str) (H' : Hp), H t = none → (xs.length : Int) = n → NamesOk xs → H' t = some (.lst (xs.map V.str)) → DS st l c cs (B + 11 * n) H' → Kp st l H H' → Q (.ref t) H'
section
variable {P : Program} {w : World} {K : PySem.W.Frag} {mg : Str → Option Value} {base : Heap}
theorem ok__law_pickS {f : Addr} {fd : FuncData} (T : Tx K mg) (F : FnP K "_law_pick" s__law_pick f fd) (d__law_take : Dn P w K mg base CX0 2 "_law_take" ["_law_state", "_law_size"] sp_take) :
    FnOk P w K mg base CX0 3 f fd ["_law_state", "_law_some"] sp_pickS := by
  have sc : FnScope ["_law_state", "_law_some"] ["_law_state", "_law_some"] (defScope s__law_pick) := ⟨rfl, rfl, rfl, by decide +kernel, rfl, by decide +kernel, by decide +kernel⟩
  refine F.ok sc (by rintro vs H Q E ⟨_, _, _, _, _, _, rfl, _⟩; rfl) (fun cdv A outer s H vs Q E hr h => ⟨_, PSs.nox ((pss_one (ps_ret (pe_ix ix_str (pv 1) (pe_fn d__law_take (hr.mono (by decide)) pass0 (pa_cons (pv 0) (pa_cons (pe_callB (c_lenK (K := K) rfl) (by rfl) T.b_len (by decide +kernel) (pa_cons (pv 1) pa_nil)) pa_nil))) (fun _ _ => rfl))))), ?_⟩)
  obtain ⟨st, l, c, cs, B, z, rfl, hB, D, h0, h1, k⟩ := h
  walk_at "rd"
  refine r_lenS (by omega) ?_
  walk_at "rd"
  refine ⟨st, l, c, cs, B, (z.length : Int), rfl, by omega, by omega, hB, D, fun i H' i0 i1 D' k' => ?_⟩
  have hl : z.length = z.cps.toList.length := by simp [Str.length]
  obtain ⟨j, rfl⟩ := Int.eq_ofNat_of_zero_le i0
  have hj : j < z.cps.toList.length := by omega
  have e : z.cps.toList[j]? = some z.cps.toList[j] := List.getElem?_eq_getElem hj
  exact r_ixS (by omega) (atI_nat e) (k j _ H' e D' k')
end
end Wp
set_option Elab.async false
set_option linter.all false
set_option maxRecDepth 100000
set_option maxHeartbeats 4000000
/-! The law's own model of a book: a dict. -/
namespace Wp
open PySem PySem.Spec PyProof.Rows L2
def mk4 (a k d m : V) : List (Key × V) := [(Sum.inr ("lengths" : Str), a), (Sum.inr ("kinds" : Str), k), (Sum.inr ("laid" : Str), d), (Sum.inr ("memory" : Str), m)]
def mk5 (a k d m u : V) : List (Key × V) := mk4 a k d m ++ [(Sum.inr ("due" : Str), u)]
def mkv (a k d m u b : V) : List (Key × V) := [(Sum.inr ("lengths" : Str), a), (Sum.inr ("kinds" : Str), k), (Sum.inr ("laid" : Str), d), (Sum.inr ("memory" : Str), m), (Sum.inr ("due" : Str), u), (Sum.inr ("begins" : Str), b)]
section
variable {a k d m u b x : V}
theorem mk4_nd : ((mk4 a k d m).map (·.1)).Nodup := (by decide +kernel : ([Sum.inr ("lengths" : Str), Sum.inr ("kinds" : Str), Sum.inr ("laid" : Str), Sum.inr ("memory" : Str)] : List Key).Nodup)
theorem mp5 : putK (mk4 a k d m) (Sum.inr ("due" : Str)) u = mk5 a k d m u := by
  refine putK_new _ ?_
  unfold mk4
  rw [valV_neg (kne (by decide +kernel)), valV_neg (kne (by decide +kernel)), valV_neg (kne (by decide +kernel)), valV_neg (kne (by decide +kernel))]
  rfl
theorem mp6 : putK (mk5 a k d m u) (Sum.inr ("begins" : Str)) b = mkv a k d m u b := by
  refine putK_new _ ?_
  show valV [(Sum.inr ("lengths" : Str), a), (Sum.inr ("kinds" : Str), k), (Sum.inr ("laid" : Str), d), (Sum.inr ("memory" : Str), m), (Sum.inr ("due" : Str), u)] _ = none
  rw [valV_neg (kne (by decide +kernel)), valV_neg (kne (by decide +kernel)), valV_neg (kne (by decide +kernel)), valV_neg (kne (by decide +kernel)), valV_neg (kne (by decide +kernel))]
  rfl
theorem mv1 : valV (mkv a k d m u b) (Sum.inr ("lengths" : Str)) = some a := by
  unfold mkv
  rw [valV_pos rfl]
theorem mv2 : valV (mkv a k d m u b) (Sum.inr ("kinds" : Str)) = some k := by
  unfold mkv
  rw [valV_neg (kne (by decide +kernel)), valV_pos rfl]
theorem mv3 : valV (mkv a k d m u b) (Sum.inr ("laid" : Str)) = some d := by
  unfold mkv
  rw [valV_neg (kne (by decide +kernel)), valV_neg (kne (by decide +kernel)), valV_pos rfl]
theorem mv4 : valV (mkv a k d m u b) (Sum.inr ("memory" : Str)) = some m := by
  unfold mkv
  rw [valV_neg (kne (by decide +kernel)), valV_neg (kne (by decide +kernel)), valV_neg (kne (by decide +kernel)), valV_pos rfl]
theorem mv5 : valV (mkv a k d m u b) (Sum.inr ("due" : Str)) = some u := by
  unfold mkv
  rw [valV_neg (kne (by decide +kernel)), valV_neg (kne (by decide +kernel)), valV_neg (kne (by decide +kernel)), valV_neg (kne (by decide +kernel)), valV_pos rfl]
theorem mv6 : valV (mkv a k d m u b) (Sum.inr ("begins" : Str)) = some b := by
  unfold mkv
  rw [valV_neg (kne (by decide +kernel)), valV_neg (kne (by decide +kernel)), valV_neg (kne (by decide +kernel)), valV_neg (kne (by decide +kernel)), valV_neg (kne (by decide +kernel)), valV_pos rfl]
theorem mput {q : Key} (h : (valV (mkv a k d m u b) q).isSome = true) : putK (mkv a k d m u b) q x = (mkv a k d m u b).map (fun kv => if kv.1 = q then (kv.1, x) else kv) := by
  unfold putK
  rw [if_pos (by rw [valV_any]; exact h)]
theorem mq1 : putK (mkv a k d m u b) (Sum.inr ("lengths" : Str)) x = mkv x k d m u b := by
  rw [mput (by rw [mv1]; rfl)]
  simp only [mkv, List.map_cons, List.map_nil, if_pos trivial, if_neg (kne (x := "kinds") (y := "lengths") (by decide +kernel)), if_neg (kne (x := "laid") (y := "lengths") (by decide +kernel)), if_neg (kne (x := "memory") (y := "lengths") (by decide +kernel)), if_neg (kne (x := "due") (y := "lengths") (by decide +kernel)), if_neg (kne (x := "begins") (y := "lengths") (by decide +kernel))]
theorem mq2 : putK (mkv a k d m u b) (Sum.inr ("kinds" : Str)) x = mkv a x d m u b := by
  rw [mput (by rw [mv2]; rfl)]
  simp only [mkv, List.map_cons, List.map_nil, if_pos trivial, if_neg (kne (x := "lengths") (y := "kinds") (by decide +kernel)), if_neg (kne (x := "laid") (y := "kinds") (by decide +kernel)), if_neg (kne (x := "memory") (y := "kinds") (by decide +kernel)), if_neg (kne (x := "due") (y := "kinds") (by decide +kernel)), if_neg (kne (x := "begins") (y := "kinds") (by decide +kernel))]
theorem mq3 : putK (mkv a k d m u b) (Sum.inr ("laid" : Str)) x = mkv a k x m u b := by
  rw [mput (by rw [mv3]; rfl)]
  simp only [mkv, List.map_cons, List.map_nil, if_pos trivial, if_neg (kne (x := "lengths") (y := "laid") (by decide +kernel)), if_neg (kne (x := "kinds") (y := "laid") (by decide +kernel)), if_neg (kne (x := "memory") (y := "laid") (by decide +kernel)), if_neg (kne (x := "due") (y := "laid") (by decide +kernel)), if_neg (kne (x := "begins") (y := "laid") (by decide +kernel))]
theorem mq4 : putK (mkv a k d m u b) (Sum.inr ("memory" : Str)) x = mkv a k d x u b := by
  rw [mput (by rw [mv4]; rfl)]
  simp only [mkv, List.map_cons, List.map_nil, if_pos trivial, if_neg (kne (x := "lengths") (y := "memory") (by decide +kernel)), if_neg (kne (x := "kinds") (y := "memory") (by decide +kernel)), if_neg (kne (x := "laid") (y := "memory") (by decide +kernel)), if_neg (kne (x := "due") (y := "memory") (by decide +kernel)), if_neg (kne (x := "begins") (y := "memory") (by decide +kernel))]
theorem mq5 : putK (mkv a k d m u b) (Sum.inr ("due" : Str)) x = mkv a k d m x b := by
  rw [mput (by rw [mv5]; rfl)]
  simp only [mkv, List.map_cons, List.map_nil, if_pos trivial, if_neg (kne (x := "lengths") (y := "due") (by decide +kernel)), if_neg (kne (x := "kinds") (y := "due") (by decide +kernel)), if_neg (kne (x := "laid") (y := "due") (by decide +kernel)), if_neg (kne (x := "memory") (y := "due") (by decide +kernel)), if_neg (kne (x := "begins") (y := "due") (by decide +kernel))]
theorem mq6 : putK (mkv a k d m u b) (Sum.inr ("begins" : Str)) x = mkv a k d m u x := by
  rw [mput (by rw [mv6]; rfl)]
  simp only [mkv, List.map_cons, List.map_nil, if_pos trivial, if_neg (kne (x := "lengths") (y := "begins") (by decide +kernel)), if_neg (kne (x := "kinds") (y := "begins") (by decide +kernel)), if_neg (kne (x := "laid") (y := "begins") (by decide +kernel)), if_neg (kne (x := "memory") (y := "begins") (by decide +kernel)), if_neg (kne (x := "due") (y := "begins") (by decide +kernel))]
theorem mkv_len : (mkv a k d m u b).length = 6 := rfl
end
/-- a model stands at p, its parts at a, kd and lv -/
structure MdlIn (lg : Addr) (H : Hp) (p : Addr) (B : Bk) (ad kd : Addr) (lv : V) (kvs : List (Key × V)) : Prop where
  i : H p = some (.dK (mkv (.ref ad) (.ref kd) lv (.int B.mem) (.int B.due) (.str B.beg)))
  l : H ad = some (.lst (B.ls.map V.int))
  n : ad ≠ lg
  k : H kd = some (.dK kvs)
  a : KAt H kvs B.ks
  d : LaidV H B.laid lv
def Mdl (l : Addr) (H : Hp) (p : Addr) (B : Bk) : Prop := ∃ a kd lv kvs, MdlIn l H p B a kd lv kvs
theorem KAt.all {H : Hp} {kvs : List (Key × V)} {ks : List (Str × Int × Bool)} (h : KAt H kvs ks) : ∀ kv ∈ kvs, ∃ t, kv.2 = .ref t := by
  induction h with
  | nil => intro kv h; cases h
  | cons _ _ ih =>
    intro kv h
    rcases List.mem_cons.mp h with rfl | h
    · exact ⟨_, rfl⟩
    · exact ih kv h
section
variable {st l c p a kd : Addr} {cs : List Int} {n : Int} {H H' : Hp} {B : Bk} {lv : V} {kvs : List (Key × V)} {ks : List (Str × Int × Bool)}
theorem KAt.nst (h : KAt H kvs ks) (hk : H kd = some (.dK kvs)) (D : DS st l c cs n H) : kd ≠ st := by
  rintro rfl
  obtain ⟨r, t, _, _, _, hd⟩ := D.d
  rw [hd] at hk
  injection hk with hk
  injection hk with hk
  subst hk
  obtain ⟨t', h⟩ := h.all (Sum.inr ("rest" : Str), .int r) (by simp [dkv])
  cases h
theorem DS.dne {kvs : List (Key × V)} (D : DS st l c cs n H) (hk : H kd = some (.dK kvs)) (h : kvs.length ≠ 4) : kd ≠ st := by
  rintro rfl
  obtain ⟨r, t, _, _, _, hd⟩ := D.d
  rw [hd] at hk
  injection hk with hk
  injection hk with hk
  subst hk
  exact h rfl
theorem DS.nld {o : HO} (D : DS st l c cs n H) (hk : H kd = some o) (h : ∀ xs, o ≠ .lst xs) : kd ≠ l := by
  rintro rfl
  obtain ⟨zs, _, hd⟩ := D.lg
  rw [hd] at hk
  injection hk with hk
  exact h _ hk.symm
theorem Kp.frzs (k : Kp st l H H') (D : DS st l c cs n H) : ∀ t o xs, H t = some (.frz o (.tup xs)) → H' t = some (.frz o (.tup xs)) := fun t o xs h => by
  obtain ⟨zs, _, hl⟩ := D.lg
  obtain ⟨r, t', _, _, _, hd⟩ := D.d
  exact k _ _ h (ne_of h hd (by intro z; cases z)) (ne_of h hl (by intro z; cases z))
theorem Kp.tups (k : Kp st l H H') (D : DS st l c cs n H) : ∀ t xs, H t = some (.tup xs) → H' t = some (.tup xs) := fun t xs h => k.tup D h
theorem MdlIn.kp (h : MdlIn l H p B a kd lv kvs) (k : Kp st l H H') (D : DS st l c cs n H) : MdlIn l H' p B a kd lv kvs := by
  obtain ⟨h1, h2, h3, h4, h5, h6⟩ := h
  refine ⟨k _ _ h1 (D.dne h1 (by rw [mkv_len]; decide)) (D.nld h1 fun xs z => by cases z), k _ _ h2 ?_ h3, h3, k _ _ h4 (h5.nst h4 D) (D.nld h4 fun xs z => by cases z), h5.keep (k.tups D), h6.keep (k.frzs D)⟩
  rintro rfl
  obtain ⟨r, t, _, _, _, hd⟩ := D.d
  rw [hd] at h2
  cases h2
theorem Mdl.kp (h : Mdl l H p B) (k : Kp st l H H') (D : DS st l c cs n H) : Mdl l H' p B := by
  obtain ⟨a, kd, lv, kvs, h⟩ := h
  exact ⟨a, kd, lv, kvs, h.kp k D⟩
theorem MdlIn.keep (h : MdlIn l H p B a kd lv kvs) (e : Same H H') : MdlIn l H' p B a kd lv kvs :=
  ⟨e _ _ h.i, e _ _ h.l, h.n, e _ _ h.k, h.a.keepT e, h.d.keep fun t o xs ht => e _ _ ht⟩
theorem Mdl.keep (h : Mdl l H p B) (e : Same H H') : Mdl l H' p B := by
  obtain ⟨a, kd, lv, kvs, h⟩ := h
  exact ⟨a, kd, lv, kvs, h.keep e⟩
theorem BookAt.kp {C : Addr} (h : BookAt C H p B) (k : Kp st l H H') (D : DS st l c cs n H) : BookAt C H' p B := by
  obtain ⟨dx, tl, kd, lv, kvs, h1, h2, h3, h4, h5⟩ := h
  obtain ⟨r, t, _, _, _, hd⟩ := D.d
  exact ⟨dx, tl, kd, lv, kvs, k _ _ h1 (ne_of h1 hd (by intro z; cases z)) (D.nld h1 fun xs z => by cases z), h2.keep (k.frzs D), k _ _ h3 (h4.nst h3 D) (D.nld h3 fun xs z => by cases z), h4.keep (k.tups D), h5.keep (k.frzs D)⟩
end
end Wp
set_option Elab.async false
set_option linter.all false
set_option maxRecDepth 100000
set_option maxHeartbeats 4000000
namespace Wp
open PySem PySem.Spec PyProof.Rows L2
local macro_rules | `(tactic| walk_at "val") => `(tactic| assumption)
local macro_rules | `(tactic| walk_at "rd1") => `(tactic| first
  | with_reducible refine r_seq ?_ | with_reducible refine r_next ?_ | with_reducible refine r_if ?_ | with_reducible refine r_asg ?_ | with_reducible refine r_gname ?_
  | with_reducible refine r_ret ?_ | with_reducible refine r_retN ?_ | with_reducible refine r_drop ?_ | with_reducible refine r_par ?_ | with_reducible refine r_kPar ?_
  | ((with_reducible refine' r_var ?hv ?_); (case hv => exact rfl)) | with_reducible refine r_c ?_ | with_reducible refine r_nil ?_ | with_reducible refine r_cons ?_
  | with_reducible refine r_fn ?_ | with_reducible refine r_cb ?_ | with_reducible refine r_op ?_ | with_reducible refine r_un ?_ | with_reducible refine r_I0 ?_
  | with_reducible refine r_pow5 ?_ | with_reducible refine r_pow6 ?_ | with_reducible refine r_pow7 ?_ | with_reducible refine r_pow9 ?_ | with_reducible refine r_pow18 ?_ | with_reducible refine r_pow20 ?_ | with_reducible refine r_pow30 ?_
  | with_reducible refine r_isN_non ?_ | with_reducible refine r_isN_ref ?_ | with_reducible refine r_isN_int ?_ | with_reducible refine r_isN_str ?_ | with_reducible refine r_isN_bl ?_ | with_reducible refine r_notN_non ?_ | with_reducible refine r_notN_ref ?_ | with_reducible refine r_notN_int ?_ | with_reducible refine r_notN_str ?_ | with_reducible refine r_notN_bl ?_
  | ((with_reducible refine r_I ?hc ?_); (case hc => walk_at "side")) | with_reducible refine r_U ?_
  | with_reducible refine r_eqI ?_ | with_reducible refine r_neI ?_ | with_reducible refine r_eqS ?_ | with_reducible refine r_neS ?_ | with_reducible refine r_eqB ?_ | with_reducible refine r_neB ?_
  | with_reducible refine r_chain ?_ | with_reducible refine r_test ?_ | with_reducible refine r_tB ?_ | with_reducible refine r_kTest ?_ | with_reducible refine r_not ?_
  | with_reducible refine r_and ?_ | with_reducible refine r_or ?_ | with_reducible refine r_tif ?_ | with_reducible refine r_andV ?_ | with_reducible refine r_orV ?_ | with_reducible refine r_notV ?_
  | with_reducible refine r_kAndV ?_ | with_reducible refine r_kOrV ?_ | with_reducible refine r_kNotV ?_
  | with_reducible refine w_T ?_ | with_reducible refine w_F ?_ | with_reducible refine w_NT ?_ | with_reducible refine w_NF ?_
  | with_reducible refine r_tup ?_ | with_reducible refine r_lst ?_ | with_reducible refine r_fld ?_ | with_reducible refine r_prop ?_ | ((with_reducible refine' r_aug ?h1 ?_); (case h1 => exact rfl)) | with_reducible refine r_ipI ?_ | with_reducible refine r_dget ?_ | with_reducible refine r_dput ?_ | with_reducible refine r_bm ?_
  | ((with_reducible refine' r_kDGetS ?h1 ?h2 ?_); (case h1 => assumption); (case h2 => walk_at "val"))
  | ((with_reducible refine' r_kBML ?h1 ?_); (case h1 => assumption))
  | with_reducible refine r_forL ?_ | with_reducible refine r_forR1 ?_ | with_reducible refine r_forR2 ?_ | with_reducible refine r_forT ?_ | with_reducible refine r_lcL ?_ | with_reducible refine r_lcR1 ?_
  | ((with_reducible refine r_kLcG ?hw ?_); (case hw => exact rfl)) | with_reducible refine r_kLcT ?_ | with_reducible refine r_yes ?_
  | with_reducible refine r_pnil ?_ | with_reducible refine r_pcons ?_
  | with_reducible refine r_fnK ?_ | ((with_reducible refine r_kFnK ?hl ?_); (case hl => exact rfl))
  | with_reducible refine r_isi_ii ?_ | with_reducible refine r_isi_ib ?_ | with_reducible refine r_isi_bi ?_ | with_reducible refine r_isi_bb ?_ | with_reducible refine r_isi_ss ?_ | with_reducible refine r_isi_is ?_ | with_reducible refine r_isi_it ?_
  | ((with_reducible refine' r_isi_tt ?h1 ?_); (case h1 => assumption))
  | with_reducible refine r_sfld ?_ | with_reducible refine r_gnil ?_ | with_reducible refine r_gcons ?_
  | ((with_reducible refine' r_gtup ?h1 ?h2 ?_); (case h1 => exact SqT.of (by assumption)); (case h2 => exact rfl))
  | with_reducible refine r_sl ?_ | with_reducible refine r_noPart ?_ | with_reducible refine r_part ?_ | with_reducible refine r_kPart ?_ | with_reducible refine r_m1 ?_ | with_reducible refine r_kM1 ?_ | with_reducible refine r_forS ?_ | with_reducible refine r_lcS ?_ | with_reducible refine r_lcTu ?_ | with_reducible refine r_lcK ?_ | with_reducible refine r_dcL ?_ | with_reducible refine r_dcK ?_ | with_reducible refine r_lc2L ?_ | with_reducible refine r_kLc2TL ?_ | with_reducible refine r_dcEn ?_ | with_reducible refine r_gslc ?_ | with_reducible refine r_lcEn ?_ | with_reducible refine r_lcZip ?_ | with_reducible refine r_lcEl ?_ | with_reducible refine r_lcR2 ?_ | with_reducible refine r_rg1 ?_ | with_reducible refine r_rg2 ?_ | with_reducible refine r_forET ?_ | with_reducible refine r_lenD ?_
  | ((with_reducible refine r_kDcG ?hw ?_); (case hw => exact rfl)) | with_reducible refine r_kDcT ?_
  | with_reducible refine r_fldaug ?_ | with_reducible refine r_daug ?_ | with_reducible refine r_rAdd ?_ | with_reducible refine r_rSub ?_ | with_reducible refine r_ddel ?_ | with_reducible refine r_bmF ?_ | with_reducible refine r_dget2 ?_ | with_reducible refine r_listItems ?_ | with_reducible refine r_bm0 ?_ | with_reducible refine r_lc2E ?_ | ((with_reducible refine r_kLc2G ?hw ?_); (case hw => exact rfl)) | with_reducible refine r_kLc2T ?_ | with_reducible refine r_forE ?_ | with_reducible refine r_orT ?_ | with_reducible refine r_din ?_ | with_reducible refine r_augS ?_ | with_reducible refine r_dnotin ?_ | with_reducible refine r_lcIT ?_ | with_reducible refine r_cont ?_ | with_reducible refine r_meth ?_ | with_reducible refine r_frz ?_ | with_reducible refine r_par3 ?_ | with_reducible refine r_kPar3 ?_ | with_reducible refine r_dz ?_ | with_reducible refine r_revL ?_ | with_reducible refine r_revT ?_ | with_reducible refine r_star ?_ | with_reducible refine r_int1 ?_ | with_reducible refine r_int1b ?_ | with_reducible refine r_min2 ?_ | with_reducible refine r_max2 ?_ | with_reducible refine r_gsub ?_ | with_reducible refine r_err ?_ | with_reducible refine r_errT ?_ | with_reducible refine r_xv ?_)
local macro_rules | `(tactic| walk_at "rd") => `(tactic| repeat walk_at "rd1")
local macro_rules | `(tactic| walk_at "side") => `(tactic| first | assumption | exact Or.inr ⟨by decide, by decide⟩ | exact Or.inl ⟨by decide, by decide⟩ | (constructor <;> omega) | omega | decide | (refine Or.inl ⟨?_, ?_⟩ <;> omega) | (refine Or.inr ⟨?_, ?_⟩ <;> omega) | (refine ⟨?_, ?_, ?_⟩ <;> first | decide | omega))
local macro_rules | `(tactic| walk_at "val") => `(tactic| first | exact mv1 | exact mv2 | exact mv3 | exact mv4 | exact mv5 | exact mv6)
theorem r_dnewK {σ : L2.St} {H : Hp} {Q : VK} (q : ∀ p H', H p = none → Same H H' → H' p = some (.dK []) → Q (.ref p) H') : tDNewK σ H Q := fun p hp => q p _ hp (Same.new hp) upd_same
theorem r_minL {K : PySem.W.Frag} {H : Hp} {p : Addr} {Q : VK} {ns : List Int} (h : SqL K H p (ns.map V.int)) (h0 : 0 < ns.length) (k : ∀ m, m ∈ ns → (∀ y ∈ ns, m ≤ y) → Q (.int m) H) : rMin K [.ref p] H Q := ⟨p, ns, rfl, h, h0, k⟩
def sp_model : Sp := fun vs H Q _ => ∃ (st l c : Addr) (cs : List Int) (n many : Int) (il : Bool), vs = [.ref st, .int many, .bl il] ∧ n ≤ 8796093022208 ∧ DS st l c cs n H ∧ 1 ≤ many ∧ many ≤ 6 ∧
  ∀ p B H', H p = none → B.Ok → B.LaidOk → Mdl l H' p B → DS st l c cs (n + 200) H' → Kp st l H H' → Q (.ref p) H'
def sp_made (C : Addr) : Sp := fun vs H Q _ => ∃ (l p : Addr) (B : Bk), vs = [.ref p] ∧ B.Ok ∧ B.LaidOk ∧ Mdl l H p B ∧
  ∀ q H' ks, H q = none → Same H H' → ks.Perm B.ks → sortedS (ks.map (·.1)) = true → BookAt C H' q { B with ks := ks } → Q (.ref q) H'
section
variable {P : Program} {w : World} {K : PySem.W.Frag} {mg : Str → Option Value} {base : Heap}
end
end Wp
set_option Elab.async false
set_option linter.all false
set_option maxRecDepth 100000
set_option maxHeartbeats 4000000
/-! A model and a book of it. -/
namespace Wp
open PySem PySem.Spec PyProof.Rows L2
/-- a model and a book of it -/
structure Two (C l : Addr) (H : Hp) (p q : Addr) (B : Bk) : Prop where
  m : Mdl l H p B
  o : B.Ok
  lo : B.LaidOk
  b : ∃ ks, ks.Perm B.ks ∧ BookAt C H q { B with ks := ks }
theorem Two.keep {C l p q : Addr} {H H' : Hp} {B : Bk} (h : Two C l H p q B) (e : Same H H') : Two C l H' p q B := by
  obtain ⟨ks, h1, h2⟩ := h.b
  exact ⟨h.m.keep e, h.o, h.lo, ks, h1, h2.keep e⟩
theorem Two.kp {C st l c p q : Addr} {cs : List Int} {n : Int} {H H' : Hp} {B : Bk} (h : Two C l H p q B) (k : Kp st l H H') (D : DS st l c cs n H) : Two C l H' p q B := by
  obtain ⟨ks, h1, h2⟩ := h.b
  exact ⟨h.m.kp k D, h.o, h.lo, ks, h1, h2.kp k D⟩
theorem Bk.Ok.perm {B : Bk} (ok : B.Ok) {ks : List (Str × Int × Bool)} (p : ks.Perm B.ks) : ({ B with ks := ks } : Bk).Ok := by
  obtain ⟨h1, h2, h3, h4, h5, ⟨k1, k2, ⟨k3, k4⟩, k5⟩, h7, h8, h9⟩ := ok
  have pn := p.map (·.1)
  exact ⟨h1, h2, h3, h4, h5, ⟨by rw [p.length_eq]; exact k1, by rw [p.length_eq]; exact k2, ⟨fun z hz => k3 z (pn.mem_iff.mp hz), pn.nodup_iff.mpr k4⟩, fun k hk => k5 k (p.mem_iff.mp hk)⟩, h7, h8, h9⟩
theorem Bk.LaidOk.perm {B : Bk} (lo : B.LaidOk) {ks : List (Str × Int × Bool)} (p : ks.Perm B.ks) : ({ B with ks := ks } : Bk).LaidOk := fun ns h => (lo ns h).trans (p.map (·.1)).symm
end Wp
set_option Elab.async false
set_option linter.all false
set_option maxRecDepth 100000
set_option maxHeartbeats 4000000
/-! Bounds of what courses hold; routes while draws go on. -/
namespace Wp
open PySem PySem.Spec PyProof.Rows L2
theorem VR.names {ks ks' : List Str} {rs : List CR} (h : VR ks rs) (e : ∀ z ∈ ks, z ∈ ks') : VR ks' rs := fun i r hr => by
  have := h i r hr
  cases r with
  | buy d k c => exact ⟨this.1, e _ this.2.1, this.2.2⟩
  | pay d c => exact this
theorem VR.perm {ks ks' : List (Str × Int × Bool)} {rs : List CR} (h : VR (ks.map (·.1)) rs) (p : ks'.Perm ks) : VR (ks'.map (·.1)) rs := h.names fun z hz => (p.map _).mem_iff.mpr hz
theorem VR.owed {ks : List Str} : ∀ rs : List CR, VR ks rs → owedC rs ≤ 1000000 * (rs.length : Int) := by
  refine list_snoc_ind (fun _ => by simp [owedC]) fun rs r ih hv => ?_
  have hv0 : VR ks rs := by
    have := hv.take rs.length
    rwa [List.take_left] at this
  have h0 := ih hv0
  have hx := hv rs.length r (by simp)
  rw [List.take_left] at hx
  rw [owedC_snoc, List.length_append, List.length_singleton, Int.natCast_add]
  cases r with
  | buy d k c =>
    have := hx.2.2.2
    simp only [CR.sum]
    omega
  | pay d c =>
    have := hx.2.1
    simp only [CR.sum]
    omega
theorem VR.small {ks : List Str} {rs : List CR} (h : VR ks rs) (nm : ∀ z ∈ ks, NameOk z) (hd : lastDay rs ≤ 100000) (hn : rs.length ≤ 1000) : ∀ r ∈ rs, RSm r := fun r hr => by
  obtain ⟨i, hi, rfl⟩ := List.getElem_of_mem hr
  have h60 : (10000000000 : Nat) < 10 ^ 60 := by decide
  have hdays := (VR.days rs h).2 rs[i] hr
  have hx := h i rs[i] (List.getElem?_eq_getElem hi)
  have ho := VR.owed (rs.take i) (h.take i)
  rw [List.length_take] at ho
  revert hx hdays
  generalize rs[i] = r
  intro hdays hx
  cases r with
  | buy d k c =>
    obtain ⟨_, h2, h3, h4⟩ := hx
    have hdays : 0 ≤ d ∧ d ≤ lastDay rs := hdays
    exact ⟨by omega, nm k h2, by omega⟩
  | pay d c =>
    obtain ⟨_, h3, h4⟩ := hx
    have hdays : 0 ≤ d ∧ d ≤ lastDay rs := hdays
    exact ⟨by omega, by omega⟩
theorem pieces_small {P : Pd} {n M : Int} (h : POk P n M) (hn : n ≤ 1000) (hM : M ≤ 100000) (hs : ∀ i : Nat, sumAt P i ≤ 1000000) : ∀ t ∈ piecesL P, (0 ≤ t.1 ∧ t.1 < n) ∧ (0 ≤ t.2.1 ∧ t.2.1 ≤ M) ∧ (1 ≤ t.2.2 ∧ t.2.2 ≤ 1000000) := fun t ht => by
  obtain ⟨p, hp, rfl⟩ := List.mem_map.mp ((piecesL_perm h.nd).mem_iff.mp ht)
  have h1 := h.at' p hp
  have h2 := h.dy p hp
  have h3 := h.pos p hp
  have h4 := (sumAt_le h.pos p hp).1
  have h5 := hs p.1.1.toNat
  rw [show ((p.1.1.toNat : Nat) : Int) = p.1.1 by omega] at h5
  exact ⟨h1, h2, h3, by show p.2 ≤ 1000000; omega⟩
theorem small60 {t : Tri} {n M : Int} (hn : n ≤ 1000) (hM : M ≤ 100000) (h : (0 ≤ t.1 ∧ t.1 < n) ∧ (0 ≤ t.2.1 ∧ t.2.1 ≤ M) ∧ (1 ≤ t.2.2 ∧ t.2.2 ≤ 1000000)) : t.1.natAbs < 10 ^ 60 ∧ t.2.1.natAbs < 10 ^ 60 ∧ t.2.2.natAbs < 10 ^ 60 := by
  have h60 : (10000000000 : Nat) < 10 ^ 60 := by decide
  omega
/-- what a valid course has in the end -/
structure Fin (rk : Str → Int) (rs : List CR) (e : Int) : Prop where
  ok : POk (settle rk rs e) rs.length e
  sum : ∀ i : Nat, sumAt (settle rk rs e) i = boughtAt rs i
  sml : ∀ t ∈ piecesL (settle rk rs e), (0 ≤ t.1 ∧ t.1 < rs.length) ∧ (0 ≤ t.2.1 ∧ t.2.1 ≤ e) ∧ (1 ≤ t.2.2 ∧ t.2.2 ≤ 1000000)
  len : (piecesL (settle rk rs e)).length ≤ 40200
theorem Fin.of {ks : List Str} (rk : Str → Int) {rs : List CR} {e : Int} (h : VR ks rs) (he : lastDay rs ≤ e) (h2 : e ≤ 100000) (hn : rs.length ≤ 200) : Fin rk rs e := by
  have hd := VR.days rs h
  obtain ⟨p1, p2⟩ := settle_ok rk (M := e) h (fun r hr => by have := hd.2 r hr; omega) ⟨by omega, Int.le_refl _⟩
  refine ⟨p1, p2, pieces_small p1 (by omega) h2 fun i => by rw [p2 i]; exact (h.bought i).2, ?_⟩
  have hl := settle_len rk rs e
  have hii : rs.length * rs.length ≤ 40000 := Nat.le_trans (Nat.mul_le_mul hn hn) (by decide)
  have := (piecesL_perm p1.nd).length_eq
  rw [List.length_map] at this
  omega
theorem Fin.r60 {rk : Str → Int} {rs : List CR} {e : Int} (h : Fin rk rs e) (hn : rs.length ≤ 200) (he : e ≤ 100000) : ∀ t ∈ piecesL (settle rk rs e), t.1.natAbs < 10 ^ 60 ∧ t.2.1.natAbs < 10 ^ 60 ∧ t.2.2.natAbs < 10 ^ 60 := fun t ht => small60 (by omega) he (h.sml t ht)
theorem RtAt.kp {st l c : Addr} {cs : List Int} {n : Int} {H H' : Hp} {p : Addr} {rs : List CR} {e : Int} (h : RtAt l H p rs e) (k : Kp st l H H') (D : DS st l c cs n H) : RtAt l H' p rs e := by
  obtain ⟨a, ws, h1, h2, h3, h4⟩ := h
  obtain ⟨r, t, _, _, _, hd⟩ := D.d
  exact ⟨a, ws, k.tups D _ _ h1, k _ _ h2 (ne_of h2 hd (by intro z; cases z)) h3, h3, h4.keep (k.tups D)⟩
end Wp
set_option Elab.async false
set_option linter.all false
set_option maxRecDepth 100000
set_option maxHeartbeats 4000000
namespace Wp
open PySem PySem.Spec PyProof.Rows L2
theorem Bk.Ok.ls {B : Bk} (ok : B.Ok) : LsOk B.ls := ⟨ok.l1, ok.l2, ok.l3⟩
theorem first_eq (B : Bk) (m : Int) : B.first m = firstL B.ls m := rfl
theorem Bk.Ok.due31 {B : Bk} (ok : B.Ok) : B.due + 1 ≤ 31 := by
  have l1 := ok.l1
  obtain ⟨x, hx⟩ := List.exists_mem_of_length_pos (show 0 < B.ls.length by omega)
  have := ok.l3 x hx
  have := ok.d1 x hx
  omega
end Wp
set_option Elab.async false
set_option linter.all false
set_option maxRecDepth 100000
set_option maxHeartbeats 4000000
/-! Statements and interest, plain. -/
namespace Wp
open PySem PySem.Spec PyProof.Rows L2
def bbF (d : Int) : CR → Option Int
  | .buy d' _ c => if d' ≤ d then some c else none
  | .pay _ _ => none
def boughtBy (rs : List CR) (d : Int) : Int := (rs.filterMap (bbF d)).sum
def paidL (P : Pd) (d : Int) : List Int := (P.filter fun p => decide (p.1.2 ≤ d)).map (·.2)
def paidBy (P : Pd) (d : Int) : Int := (paidL P d).sum
def wholeB (B : Bk) (rs : List CR) (P : Pd) (m : Int) : Bool := decide (m < 0) || decide (boughtBy rs (firstL B.ls (m + 1) - 1) ≤ paidBy P (firstL B.ls (m + 1) + B.due))
def sparedL (B : Bk) (rs : List CR) (P : Pd) (m : Int) : List Bool := (List.range (B.mem + 1).toNat).map fun b : Nat => wholeB B rs P (m - (b : Int))
def sparedB (B : Bk) (rs : List CR) (P : Pd) (m : Int) : Bool := (sparedL B rs P m).all id
def beginF (B : Bk) (rs : List CR) (P : Pd) (d : Int) (b : Bool) : Int :=
  if b = false then d else if sparedB B rs P (monthL B.ls d) = true then firstL B.ls (monthL B.ls d + 1) + B.due + 1 else if B.beg = "day" then d else firstL B.ls (monthL B.ls d + 1)
def begOf (B : Bk) (rs : List CR) (P : Pd) (z : Int) : Int := match rs[z.toNat]? with
  | some (.buy d k _) => beginF B rs P d (B.freeOf k)
  | _ => 0
def rateAt (B : Bk) (rs : List CR) (z : Int) : Int := match rs[z.toNat]? with
  | some (.buy _ k _) => B.rateOf k
  | _ => 0
def bearOf (B : Bk) (rs : List CR) (P : Pd) : List (Tri × Int × Int) := (piecesL P).map fun t => (t, begOf B rs P t.1, rateAt B rs t.1)
def daysOf (x : Tri × Int × Int) : Int := max 0 (x.1.2.1 - x.2.1)
def bear5 (x : Tri × Int × Int) : List Int := [x.1.1, x.1.2.1, x.1.2.2, daysOf x, daysOf x * x.2.2 * x.1.2.2]
def bearL (B : Bk) (rs : List CR) (P : Pd) : List (List Int) := (bearOf B rs P).map bear5
def grains (B : Bk) (rs : List CR) (P : Pd) : Int := ((bearOf B rs P).map fun x => daysOf x * x.2.2 * x.1.2.2).sum
theorem boughtBy_snoc (rs : List CR) (r : CR) (d : Int) : boughtBy (rs ++ [r]) d = boughtBy rs d + (bbF d r).getD 0 := by
  unfold boughtBy
  rw [List.filterMap_append, List.sum_append]
  cases h : bbF d r with
  | none => simp [h]
  | some c => simp [h]
/-! kinds by another order -/
theorem find_perm {ks ks' : List (Str × Int × Bool)} (nd : (ks.map (·.1)).Nodup) (p : ks'.Perm ks) (n : Str) : (ks'.find? fun k => decide (k.1 = n)) = ks.find? fun k => decide (k.1 = n) := by
  have nd' : (ks'.map (·.1)).Nodup := (p.map _).nodup_iff.mpr nd
  by_cases h : n ∈ ks.map (·.1)
  · obtain ⟨⟨n', r, b⟩, hm, e⟩ := List.mem_map.mp h
    obtain rfl : n' = n := e
    rw [Bk.find_of nd hm, Bk.find_of nd' (p.mem_iff.mpr hm)]
  · have h' : n ∉ ks'.map (·.1) := fun z => h ((p.map _).mem_iff.mp z)
    have none_of : ∀ l : List (Str × Int × Bool), n ∉ l.map (·.1) → (l.find? fun k => decide (k.1 = n)) = none := fun l hl => by
      rw [List.find?_eq_none]
      intro x hx z
      exact hl (List.mem_map.mpr ⟨x, hx, of_decide_eq_true z⟩)
    rw [none_of _ h, none_of _ h']
theorem rateOf_perm {B : Bk} (nd : (B.ks.map (·.1)).Nodup) {ks : List (Str × Int × Bool)} (p : ks.Perm B.ks) (n : Str) : ({ B with ks := ks } : Bk).rateOf n = B.rateOf n := by
  unfold Bk.rateOf
  rw [show ({ B with ks := ks } : Bk).ks = ks from rfl, find_perm nd p n]
theorem freeOf_perm {B : Bk} (nd : (B.ks.map (·.1)).Nodup) {ks : List (Str × Int × Bool)} (p : ks.Perm B.ks) (n : Str) : ({ B with ks := ks } : Bk).freeOf n = B.freeOf n := by
  unfold Bk.freeOf
  rw [show ({ B with ks := ks } : Bk).ks = ks from rfl, find_perm nd p n]
theorem kind_at {B : Bk} (nd : (B.ks.map (·.1)).Nodup) {n : Str} (h : n ∈ B.ks.map (·.1)) : (n, B.rateOf n, B.freeOf n) ∈ B.ks := by
  obtain ⟨⟨n', r, b⟩, hm, e⟩ := List.mem_map.mp h
  obtain rfl : n' = n := e
  have := Bk.find_of nd hm
  unfold Bk.rateOf Bk.freeOf
  rw [this]
  exact hm
theorem bearOf_perm {B : Bk} (nd : (B.ks.map (·.1)).Nodup) {ks : List (Str × Int × Bool)} (p : ks.Perm B.ks) (rs : List CR) (P : Pd) : bearOf { B with ks := ks } rs P = bearOf B rs P := by
  unfold bearOf
  refine List.map_congr_left fun t _ => ?_
  have e1 : begOf { B with ks := ks } rs P t.1 = begOf B rs P t.1 := by
    unfold begOf
    cases h : rs[t.1.toNat]? with
    | none => rfl
    | some r =>
      cases r with
      | buy d k c =>
        show beginF _ _ _ _ (({ B with ks := ks } : Bk).freeOf k) = _
        rw [freeOf_perm nd p]
        rfl
      | pay d c => rfl
  have e2 : rateAt { B with ks := ks } rs t.1 = rateAt B rs t.1 := by
    unfold rateAt
    cases h : rs[t.1.toNat]? with
    | none => rfl
    | some r =>
      cases r with
      | buy d k c => exact rateOf_perm nd p k
      | pay d c => rfl
  rw [e1, e2]
/-- each piece is one of a purchase -/
theorem piece_buy {ks : List Str} {rk : Str → Int} {rs : List CR} {e : Int} (fn : Fin rk rs e) (hv : VR ks rs) {t : Tri} (h : t ∈ piecesL (settle rk rs e)) : ∃ d k c, rs[t.1.toNat]? = some (.buy d k c) ∧ k ∈ ks ∧ 0 ≤ t.1 := by
  obtain ⟨p, hp, rfl⟩ := List.mem_map.mp ((piecesL_perm fn.ok.nd).mem_iff.mp h)
  have h1 := fn.ok.at' p hp
  have h3 := fn.ok.pos p hp
  have h4 := (sumAt_le fn.ok.pos p hp).1
  have h5 := fn.sum p.1.1.toNat
  rw [show ((p.1.1.toNat : Nat) : Int) = p.1.1 by omega] at h5
  have h6 : 1 ≤ boughtAt rs p.1.1.toNat := by omega
  unfold boughtAt at h6
  show ∃ d k c, rs[p.1.1.toNat]? = some (.buy d k c) ∧ k ∈ ks ∧ 0 ≤ p.1.1
  cases hr : rs[p.1.1.toNat]? with
  | none => rw [hr] at h6; simp at h6
  | some r =>
    cases r with
    | buy d k c => exact ⟨d, k, c, rfl, (hv _ _ hr).2.1, h1.1⟩
    | pay d c => rw [hr] at h6; simp at h6
theorem rate_bounds {B : Bk} (hk : ∀ k ∈ B.ks, 0 ≤ k.2.1 ∧ k.2.1 ≤ 1000) (nd : (B.ks.map (·.1)).Nodup) (n : Str) : 0 ≤ B.rateOf n ∧ B.rateOf n ≤ 1000 := by
  by_cases h : n ∈ B.ks.map (·.1)
  · exact hk _ (kind_at nd h)
  · unfold Bk.rateOf
    rw [List.find?_eq_none.mpr fun x hx z => h (List.mem_map.mpr ⟨x, hx, of_decide_eq_true z⟩)]
    exact ⟨Int.le_refl _, by show (0 : Int) ≤ 1000; decide⟩
theorem rateAt_bounds {B : Bk} (hk : ∀ k ∈ B.ks, 0 ≤ k.2.1 ∧ k.2.1 ≤ 1000) (nd : (B.ks.map (·.1)).Nodup) (rs : List CR) (z : Int) : 0 ≤ rateAt B rs z ∧ rateAt B rs z ≤ 1000 := by
  unfold rateAt
  cases h : rs[z.toNat]? with
  | none => exact ⟨Int.le_refl _, by show (0 : Int) ≤ 1000; decide⟩
  | some r =>
    cases r with
    | buy d k c => exact rate_bounds hk nd k
    | pay d c => exact ⟨Int.le_refl _, by show (0 : Int) ≤ 1000; decide⟩
theorem bear_bounds {ks : List Str} {rk : Str → Int} {B : Bk} {rs : List CR} {e : Int} (fn : Fin rk rs e) (hv : VR ks rs) (hk : ∀ k ∈ B.ks, 0 ≤ k.2.1 ∧ k.2.1 ≤ 1000) (nd : (B.ks.map (·.1)).Nodup) {r : Tri × Int × Int} (h : r ∈ bearOf B rs (settle rk rs e)) :
    0 ≤ r.2.2 ∧ r.2.2 ≤ 1000 ∧ 1 ≤ r.1.2.2 ∧ r.1.2.2 ≤ 1000000 ∧ 0 ≤ r.1.2.1 ∧ r.1.2.1 ≤ e := by
  obtain ⟨t, ht, rfl⟩ := List.mem_map.mp h
  have h1 := fn.sml t ht
  have h2 := rateAt_bounds hk nd rs t.1
  exact ⟨h2.1, h2.2, h1.2.2.1, h1.2.2.2, h1.2.1.1, h1.2.1.2⟩
def kDNotIn (Q : VK) (y : V) : VK := fun x H2 => ∃ a o, x = .ref a ∧ DGet H2 a y o ∧ Q (.bl (!o.isSome)) H2
theorem r_dnotin {σ : L2.St} {H : Hp} {Q : VK} {ty td : TE} (q : ty σ H fun y H1 => td σ H1 (kDNotIn Q y)) : tDNotIn ty td σ H Q := q
theorem r_kDNotInT {H : Hp} {Q : VK} {a : Addr} {t : List (Int × Int)} {z : Int} (h : H a = some (.dK (encT t))) (q : Q (.bl (!(lookT t z).isSome)) H) : kDNotIn Q (.int z) (.ref a) H :=
  ⟨a, (lookT t z).map V.int, rfl, .inl ⟨encT t, Sum.inl z, .inl h, rfl, (valV_enc z t).symm⟩, by
    have e : ((lookT t z).map V.int).isSome = (lookT t z).isSome := by cases lookT t z <;> rfl
    rw [e]
    exact q⟩
theorem begOf_nonneg {ks : List Str} {B : Bk} (ok : B.Ok) {rs : List CR} (hv : VR ks rs) (P : Pd) (z : Int) : 0 ≤ begOf B rs P z := by
  unfold begOf
  cases h : rs[z.toNat]? with
  | none => exact Int.le_refl _
  | some r =>
    cases r with
    | buy d k c =>
      have hd := (VR.days rs hv).2 _ (List.mem_of_getElem? h)
      have hd : 0 ≤ d ∧ d ≤ lastDay rs := hd
      have mb := month_bounds ok.ls d
      have d0 := ok.d0
      show 0 ≤ beginF B rs P d (B.freeOf k)
      unfold beginF
      split
      · exact hd.1
      · split
        · omega
        · split
          · exact hd.1
          · omega
    | pay d c => exact Int.le_refl _
theorem term_bounds {a b c : Int} (a0 : 0 ≤ a) (a1 : a ≤ 100000) (b0 : 0 ≤ b) (b1 : b ≤ 1000) (c0 : 0 ≤ c) (c1 : c ≤ 1000000) : 0 ≤ a * b * c ∧ a * b * c ≤ 100000000000000 := by
  have h1 := Int.mul_nonneg a0 b0
  have h2 : a * b ≤ 100000 * 1000 := Int.mul_le_mul a1 b1 b0 (by decide)
  have h3 := Int.mul_nonneg h1 c0
  have h4 : a * b * c ≤ 100000 * 1000 * 1000000 := Int.mul_le_mul h2 c1 c0 (by decide)
  exact ⟨h3, Int.le_trans h4 (by decide)⟩
theorem bear_term {ks : List Str} {rk : Str → Int} {B : Bk} {rs : List CR} {e : Int} (fn : Fin rk rs e) (hv : VR ks rs) (ok : B.Ok) (he : e ≤ 100000) {r : Tri × Int × Int} (h : r ∈ bearOf B rs (settle rk rs e)) :
    (0 ≤ daysOf r ∧ daysOf r ≤ 100000) ∧ 0 ≤ daysOf r * r.2.2 * r.1.2.2 ∧ daysOf r * r.2.2 * r.1.2.2 ≤ 100000000000000 := by
  have hb := bear_bounds fn hv ok.kn.rt ok.kn.nm.nd h
  have hg : 0 ≤ r.2.1 := by
    obtain ⟨t, ht, rfl⟩ := List.mem_map.mp h
    exact begOf_nonneg ok hv _ _
  have hd : 0 ≤ daysOf r ∧ daysOf r ≤ 100000 := by
    unfold daysOf
    omega
  exact ⟨hd, term_bounds hd.1 hd.2 hb.1 hb.2.1 (by omega) (by omega)⟩
theorem bear5_small {ks : List Str} {rk : Str → Int} {B : Bk} {rs : List CR} {e : Int} (fn : Fin rk rs e) (hv : VR ks rs) (ok : B.Ok) (he : e ≤ 100000) (hn : rs.length ≤ 200) : ∀ x ∈ bearL B rs (settle rk rs e), x.length ≤ 5 ∧ ∀ z ∈ x, z.natAbs < 10 ^ 60 := fun x hx => by
  obtain ⟨r, hr, rfl⟩ := List.mem_map.mp hx
  have h60 : (1000000000000000 : Nat) < 10 ^ 60 := by decide
  have hb := bear_bounds fn hv ok.kn.rt ok.kn.nm.nd hr
  have ht := bear_term fn hv ok he hr
  have h1 : 0 ≤ r.1.1 ∧ r.1.1 < rs.length := by
    obtain ⟨t, ht', rfl⟩ := List.mem_map.mp hr
    exact (fn.sml t ht').1
  refine ⟨by simp [bear5], fun z hz => ?_⟩
  simp only [bear5, List.mem_cons, List.not_mem_nil, or_false] at hz
  rcases hz with rfl | rfl | rfl | rfl | rfl <;> omega
theorem bearL_len {rk : Str → Int} {B : Bk} {rs : List CR} {e : Int} (fn : Fin rk rs e) : (bearL B rs (settle rk rs e)).length ≤ 40200 := by
  unfold bearL bearOf
  rw [List.length_map, List.length_map]
  exact fn.len
theorem sum_bounds {M : Int} : ∀ {l : List Int}, (∀ z ∈ l, 0 ≤ z ∧ z ≤ M) → 0 ≤ l.sum ∧ l.sum ≤ M * (l.length : Int)
  | [], _ => by simp
  | a :: r, h => by
    have h1 := sum_bounds (l := r) fun z hz => h z (List.mem_cons_of_mem _ hz)
    have h2 := h a (List.mem_cons_self ..)
    rw [List.sum_cons, List.length_cons, Int.natCast_add, Int.mul_add]
    have : M * ((1 : Nat) : Int) = M := by simp
    omega
theorem grains_bounds {ks : List Str} {rk : Str → Int} {B : Bk} {rs : List CR} {e : Int} (fn : Fin rk rs e) (hv : VR ks rs) (ok : B.Ok) (he : e ≤ 100000) : 0 ≤ grains B rs (settle rk rs e) ∧ grains B rs (settle rk rs e) ≤ 10000000000000000000 := by
  have h := sum_bounds (M := 100000000000000) (l := (bearOf B rs (settle rk rs e)).map fun x => daysOf x * x.2.2 * x.1.2.2) fun z hz => by
    obtain ⟨r, hr, rfl⟩ := List.mem_map.mp hz
    exact (bear_term fn hv ok he hr).2
  have hl : (bearOf B rs (settle rk rs e)).length ≤ 40200 := by
    unfold bearOf
    rw [List.length_map]
    exact fn.len
  rw [List.length_map] at h
  unfold grains
  omega
/-! lists of tuples of ints -/
inductive LAt (H : Hp) : List V → List (List Int) → Prop
  | nil : LAt H [] []
  | cons {t : Addr} {r : List Int} {ws : List V} {rs : List (List Int)} : H t = some (.tup (r.map V.int)) → LAt H ws rs → LAt H (.ref t :: ws) (r :: rs)
theorem LAt.keep {H H' : Hp} {ws : List V} {rs : List (List Int)} (h : LAt H ws rs) (e : ∀ t xs, H t = some (.tup xs) → H' t = some (.tup xs)) : LAt H' ws rs := by
  induction h with
  | nil => exact .nil
  | cons h _ ih => exact .cons (e _ _ h) ih
theorem LAt.same {H H' : Hp} {ws : List V} {rs : List (List Int)} (h : LAt H ws rs) (e : Same H H') : LAt H' ws rs := h.keep fun _ _ q => e _ _ q
theorem LAt.len {H : Hp} {ws : List V} {rs : List (List Int)} (h : LAt H ws rs) : ws.length = rs.length := by
  induction h with
  | nil => rfl
  | cons _ _ ih => simp [ih]
theorem LAt.get {H : Hp} {ws : List V} {rs : List (List Int)} (h : LAt H ws rs) : ∀ {i : Nat} {x : V}, ws[i]? = some x → ∃ t r, x = .ref t ∧ rs[i]? = some r ∧ H t = some (.tup (r.map V.int)) := by
  induction h with
  | nil => intro i x e; simp at e
  | @cons t r ws rs h _ ih =>
    intro i x e
    cases i with
    | zero => exact ⟨t, r, (Option.some.inj e).symm, rfl, h⟩
    | succ i =>
      obtain ⟨t', r', h1, h2, h3⟩ := ih (i := i) (by simpa using e)
      exact ⟨t', r', h1, by simpa using h2, h3⟩
theorem LAt.app {H : Hp} {ws us : List V} {rs ss : List (List Int)} (h : LAt H ws rs) (h2 : LAt H us ss) : LAt H (ws ++ us) (rs ++ ss) := by
  induction h with
  | nil => exact h2
  | cons h _ ih => exact .cons h ih
def encI (t : List Int) : PyData := .tuple (t.map .int)
theorem LAt.dp {K : PySem.W.Frag} {H : Hp} {ws : List V} {rs : List (List Int)} (h : LAt H ws rs) : DpAll K H ws (rs.map encI) := by
  induction h with
  | nil => exact .nil
  | cons h _ ih => exact .cons (.tup (SqT.of h) (dp_ints _)) ih
theorem sm_lists : ∀ {ps : List (List Int)}, (∀ p ∈ ps, p.length ≤ 5 ∧ ∀ z ∈ p, z.natAbs < 10 ^ 60) → smAll (ps.map encI) = true ∧ wzAll (ps.map encI) ≤ 320 * ps.length
  | [], _ => ⟨rfl, by simp [wzAll]⟩
  | r :: rs, h => by
    obtain ⟨h1, h2⟩ := sm_lists fun r' hr' => h r' (List.mem_cons_of_mem _ hr')
    obtain ⟨a1, a2⟩ := h r (List.mem_cons_self ..)
    constructor
    · rw [List.map_cons, smAll_cons, h1, Bool.and_true]
      simp only [encI, smI]
      exact sm_ints a2
    · rw [List.map_cons, wzAll]
      simp only [encI, wz, List.length_cons]
      rw [wz_ints]
      omega
theorem depth_lists : ∀ rs : List (List Int), PyData.depthAll (rs.map encI) ≤ 2
  | [] => by simp [PyData.depthAll]
  | r :: rs => by
    have := depth_lists rs
    have h2 := dep_ints r
    simp only [List.map_cons, PyData.depthAll, encI, PyData.depth]
    omega
section
variable {K : PySem.W.Frag} {H : Hp} {Q : VK} {p : Addr} {ws : List V} {σ : L2.St} {g : TG} {tt : TT} {te ta : TE} {vs : List Nat} {xs : List V} {tw : TS} {D : Ends}
theorem r_reprL {ps : List (List Int)} (h : SqL K H p ws) (hr : LAt H ws ps) (ok : ∀ p ∈ ps, p.length ≤ 5 ∧ ∀ z ∈ p, z.natAbs < 10 ^ 60) (hz : ps.length ≤ 50000) (q : Q (.str (PyData.list (ps.map encI)).shown) H) : rRepr K [.ref p] H Q := by
  obtain ⟨h1, h2⟩ := sm_lists ok
  refine r_repr (d := .list (ps.map encI)) (.lst h hr.dp) ?_ ?_ ?_ q
  · simpa [smI] using h1
  · have := depth_lists ps
    simp only [PyData.depth]
    omega
  · simp only [wz]
    omega
/-! a list or a tuple gone through, told by an expression -/
theorem r_lcSeq (ht : ∀ Q' : VK, Q' (.ref p) H → ta σ H Q') (hl : SeqV K H p xs) (Pv : Addr → Nat → Hp → Prop) (h0 : ∀ Da H', H Da = none → Same H H' → H' Da = some (.lst []) → Pv Da 0 H') (hk : ∀ Da i H', Pv Da i H' → Same H H')
    (hs : ∀ Da i x H', H Da = none → xs[i]? = some x → Pv Da i H' → g x (wipe σ vs) H' (kLcG tt te vs σ Da Pv i)) (hd : ∀ Da H', H Da = none → Pv Da xs.length H' → Q (.ref Da) H') :
    tLc (iEither (iList K ta) (iTup K ta)) g tt te vs σ H Q := by
  rcases hl with hl | hl
  · exact .inl (r_lcL (ht _ (r_kLcL Pv hl h0 (fun Da i H' p => SqL.same (hk Da i H' p) hl) hs hd)))
  · exact .inr (r_lcTu (ht _ (r_kLcTu Pv hl h0 (fun Da i H' p => SqT.same (hk Da i H' p) hl) hs hd)))
theorem r_forSeq {H0 : Hp} (ht : ∀ Q' : VK, Q' (.ref p) H → ta σ H Q') (hl : SeqV K H0 p xs) (h00 : Same H0 H) (Pv : Nat → L2.St → Hp → Prop) (h0 : Pv 0 σ H) (hk : ∀ i σ' H', Pv i σ' H' → Same H0 H')
    (hs : ∀ i x σ' H', xs[i]? = some x → Pv i σ' H' → g x σ' H' fun σ2 H2 => tw { D with nx := Pv (i + 1), ct := Pv (i + 1), bk := D.nx } σ2 H2) (hd : ∀ σ' H', Pv xs.length σ' H' → D.nx σ' H') :
    tFor (iEither (iList K ta) (iTup K ta)) g tw D σ H := by
  rcases hl with hl | hl
  · exact .inl (r_forL (ht _ (r_kForL Pv (SqL.same h00 hl) h0 (fun i σ' H' p => SqL.same (hk i σ' H' p) hl) hs hd)))
  · exact .inr (r_forT (ht _ (r_kForT Pv (SqT.same h00 hl) h0 (fun i σ' H' p => SqT.same (hk i σ' H' p) hl) hs hd)))
theorem r_ixSeq {i : Int} {v : V} (h : SeqV K H p xs) (e : atI xs i = some v) (q : Q v H) : rIx K (.ref p) (.int i) H Q := h.elim (fun h => r_ixSL h e q) (fun h => r_ixST h e q)
/-- the rows of a course, told as course[0] -/
theorem c0_at {n : Nat} {l : Addr} {e : Int} (hv : σ[n]? = some (some (.ref p))) (hp : H p = some (.tup [.ref l, .int e])) : ∀ Q' : VK, Q' (.ref l) H → tOp (rIxT K) (tVar n) (tC (.int 0)) σ H Q' :=
  fun Q' q => r_op (r_var hv (r_c (r_ixT (SqT.of hp) (at_get (n := 0) rfl rfl) q)))
end
end Wp
set_option Elab.async false
set_option linter.all false
set_option maxRecDepth 100000
set_option maxHeartbeats 4000000
/-! Dicts from texts to ints, plain. -/
namespace Wp
open PySem PySem.Spec PyProof.Rows L2
abbrev SD := List (Str × Int)
def lookS : SD → Str → Option Int
  | [], _ => none
  | (k, c) :: r, z => if k = z then some c else lookS r z
theorem lookS_cons (k : Str) (c : Int) (r : SD) (z : Str) : lookS ((k, c) :: r) z = if k = z then some c else lookS r z := rfl
def putS (t : SD) (z : Str) (c : Int) : SD := if (t.any fun p => decide (p.1 = z)) = true then t.map (fun p => if p.1 = z then (p.1, c) else p) else t ++ [(z, c)]
def addKey (ks : List Str) (k : Str) : List Str := if k ∈ ks then ks else ks ++ [k]
theorem anyS_look : ∀ (t : SD) (z : Str), (t.any fun p => decide (p.1 = z)) = (lookS t z).isSome
  | [], z => rfl
  | (k, c) :: r, z => by
    rw [lookS_cons]
    by_cases h : k = z
    · simp [h]
    · rw [List.any_cons, anyS_look r z]
      simp [h]
theorem lookS_none : ∀ {t : SD} {z : Str}, lookS t z = none ↔ z ∉ t.map (·.1)
  | [], z => by simp [lookS]
  | (k, c) :: r, z => by
    have := lookS_none (t := r) (z := z)
    rw [lookS_cons]
    by_cases h : k = z
    · simp [h]
    · rw [if_neg h, this]
      simp
      intro _ e
      exact h e.symm
theorem putS_keys (t : SD) (z : Str) (c : Int) : (putS t z c).map (·.1) = addKey (t.map (·.1)) z := by
  unfold putS addKey
  rw [anyS_look]
  by_cases h : (lookS t z).isSome = true
  · have : z ∈ t.map (·.1) := by
      by_cases hz : z ∈ t.map (·.1)
      · exact hz
      · rw [lookS_none.mpr hz] at h
        cases h
    rw [if_pos h, if_pos this, List.map_map]
    refine List.map_congr_left fun p _ => ?_
    show (if p.1 = z then (p.1, c) else p).1 = p.1
    split <;> rfl
  · have : z ∉ t.map (·.1) := lookS_none.mp (by simpa using h)
    rw [if_neg h, if_neg this]
    simp
theorem lookS_map (c : Int) (z y : Str) : ∀ (t : SD), lookS (t.map fun p => if p.1 = z then (p.1, c) else p) y = if y = z then (lookS t z).map (fun _ => c) else lookS t y
  | [] => by simp [lookS]
  | (k, e) :: r => by
    have := lookS_map c z y r
    rw [List.map_cons]
    by_cases hk : k = z
    · subst hk
      rw [if_pos rfl, lookS_cons, lookS_cons, lookS_cons]
      by_cases hy : y = k
      · simp [hy]
      · rw [if_neg (fun z => hy z.symm), this, if_neg hy, if_neg hy, if_neg (fun z => hy z.symm)]
    · rw [if_neg hk]
      rw [lookS_cons, this, lookS_cons, lookS_cons]
      by_cases hy : y = z
      · subst hy
        rw [if_neg hk, if_pos rfl, if_pos rfl, if_neg hk]
      · rw [if_neg hy, if_neg hy]
theorem lookS_app (z : Str) (c : Int) (y : Str) : ∀ (t : SD), lookS t z = none → lookS (t ++ [(z, c)]) y = if y = z then some c else lookS t y
  | [], _ => by
    show (if z = y then some c else none) = _
    by_cases h : y = z
    · rw [if_pos h, if_pos h.symm]
    · rw [if_neg h, if_neg fun e => h e.symm]
      rfl
  | (k, e) :: r, h => by
    rw [lookS_cons] at h
    by_cases hk : k = z
    · rw [if_pos hk] at h
      cases h
    · rw [if_neg hk] at h
      have := lookS_app z c y r h
      show (if k = y then some e else lookS (r ++ [(z, c)]) y) = _
      rw [this]
      rw [lookS_cons]
      by_cases hy : k = y
      · rw [if_pos hy, if_pos hy, if_neg fun e => hk (hy.trans e)]
      · rw [if_neg hy, if_neg hy]
theorem putS_look (t : SD) (z : Str) (c : Int) (y : Str) : lookS (putS t z c) y = if y = z then some c else lookS t y := by
  unfold putS
  rw [anyS_look]
  cases h : lookS t z with
  | none => rw [if_neg (by simp), lookS_app z c y t h]
  | some v =>
    rw [if_pos (show (some v).isSome = true from rfl), lookS_map, h]
    rfl
theorem sd_of_look : ∀ {t : SD}, (t.map (·.1)).Nodup → t = (t.map (·.1)).map fun k => (k, (lookS t k).getD 0)
  | [], _ => rfl
  | (k, c) :: r, nd => by
    rw [List.map_cons, List.nodup_cons] at nd
    have ih := sd_of_look nd.2
    rw [List.map_cons, List.map_cons]
    congr 1
    · simp [lookS]
    · conv => lhs; rw [ih]
      refine List.map_congr_left fun y hy => ?_
      show (y, (lookS r y).getD 0) = (y, (if k = y then some c else lookS r y).getD 0)
      rw [if_neg fun e => nd.1 (by rw [e]; exact hy)]
end Wp
set_option Elab.async false
set_option linter.all false
set_option maxRecDepth 100000
set_option maxHeartbeats 4000000
/-! What is owed by kinds, plain. -/
namespace Wp
open PySem PySem.Spec PyProof.Rows L2
/-! sums by texts -/
def addS (t : SD) (z : Str) (c : Int) : SD := putS t z ((lookS t z).getD 0 + c)
def foldS (L : SD) : SD := L.foldl (fun t x => addS t x.1 x.2) []
def sumK (L : SD) (k : Str) : Int := ((L.filter fun x => decide (x.1 = k)).map (·.2)).sum
/-- the sum over the texts that q tells -/
def sumQ (L : SD) (q : Str → Bool) : Int := ((L.filter fun x => q x.1).map (·.2)).sum
theorem sumQ_app (L M : SD) (q : Str → Bool) : sumQ (L ++ M) q = sumQ L q + sumQ M q := by
  unfold sumQ
  rw [List.filter_append, List.map_append, List.sum_append]
theorem sumQ_snoc (L : SD) (x : Str × Int) (q : Str → Bool) : sumQ (L ++ [x]) q = sumQ L q + (if q x.1 = true then x.2 else 0) := by
  rw [sumQ_app]
  congr 1
  unfold sumQ
  by_cases h : q x.1 = true
  · rw [List.filter_cons_of_pos (by exact h), if_pos h]
    simp
  · rw [List.filter_cons_of_neg (by exact h), if_neg h]
    rfl
def keysOf (L : List Str) : List Str := L.foldl addKey []
theorem keysOf_snoc (L : List Str) (k : Str) : keysOf (L ++ [k]) = addKey (keysOf L) k := by unfold keysOf; rw [List.foldl_append]; rfl
theorem mem_keysOf : ∀ (L : List Str) (k : Str), k ∈ keysOf L ↔ k ∈ L := fun L => by
  revert L
  refine list_snoc_ind (by simp [keysOf]) fun L z ih k => ?_
  rw [keysOf_snoc]
  unfold addKey
  split
  · rename_i h
    rw [ih, List.mem_append, List.mem_singleton]
    constructor
    · exact Or.inl
    · rintro (h2 | rfl)
      · exact h2
      · exact (ih k).mp h
  · rw [List.mem_append, List.mem_append, ih]
theorem keysOf_nd : ∀ L : List Str, (keysOf L).Nodup := by
  refine list_snoc_ind List.nodup_nil fun L z ih => ?_
  rw [keysOf_snoc]
  unfold addKey
  split
  · exact ih
  · rename_i h
    rw [List.nodup_append]
    exact ⟨ih, by simp, fun a ha b hb e => h (by rw [← List.mem_singleton.mp hb, ← e]; exact ha)⟩
theorem foldS_snoc (L : SD) (x : Str × Int) : foldS (L ++ [x]) = addS (foldS L) x.1 x.2 := by unfold foldS; rw [List.foldl_append]; rfl
theorem foldS_keys : ∀ L : SD, (foldS L).map (·.1) = keysOf (L.map (·.1)) := by
  refine list_snoc_ind rfl fun L x ih => ?_
  rw [foldS_snoc, List.map_append]
  show (putS _ _ _).map _ = keysOf (_ ++ [x.1])
  rw [putS_keys, ih, keysOf_snoc]
theorem sumK_snoc (L : SD) (x : Str × Int) (k : Str) : sumK (L ++ [x]) k = sumK L k + (if x.1 = k then x.2 else 0) := by
  unfold sumK
  rw [List.filter_append, List.map_append, List.sum_append]
  by_cases h : x.1 = k
  · rw [List.filter_cons_of_pos (by simpa using h), if_pos h]
    simp
  · rw [List.filter_cons_of_neg (by simpa using h), if_neg h]
    simp
theorem sumK_app (L M : SD) (k : Str) : sumK (L ++ M) k = sumK L k + sumK M k := by
  unfold sumK
  rw [List.filter_append, List.map_append, List.sum_append]
theorem foldS_look : ∀ (L : SD) (k : Str), lookS (foldS L) k = if k ∈ L.map (·.1) then some (sumK L k) else none := fun L => by
  revert L
  refine list_snoc_ind (fun k => by simp [foldS, lookS]) fun L x ih k => ?_
  rw [foldS_snoc]
  unfold addS
  rw [putS_look, ih, ih, sumK_snoc, List.map_append, List.map_singleton]
  by_cases h : k = x.1
  · subst h
    rw [if_pos rfl, if_pos (List.mem_append_right _ (List.mem_singleton_self _)), if_pos rfl]
    congr 1
    by_cases g : x.1 ∈ L.map (·.1)
    · rw [if_pos g]; rfl
    · rw [if_neg g]
      have : sumK L x.1 = 0 := by
        unfold sumK
        rw [List.filter_eq_nil_iff.mpr fun y hy => by
          simp
          intro e
          exact g (List.mem_map.mpr ⟨y, hy, e⟩)]
        rfl
      rw [this]
      rfl
  · rw [if_neg h, if_neg (show ¬ x.1 = k from fun e => h e.symm), Int.add_zero]
    by_cases g : k ∈ L.map (·.1)
    · rw [if_pos g, if_pos (List.mem_append_left _ g)]
    · rw [if_neg g, if_neg fun z => by
        rcases List.mem_append.mp z with z | z
        · exact g z
        · exact h (List.mem_singleton.mp z)]
theorem foldS_eq (L : SD) : foldS L = (keysOf (L.map (·.1))).map fun k => (k, sumK L k) := by
  have nd : ((foldS L).map (·.1)).Nodup := by rw [foldS_keys]; exact keysOf_nd _
  have e := sd_of_look nd
  rw [foldS_keys] at e
  rw [e]
  refine List.map_congr_left fun k hk => ?_
  rw [foldS_look, if_pos ((mem_keysOf _ _).mp hk)]
  rfl
theorem keysOf_sub : ∀ (M L : List Str), (∀ k ∈ M, k ∈ L) → keysOf (L ++ M) = keysOf L := by
  refine list_snoc_ind (fun L _ => by rw [List.append_nil]) fun M z ih L h => ?_
  rw [← List.append_assoc, keysOf_snoc, ih L fun k hk => h k (List.mem_append_left _ hk)]
  unfold addKey
  rw [if_pos ((mem_keysOf _ _).mpr (h z (List.mem_append_right _ (List.mem_singleton_self z))))]
theorem sumK_perm {L M : SD} (p : L.Perm M) (k : Str) : sumK L k = sumK M k := perm_sum ((p.filter _).map _)
/-! a piece is paid no earlier than its purchase -/
theorem addP_keys {P : Pd} {z : Int × Int} {c : Int} : ∀ y ∈ (addP P z c).map (·.1), y ∈ P.map (·.1) ∨ y = z := fun y hy => by
  unfold addP at hy
  rw [putP_keys] at hy
  split at hy
  · exact .inl hy
  · rcases List.mem_append.mp hy with h | h
    · exact .inl h
    · exact .inr (List.mem_singleton.mp h)
theorem foldP_keys (d : Int) : ∀ (L : List (Int × Int)) (P : Pd), ∀ y ∈ (L.foldl (fun P x => addP P (x.1, d) x.2) P).map (·.1), y ∈ P.map (·.1) ∨ y.2 = d
  | [], P, y, h => .inl h
  | x :: L, P, y, h => by
    rcases foldP_keys d L (addP P (x.1, d) x.2) y h with h | h
    · rcases addP_keys y h with h | h
      · exact .inl h
      · exact .inr (by rw [h])
    · exact .inr h
def AftP (rs : List CR) (P : Pd) : Prop := ∀ z ∈ P.map (·.1), ∀ r, rs[z.1.toNat]? = some r → r.day ≤ z.2
theorem acOf_after {ks : List Str} (rk : Str → Int) : ∀ rs : List CR, VR ks rs → AftP rs (acOf rk rs).P := by
  refine list_snoc_ind (fun _ z h => by simp [acOf_nil] at h) fun rs r ih hv => ?_
  have hv0 : VR ks rs := by
    have := hv.take rs.length
    rwa [List.take_left] at this
  have hd := (VR.days _ hv).2
  have hl : lastDay (rs ++ [r]) = r.day := lastDay_snoc rs r
  obtain ⟨pk, _⟩ := acOf_paid rk (M := lastDay rs) rs hv0 fun x hx => ((VR.days _ hv0).2 x hx)
  have old : AftP (rs ++ [r]) (acOf rk rs).P := fun z hz x hx => by
    obtain ⟨p, hp, rfl⟩ := List.mem_map.mp hz
    have := pk.at' p hp
    rw [List.getElem?_append_left (by omega)] at hx
    exact ih hv0 _ hz x hx
  rw [acOf_snoc]
  cases r with
  | buy d k c => exact old
  | pay d c =>
    intro z hz x hx
    rcases foldP_keys d _ _ z hz with h | h
    · exact old z h x hx
    · have := (hd x (List.mem_of_getElem? hx)).2
      rw [hl] at this
      rw [h]
      exact this
theorem settle_after {ks : List Str} (rk : Str → Int) {rs : List CR} {e : Int} (hv : VR ks rs) (he : lastDay rs ≤ e) : AftP rs (settle rk rs e) := fun z hz x hx => by
  rcases foldP_keys e _ _ z hz with h | h
  · exact acOf_after rk rs hv z h x hx
  · have := ((VR.days _ hv).2 x (List.mem_of_getElem? hx)).2
    omega
/-! what is open by kinds -/
def goneP (P : Pd) (i d : Int) : Int := ((P.filter fun p => decide (p.1.1 = i ∧ p.1.2 ≤ d)).map (·.2)).sum
def opF (rs : List CR) (P : Pd) (d : Int) (j : Nat) : Option (Str × Int) := match rs[j]? with
  | some (.buy d' k c) => if d' ≤ d then some (k, c - goneP P j d) else none
  | _ => none
def openL (rs : List CR) (P : Pd) (d : Int) (n : Nat) : SD := (List.range n).filterMap (opF rs P d)
def kindAt (rs : List CR) (z : Int) : Str := match rs[z.toNat]? with
  | some (.buy _ k _) => k
  | _ => Str.empty
def ngF (rs : List CR) (d : Int) (t : Tri) : Option (Str × Int) := if t.2.1 ≤ d then some (kindAt rs t.1, -t.2.2) else none
theorem goneP_nil (i d : Int) : goneP [] i d = 0 := rfl
theorem goneP_cons (p : (Int × Int) × Int) (P : Pd) (i d : Int) : goneP (p :: P) i d = (if p.1.1 = i ∧ p.1.2 ≤ d then p.2 else 0) + goneP P i d := by
  unfold goneP
  by_cases h : p.1.1 = i ∧ p.1.2 ≤ d
  · rw [List.filter_cons_of_pos (by simpa using h), if_pos h, List.map_cons, List.sum_cons]
  · rw [List.filter_cons_of_neg (by simpa using h), if_neg h, Int.zero_add]
theorem openL_succ (rs : List CR) (P : Pd) (d : Int) (n : Nat) : openL rs P d (n + 1) = openL rs P d n ++ (opF rs P d n).toList := by
  unfold openL
  rw [List.range_succ, List.filterMap_append]
  cases h : opF rs P d n <;> simp [h]
theorem openL_kinds (rs : List CR) (P P' : Pd) (d : Int) : ∀ n : Nat, (openL rs P d n).map (·.1) = (openL rs P' d n).map (·.1)
  | 0 => rfl
  | n + 1 => by
    rw [openL_succ, openL_succ, List.map_append, List.map_append, openL_kinds rs P P' d n]
    congr 1
    unfold opF
    split
    · split <;> rfl
    · rfl
/-- each piece lies at a purchase -/
def Lies (rs : List CR) (p : (Int × Int) × Int) : Prop := 0 ≤ p.1.1 ∧ p.1.1 < rs.length ∧ ∃ d k c, rs[p.1.1.toNat]? = some (.buy d k c) ∧ d ≤ p.1.2
theorem openL_sumQ (rs : List CR) (d : Int) (q : Str → Bool) : ∀ (P : Pd), (∀ p ∈ P, Lies rs p) → sumQ (openL rs P d rs.length) q = sumQ (openL rs [] d rs.length) q - ((P.filter fun p => decide (p.1.2 ≤ d ∧ q (kindAt rs p.1.1) = true)).map (·.2)).sum
  | [], _ => by simp
  | p :: P, h => by
    have ih := openL_sumQ rs d q P fun y hy => h y (List.mem_cons_of_mem _ hy)
    obtain ⟨h0, h1, d', k', c', hr, hd⟩ := h p (List.mem_cons_self ..)
    have hk : kindAt rs p.1.1 = k' := by unfold kindAt; rw [hr]
    have step : ∀ n : Nat, sumQ (openL rs (p :: P) d n) q = sumQ (openL rs P d n) q - (if p.1.1 < (n : Int) ∧ p.1.2 ≤ d ∧ q k' = true then p.2 else 0) := fun n => by
      induction n with
      | zero =>
        rw [if_neg (by omega)]
        show sumQ [] q = sumQ [] q - 0
        omega
      | succ n ihn =>
        rw [openL_succ, openL_succ, sumQ_app, sumQ_app, ihn, Int.natCast_add]
        by_cases e : p.1.1 = (n : Int)
        · have er : rs[n]? = some (.buy d' k' c') := by rw [← hr, e]; rfl
          have o1 : opF rs (p :: P) d n = if d' ≤ d then some (k', c' - goneP (p :: P) n d) else none := by unfold opF; rw [er]
          have o2 : opF rs P d n = if d' ≤ d then some (k', c' - goneP P n d) else none := by unfold opF; rw [er]
          rw [o1, o2, goneP_cons, if_neg (show ¬ (p.1.1 < (n : Int) ∧ p.1.2 ≤ d ∧ q k' = true) from fun z => by have := z.1; omega)]
          by_cases g : d' ≤ d
          · rw [if_pos g, if_pos g]
            show _ + sumQ [(k', _)] q = _ + sumQ [(k', _)] q - _
            have one : ∀ v : Int, sumQ [(k', v)] q = if q k' = true then v else 0 := fun v => by
              have := sumQ_snoc [] (k', v) q
              rw [List.nil_append] at this
              rw [this]
              show sumQ [] q + _ = _
              rw [show sumQ [] q = 0 from rfl, Int.zero_add]
            rw [one, one]
            by_cases g2 : q k' = true
            · rw [if_pos g2, if_pos g2]
              by_cases g3 : p.1.2 ≤ d
              · rw [if_pos ⟨e, g3⟩, if_pos ⟨by omega, g3, g2⟩]
                omega
              · rw [if_neg fun z => g3 z.2, if_neg fun z => g3 z.2.1]
                omega
            · rw [if_neg g2, if_neg g2, if_neg fun z => g2 z.2.2]
              omega
          · rw [if_neg g, if_neg g, if_neg (by omega)]
            show _ + sumQ [] q = _ + sumQ [] q - 0
            omega
        · have o : opF rs (p :: P) d n = opF rs P d n := by
            unfold opF
            have ge : goneP (p :: P) n d = goneP P n d := by rw [goneP_cons, if_neg (show ¬ (p.1.1 = (n : Int) ∧ p.1.2 ≤ d) from fun z => e z.1), Int.zero_add]
            rw [ge]
          rw [o]
          have : (p.1.1 < (n : Int) + ((1 : Nat) : Int) ∧ p.1.2 ≤ d ∧ q k' = true) ↔ (p.1.1 < (n : Int) ∧ p.1.2 ≤ d ∧ q k' = true) := ⟨fun z => ⟨by omega, z.2⟩, fun z => ⟨by omega, z.2⟩⟩
          by_cases g : p.1.1 < (n : Int) ∧ p.1.2 ≤ d ∧ q k' = true
          · rw [if_pos g, if_pos (this.mpr g)]
            omega
          · rw [if_neg g, if_neg fun z => g (this.mp z)]
            omega
    rw [step, ih]
    by_cases g : p.1.2 ≤ d ∧ q (kindAt rs p.1.1) = true
    · rw [List.filter_cons_of_pos (by simpa using g), List.map_cons, List.sum_cons, if_pos ⟨h1, g.1, by rw [← hk]; exact g.2⟩]
      omega
    · rw [List.filter_cons_of_neg (by simpa using g), if_neg fun z => g ⟨z.2.1, by rw [hk]; exact z.2.2⟩]
      omega
theorem openL_sum (rs : List CR) (d : Int) (k : Str) (P : Pd) (h : ∀ p ∈ P, Lies rs p) : sumK (openL rs P d rs.length) k = sumK (openL rs [] d rs.length) k - ((P.filter fun p => decide (p.1.2 ≤ d ∧ kindAt rs p.1.1 = k)).map (·.2)).sum := by
  have := openL_sumQ rs d (fun z => decide (z = k)) P h
  simp only [decide_eq_true_eq] at this
  exact this
theorem openL_has {rs : List CR} {P : Pd} {d d' c : Int} {k : Str} : ∀ {n i : Nat}, i < n → rs[i]? = some (.buy d' k c) → d' ≤ d → k ∈ (openL rs P d n).map (·.1) := fun {n i} hi hr hd => by
  unfold openL
  refine List.mem_map.mpr ⟨(k, c - goneP P i d), List.mem_filterMap.mpr ⟨i, List.mem_range.mpr hi, ?_⟩, rfl⟩
  unfold opF
  rw [hr]
  exact if_pos hd
/-- the program's dict is the law's one -/
theorem own_eq {rs : List CR} {P : Pd} {d : Int} (nd : (P.map (·.1)).Nodup) (h : ∀ p ∈ P, Lies rs p) : foldS (openL rs [] d rs.length ++ (piecesL P).filterMap (ngF rs d)) = foldS (openL rs P d rs.length) := by
  rw [foldS_eq, foldS_eq, List.map_append, keysOf_sub, openL_kinds rs [] P d]
  · refine List.map_congr_left fun k _ => ?_
    rw [sumK_app, openL_sum rs d k P h, sumK_perm ((piecesL_perm nd).filterMap _)]
    congr 1
    have : ∀ P : Pd, sumK ((P.map fun p => (p.1.1, p.1.2, p.2)).filterMap (ngF rs d)) k = -((P.filter fun p => decide (p.1.2 ≤ d ∧ kindAt rs p.1.1 = k)).map (·.2)).sum := fun P => by
      induction P with
      | nil => rfl
      | cons p P ih =>
        rw [List.map_cons, List.filterMap_cons]
        by_cases g : p.1.2 ≤ d
        · rw [show ngF rs d (p.1.1, p.1.2, p.2) = some (kindAt rs p.1.1, -p.2) from if_pos g]
          show sumK ([(kindAt rs p.1.1, -p.2)] ++ (P.map fun p => (p.1.1, p.1.2, p.2)).filterMap (ngF rs d)) k = _
          rw [sumK_app, ih]
          have := sumK_snoc [] (kindAt rs p.1.1, -p.2) k
          rw [List.nil_append] at this
          rw [this, show sumK [] k = 0 from rfl, Int.zero_add]
          by_cases g2 : kindAt rs p.1.1 = k
          · rw [List.filter_cons_of_pos (by simpa using ⟨g, g2⟩), List.map_cons, List.sum_cons, if_pos g2]
            show -p.2 + _ = _
            omega
          · rw [List.filter_cons_of_neg (by simp [g2]), if_neg g2]
            omega
        · rw [show ngF rs d (p.1.1, p.1.2, p.2) = none from if_neg g, List.filter_cons_of_neg (by simp [g])]
          exact ih
    rw [this]
    rfl
  · intro k hk
    obtain ⟨x, hx, rfl⟩ := List.mem_map.mp hk
    obtain ⟨t, ht, he⟩ := List.mem_filterMap.mp hx
    obtain ⟨p, hp, rfl⟩ := List.mem_map.mp ((piecesL_perm nd).mem_iff.mp ht)
    obtain ⟨h0, h1, d', k', c', hr, hd⟩ := h p hp
    unfold ngF at he
    split at he
    · rename_i g
      obtain rfl := Option.some.inj he
      have hk : kindAt rs p.1.1 = k' := by unfold kindAt; rw [hr]
      show kindAt rs p.1.1 ∈ _
      rw [hk]
      exact openL_has (i := p.1.1.toNat) (by omega) hr (Int.le_trans hd g)
    · cases he
/-! what is shown -/
def valS (t : SD) (k : Str) : Int := (lookS t k).getD 0
def shownS (t : SD) : SD := ((srtS (t.map (·.1))).filter fun k => decide (0 < valS t k)).map fun k => (k, valS t k)
theorem keys_total : ∀ L : SD, ((keysOf (L.map (·.1))).map fun k => sumK L k).sum = (L.map (·.2)).sum := by
  refine list_snoc_ind rfl fun L x ih => ?_
  rw [List.map_append, List.map_append, List.sum_append, ← ih]
  show ((keysOf (_ ++ [x.1])).map _).sum = _
  rw [keysOf_snoc]
  have e : ∀ ks : List Str, ks.Nodup → (ks.map fun k => sumK (L ++ [x]) k).sum = (ks.map fun k => sumK L k).sum + (if x.1 ∈ ks then x.2 else 0) := fun ks => by
    induction ks with
    | nil => intro _; rfl
    | cons k ks ih =>
      intro nd
      rw [List.nodup_cons] at nd
      simp only [List.map_cons, List.sum_cons]
      rw [ih nd.2, sumK_snoc]
      by_cases h : x.1 = k
      · have : x.1 ∉ ks := by rw [h]; exact nd.1
        rw [if_pos h, if_neg this, if_pos (by rw [h]; exact List.mem_cons_self ..)]
        omega
      · rw [if_neg h]
        by_cases g : x.1 ∈ ks
        · rw [if_pos g, if_pos (List.mem_cons_of_mem _ g)]
          omega
        · rw [if_neg g, if_neg fun z => by
            rcases List.mem_cons.mp z with z | z
            · exact h z
            · exact g z]
          omega
  have hx : ([x].map (·.2)).sum = x.2 := by simp
  rw [hx]
  unfold addKey
  split
  · rename_i h
    rw [e _ (keysOf_nd _), if_pos h]
  · rename_i h
    rw [List.map_append, List.sum_append, e _ (keysOf_nd _), if_neg h]
    have z : sumK L x.1 = 0 := by
      unfold sumK
      rw [List.filter_eq_nil_iff.mpr fun y hy => by
        intro e
        have e := of_decide_eq_true e
        exact h ((mem_keysOf _ _).mpr (List.mem_map.mpr ⟨y, hy, e⟩))]
      rfl
    simp only [List.map_cons, List.map_nil, List.sum_cons, List.sum_nil]
    rw [sumK_snoc, z, if_pos rfl]
    omega
theorem valS_fold (L : SD) (k : Str) (h : k ∈ L.map (·.1)) : valS (foldS L) k = sumK L k := by
  unfold valS
  rw [foldS_look, if_pos h]
  rfl
theorem sumK_nonneg {L : SD} (h : ∀ x ∈ L, 0 ≤ x.2) (k : Str) : 0 ≤ sumK L k := by
  unfold sumK
  induction L with
  | nil => exact Int.le_refl _
  | cons x L ih =>
    have := ih fun y hy => h y (List.mem_cons_of_mem _ hy)
    have hx := h x (List.mem_cons_self ..)
    rw [List.filter_cons]
    split
    · rw [List.map_cons, List.sum_cons]
      omega
    · exact this
theorem shown_sum {L : SD} (h : ∀ x ∈ L, 0 ≤ x.2) : ((shownS (foldS L)).map (·.2)).sum = (L.map (·.2)).sum := by
  rw [← keys_total L]
  unfold shownS
  rw [List.map_map, foldS_keys]
  have e : ∀ ks : List Str, (∀ k ∈ ks, k ∈ L.map (·.1)) → ((ks.filter fun k => decide (0 < valS (foldS L) k)).map ((·.2) ∘ fun k => (k, valS (foldS L) k))).sum = (ks.map fun k => sumK L k).sum := fun ks => by
    induction ks with
    | nil => intro _; rfl
    | cons k ks ih =>
      intro hk
      have ih := ih fun y hy => hk y (List.mem_cons_of_mem _ hy)
      have hv := valS_fold L k (hk k (List.mem_cons_self ..))
      have h0 := sumK_nonneg h k
      by_cases g : 0 < valS (foldS L) k
      · rw [List.filter_cons_of_pos (by simpa using g), List.map_cons, List.sum_cons, ih, List.map_cons, List.sum_cons]
        show valS (foldS L) k + _ = _
        rw [hv]
      · rw [List.filter_cons_of_neg (by simpa using g), ih, List.map_cons, List.sum_cons]
        omega
  rw [e _ fun k hk => (mem_keysOf _ _).mp ((srtS_perm _).mem_iff.mp hk)]
  exact perm_sum ((srtS_perm _).map _)
theorem shown_none {L : SD} (h : ∀ x ∈ L, x.2 = 0) : shownS (foldS L) = [] := by
  unfold shownS
  rw [List.map_eq_nil_iff, List.filter_eq_nil_iff]
  intro k hk
  rw [foldS_keys] at hk
  rw [valS_fold L k ((mem_keysOf _ _).mp ((srtS_perm _).mem_iff.mp hk))]
  have : sumK L k = 0 := by
    unfold sumK
    clear hk
    induction L with
    | nil => rfl
    | cons x L ih =>
      have := ih fun y hy => h y (List.mem_cons_of_mem _ hy)
      have hx := h x (List.mem_cons_self ..)
      rw [List.filter_cons]
      split
      · rw [List.map_cons, List.sum_cons, this, hx]
        rfl
      · exact this
  rw [this]
  simp
/-! the entries -/
theorem goneP_le {P : Pd} (h : ∀ p ∈ P, 1 ≤ p.2) (i d : Int) : 0 ≤ goneP P i d ∧ goneP P i d ≤ sumAt P i := by
  induction P with
  | nil => exact ⟨Int.le_refl _, Int.le_refl _⟩
  | cons p P ih =>
    obtain ⟨h1, h2⟩ := ih fun q hq => h q (List.mem_cons_of_mem _ hq)
    have hp := h p (List.mem_cons_self ..)
    rw [goneP_cons, sumAt_cons]
    by_cases g : p.1.1 = i
    · rw [if_pos g]
      split <;> omega
    · rw [if_neg fun z => g z.1, if_neg g]
      omega
theorem goneP_all {P : Pd} {e : Int} (h : ∀ p ∈ P, p.1.2 ≤ e) (i : Int) {d : Int} (hd : e ≤ d) : goneP P i d = sumAt P i := by
  induction P with
  | nil => rfl
  | cons p P ih =>
    have := ih fun q hq => h q (List.mem_cons_of_mem _ hq)
    have hp := h p (List.mem_cons_self ..)
    rw [goneP_cons, sumAt_cons, this]
    congr 1
    by_cases g : p.1.1 = i
    · rw [if_pos g, if_pos ⟨g, by omega⟩]
    · rw [if_neg g, if_neg fun z => g z.1]
theorem openL_mem {rs : List CR} {P : Pd} {d : Int} {n : Nat} {x : Str × Int} (h : x ∈ openL rs P d n) : ∃ (j : Nat) (d' c : Int), j < n ∧ rs[j]? = some (.buy d' x.1 c) ∧ d' ≤ d ∧ x.2 = c - goneP P j d := by
  unfold openL at h
  obtain ⟨j, hj, e⟩ := List.mem_filterMap.mp h
  unfold opF at e
  split at e
  · rename_i d' k c hr
    split at e
    · rename_i g
      obtain rfl := Option.some.inj e
      exact ⟨j, d', c, List.mem_range.mp hj, hr, g, rfl⟩
    · cases e
  · cases e
theorem Fin.lies {ks : List Str} {rk : Str → Int} {rs : List CR} {e : Int} (fn : Fin rk rs e) (hv : VR ks rs) (he : lastDay rs ≤ e) : ∀ p ∈ settle rk rs e, Lies rs p := fun p hp => by
  have hm : (p.1.1, p.1.2, p.2) ∈ piecesL (settle rk rs e) := (piecesL_perm fn.ok.nd).mem_iff.mpr (List.mem_map.mpr ⟨p, hp, rfl⟩)
  obtain ⟨d, kn, n, h1, h2, h3⟩ := piece_buy fn hv hm
  have ha := fn.ok.at' p hp
  exact ⟨ha.1, ha.2, d, kn, n, h1, settle_after rk hv he p.1 (List.mem_map.mpr ⟨p, hp, rfl⟩) _ h1⟩
theorem Fin.open_nonneg {rk : Str → Int} {rs : List CR} {e d : Int} (fn : Fin rk rs e) {n : Nat} : ∀ x ∈ openL rs (settle rk rs e) d n, 0 ≤ x.2 ∧ x.2 ≤ 1000000 * 1000000 := fun x hx => by
  obtain ⟨j, d', c, _, hr, _, e2⟩ := openL_mem hx
  have hs := fn.sum j
  unfold boughtAt at hs
  rw [hr] at hs
  have hg := goneP_le (P := settle rk rs e) fn.ok.pos (j : Int) d
  have hb : sumAt (settle rk rs e) j ≤ 1000000 * 1000000 := by
    have hl := fn.len
    rw [← pieces_sum fn.ok.nd]
    have : ∀ l : List Tri, (∀ t ∈ l, t.2.2 ≤ 1000000) → (l.map (·.2.2)).sum ≤ 1000000 * (l.length : Int) := fun l => by
      induction l with
      | nil => intro _; decide
      | cons t l ih =>
        intro h
        have := ih fun y hy => h y (List.mem_cons_of_mem _ hy)
        have := h t (List.mem_cons_self ..)
        simp only [List.map_cons, List.sum_cons, List.length_cons, Int.natCast_add]
        omega
    have h1 := this ((piecesL (settle rk rs e)).filter fun t => decide (t.1 = (j : Int))) fun t ht => (fn.sml t (List.mem_filter.mp ht).1).2.2.2
    have h2 := List.length_filter_le (fun t : Tri => decide (t.1 = (j : Int))) (piecesL (settle rk rs e))
    omega
  rw [hs] at hg hb
  have hg : 0 ≤ goneP (settle rk rs e) j d ∧ goneP (settle rk rs e) j d ≤ c := hg
  have hb : c ≤ 1000000 * 1000000 := hb
  omega
theorem Fin.open_end {rk : Str → Int} {rs : List CR} {e d : Int} (fn : Fin rk rs e) (hd : e ≤ d) {n : Nat} : ∀ x ∈ openL rs (settle rk rs e) d n, x.2 = 0 := fun x hx => by
  obtain ⟨j, d', c, _, hr, _, e2⟩ := openL_mem hx
  have hs := fn.sum j
  unfold boughtAt at hs
  rw [hr] at hs
  rw [e2, goneP_all (fun p hp => (fn.ok.dy p hp).2) _ hd]
  have hs : sumAt (settle rk rs e) j = c := hs
  omega
theorem bought_open (rs : List CR) (d : Int) : ∀ n : Nat, n ≤ rs.length → boughtBy (rs.take n) d = ((openL rs [] d n).map (·.2)).sum
  | 0, _ => by simp [boughtBy, openL]
  | n + 1, h => by
    have hn : rs[n]? = some rs[n] := List.getElem?_eq_getElem (by omega)
    have ih := bought_open rs d n (by omega)
    rw [take_more hn, boughtBy_snoc, ih, openL_succ, List.map_append, List.sum_append]
    congr 1
    unfold opF
    rw [hn]
    cases hr : rs[n] with
    | buy d' k c =>
      show (bbF d (.buy d' k c)).getD 0 = ((if d' ≤ d then some (k, c - goneP [] n d) else none).toList.map (·.2)).sum
      unfold bbF
      by_cases g : d' ≤ d
      · simp [if_pos g, goneP_nil]
      · simp [if_neg g]
    | pay d' c => rfl
theorem open_total {rs : List CR} {P : Pd} {d : Int} (h : ∀ p ∈ P, Lies rs p) : ((openL rs P d rs.length).map (·.2)).sum = boughtBy rs d - paidBy P d := by
  have h1 := openL_sumQ rs d (fun _ => true) P h
  have h2 := bought_open rs d rs.length (Nat.le_refl _)
  rw [List.take_length] at h2
  have f : ∀ L : SD, sumQ L (fun _ => true) = (L.map (·.2)).sum := fun L => by
    unfold sumQ
    rw [List.filter_eq_self.mpr fun _ _ => rfl]
  rw [f, f, ← h2] at h1
  rw [h1]
  unfold paidBy paidL
  simp only [and_true]
end Wp
set_option Elab.async false
set_option linter.all false
set_option maxRecDepth 100000
set_option maxHeartbeats 4000000
/-! Dicts from texts to ints, on the heap. -/
namespace Wp
open PySem PySem.Spec PyProof.Rows L2
def encS (t : SD) : List (Key × V) := t.map fun p => (Sum.inr p.1, V.int p.2)
theorem valV_encS (z : Str) : ∀ t : SD, valV (encS t) (Sum.inr z : Key) = (lookS t z).map V.int
  | [] => rfl
  | (k, c) :: r => by
    have := valV_encS z r
    show valV ((Sum.inr k, V.int c) :: encS r) (Sum.inr z : Key) = (lookS ((k, c) :: r) z).map V.int
    rw [lookS_cons]
    by_cases h : k = z
    · rw [if_pos h, valV_pos (by rw [h])]
      rfl
    · rw [if_neg h, valV_neg (fun e => h (Sum.inr.inj e)), this]
theorem encS_any (z : Str) : ∀ t : SD, ((encS t).any fun kv => decide (kv.1 = (Sum.inr z : Key))) = t.any fun p => decide (p.1 = z)
  | [] => rfl
  | (k, c) :: r => by
    have := encS_any z r
    show (decide ((Sum.inr k : Key) = Sum.inr z) || (encS r).any _) = (decide (k = z) || r.any _)
    rw [this]
    congr 1
    exact decide_eq_decide.mpr ⟨fun e => Sum.inr.inj e, fun e => by rw [e]⟩
theorem putK_encS (t : SD) (z : Str) (c : Int) : putK (encS t) (Sum.inr z : Key) (.int c) = encS (putS t z c) := by
  unfold putK putS
  rw [encS_any]
  split
  · unfold encS
    rw [List.map_map, List.map_map]
    refine List.map_congr_left fun p _ => ?_
    show (if (Sum.inr p.1 : Key) = Sum.inr z then (Sum.inr p.1, V.int c) else (Sum.inr p.1, V.int p.2)) = (Sum.inr (if p.1 = z then (p.1, c) else p).1, V.int (if p.1 = z then (p.1, c) else p).2)
    by_cases h : p.1 = z
    · rw [if_pos (by rw [h]), if_pos h]
    · rw [if_neg (fun e => h (Sum.inr.inj e)), if_neg h]
  · unfold encS
    rw [List.map_append]
    rfl
theorem encS_keys (t : SD) : (encS t).map (·.1) = (t.map (·.1)).map (Sum.inr : Str → Key) := by
  unfold encS
  rw [List.map_map, List.map_map]
  rfl
theorem encS_len (t : SD) : (encS t).length = t.length := List.length_map _
section
variable {K : PySem.W.Frag} {H : Hp} {Q : VK} {D : Ends} {σ : L2.St} {a : Addr} {t : SD} {z : Str} {c j : Int} {ty tx tv : TE} {rd : V → V → Hp → VK → Prop}
theorem r_kDGetSS (h : H a = some (.dK (encS t))) (e : lookS t z = some c) (q : Q (.int c) H) : kDGet Q (.ref a) (.str z) H := r_kDGetS h (by rw [valV_encS, e]; rfl) q
theorem r_kDPutSS (h : H a = some (.dK (encS t))) (hz : t.length < 1000000) (q : ∀ H', But a H H' → H' a = some (.dK (encS (putS t z c))) → D.nx σ H') : kDPut D σ (.int c) (.ref a) (.str z) H :=
  r_kDPutS h (by rw [encS_len]; exact hz) fun H' b h' => q H' b (by rw [← putK_encS]; exact h')
theorem r_kDGet2S (h : H a = some (.dK (encS t))) (q : Q (.int ((lookS t z).getD j)) H) : kDGet2z a Q (.str z) (.int j) H := by
  refine ⟨(lookS t z).map V.int, .inl ⟨encS t, Sum.inr z, .inl h, rfl, (valV_encS z t).symm⟩, ?_⟩
  revert q
  cases lookS t z <;> exact id
end
end Wp
set_option Elab.async false
set_option linter.all false
set_option maxRecDepth 100000
set_option maxHeartbeats 4000000
/-! Dicts from texts to ints. -/
namespace Wp
open PySem PySem.Spec PyProof.Rows L2
section
variable {K : PySem.W.Frag} {H : Hp} {Q : VK} {D : Ends} {σ : L2.St} {a : Addr} {t : SD} {z : Str} {c j : Int} {ty tx tv : TE} {rd : V → V → Hp → VK → Prop}
theorem r_kDAugSS (h : H a = some (.dK (encS t))) (e : lookS t z = some c) (q : tv σ H fun y2 H3 => rd (.int c) y2 H3 (kDAug2 a (.str z) D σ)) : kDAugY tv rd D σ (.ref a) (.str z) H :=
  ⟨a, .int c, rfl, .inl ⟨_, Sum.inr z, .inl h, rfl, by rw [valV_encS, e]; rfl⟩, q⟩
theorem r_kDAug2SS (h : H a = some (.dK (encS t))) (hz : t.length < 1000000) (q : ∀ H', But a H H' → H' a = some (.dK (encS (putS t z c))) → D.nx σ H') : kDAug2 a (.str z) D σ (.int c) H :=
  ⟨_, .inl ⟨encS t, Sum.inr z, h, rfl, sz6 (by rw [encS_len]; exact hz), rfl⟩, q _ But.upd (by rw [← putK_encS]; exact upd_same)⟩
/-! pairs of a text and an int -/
inductive SIs (H : Hp) : List V → SD → Prop
  | nil : SIs H [] []
  | cons {p : Addr} {x : Str × Int} {vs : List V} {ps : SD} : H p = some (.tup [.str x.1, .int x.2]) → SIs H vs ps → SIs H (.ref p :: vs) (x :: ps)
theorem SIs.keep {H H' : Hp} {vs : List V} {ps : SD} (h : SIs H vs ps) (e : ∀ t xs, H t = some (.tup xs) → H' t = some (.tup xs)) : SIs H' vs ps := by
  induction h with
  | nil => exact .nil
  | cons h _ ih => exact .cons (e _ _ h) ih
theorem SIs.snoc {H : Hp} {vs : List V} {ps : SD} {p : Addr} {x : Str × Int} (h : SIs H vs ps) (ht : H p = some (.tup [.str x.1, .int x.2])) : SIs H (vs ++ [.ref p]) (ps ++ [x]) := by
  induction h with
  | nil => exact .cons ht .nil
  | cons h _ ih => exact .cons h ih
theorem SIs.len {H : Hp} {vs : List V} {ps : SD} (h : SIs H vs ps) : vs.length = ps.length := by
  induction h with
  | nil => rfl
  | cons _ _ ih => simp [ih]
theorem SIs.get {H : Hp} {vs : List V} {ps : SD} (h : SIs H vs ps) : ∀ {i : Nat} {x : V}, vs[i]? = some x → ∃ p r, x = .ref p ∧ ps[i]? = some r ∧ H p = some (.tup [.str r.1, .int r.2]) := by
  induction h with
  | nil => intro i x e; simp at e
  | @cons p r vs ps h _ ih =>
    intro i x e
    cases i with
    | zero => exact ⟨p, r, (Option.some.inj e).symm, rfl, h⟩
    | succ i =>
      obtain ⟨p', r', h1, h2, h3⟩ := ih (i := i) (by simpa using e)
      exact ⟨p', r', h1, by simpa using h2, h3⟩
def encSI (x : Str × Int) : PyData := .tuple [.str x.1, .int x.2]
theorem SIs.dp {vs : List V} {ps : SD} (h : SIs H vs ps) : DpAll K H vs (ps.map encSI) := by
  induction h with
  | nil => exact .nil
  | cons h _ ih => exact .cons (.tup (SqT.of h) (.cons (.str _) (.cons (.int _) .nil))) ih
theorem SIs.of_items : ∀ {ts : List Addr} {t : SD}, Paired (fun (t : Addr) (q : Key × V) => H t = some (.tup [kV q.1, q.2])) ts (encS t) → SIs H (ts.map V.ref) t
  | [], [], _ => .nil
  | _ :: _, (a, b) :: r, .cons h hr => .cons h (of_items hr)
theorem r_kItemsS (h : H a = some (.dK (encS t))) (q : ∀ p ws H', H p = none → Same H H' → H' p = some (.lst ws) → SIs H' ws t → Q (.ref p) H') : kItems Q (.ref a) H :=
  ⟨a, _, rfl, h, fun H' p ts e np _ _ hp hq => q p _ H' np e hp (SIs.of_items hq)⟩
theorem depth_sis : ∀ rs : SD, PyData.depthAll (rs.map encSI) ≤ 2
  | [] => by simp [PyData.depthAll]
  | x :: r => by
    have := depth_sis r
    show max (PyData.depth (encSI x)) (PyData.depthAll (r.map encSI)) ≤ 2
    have h : PyData.depth (encSI x) ≤ 2 := by simp [encSI, PyData.depth, PyData.depthAll]
    omega
theorem sm_sis : ∀ {ps : SD}, (∀ p ∈ ps, NameOk p.1 ∧ p.2.natAbs < 10 ^ 60) → smAll (ps.map encSI) = true ∧ wzAll (ps.map encSI) ≤ 260 * ps.length
  | [], _ => ⟨rfl, by simp [wzAll]⟩
  | r :: rs, h => by
    obtain ⟨h1, h2⟩ := sm_sis fun r' hr' => h r' (List.mem_cons_of_mem _ hr')
    obtain ⟨a1, a2⟩ := h r (List.mem_cons_self ..)
    obtain ⟨n1, n2⟩ := sm_nameC a1
    constructor
    · rw [List.map_cons, smAll_cons, h1, Bool.and_true]
      simp only [encSI, smI, smAll_cons]
      simp only [smI] at n1
      rw [n1, decide_eq_true a2]
      simp [smAll]
    · have n3 : r.1.cps.size ≤ 8 := n2
      rw [List.map_cons]
      simp only [encSI, wzAll, wz, List.length_cons]
      omega
theorem r_reprSI {p : Addr} {ws : List V} {ps : SD} (h : SqL K H p ws) (hr : SIs H ws ps) (ok : ∀ p ∈ ps, NameOk p.1 ∧ p.2.natAbs < 10 ^ 60) (hz : ps.length ≤ 1000) (q : Q (.str (PyData.list (ps.map encSI)).shown) H) : rRepr K [.ref p] H Q := by
  obtain ⟨h1, h2⟩ := sm_sis ok
  have h3 := depth_sis ps
  refine r_repr (d := .list (ps.map encSI)) (.lst h hr.dp) ?_ ?_ ?_ q
  · simp only [smI]
    exact h1
  · show PyData.depthAll (ps.map encSI) + 1 ≤ 60
    omega
  · simp only [wz]
    omega
end
end Wp
set_option Elab.async false
set_option linter.all false
set_option maxRecDepth 100000
set_option maxHeartbeats 4000000
/-! repr of a list of two: a dict from texts to ints, and data without dicts. -/
namespace Wp
open PySem PySem.Spec PyProof.Rows L2
def encKI (t : SD) : List (PyData × PyData) := t.map fun p => (.str p.1, .int p.2)
def dxD (t : SD) (d : PyData) : PyData := .list [.dict (encKI t), d]
section
variable {P : Program} {w : World} {h : Heap}
theorem reads_pairs : ∀ {t : SD} {vs : List (Key × Value)} {es : List DictEntry}, KV (encS t) vs → Pairs (mixKind P w) es vs → ReadsAll h (es.map (·.key)) ((encKI t).map (·.1)) [] ∧ ReadsAll h (es.map (·.val)) ((encKI t).map (·.2)) []
  | [], vs, es, hk, hp => by
    have hk : Paired _ [] vs := hk
    cases hk
    cases hp
    exact ⟨.nil, .nil⟩
  | (z, c) :: t, vs, es, hk, hp => by
    have hk : Paired (fun (p : Key × V) (q : Key × Value) => p.1 = q.1 ∧ RelV p.2 q.2) ((Sum.inr z, V.int c) :: encS t) vs := hk
    cases hk with
    | @cons _ b _ bs h1 h2 =>
      cases hp with
      | @cons e _ es _ g1 g2 g3 =>
        obtain ⟨k, v⟩ := b
        obtain ⟨e1, r1⟩ := h1
        have e1 : (Sum.inr z : Key) = k := e1
        subst e1
        obtain ⟨tk, r1⟩ := r1
        have r1 : v = .int c tk := r1
        subst r1
        have g1 : keyIs (Sum.inr z) e.key = true := g1
        have g2 : e.val = .int c tk := g2
        obtain ⟨i1, i2⟩ := reads_pairs (t := t) (vs := bs) (es := es) h2 g3
        rcases keyIs_shape g1 with ⟨i, t', q1, q2⟩ | ⟨x, t', q1, q2⟩
        · cases q1
        · cases q1
          constructor
          · show ReadsAll h (e.key :: es.map (·.key)) (.str z :: (encKI t).map (·.1)) ([] ++ [])
            rw [q2]
            exact .cons (Reads.str z t') i1
          · show ReadsAll h (e.val :: es.map (·.val)) (.int c :: (encKI t).map (·.2)) ([] ++ [])
            rw [g2]
            exact .cons (Reads.int c tk) i2
theorem reads_dictS {a : Addr} {t : SD} {vs : List (Key × Value)} (hk : KV (encS t) vs) (hd : h.DictOf (mixKind P w) a vs) : Reads h (.ref a) (.dict (encKI t)) [a] := by
  obtain ⟨o, es, ep, ho, hx, hdt, _, hp, _⟩ := hd
  obtain ⟨h1, h2⟩ := reads_pairs hk hp
  have z : Reads h (.ref a) (.dict (encKI t)) (a :: [] ++ []) := Reads.dict ho hx.1 hdt h1 h2
  exact z
end
theorem depthKv_ki : ∀ t : SD, PyData.depthKv (encKI t) = 0
  | [] => by simp [encKI, PyData.depthKv]
  | p :: t => by
    have := depthKv_ki t
    show max (max (PyData.depth (.str p.1)) (PyData.depth (.int p.2))) (PyData.depthKv (encKI t)) = 0
    rw [this]
    simp [PyData.depth]
theorem show_int {i : Int} (h : i.natAbs < 10 ^ 60) : (PyData.int i).showable = true :=
  (show_sm (.int i) (by simp only [smI]; exact decide_eq_true h)).1
theorem show_ki : ∀ t : SD, (∀ p ∈ t, p.2.natAbs < 10 ^ 60) → PyData.showableKv (encKI t) = true
  | [], _ => by simp [encKI, PyData.showableKv]
  | p :: t, h => by
    show (PyData.showable (.str p.1) && PyData.showable (.int p.2) && PyData.showableKv (encKI t)) = true
    rw [show_ki t fun q hq => h q (List.mem_cons_of_mem _ hq), show_int (h p (List.mem_cons_self ..))]
    simp [PyData.showable]
theorem shown_ki : ∀ t : SD, (∀ p ∈ t, NameOk p.1 ∧ p.2.natAbs < 10 ^ 60) → piled (PyData.shownKv (encKI t)) ≤ 170 * t.length
  | [], _ => by simp [encKI, PyData.shownKv, piled]
  | p :: t, h => by
    have ih := shown_ki t fun q hq => h q (List.mem_cons_of_mem _ hq)
    obtain ⟨a1, a2⟩ := h p (List.mem_cons_self ..)
    obtain ⟨n1, n2⟩ := sm_nameC a1
    have n3 : p.1.cps.size ≤ 8 := n2
    have e1 := shown_wz (.str p.1) n1
    have e2 := shown_wz (.int p.2) (by simp only [smI]; exact decide_eq_true a2)
    simp only [wz] at e1 e2
    show piled ((PyData.shown (.str p.1) ++ ": " ++ PyData.shown (.int p.2)) :: PyData.shownKv (encKI t)) ≤ _
    rw [piled_cons, strLen_append, strLen_append, List.length_cons]
    have e3 : (": " : Str).length = 2 := by decide +kernel
    omega
theorem dictText_len (ps : List Str) : (dictText ps).length ≤ piled ps + 2 := by
  have e : (dictText ps).length = 1 + (Str.join ", " ps).length + 1 := by
    unfold dictText
    rw [strLen_append, strLen_append]
    rfl
  by_cases h : ps = []
  · subst h
    rw [e]
    have : (Str.join ", " ([] : List Str)).length = 0 := by decide +kernel
    omega
  · have h2 := join_length_add ps h
    omega
def rReprDX (K : PySem.W.Frag) : List V → Hp → VK → Prop := fun xs H Q => ∃ (p da : Addr) (y : V) (t : SD) (d : PyData), xs = [.ref p] ∧ SqL K H p [.ref da, y] ∧ H da = some (.dK (encS t)) ∧ Dp K H y d ∧ d.showable = true ∧ d.hasDict = false ∧ d.depth ≤ 50 ∧
  (∀ k ∈ t, k.2.natAbs < 10 ^ 60) ∧ (dxD t d).shown.length ≤ sizeLine ∧ Q (.str (dxD t d).shown) H
theorem c_reprDX {X : Cx} {K : PySem.W.Frag} {k : Nat} (h : X.K = K) (hG : X.A.guards = some []) (hr : Room k X.A) : CallR X (.builtin "repr") (rReprDX K) := by
  subst h
  intro pins s σ H xs us Q I r h
  obtain ⟨p, da, y, t, d, rfl, hp, hda, hy, hs, hnd, hdep, hint, hlen, q⟩ := h
  obtain ⟨u, rfl, ru⟩ := vals1 r
  obtain rfl : u = Value.ref p := ru
  obtain ⟨its, rv, ⟨o, n, ho, hc, _, hdt⟩, _⟩ := I.list hp
  cases rv with
  | @cons _ u1 _ its r1 rv =>
    cases rv with
    | @cons _ u2 _ its r2 rv =>
      cases rv
      obtain rfl : u1 = Value.ref da := r1
      obtain ⟨z, lo, vs, rk, hd⟩ := (show ObjOk X.prog X.w H s.heap da (.dK (encS t)) from I.hok da _ hda)
      have R1 : Reads s.heap (.ref da) (.dict (encKI t)) [da] := reads_dictS rk hd
      obtain ⟨as, R2⟩ := Dp.reads I d y u2 hy r2
      have RA : ReadsAll s.heap [.ref da, u2] [.dict (encKI t), d] ([da] ++ (as ++ [])) := .cons R1 (.cons R2 .nil)
      have RL : Reads s.heap (.ref p) (.list [.dict (encKI t), d]) (p :: ([da] ++ (as ++ []))) := .list ho hc hdt RA
      have hz' : (listText (PyData.shownAll [.dict (encKI t), d])).length ≤ sizeLine := by simpa only [dxD, PyData.shown] using hlen
      have hne : sysModules ∉ [da] := by
        intro hm
        rw [List.mem_singleton] at hm
        rw [hm] at lo
        simp at lo
      have dk : PyData.depth (.dict (encKI t)) = 1 := by
        simp only [PyData.depth]
        rw [depthKv_ki]
      obtain ⟨b1, m1, k1⟩ := ReprK.of_reads (prog := X.prog) (w := X.w) R1 (by simp only [PyData.showable]; exact show_ki t hint) (fun _ => hne) (Nat.le_trans (listText_mem_le (by simp [PyData.shownAll])) hz')
      obtain ⟨b2, m2, k2⟩ := ReprK.of_reads (prog := X.prog) (w := X.w) R2 hs (PyData.noDict_hsm hnd) (Nat.le_trans (listText_mem_le (by simp [PyData.shownAll])) hz')
      rw [dk] at m1 k1
      have hm : ReadAtMost s.heap (max 1 d.depth) (b1 ++ b2) := (m1.mono (Nat.le_max_left ..)).append (m2.mono (Nat.le_max_right ..))
      have dl : PyData.depth (.list [.dict (encKI t), d]) = max 1 d.depth + 1 := by
        simp only [PyData.depth, PyData.depthAll]
        rw [depthKv_ki]
        omega
      have hna : p ∉ b1 ++ b2 := not_mem_of_deeper RL (by rw [dl]; omega) hm
      have hu : X.A.units + (max 1 d.depth + 2) < cLine := by
        have := hr.units
        omega
      have hk : ReprAllK X.prog X.w (b1 ++ b2) s.heap (max 1 d.depth) [.ref da, u2] (PyData.shownAll [.dict (encKI t), d]) :=
        .cons ((k1.more fun b hb => List.mem_append_left _ hb).level_le (Nat.le_max_left ..)) (.cons ((k2.more fun b hb => List.mem_append_right _ hb).level_le (Nat.le_max_right ..)) .nil)
      refine call_repr_slot (T := "list") (idr := "list.__repr__") (by omega) ⟨o, ho, hc⟩ F.slot_list_repr.toG ?_
      refine call_list_reprK ho hc hdt hna (by simpa using hk.length_eq) (fun i y e => hk.item i y (by simpa using e)) (g := []) hG (fun b _ => Clear.nil b) (by show X.A.units + 1 + (max 1 d.depth + 1) < cLine; omega) (fun _ _ e => e) (fun h' t2 tk kp => ⟨_, _, rfl, ⟨.str (dxD t d).shown, H, I.kept kp, ⟨t2, by simp only [dxD, PyData.shown]⟩, q⟩⟩) hz'
section
variable {K : PySem.W.Frag} {H : Hp} {Q : VK} {p da : Addr} {y : V} {t : SD} {d : PyData}
theorem r_reprDX (hp : H p = some (.lst [.ref da, y])) (hda : H da = some (.dK (encS t))) (hy : Dp K H y d) (hsm : smI d = true) (hd : d.depth ≤ 50) (hw : wz d ≤ 10000000) (ok : ∀ p ∈ t, NameOk p.1 ∧ p.2.natAbs < 10 ^ 60) (hl : t.length ≤ 1000) (q : Q (.str (dxD t d).shown) H) : rReprDX K [.ref p] H Q := by
  obtain ⟨e1, e2⟩ := show_sm d hsm
  refine ⟨p, da, y, t, d, rfl, SqL.of hp, hda, hy, e1, e2, hd, fun k hk => (ok k hk).2, ?_, q⟩
  have h1 := shown_ki t ok
  have h2 := shown_wz d hsm
  have h3 := dictText_len (PyData.shownKv (encKI t))
  have e : (dxD t d).shown = listText [dictText (PyData.shownKv (encKI t)), d.shown] := by simp only [dxD, PyData.shown, PyData.shownAll]
  have h4 := listText_len_le [dictText (PyData.shownKv (encKI t)), d.shown]
  rw [e, sizeLine_eq]
  simp only [List.map_cons, List.map_nil, List.sum_cons, List.sum_nil, List.length_cons, List.length_nil] at h4
  omega
end
end Wp
set_option Elab.async false
set_option linter.all false
set_option maxRecDepth 100000
set_option maxHeartbeats 4000000
/-! Values of any kind, told by data: their types, their numbers, their repr (dicts as well). -/
namespace Wp
open PySem PySem.Spec PyProof.Rows L2 LamX
/-- an address is none of the draws' two -/
def away (st l : Addr) : Addr → Prop := fun a => a ≠ st ∧ a ≠ l
def keyD : Key → PyData
  | .inl i => .int i
  | .inr s => .str s
mutual
/-- the value v is told by d; its containers stand where A allows -/
inductive Od (A : Addr → Prop) (H : Hp) : V → PyData → Prop
  | non : Od A H .non .none
  | bl (b : Bool) : Od A H (.bl b) (.bool b)
  | int (i : Int) : Od A H (.int i) (.int i)
  | str (z : Str) : Od A H (.str z) (.str z)
  | lst {p : Addr} {xs : List V} {ds : List PyData} : A p → H p = some (.lst xs) → OdAll A H xs ds → Od A H (.ref p) (.list ds)
  | tup {p : Addr} {xs : List V} {ds : List PyData} : A p → H p = some (.tup xs) → OdAll A H xs ds → Od A H (.ref p) (.tuple ds)
  | dK {p : Addr} {kvs : List (Key × V)} {ps : List (PyData × PyData)} : A p → H p = some (.dK kvs) → OdKv A H kvs ps → Od A H (.ref p) (.dict ps)
inductive OdAll (A : Addr → Prop) (H : Hp) : List V → List PyData → Prop
  | nil : OdAll A H [] []
  | cons {v : V} {d : PyData} {vs : List V} {ds : List PyData} : Od A H v d → OdAll A H vs ds → OdAll A H (v :: vs) (d :: ds)
inductive OdKv (A : Addr → Prop) (H : Hp) : List (Key × V) → List (PyData × PyData) → Prop
  | nil : OdKv A H [] []
  | cons {k : Key} {v : V} {d : PyData} {kvs : List (Key × V)} {ps : List (PyData × PyData)} : Od A H v d → OdKv A H kvs ps → OdKv A H ((k, v) :: kvs) ((keyD k, d) :: ps)
end
/-- containers stay -/
structure DKp (A B : Addr → Prop) (H H' : Hp) : Prop where
  a : ∀ p, H p ≠ none → A p → B p
  l : ∀ p xs, A p → H p = some (.lst xs) → H' p = some (.lst xs)
  t : ∀ p xs, A p → H p = some (.tup xs) → H' p = some (.tup xs)
  d : ∀ p kvs, A p → H p = some (.dK kvs) → H' p = some (.dK kvs)
theorem Od.keep {A B : Addr → Prop} {H H' : Hp} (e : DKp A B H H') {v : V} {d : PyData} (h : Od A H v d) : Od B H' v d := by
  refine Od.rec (motive_1 := fun v d _ => Od B H' v d) (motive_2 := fun vs ds _ => OdAll B H' vs ds) (motive_3 := fun kvs ps _ => OdKv B H' kvs ps) .non .bl .int .str ?_ ?_ ?_ .nil ?_ .nil ?_ h
  · intro p xs ds ha hp _ ih
    exact .lst (e.a _ (by rw [hp]; simp) ha) (e.l _ _ ha hp) ih
  · intro p xs ds ha hp _ ih
    exact .tup (e.a _ (by rw [hp]; simp) ha) (e.t _ _ ha hp) ih
  · intro p kvs ps ha hp _ ih
    exact .dK (e.a _ (by rw [hp]; simp) ha) (e.d _ _ ha hp) ih
  · intro v d vs ds _ _ h1 h2
    exact .cons h1 h2
  · intro k v d kvs ps _ _ h1 h2
    exact .cons h1 h2
theorem OdAll.keep {A B : Addr → Prop} {H H' : Hp} (e : DKp A B H H') : ∀ {vs : List V} {ds : List PyData}, OdAll A H vs ds → OdAll B H' vs ds
  | _, _, .nil => .nil
  | _, _, .cons h r => .cons (h.keep e) (OdAll.keep e r)
theorem DKp.same {A : Addr → Prop} {H H' : Hp} (e : Same H H') : DKp A A H H' := ⟨fun _ _ h => h, fun p _ _ h => e p _ h, fun p _ _ h => e p _ h, fun p _ _ h => e p _ h⟩
theorem DKp.ext {A : Addr → Prop} {H H' : Hp} (e : ExtN H H') : DKp A A H H' := ⟨fun _ _ h => h, fun p _ _ h => e p _ h (fun ps z => by cases z), fun p _ _ h => e p _ h (fun ps z => by cases z), fun p _ _ h => e p _ h (fun ps z => by cases z)⟩
theorem DKp.but {A : Addr → Prop} {H H' : Hp} {a : Addr} (e : But a H H') (n : ∀ p, H p ≠ none → A p → p ≠ a) : DKp A A H H' :=
  ⟨fun _ _ h => h, fun p _ ha h => e p _ h (n p (by rw [h]; simp) ha), fun p _ ha h => e p _ h (n p (by rw [h]; simp) ha), fun p _ ha h => e p _ h (n p (by rw [h]; simp) ha)⟩
def tyD : PyData → String
  | .none => "NoneType"
  | .bool _ => "bool"
  | .int _ => "int"
  | .str _ => "str"
  | .list _ => "list"
  | .tuple _ => "tuple"
  | .dict _ => "dict"
def tyNames : List String := ["NoneType", "bool", "int", "str", "list", "tuple", "dict"]
theorem tyD_in (d : PyData) : tyD d ∈ tyNames := by cases d <;> simp [tyD, tyNames]
theorem Od.ty {K : PySem.W.Frag} {A : Addr → Prop} {H : Hp} {v : V} {d : PyData} (h : Od A H v d) : TyX K H v (.type (tyD d)) := by
  cases h with
  | non => exact .base .non
  | bl b => exact .base (.bl b)
  | int i => exact .base (.int i)
  | str z => exact .base (.str z)
  | lst _ h _ => exact .base (.lst h)
  | tup _ h _ => exact .base (.tup h)
  | dK _ h _ => exact .base (.dK h)
def numD : PyData → Option Int
  | .int i => some i
  | _ => none
theorem Od.num {K : PySem.W.Frag} {A : Addr → Prop} {H : Hp} {v : V} {d : PyData} (h : Od A H v d) : NumV K H v (numD d) := by
  have t := h.ty (K := K)
  cases h with
  | non => exact .no (b1 := false) (b2 := false) (t := .type "NoneType") t (kit_ty (a := "NoneType") (by decide +kernel)) (kit_ty (a := "NoneType") (by decide +kernel)) rfl
  | bl b => exact .no (b1 := true) (b2 := true) (t := .type "bool") t (kit_ty (a := "bool") (by decide +kernel)) (kit_ty (a := "bool") (by decide +kernel)) rfl
  | int i => exact .int i
  | str z => exact .no (b1 := false) (b2 := false) (t := .type "str") t (kit_ty (a := "str") (by decide +kernel)) (kit_ty (a := "str") (by decide +kernel)) rfl
  | lst _ h _ => exact .no (b1 := false) (b2 := false) (t := .type "list") t (kit_ty (a := "list") (by decide +kernel)) (kit_ty (a := "list") (by decide +kernel)) rfl
  | tup _ h _ => exact .no (b1 := false) (b2 := false) (t := .type "tuple") t (kit_ty (a := "tuple") (by decide +kernel)) (kit_ty (a := "tuple") (by decide +kernel)) rfl
  | dK _ h _ => exact .no (b1 := false) (b2 := false) (t := .type "dict") t (kit_ty (a := "dict") (by decide +kernel)) (kit_ty (a := "dict") (by decide +kernel)) rfl
theorem NumV.eq {K : PySem.W.Frag} {H : Hp} {v : V} {i : Int} (h : NumV K H v (some i)) : v = .int i := by
  cases h with
  | int => rfl
/-- no value of these kinds is one of the class at C -/
def noKitB (K : PySem.W.Frag) (C : Addr) : Bool := tyNames.all fun n => decide (PySem.W.kitOne K (.type n) (.ref C) = some false)
theorem noKit_ok {K : PySem.W.Frag} {C : Addr} (h : noKitB K C = true) (d : PyData) : PySem.W.kitOne K (.type (tyD d)) (.ref C) = some false := of_decide_eq_true (List.all_eq_true.mp h _ (tyD_in d))
/-! ### repr -/
/-- sys.modules stands as a dict -/
def sysB (K : PySem.W.Frag) : Bool := match K.lookup sysModules with
  | some ⟨_, _, .dict _ _, _⟩ => true
  | _ => false
theorem sysB_ok {K : PySem.W.Frag} {h : Heap} (b : sysB K = true) (X : K.In h) : ∃ o es n, h.get? sysModules = some o ∧ o.data = .dict es n := by
  unfold sysB at b
  split at b
  · rename_i c d es n sl e
    exact ⟨_, _, _, X _ _ e, rfl⟩
  · cases b
section
variable {X : Cx} {pins : List (Addr × Obj)} {σ : L2.St} {H : Hp} {s : Shared} {A : Addr → Prop}
theorem Od.reads (I : Inv X pins σ H s) (hs : sysB X.K = true) {v : V} {d : PyData} (h : Od A H v d) : ∀ u, RelV v u → ∃ as, Reads s.heap u d as ∧ sysModules ∉ as := by
  obtain ⟨so, ses, sn, so1, so2⟩ := sysB_ok hs I.kIn
  have ne : ∀ {p : Addr} {o : Obj} {us : Array Value} {n : Nat}, s.heap.get? p = some o → o.data = .seq us n → sysModules ≠ p := fun {p o us n} h1 h2 z => by
    rw [← z, so1] at h1
    cases h1
    rw [so2] at h2
    cases h2
  refine Od.rec (motive_1 := fun v d _ => ∀ u, RelV v u → ∃ as, Reads s.heap u d as ∧ sysModules ∉ as) (motive_2 := fun vs ds _ => ∀ us, Vals vs us → ∃ as, ReadsAll s.heap us ds as ∧ sysModules ∉ as)
    (motive_3 := fun kvs ps _ => ∀ (vs : List (Key × Value)) (es : List DictEntry), KV kvs vs → Pairs (mixKind X.prog X.w) es vs → ReadsAll s.heap (es.map (·.key)) (ps.map (·.1)) [] ∧ ∃ bs, ReadsAll s.heap (es.map (·.val)) (ps.map (·.2)) bs ∧ sysModules ∉ bs)
    ?_ ?_ ?_ ?_ ?_ ?_ ?_ ?_ ?_ ?_ ?_ h
  · intro u r
    cases r
    exact ⟨_, .none, by simp⟩
  · intro b u r
    cases r
    exact ⟨_, .bool b, by simp⟩
  · intro i u r
    obtain ⟨t, rfl⟩ := r
    exact ⟨_, .int i t, by simp⟩
  · intro z u r
    obtain ⟨t, rfl⟩ := r
    exact ⟨_, .str z t, by simp⟩
  · intro p xs ds _ hp _ ih u r
    obtain rfl : u = Value.ref p := r
    obtain ⟨its, rv, ⟨o, n, ho, hc, _, hdt⟩, _⟩ := I.list (SqL.of hp)
    obtain ⟨as, h1, h2⟩ := ih its rv
    exact ⟨_, .list ho hc hdt h1, fun z => (List.mem_cons.mp z).elim (ne ho hdt) h2⟩
  · intro p xs ds _ hp _ ih u r
    obtain rfl : u = Value.ref p := r
    obtain ⟨its, rv, ⟨o, ho, hc, n, hdt⟩, _⟩ := I.tuple (SqT.of hp)
    obtain ⟨as, h1, h2⟩ := ih its rv
    exact ⟨_, .tuple ho hc hdt h1, h2⟩
  · intro p kvs ps _ hp _ ih u r
    obtain rfl : u = Value.ref p := r
    obtain ⟨_, lo, vs, rk, o, es, ep, ho, hx, hdt, _, hpr, _⟩ := (show ObjOk X.prog X.w H s.heap p (.dK kvs) from I.hok p _ hp)
    obtain ⟨h1, bs, h2, h3⟩ := ih vs _ rk hpr
    refine ⟨_, .dict ho hx.1 hdt h1 h2, fun z => ?_⟩
    rcases List.mem_append.mp z with z | z
    · rw [List.mem_singleton] at z
      rw [← z] at lo
      simp at lo
    · exact h3 z
  · intro us r
    cases r
    exact ⟨_, .nil, by simp⟩
  · intro v d vs ds _ _ h1 h2 us r
    cases r with
    | cons r rs =>
      obtain ⟨as, a1, a2⟩ := h1 _ r
      obtain ⟨bs, b1, b2⟩ := h2 _ rs
      exact ⟨_, .cons a1 b1, fun z => (List.mem_append.mp z).elim a2 b2⟩
  · intro vs es hk hp
    have hk : Paired _ [] vs := hk
    cases hk
    cases hp
    exact ⟨.nil, _, .nil, by simp⟩
  · intro k v d kvs ps _ _ h1 h2 vs es hk hp
    have hk : Paired (fun (p : Key × V) (q : Key × Value) => p.1 = q.1 ∧ RelV p.2 q.2) ((k, v) :: kvs) vs := hk
    cases hk with
    | @cons _ b _ bs e1 e2 =>
      cases hp with
      | @cons e _ es _ g1 g2 g3 =>
        obtain ⟨k', v'⟩ := b
        obtain ⟨q1, r1⟩ := e1
        have q1 : k = k' := q1
        subst q1
        obtain ⟨i1, cs, i2, i3⟩ := h2 bs es e2 g3
        obtain ⟨as, a1, a2⟩ := h1 _ r1
        have g1 : keyIs k e.key = true := g1
        have g2 : e.val = v' := g2
        refine ⟨?_, as ++ cs, ?_, fun z => (List.mem_append.mp z).elim a2 i3⟩
        · rcases keyIs_shape g1 with ⟨i, t', w1, w2⟩ | ⟨x, t', w1, w2⟩
          · subst w1
            show ReadsAll s.heap (e.key :: es.map (·.key)) (.int i :: ps.map (·.1)) ([] ++ [])
            rw [w2]
            exact .cons (Reads.int i t') i1
          · subst w1
            show ReadsAll s.heap (e.key :: es.map (·.key)) (.str x :: ps.map (·.1)) ([] ++ [])
            rw [w2]
            exact .cons (Reads.str x t') i1
        · show ReadsAll s.heap (e.val :: es.map (·.val)) (d :: ps.map (·.2)) (as ++ cs)
          rw [g2]
          exact .cons a1 i2
end
def rReprQ (K : PySem.W.Frag) : List V → Hp → VK → Prop := fun xs H Q => ∃ (A : Addr → Prop) (v : V) (d : PyData), xs = [v] ∧ Od A H v d ∧ d.showable = true ∧ d.depth ≤ 60 ∧ d.shown.length ≤ sizeLine ∧ Q (.str d.shown) H
theorem c_reprQ {X : Cx} {K : PySem.W.Frag} {k : Nat} (h : X.K = K) (hs : sysB K = true) (hG : X.A.guards = some []) (hr : Room k X.A) : CallR X (.builtin "repr") (rReprQ K) := by
  subst h
  intro pins s σ H xs us Q I r h
  obtain ⟨A, v, d, rfl, hd, hsh, hdep, hlen, q⟩ := h
  obtain ⟨u, rfl, ru⟩ := vals1 r
  have hu : X.A.units + (d.depth + 1) < cLine := by
    have := hr.units
    omega
  obtain ⟨as, rd, nm⟩ := hd.reads I hs u ru
  cases rd with
  | none => exact PySem.P.repr_of_none ⟨.str _, H, I.tok _, ⟨_, rfl⟩, q⟩
  | bool b => exact PySem.P.repr_of_bool ⟨.str _, H, I.tok _, ⟨_, rfl⟩, q⟩
  | int i t => exact PySem.P.repr_of_int (of_decide_eq_true hsh) ⟨.str _, H, I.tok _, ⟨_, rfl⟩, q⟩
  | str z t => exact PySem.P.repr_of_str ⟨.str _, H, I.tok _, ⟨_, rfl⟩, q⟩ hlen
  | list h1 h2 h3 h4 => exact repr_of_reads' (.list h1 h2 h3 h4) hsh (fun _ => nm) hG hu (fun _ _ z => z) (fun h' t2 tk kp => ⟨.str _, H, I.kept kp, ⟨_, rfl⟩, q⟩) hlen
  | tuple h1 h2 h3 h4 => exact repr_of_reads' (.tuple h1 h2 h3 h4) hsh (fun _ => nm) hG hu (fun _ _ z => z) (fun h' t2 tk kp => ⟨.str _, H, I.kept kp, ⟨_, rfl⟩, q⟩) hlen
  | dict h1 h2 h3 h4 h5 => exact repr_of_reads' (.dict h1 h2 h3 h4 h5) hsh (fun _ => nm) hG hu (fun _ _ z => z) (fun h' t2 tk kp => ⟨.str _, H, I.kept kp, ⟨_, rfl⟩, q⟩) hlen
theorem r_reprQ {K : PySem.W.Frag} {A : Addr → Prop} {H : Hp} {Q : VK} {v : V} {d : PyData} (hd : Od A H v d) (h1 : d.showable = true) (h2 : d.depth ≤ 60) (h3 : d.shown.length ≤ sizeLine) (q : Q (.str d.shown) H) : rReprQ K [v] H Q := ⟨A, v, d, rfl, hd, h1, h2, h3, q⟩
/-- data of a small size -/
structure Sml (d : PyData) (n k : Nat) : Prop where
  sh : d.showable = true
  de : d.depth ≤ k
  le : d.shown.length ≤ n
theorem Sml.mono {d : PyData} {n m k j : Nat} (h : Sml d n k) (a : n ≤ m) (b : k ≤ j) : Sml d m j := ⟨h.sh, Nat.le_trans h.de b, Nat.le_trans h.le a⟩
theorem sml_all {n k : Nat} {ds : List PyData} (h : ∀ d ∈ ds, Sml d n k) : PyData.showableAll ds = true ∧ PyData.depthAll ds ≤ k ∧ (PyData.shownAll ds).length = ds.length ∧ ∀ t ∈ PyData.shownAll ds, t.length ≤ n := by
  induction ds with
  | nil => exact ⟨by simp [PyData.showableAll], by simp [PyData.depthAll], by simp [PyData.shownAll], fun t z => by simp [PyData.shownAll] at z⟩
  | cons x l ih =>
    obtain ⟨i1, i2, i3, i4⟩ := ih fun d hd => h d (List.mem_cons_of_mem _ hd)
    have hx := h x (List.mem_cons_self ..)
    refine ⟨by simp only [PyData.showableAll]; rw [hx.sh, i1]; rfl, by simp only [PyData.depthAll]; have := hx.de; omega, by simp only [PyData.shownAll, List.length_cons]; omega, fun t z => ?_⟩
    simp only [PyData.shownAll] at z
    rcases List.mem_cons.mp z with rfl | z
    · exact hx.le
    · exact i4 t z
theorem sum_leN {n : Nat} : ∀ {ts : List Str}, (∀ t ∈ ts, t.length ≤ n) → (ts.map (·.length)).sum ≤ n * ts.length
  | [], _ => by simp
  | t :: ts, h => by
    have h1 := h t (List.mem_cons_self ..)
    have h2 := sum_leN (n := n) (ts := ts) fun x hx => h x (List.mem_cons_of_mem _ hx)
    rw [List.map_cons, List.sum_cons, List.length_cons, Nat.mul_succ]
    omega
theorem Sml.list {n k : Nat} {ds : List PyData} (h : ∀ d ∈ ds, Sml d n k) : Sml (.list ds) (n * ds.length + 2 * ds.length + 3) (k + 1) := by
  obtain ⟨i1, i2, i3, i4⟩ := sml_all h
  refine ⟨by simp only [PyData.showable]; exact i1, by simp only [PyData.depth]; omega, ?_⟩
  simp only [PyData.shown]
  have h1 := listText_len_le (PyData.shownAll ds)
  have h2 := sum_leN i4
  rw [i3] at h1 h2
  omega
theorem Sml.tuple {n k : Nat} {ds : List PyData} (h : ∀ d ∈ ds, Sml d n k) : Sml (.tuple ds) (n * ds.length + 2 * ds.length + 3) (k + 1) := by
  obtain ⟨i1, i2, i3, i4⟩ := sml_all h
  refine ⟨by simp only [PyData.showable]; exact i1, by simp only [PyData.depth]; omega, ?_⟩
  simp only [PyData.shown]
  have h1 := tupleText_len_le (PyData.shownAll ds)
  have h2 := sum_leN i4
  rw [i3] at h1 h2
  omega
theorem Sml.flat {d : PyData} (h : smI d = true) (hd : d.depth = 0) : Sml d (wz d) 0 := ⟨(show_sm d h).1, by omega, shown_wz d h⟩
end Wp
set_option Elab.async false
set_option linter.all false
set_option maxRecDepth 100000
set_option maxHeartbeats 4000000
/-! The law's own call where defs make lambdas: the script and the tables of code objects are what is tracked. -/
namespace Wp
open PySem PySem.Spec PyProof.Rows L2 LamX
section
variable {P : Program} {w : World} {K : PySem.W.Frag} {mg mb : Str → Option Value} {CX : CXT} {k : Nat} {fa a : Addr} {cs : List (Addr × Addr)} {fd : FuncData} {x : Str} {sp : Sp} {s1 : Shared} {us : List Value} {zs : List Int}
/-- the tables' places -/
def tabsOf (cs : List (Addr × Addr)) : List Addr := cs.map (·.2)
/-- what may be tracked at the begin: the script, perhaps, and the tables -/
structure Begin (H : Hp) (a : Addr) (cs : List (Addr × Addr)) : Prop where
  tab : ∀ p ∈ cs, H p.2 = some (.tbl #[])
  only : ∀ b, H b = none ∨ b ∈ tabsOf cs ∨ ∃ o ys, H b = some (.frz o (.lst ys))
  at' : ∀ b, H b ≠ none → b = a ∨ b ∈ tabsOf cs
theorem law_callGT
    (inK : K.In s1.heap) (gl : s1.heap.Ns mainGlobals mg) (bl : s1.heap.Ns builtinsNs mb) (same : ∀ x : Str, x ≠ "__name__" → mb x = bootBuiltins x) (noLim : s1.heap.NoLimit) (gens : s1.gens = #[])
    (hT : ∀ p ∈ cs, s1.heap.get? p.2 = some { cls := .none, data := .fields #[] }) (nT : ∀ p ∈ cs, K.lookup p.2 = none) (hC : ∀ p ∈ cs, PySem.W.CodeHd s1.heap p.1 p.2)
    (hbm : ∃ (bm : Addr) (ob : Obj), mg "__builtins__" = some (.ref bm) ∧ bm ≠ builtinsNs ∧ s1.heap.get? bm = some ob ∧ ob.cls = .type "module" ∧ ob.dict = some builtinsNs ∧ ob.data = .plain)
    (ha : s1.heap.get? a = some { cls := .type "list", data := .seq us.toArray }) (hi : IntsAre us zs) (hl : zs.length ≤ sizeLine) (hr : Room k callerA)
    (F : ∀ base : Heap, K.In base → base.Ns mainGlobals mg → (∀ p ∈ cs, TabB base mg p.1 p.2) → FnG P w K mg base CX k fa fd [x] sp) (bind : ∀ (s : Shared) (u : Value), BindsTo s fd ⟨[u], []⟩ [(x, u)])
    (hsp : ∀ H : Hp, (∀ p ∈ cs, H p.2 = some (.tbl #[])) → SqL K H a (zs.map V.int) → sp [.ref a] H (fun v _ => v = .bl true) fun _ _ _ => False)
    (hCX : ∀ H e s', CX [] H s1 (fun _ _ _ => False) e s' → False) :
    codeAny (model P w) callerA (.call (.ref fa) ⟨[.ref a], []⟩) (fun r s' => r = .ok (.ret (.bool true)) ∧ OldK s1.heap s'.heap ∧ s'.os = s1.os ∧ AllBare s'.gens) s1 := by
  have rel := vals_ints hi
  have tabAt : ∀ b ∈ tabsOf cs, s1.heap.get? b = some { cls := .none, data := .fields #[] } := fun b hb => by
    obtain ⟨p, hp, rfl⟩ := List.mem_map.mp hb
    exact hT p hp
  have aNot : a ∉ tabsOf cs := fun z => by
    have q := tabAt a z
    rw [ha] at q
    have q2 : Data.seq us.toArray _ = Data.fields #[] := congrArg Obj.data (Option.some.inj q)
    cases q2
  have inT : ∀ p ∈ cs, p.2 ∈ tabsOf cs := fun p hp => List.mem_map.mpr ⟨p, hp, rfl⟩
  have go : ∀ H0 : Hp, Begin H0 a cs → SqL K H0 a (zs.map V.int) → HOk P w H0 s1.heap → (H0 a ≠ none → K.lookup a = none) →
      codeAny (model P w) callerA (.call (.ref fa) ⟨[.ref a], []⟩) (fun r s' => r = .ok (.ret (.bool true)) ∧ OldK s1.heap s'.heap ∧ s'.os = s1.os ∧ AllBare s'.gens) s1 := by
    intro H0 B sq hok kA
    -- what is neither the script nor a table is not tracked
    have free : ∀ {b : Addr} {o : Obj}, s1.heap.get? b = some o → (∀ ws n, o.data ≠ .seq ws n) → o.data ≠ .fields #[] → H0 b = none := fun {b o} e h1 h2 => by
      cases q : H0 b with
      | none => rfl
      | some u =>
        rcases B.at' b (by rw [q]; simp) with z | z
        · rw [z, ha] at e
          cases e
          exact absurd rfl (h1 _ _)
        · rw [tabAt b z] at e
          cases e
          exact absurd rfl h2
    have keep : ∀ {b : Addr} {o : Obj}, s1.heap.get? b = some o → (∀ ws n, o.data ≠ .seq ws n) → o.data ≠ .fields #[] → (hidT s1.heap H0).get? b = some o := fun e h1 h2 => hidT_get e (free e h1 h2)
    have nsH : ∀ (b : Addr) (m : Str → Option Value), s1.heap.Ns b m → (hidT s1.heap H0).Ns b m := by
      rintro b m ⟨o, es, ep, e, d, r⟩
      exact ⟨o, es, ep, keep e (fun ws n z => by rw [d] at z; cases z) (fun z => by rw [d] at z; cases z), d, r⟩
    have inH : K.In (hidT s1.heap H0) := by
      intro b o e
      refine hidT_get (inK b o e) ?_
      cases q : H0 b with
      | none => rfl
      | some u =>
        rcases B.at' b (by rw [q]; simp) with z | z
        · subst z
          rw [kA (by rw [q]; simp)] at e
          cases e
        · obtain ⟨p, hp, rfl⟩ := List.mem_map.mp z
          rw [nT p hp] at e
          cases e
    obtain ⟨mc, l1, l2⟩ := noLim
    have md : Mod K mg (hidT s1.heap H0) := ⟨inH, nsH _ _ gl, ⟨mb, nsH _ _ bl, same⟩, ⟨mc, nsH _ _ l1, l2⟩⟩
    have TB : ∀ p ∈ cs, TabB (hidT s1.heap H0) mg p.1 p.2 := fun p hp => by
      refine ⟨?_, ?_, fun z => ?_⟩
      · obtain ⟨o, ws, file, tf, flags, tg, inF, text, tt, e1, r1, r2, r3, r⟩ := hC p hp
        refine ⟨o, ws, file, tf, flags, tg, inF, text, tt, keep e1 (fun vs n z => by rw [r2] at z; cases z) (fun z => ?_), r1, r2, r3, r⟩
        rw [r2] at z
        cases z
        simp at r3
      · obtain ⟨bm, ob, b1, b2, b3, b4, b5, b6⟩ := hbm
        refine ⟨bm, ob, b1, b2, fun z => ?_, fun z => ?_, keep b3 (fun vs n z => by rw [b6] at z; cases z) (fun z => by rw [b6] at z; cases z), b4, b5, b6⟩
        · obtain ⟨o, es, ep, e, hd, _⟩ := gl
          rw [z, e] at b3
          cases b3
          rw [hd] at b6
          cases b6
        · rw [z, hT p hp] at b3
          cases b3
          cases b6
      · obtain ⟨o, es, ep, e, hd, _⟩ := gl
        rw [z, hT p hp] at e
        cases e
        cases hd
    have e0 : Env0 P w K mg (hidT s1.heap H0) callerA [] s1 H0 :=
      ⟨rfl, md, fun b o e => of_hidT e, Nat.le_of_eq (hidT_size _ _), trivial, (fun b hb => nomatch hb), hok, .of_eq gens⟩
    have run := (F _ inH (nsH _ _ gl) TB).run callerA [] s1 H0 ⟨[.ref a], []⟩ [.ref a] [.ref a] _ _ hr rfl e0 (bind s1 (.ref a)) (.cons rfl .nil) (hsp H0 B.tab sq)
    refine codeAny_mono run fun res s2 h => ?_
    cases res with
    | error e => exact (hCX H0 e s2 h).elim
    | ok fl =>
      cases fl with
      | next => exact h.elim
      | brk => exact h.elim
      | cont => exact h.elim
      | ret u =>
        obtain ⟨v, H2, os2, bare2, un, hok2, rv, q⟩ := h
        obtain rfl : v = .bl true := q
        obtain rfl : u = Value.bool true := rv
        have old : ∀ b o, b ∉ tabsOf cs → s1.heap.get? b = some o → s2.heap.get? b = some o := fun b o nb e => by
          rcases B.only b with z | z | ⟨ob, ys, z⟩
          · exact un.keep b o e z (fun y => nomatch y) (fun y => nomatch y)
          · exact absurd z nb
          · obtain ⟨g1, _⟩ := hok b _ z
            obtain ⟨g2, _⟩ := hok2 b _ (un.frzs b ob _ z)
            rw [e] at g1
            cases g1
            exact g2
        have more : ∀ p ∈ cs, ∃ ps : Array Value, s2.heap.get? p.2 = some { cls := .none, data := .fields ps } := fun p hp => by
          obtain ⟨ps, z⟩ := un.tbls p.2 #[] (B.tab p hp)
          exact ⟨_, hok2 p.2 _ z⟩
        refine ⟨rfl, ⟨fun b o e => ?_, fun b o e => ?_⟩, os2, bare2⟩
        · by_cases hb : b ∈ tabsOf cs
          · obtain ⟨p, hp, rfl⟩ := List.mem_map.mp hb
            obtain ⟨ps, hm⟩ := more p hp
            rw [hT p hp] at e
            cases e
            exact .inr (.inl ⟨((hC p hp).tab (hT p hp)).isCodeTable, rfl, #[], ps, rfl, by rw [Array.empty_append]; exact hm⟩)
          · exact .inl (old b o hb e)
        · by_cases hb : b ∈ tabsOf cs
          · obtain ⟨p, hp, rfl⟩ := List.mem_map.mp hb
            obtain ⟨ps, hm⟩ := more p hp
            exact ⟨_, hm⟩
          · exact ⟨o, old b o hb e⟩
  -- the tables, and the script where it is no object of the program's top
  let HT : Hp := fun b => if b ∈ tabsOf cs then some (.tbl #[]) else none
  have ht1 : ∀ b ∈ tabsOf cs, HT b = some (.tbl #[]) := fun b hb => if_pos hb
  have ht2 : ∀ b, b ∉ tabsOf cs → HT b = none := fun b hb => if_neg hb
  have okT : ∀ b u, HT b = some u → ObjOk P w HT s1.heap b u := fun b u e => by
    by_cases hb : b ∈ tabsOf cs
    · rw [ht1 b hb] at e
      cases e
      exact tabAt b hb
    · rw [ht2 b hb] at e
      cases e
  cases hk : K.lookup a with
  | some o =>
    have e := inK a o hk
    rw [ha] at e
    cases e
    refine go HT ⟨fun p hp => ht1 _ (inT p hp), fun b => ?_, fun b z => ?_⟩ (.inr ⟨_, us.toArray, _, hk, rfl, rfl, rfl, by rw [List.size_toArray, hi.length]; exact hl, by simpa using rel⟩) okT (fun z => absurd (ht2 a aNot) z)
    · by_cases hb : b ∈ tabsOf cs
      · exact .inr (.inl hb)
      · exact .inl (ht2 b hb)
    · by_cases hb : b ∈ tabsOf cs
      · exact .inr hb
      · exact absurd (ht2 b hb) z
  | none =>
    let fz : HO := .frz { cls := .type "list", data := .seq us.toArray } (.lst (zs.map V.int))
    have atA : upd HT a fz a = some fz := upd_same
    refine go (upd HT a fz) ⟨fun p hp => ?_, fun b => ?_, fun b z => ?_⟩ (.inl (.inr ⟨_, atA⟩)) (fun b u z => ?_) fun _ => hk
    · rw [upd_ne (fun z => aNot (by rw [← z]; exact inT p hp))]
      exact ht1 _ (inT p hp)
    · by_cases hb : b = a
      · subst hb
        exact .inr (.inr ⟨_, _, atA⟩)
      · rw [upd_ne hb]
        by_cases hb2 : b ∈ tabsOf cs
        · exact .inr (.inl hb2)
        · exact .inl (ht2 b hb2)
    · by_cases hb : b = a
      · exact .inl hb
      · rw [upd_ne hb] at z
        by_cases hb2 : b ∈ tabsOf cs
        · exact .inr hb2
        · exact absurd (ht2 b hb2) z
    · by_cases hb : b = a
      · subst hb
        rw [atA] at z
        cases z
        exact ⟨ha, by rw [List.length_map]; exact hl, us, _, rel, ha⟩
      · rw [upd_ne hb] at z
        by_cases hb2 : b ∈ tabsOf cs
        · rw [ht1 b hb2] at z
          cases z
          exact tabAt b hb2
        · rw [ht2 b hb2] at z
          cases z
end
theorem walk_ofGT {l : PySem.W.OpenLaw} {n k : Nat} {q : Program} {loose : List Str} {XP : (Str → Option Value) → Heap → Prop} {YP : World → Heap → Prop} {d : DefRec} {CX : CXT} {x : Str}
    (hn : l.most = some n) (hn2 : n ≤ sizeLine) (hdf : d.params.defaults = []) (hr : Room k callerA)
    (F : ∀ (w : World) (mg : Str → Option Value) (fa : Addr) (h : Heap), YP w h → h.Ns mainGlobals mg → mg d.name = some (.ref fa) →
      ∃ (K : PySem.W.Frag) (cs : List (Addr × Addr)) (fd : FuncData) (sp : Sp), K.In h ∧ (∀ p ∈ cs, h.get? p.2 = some { cls := .none, data := .fields #[] }) ∧ (∀ p ∈ cs, K.lookup p.2 = none) ∧ (∀ p ∈ cs, PySem.W.CodeHd h p.1 p.2) ∧ (∀ (s : Shared) (u : Value), BindsTo s fd ⟨[u], []⟩ [(x, u)]) ∧
        (∀ (H : Hp) (a : Addr) (ns : List Int), ns.length ≤ n → (∀ p ∈ cs, H p.2 = some (.tbl #[])) → SqL K H a (ns.map V.int) → sp [.ref a] H (fun v _ => v = .bl true) fun _ _ _ => False) ∧
        ∀ base : Heap, K.In base → base.Ns mainGlobals mg → (∀ p ∈ cs, TabB base mg p.1 p.2) → FnG l.prog w K mg base CX k fa fd [x] sp)
    (hCX : ∀ (H : Hp) (s : Shared) (e : Value) (s' : Shared), CX [] H s (fun _ _ _ => False) e s' → False) :
    PySem.W.WalkO q loose XP YP l.row.toRowW d [] (fun f vs => PySem.call f vs) := by
  refine Att.attach_call hn hdf ?_
  intro w s0 s1 mg mb fa o pm cd doc a us zs G Y _ _ _ hmg hobj hints hlen hg
  obtain ⟨K, cs, fd, sp, inK, hT, nT, hC, hb, hsp, hF⟩ := F w mg fa _ Y G.T.g hmg
  exact law_callGT inK G.T.g G.T.b G.T.builtins G.T.nolimit hg hT nT hC G.T.bmain hobj hints (Nat.le_trans hlen hn2) hr hF hb (fun H hH sq => hsp H a zs hlen hH sq) fun H e s2 => hCX H s1 e s2
end Wp
set_option Elab.async false
set_option linter.all false
set_option maxRecDepth 100000
set_option maxHeartbeats 4000000
/-! Defs that make lambdas: their code object is known; tables of code objects are put up with. -/
namespace Wp
open PySem PySem.Spec PyProof.Rows L2 LamX
section
variable {P : Program} {w : World} {K : PySem.W.Frag} {mg : Str → Option Value} {base : Heap} {x qual : Str} {params : Arguments} {body : List Stmt} {scope : Scope} {dvs : List V} {kws : List (Str × V)} {f : Addr} {fd : FuncData}
/-- the code object of the def at f stands at c -/
def CodeAt (K : PySem.W.Frag) (f c : Addr) : Prop := ∀ (oc : Value) (od : Option Addr) (z : FuncData) (osl : Array (Option Value)), K.lookup f = some ⟨oc, od, .func z, osl⟩ → z.code = .ref c
theorem codeAt_of {n : Str} (F : FunD K x qual params body scope dvs kws (He.ga K n) fd) : CodeAt K (He.ga K n) (He.cT K (n, none)).1 := by
  obtain ⟨oc, od, dV, kV, doc, pm, an, cdv, ct, osl, rfl, lk, hcd, _, _⟩ := F.ex
  intro oc' od' z osl' lk'
  rw [lk] at lk'
  cases lk'
  obtain ⟨c, rfl⟩ := He.codeIn_ref hcd
  show Value.ref c = Value.ref (He.codeOf K (n, none))
  rw [He.codeOf_eq (p := (n, none)) lk rfl]
theorem _root_.L2.FunD.okGL {CX : CXT} {N ps : List Str} {k : Nat} {sp : Sp} {c : Addr} (F : FunD K x qual params body scope dvs kws f fd) (hc : CodeAt K f c) (S : FnScope N ps scope)
    (len : ∀ vs H Q E, sp vs H Q E → vs.length = ps.length)
    (hbody : ∀ (A : Around) (outer : List Env) (s : Shared) (H : Hp) (vs : List V) (Q : VK) (E : XK),
      Room k (A.deeper (envOfC qual scope s.heap.objs.size f (.ref c))) → (A.deeper (envOfC qual scope s.heap.objs.size f (.ref c))).guards = some [] → sp vs H Q E →
      ∃ t, PSs (cxOf CX P w K mg base N qual scope f (.ref c) A outer s H E) body t ∧ t { nx := fun _ H' => Q .non H', rt := Q } (L2.start N vs) H) :
    FnG P w K mg base CX (k + 1) f fd ps sp := by
  obtain ⟨oc, od, dV, kV, doc, pm, an, cdv, ct, osl, rfl, lk, hcd, _, _⟩ := F.ex
  obtain rfl : cdv = .ref c := hc _ _ _ _ lk
  refine ⟨len, ?_⟩
  intro A outer s H args us vs Q E hr hg e0 hb r hsp
  have inK : K.In s.heap := e0.mod.kin.keeps fun a ob q => (e0.bs a ob q).1
  have noLim : s.heap.NoLimit := e0.mod.nolimit.keeps fun a ob q => (e0.bs a ob q).1
  refine codeAny_call_function hr.depth (inK _ _ lk) rfl S.co S.gen rfl (PySem.W.codeRec_of inK hcd) (hb _ _ _ _ ?_)
  refine wpAny_newFunctionEnv_cells S.kind (fun y hy => ?_) fun env he s1 inC => ?_
  · rcases S.par y.1 (List.of_mem_zip hy).1 with z | z
    · exact Or.inl z
    · exact Or.inr ⟨z, PySem.W.cellsFrom_some _ _ _ (Or.inl z)⟩
  · subst he
    obtain ⟨t, ht, hq⟩ := hbody A outer s H vs Q E (hr.deeper _) hg hsp
    refine ⟨noLim.keeps inC.toInCall.keep, codeAny_func ?_⟩
    refine wpAny_mono (ht.run [] s1 _ H _ (inv_start S hr.hd e0 (len _ _ _ _ hsp) r inC) hq) (fun fl s2 hs => ?_) fun _ _ z => z
    have z := ends_ok hs
    cases fl <;> first | exact z | exact z.elim
theorem _root_.L2.FunD.okL {CX : CXT} {N ps : List Str} {k : Nat} {sp : Sp} {c : Addr} (F : FunD K x qual params body scope dvs kws f fd) (hc : CodeAt K f c) (S : FnScope N ps scope)
    (len : ∀ vs H Q E, sp vs H Q E → vs.length = ps.length)
    (hbody : ∀ (A : Around) (outer : List Env) (s : Shared) (H : Hp) (vs : List V) (Q : VK) (E : XK), Room k (A.deeper (envOfC qual scope s.heap.objs.size f (.ref c))) → sp vs H Q E →
      ∃ t, PSs (cxOf CX P w K mg base N qual scope f (.ref c) A outer s H E) body t ∧ t { nx := fun _ H' => Q .non H', rt := Q } (L2.start N vs) H) :
    FnOk P w K mg base CX (k + 1) f fd ps sp := by
  obtain ⟨oc, od, dV, kV, doc, pm, an, cdv, ct, osl, rfl, lk, hcd, _, _⟩ := F.ex
  obtain rfl : cdv = .ref c := hc _ _ _ _ lk
  exact fn_of lk hcd S len fun A outer s H vs Q E hr hsp => hbody A outer s H vs Q E hr hsp
end
/-- what the catcher asks of the exception that the work lets out -/
abbrev EC (K : PySem.W.Frag) (CE : Addr) (Q : VK) : XK := fun cls d H' => PySem.W.exmOne K cls (.ref CE) = some true ∧ ∀ a, H' a = none → Q (.ref a) (upd H' a (ExV cls d a))
theorem ExtN.same {H H1 H2 : Hp} (a : ExtN H H1) (b : Same H1 H2) : ExtN H H2 := fun x o h n => b x o (a x o h n)
theorem Same.extN {H H1 H2 : Hp} (a : Same H H1) (b : ExtN H1 H2) : ExtN H H2 := fun x o h n => b x o (a x o h) n
theorem Tabs.same {T : List (Addr × Str)} {H H' : Hp} (t : Tabs T H) (e : Same H H') : Tabs T H' := t.ext fun b o h => e b o h
/-- a table is no other tracked object -/
theorem Tabs.but {T : List (Addr × Str)} {H H' : Hp} {a : Addr} {o : HO} (t : Tabs T H) (ha : H a = some o) (h1 : ∀ ps, o ≠ .tbl ps) (h2 : ∀ c q, o ≠ CodeO c q) (b : But a H H') : Tabs T H' := fun p hp => by
  obtain ⟨ps, e1, e2, e3⟩ := t p hp
  refine ⟨ps, b _ _ e1 (fun z => ?_), e2, fun pos cv hc => ?_⟩
  · rw [z, ha] at e1
    exact h1 ps (Option.some.inj e1)
  · obtain ⟨c, q1, q2⟩ := e3 pos cv hc
    refine ⟨c, q1, b _ _ q2 (fun z => ?_)⟩
    rw [z, ha] at q2
    exact h2 _ _ (Option.some.inj q2)
theorem Tabs.butN {T : List (Addr × Str)} {H H' : Hp} {a : Addr} (t : Tabs T H) (ha : H a = none) (b : But a H H') : Tabs T H' := fun p hp => by
  obtain ⟨ps, e1, e2, e3⟩ := t p hp
  refine ⟨ps, b _ _ e1 (ne_of_none e1 ha), e2, fun pos cv hc => ?_⟩
  obtain ⟨c, q1, q2⟩ := e3 pos cv hc
  exact ⟨c, q1, b _ _ q2 (ne_of_none q2 ha)⟩
end Wp
set_option Elab.async false
set_option linter.all false
set_option maxRecDepth 100000
set_option maxHeartbeats 4000000
/-! What a call lets out: nothing, an own error, an own error with what it keeps. -/
namespace Wp
open PySem PySem.Spec PyProof.Rows L2 LamX
section
variable {P : Program} {w : World} {K : PySem.W.Frag} {mg : Str → Option Value} {base : Heap} {CX : CXT} {k : Nat} {f : Addr} {fd : FuncData} {ps : List Str} {sp sp1 sp2 : Sp}
theorem FnOk.lift (F : FnOk P w K mg base L2.CX0 k f fd ps sp) : FnOk P w K mg base CX k f fd ps sp := ⟨F.len, fun A outer s H args us vs Q E hr e0 hb r h => codeAny_mono (F.run A outer s H args us vs Q E hr e0 hb r h) fun res s2 q => by
  cases res with
  | ok fl => cases fl <;> exact q
  | error e => exact (show False from q).elim⟩
theorem FnOk.two (F : FnOk P w K mg base CX k f fd ps sp1) (G : FnOk P w K mg base CX k f fd ps sp2) : FnOk P w K mg base CX k f fd ps (fun vs H Q E => sp1 vs H Q E ∨ sp2 vs H Q E) :=
  ⟨fun vs H Q E h => h.elim (F.len vs H Q E) (G.len vs H Q E), fun A outer s H args us vs Q E hr e0 hb r h => h.elim (F.run A outer s H args us vs Q E hr e0 hb r) (G.run A outer s H args us vs Q E hr e0 hb r)⟩
theorem FnOk.both {j : Nat} (F : FnOk P w K mg base L2.CX0 j f fd ps sp1) (hj : j ≤ k) (G : FnOk P w K mg base CX k f fd ps sp2) : FnOk P w K mg base CX k f fd ps (fun vs H Q E => sp1 vs H Q E ∨ sp2 vs H Q E) := FnOk.two (FnOk.lift (F.mono hj)) G
end
/-- an outcome: nothing; an own error's name; its field and what it keeps -/
abbrev Wr := Option (Str × Option (Str × V))
def outE (K : PySem.W.Frag) (H : Hp) (Q : VK) (E : XK) : Wr → Prop
  | none => ∀ v H', Same H H' → Q v H'
  | some (c, none) => ∀ H', Same H H' → E (.ref (He.ga K c)) none H'
  | some (c, some (f, v)) => ∀ d H', H d = none → Same H H' → H' d = some (.xd [(f, v)]) → E (.ref (He.ga K c)) (some d) H'
/-- the same, for an error alone -/
def badE (K : PySem.W.Frag) (H : Hp) (E : XK) (c f : Str) (v : V) : Prop := ∀ d H', H d = none → Same H H' → H' d = some (.xd [(f, v)]) → E (.ref (He.ga K c)) (some d) H'
theorem badE.back {K : PySem.W.Frag} {H H1 : Hp} {E : XK} {c f : Str} {v : V} (h : badE K H E c f v) (s : Same H H1) : badE K H1 E c f v := fun d H' n e q => h d H' (s.free n) (s.trans e) q
theorem outE.back {K : PySem.W.Frag} {H H1 : Hp} {Q : VK} {E : XK} {o : Wr} (h : outE K H Q E o) (s : Same H H1) : outE K H1 Q E o := by
  match o, h with
  | none, h => exact fun v H' e => h v H' (s.trans e)
  | some (c, none), h => exact fun H' e => h H' (s.trans e)
  | some (c, some (f, v)), h => exact fun d H' n e q => h d H' (s.free n) (s.trans e) q
/-- what the catcher gives of it -/
inductive ErV (K : PySem.W.Frag) (H : Hp) : V → Wr → Prop
  | ok : ErV K H .non none
  | b {a : Addr} {c : Str} : H a = some (ExV (.ref (He.ga K c)) none a) → ErV K H (.ref a) (some (c, none))
  | f {a d : Addr} {c f : Str} {v : V} : H a = some (ExV (.ref (He.ga K c)) (some d) a) → H d = some (.xd [(f, v)]) → ErV K H (.ref a) (some (c, some (f, v)))
theorem exv_tbl {c : Value} {d : Option Addr} {a : Addr} (ps : Array Value) : ExV c d a ≠ .tbl ps := fun z => by
  unfold ExV at z
  cases z
theorem ErV.keep {K : PySem.W.Frag} {H H' : Hp} {v : V} {o : Wr} (h : ErV K H v o) (e : ExtN H H') : ErV K H' v o := by
  cases h with
  | ok => exact .ok
  | b h => exact .b (e _ _ h exv_tbl)
  | f h g => exact .f (e _ _ h exv_tbl) (e _ _ g fun ps z => by cases z)
theorem ErV.same {K : PySem.W.Frag} {H H' : Hp} {v : V} {o : Wr} (h : ErV K H v o) (e : Same H H') : ErV K H' v o := h.keep (ExtN.of_same e)
theorem out_caught {K : PySem.W.Frag} {CE : Addr} {H : Hp} {Q : VK} {o : Wr} (hE : ∀ c r, o = some (c, r) → PySem.W.exmOne K (.ref (He.ga K c)) (.ref CE) = some true) (k : ∀ v H', Same H H' → ErV K H' v o → Q v H') : outE K H (fun _ H' => Q .non H') (EC K CE Q) o := by
  match o, hE, k with
  | none, _, k => exact fun v H' e => k _ _ e .ok
  | some (c, none), hE, k => exact fun H' e => ⟨hE c _ rfl, fun a ha => k _ _ (e.trans (Same.new ha)) (.b upd_same)⟩
  | some (c, some (f, v)), hE, k => exact fun d H' n e q => ⟨hE c _ rfl, fun a ha => k _ _ (e.trans (Same.new ha)) (.f upd_same (by rw [upd_ne (ne_of_none q ha)]; exact q))⟩
/-! isinstance of an own class's object, or of a value of another kind -/
def rIsBk (K : PySem.W.Frag) (C : Addr) : List V → Hp → VK → Prop := fun xs H Q => (∃ a dx fs, xs = [.ref a, .ref C] ∧ H a = some (.ins C dx fs) ∧ Q (.bl true) H) ∨ rIsi K xs H Q
theorem c_isBk {X : Cx} {K : PySem.W.Frag} {C : Addr} (h : X.K = K) (c : C8.InsC K C) : CallR X (.builtin "isinstance") (rIsBk K C) := by
  subst h
  exact fun pins s σ H xs us Q I r z => z.elim (C8.call_isC c pins s σ H xs us Q I r) (call_isi pins s σ H xs us Q I r)
theorem r_isBk {K : PySem.W.Frag} {C a dx : Addr} {H : Hp} {Q : VK} {fs : List (Str × V)} (h : H a = some (.ins C dx fs)) (q : Q (.bl true) H) : rIsBk K C [.ref a, .ref C] H Q := .inl ⟨a, dx, fs, rfl, h, q⟩
theorem r_isOd {K : PySem.W.Frag} {C : Addr} {A : Addr → Prop} {H : Hp} {Q : VK} {v : V} {d : PyData} (h : Od A H v d) (n : noKitB K C = true) (q : Q (.bl false) H) : rIsBk K C [v, .ref C] H Q := .inr ⟨v, .ref C, _, _, false, rfl, .own C, h.ty, noKit_ok n d, q⟩
/-! isinstance of a caught error, or of None -/
theorem c_isE {X : Cx} {K : PySem.W.Frag} (h : X.K = K) : CallR X (.builtin "isinstance") (rIsE K) := by
  subst h
  exact call_isE call_isi
theorem r_isEn {K : PySem.W.Frag} {H : Hp} {Q : VK} {c : V} {cv : Value} {b : Bool} (hc : ClsV c cv) (e : PySem.W.kitOne K (.type "NoneType") cv = some b) (q : Q (.bl b) H) : rIsE K [.non, c] H Q := .inl ⟨.non, c, _, cv, b, rfl, hc, .base .non, e, q⟩
theorem r_isEb {K : PySem.W.Frag} {H : Hp} {Q : VK} {a : Addr} {c : Str} {cc : V} {cv : Value} {b : Bool} (ha : H a = some (ExV (.ref (He.ga K c)) none a)) (T : ExcC K (He.ga K c)) (hc : ClsV cc cv) (e : PySem.W.kitOne K (.ref (He.ga K c)) cv = some b) (q : Q (.bl b) H) : rIsE K [.ref a, cc] H Q :=
  r_isE (fs := []) ha (fun dd z => by cases z) T hc e q
theorem r_isEf {K : PySem.W.Frag} {H : Hp} {Q : VK} {a d : Addr} {c f : Str} {v cc : V} {cv : Value} {b : Bool} (ha : H a = some (ExV (.ref (He.ga K c)) (some d) a)) (hd : H d = some (.xd [(f, v)])) (T : ExcC K (He.ga K c)) (hc : ClsV cc cv) (e : PySem.W.kitOne K (.ref (He.ga K c)) cv = some b) (q : Q (.bl b) H) : rIsE K [.ref a, cc] H Q :=
  r_isE (fs := [(f, v)]) ha (fun dd z => by cases z; exact hd) T hc e q
end Wp
set_option Elab.async false
set_option linter.all false
set_option maxRecDepth 100000
set_option maxHeartbeats 4000000
/-! Heads of laws with errors and lambdas: looks and facts. -/
namespace Wp
open PySem PySem.Spec PyProof.Rows L2
/-- each of the errors is one of the package, a ValueError, and none of the others -/
def errsB (K : PySem.W.Frag) (es : List Str) : Bool := es.all fun c => decide (PySem.W.kitOne K (.ref (He.ga K c)) (.type "ValueError") = some true) && (decide (PySem.W.exmOne K (.ref (He.ga K c)) (.ref (He.ga K "CreditError")) = some true) &&
  es.all fun c' => decide (PySem.W.kitOne K (.ref (He.ga K c)) (.ref (He.ga K c')) = some (decide (c = c'))))
theorem errsB_ve {K : PySem.W.Frag} {es : List Str} (h : errsB K es = true) : ∀ c ∈ es, PySem.W.kitOne K (.ref (He.ga K c)) (.type "ValueError") = some true := fun c hc => of_decide_eq_true (He.ba (List.all_eq_true.mp h c hc)).1
theorem errsB_ex {K : PySem.W.Frag} {es : List Str} (h : errsB K es = true) : ∀ c ∈ es, PySem.W.exmOne K (.ref (He.ga K c)) (.ref (He.ga K "CreditError")) = some true := fun c hc => of_decide_eq_true (He.ba (He.ba (List.all_eq_true.mp h c hc)).2).1
theorem errsB_k {K : PySem.W.Frag} {es : List Str} (h : errsB K es = true) : ∀ c ∈ es, ∀ c' ∈ es, PySem.W.kitOne K (.ref (He.ga K c)) (.ref (He.ga K c')) = some (decide (c = c')) := fun c hc c' hc' => of_decide_eq_true (List.all_eq_true.mp (He.ba (He.ba (List.all_eq_true.mp h c hc)).2).2 c' hc')
theorem errB_ok {K : PySem.W.Frag} {mg : Str → Option Value} {x : Str} (e : PySem.W.excIn K (He.ga K x) He.veBase "ValueError.__new__" = true ∧ PySem.W.keepIn K (.ref (He.ga K x)) = true ∧ PySem.W.subIn K (.ref (He.ga K x)) (.type "BaseException") = some true ∧ PySem.W.typeIn K (.ref (He.ga K x)) = some (.type "type")) (g : mg x = some (.ref (He.ga K x))) : ErrB K mg x (He.ga K x) := ⟨e.1, e.2.1, e.2.2.1, e.2.2.2, g⟩
theorem errC_ok {P : Program} {K : PySem.W.Frag} {mg : Str → Option Value} {file msg : Str} {d : ErD} (h : fnE K d = d.val ∧ d.ok K file = true) (t : ErTx d.f msg d.params d.body d.scope) (p : PrgT P file) (g : mg d.c = some (.ref (He.ga K d.c))) : ErrC P K mg d.c (He.ga K d.c) d.f := ⟨⟨_, _, _, _, (ErD.errT h.1 h.2 t).1, p⟩, g⟩
theorem errX_ok {K : PySem.W.Frag} {file msg : Str} {d : ErD} (h : fnE K d = d.val ∧ d.ok K file = true) (t : ErTx d.f msg d.params d.body d.scope) : ExcC K (He.ga K d.c) ∧ XfC K (He.ga K d.c) ∧ PySem.W.findIn K (.ref (He.ga K d.c)) d.f = some none :=
  ⟨(ErD.errT h.1 h.2 t).2.1, (ErD.errT h.1 h.2 t).2.2, (ErD.errT h.1 h.2 t).1.noN⟩
/-- the tables of the defs that make lambdas -/
def csL (K : PySem.W.Frag) (tf : List He.Defn) : List (Addr × Addr) := tf.map (He.cT K)
theorem csL_of {K : PySem.W.Frag} {tf : List He.Defn} {p : He.Defn} (h : p ∈ tf) : He.cT K p ∈ csL K tf := List.mem_map.mpr ⟨p, h, rfl⟩
theorem csL_all {K : PySem.W.Frag} {tf : List He.Defn} {R : Addr × Addr → Prop} (h : ∀ p ∈ tf, R (He.cT K p)) : ∀ q ∈ csL K tf, R q := fun q hq => by
  obtain ⟨p, hp, rfl⟩ := List.mem_map.mp hq
  exact h p hp
end Wp
set_option Elab.async false
set_option linter.all false
set_option maxRecDepth 100000
set_option maxHeartbeats 4000000
/-! Lambdas as values: made and tracked, handed from def to def, called there. -/
namespace Wp
open PySem PySem.Spec PyProof.Rows L2 LamX
/-- a lambda's text -/
structure LamB where
  params : Arguments
  body : Expr
  scope : Scope
/-- the lambda of the text b, with the name q and the cells cl, stands at f; its code object at c' -/
def LamO (b : LamB) (q : Str) (cl : List (Str × Addr)) (f c' : Addr) : HO := .ext fun h => ∃ pm ctv, h.get? f = some (PySem.W.kla_obj "<lambda>" q b.params b.body b.scope cl pm c' ctv)
/-- as the def of the context X makes it -/
def LamIn (X : Cx) (b : LamB) (f c' : Addr) (H : Hp) : Prop :=
  H f = some (LamO b (X.env.qual ++ "<lambda>") (cloFrom X.env.cells b.scope.names []) f c') ∧ H c' = some (CodeO c' (X.env.qual ++ "<lambda>"))
theorem lamO_tbl {b : LamB} {q : Str} {cl : List (Str × Addr)} {f c' : Addr} (ps : Array Value) : LamO b q cl f c' ≠ .tbl ps := fun z => (by unfold LamO at z; cases z)
theorem LamIn.ext {X : Cx} {b : LamB} {f c' : Addr} {H H' : Hp} (l : LamIn X b f c' H) (e : ExtN H H') : LamIn X b f c' H' := ⟨e _ _ l.1 lamO_tbl, e _ _ l.2 codeO_ne⟩
theorem LamIn.same {X : Cx} {b : LamB} {f c' : Addr} {H H' : Hp} (l : LamIn X b f c' H) (e : Same H H') : LamIn X b f c' H' := ⟨e _ _ l.1, e _ _ l.2⟩
section
variable {X : Cx} {pins : List (Addr × Obj)} {σ : L2.St} {H : Hp} {s : Shared}
/-- a new lambda is tracked from its making on -/
theorem inv_lam {b : LamB} {q : Str} {cl : List (Str × Addr)} {f c' : Addr} {pm ctv : Value} (I : Inv X pins σ H s) (hf : s.heap.get? f = some (PySem.W.kla_obj "<lambda>" q b.params b.body b.scope cl pm c' ctv)) (hn : H f = none) (h0 : X.s_0.heap.get? f = none)
    (nL : f ≠ X.env.locals) (np : ∀ p ∈ X.pn ++ pins, p.1 ≠ f) : Inv X pins σ (upd H f (LamO b q cl f c')) s := by
  have up : ∀ {b' : Addr} {u : HO}, H b' = some u → upd H f (LamO b q cl f c') b' = some u := fun {b' u} e => by rw [upd_ne (ne_of_none e hn)]; exact e
  refine ⟨I.ok, I.os, I.bare, ⟨I.base.keep, I.base.slot, fun b' u q' n hx => ?_, I.base.there, fun b' xs q' => up (I.base.tups b' xs q'), fun b' u v q' => up (I.base.frzs b' u v q'), fun b' ps q' => ?_⟩, I.loc, I.cell, ?_, fun x c e => ?_, fun p hp => ?_, fun b' u e => ?_, I.len⟩
  · rw [upd_ne (fun z => by rw [z, h0] at q'; cases q')]
    exact I.base.free b' u q' n hx
  · obtain ⟨more, e⟩ := I.base.tbls b' ps q'
    exact ⟨more, up e⟩
  · rw [upd_ne (Ne.symm nL)]
    exact I.free
  · obtain ⟨v, u, e1, e2⟩ := I.cell x c e
    rw [upd_ne (fun z => by
      rw [z, hf] at e1
      obtain rfl := Option.some.inj e1
      cases e2)]
    exact I.freeC x c e
  · obtain ⟨p1, p2, p3, p4, p5⟩ := I.pin p hp
    exact ⟨p1, by rw [upd_ne (np p hp)]; exact p2, p3, p4, p5⟩
  · by_cases hb : b' = f
    · subst hb
      rw [upd_same] at e
      obtain rfl := Option.some.inj e
      exact ⟨⟨pm, ctv, hf⟩, ⟨_, hf⟩, fun h1 h2 ⟨pm, ctv, k1⟩ k => ⟨pm, ctv, k _ k1⟩⟩
    · rw [upd_ne hb] at e
      exact (I.hok b' u e).stay (fun _ _ _ q => q) (fun c q => up q) fun c xs q => up q
/-- the lambda is made: it is new, its code object is new, or found in the table -/
theorem lam_new {T : List (Addr × Str)} {c P : Addr} {b : LamB} {pos : Pos} {E Q : Value → Shared → Prop} (I : Inv X pins σ H s) (TB : TabB X.base X.mg c P) (hcode : X.env.code = .ref c) (hm : (P, X.env.qual ++ "<lambda>") ∈ T)
    (hu : ∀ p ∈ T, p.1 = P → p.2 = X.env.qual ++ "<lambda>") (hT : Tabs T H) (hdef : defaultsOf b.params X.env = ([], [])) (hfree : ∀ y ∈ b.scope.names, y.2 = .free → ∃ c, X.env.cells.lookup y.1 = some c)
    (k : ∀ (f c' : Addr) (H2 : Hp) (s2 : Shared), Inv X pins σ H2 s2 → ExtN H H2 → Tabs T H2 → LamIn X b f c' H2 → (∀ o, H f ≠ some o) → Q (.ref f) s2) : wpAny (model X.prog X.w) X.A (eval (.Lambda b.params b.body b.scope pos) X.env) Q E s := by
  obtain ⟨ps, tP, tri, tc⟩ := hT _ hm
  have tHp : s.heap.get? P = some { cls := .none, data := .fields ps } := I.hok P _ tP
  have blt := TB.bm.keeps I.bk
  have clo := closure_ok hfree
  have nsG := I.mod.glob.keeps I.bk
  have hdK := TB.code.keeps I.bk
  have fin : ∀ (s2 : Shared) (H1 : Hp) (f c' : Addr) (pm ctv : Value), Inv X pins σ H1 s2 → ExtN H H1 → Tabs T H1 → H1 c' = some (CodeO c' (X.env.qual ++ "<lambda>")) → s.heap.objs.size ≤ f → H1 f = none →
      s2.heap.get? f = some (PySem.W.kla_obj "<lambda>" (X.env.qual ++ "<lambda>") b.params b.body b.scope (cloFrom X.env.cells b.scope.names []) pm c' ctv) → Q (.ref f) s2 := by
    intro s2 H1 f c' pm ctv J e1 t1 hco hsz hn hf
    have old : ∀ {h : Heap} {a : Addr} {o : Obj}, h.objs.size ≤ s.heap.objs.size → h.get? a = some o → a ≠ f := fun hh ho => Nat.ne_of_lt (Nat.lt_of_lt_of_le (Heap.lt_size ho) (Nat.le_trans hh hsz))
    have hup : ∀ {a : Addr} {o : HO}, H1 a = some o → upd H1 f (LamO b (X.env.qual ++ "<lambda>") (cloFrom X.env.cells b.scope.names []) f c') a = some o := fun e => by rw [upd_ne (ne_of_none e hn)]; exact e
    refine k f c' _ s2 (inv_lam J hf hn ?_ ?_ ?_) (fun a o e n => hup (e1 a o e n)) (t1.ext fun a o e => hup e) ⟨upd_same, hup hco⟩ (fun o e => ?_)
    · cases e0 : X.s_0.heap.get? f with
      | none => rfl
      | some o => exact absurd rfl (old I.sz e0)
    · exact (Nat.ne_of_lt (Nat.lt_of_lt_of_le I.lt hsz)).symm
    · intro p hp
      exact old (Nat.le_refl _) (I.pin p hp).1
    · rw [I.hok.fresh hsz] at e
      cases e
  refine PySem.W.kla_eval hdef ?_
  cases ham : codeAmong pos ps.toList with
  | some cv =>
    obtain ⟨c', rfl, hco⟩ := tc pos cv ham
    refine PySem.W.kla_makeFunctionHit clo I.ok.glob nsG hcode hdK tHp tri ham blt fun ctv h' tk kp hge => ?_
    have J : Inv X pins σ H { s with heap := h'.push (PySem.W.kla_obj "<lambda>" (X.env.qual ++ "<lambda>") b.params b.body b.scope (cloFrom X.env.cells b.scope.names []) ((X.mg "__name__").getD .none) c' ctv), toks := tk } := I.kept fun a o e => Heap.get?_push_of_some _ (kp a o e)
    exact fin _ _ _ c' _ ctv J (ExtN.refl H) hT hco hge (I.hok.fresh hge) (Heap.get?_push_size _ rfl)
  | none =>
    refine PySem.W.kla_makeFunction clo I.ok.glob nsG hcode hdK tHp tri ham TB.gP blt fun c' ctv h' tk kp hge hlt hrec htb => ?_
    obtain ⟨c2, oc, vs, t, z, r1, r2, r3⟩ := hrec
    cases z
    have nC : H c' = none := I.hok.fresh hge
    have J := inv_table (t' := tk) (more := #[rawInt pos.line, rawInt pos.col, .ref c']) (h' := h'.push (PySem.W.kla_obj "<lambda>" (X.env.qual ++ "<lambda>") b.params b.body b.scope (cloFrom X.env.cells b.scope.names []) ((X.mg "__name__").getD .none) c' ctv)) I tP
      (fun a o n e => Heap.get?_push_of_some _ (kp a o n e)) (Heap.get?_push_of_some _ htb) hge ⟨oc, vs, t, Heap.get?_push_of_some _ r1, r2, r3⟩
    have ext : ExtN H (upd (upd H P (.tbl (ps ++ #[rawInt pos.line, rawInt pos.col, .ref c']))) c' (CodeO c' (X.env.qual ++ "<lambda>"))) := by
      intro a o e n
      have aP : a ≠ P := fun z => by
        rw [z, tP] at e
        exact n ps (Option.some.inj e).symm
      rw [upd_ne (ne_of_none e nC), upd_ne aP]
      exact e
    have szf : s.heap.objs.size ≤ h'.objs.size := Nat.le_trans hge (Nat.le_of_lt hlt)
    have fc : h'.objs.size ≠ c' := (Nat.ne_of_lt hlt).symm
    have fP : h'.objs.size ≠ P := (Nat.ne_of_lt (Nat.lt_of_lt_of_le (Heap.lt_size tHp) szf)).symm
    refine fin _ _ _ c' _ ctv J ext ?_ upd_same szf ?_ (Heap.get?_push_size _ rfl)
    · intro p hp
      by_cases hb : p.1 = P
      · have hq := hu p hp hb
        obtain ⟨p1, p2⟩ := p
        dsimp only at hb hq
        subst hb hq
        have eL : (ps ++ #[rawInt pos.line, rawInt pos.col, .ref c']).toList = ps.toList ++ [rawInt pos.line, rawInt pos.col, .ref c'] := by simp
        refine ⟨_, by rw [upd_ne (ne_of_none tP nC), upd_same], ?_, fun p' cv hcv => ?_⟩
        · rw [eL]
          exact PySem.TriplesOk_snoc _ _ _ _ tri
        · rw [eL] at hcv
          rcases among_app _ tri hcv with z | z
          · obtain ⟨c0, z1, z2⟩ := tc p' cv z
            exact ⟨c0, z1, ext _ _ z2 codeO_ne⟩
          · exact ⟨c', z, upd_same⟩
      · obtain ⟨ps', a1, a2, a3⟩ := hT p hp
        refine ⟨ps', by rw [upd_ne (ne_of_none a1 nC), upd_ne hb]; exact a1, a2, fun p' cv hcv => ?_⟩
        obtain ⟨c0, z1, z2⟩ := a3 p' cv hcv
        exact ⟨c0, z1, ext _ _ z2 codeO_ne⟩
    · rw [upd_ne fc, upd_ne fP]
      exact I.hok.fresh szf
end
/-- lambda: body -/
def tMk (X : Cx) (T : List (Addr × Str)) (b : LamB) : TE := fun _ H Q => Tabs T H ∧ ∀ f c' H2, ExtN H H2 → Tabs T H2 → LamIn X b f c' H2 → H f = none → Q (.ref f) H2
theorem pe_lam {X : Cx} {T : List (Addr × Str)} {c P : Addr} {b : LamB} {pos : Pos} (TB : TabB X.base X.mg c P) (hcode : X.env.code = .ref c) (hm : (P, X.env.qual ++ "<lambda>") ∈ T) (hu : ∀ p ∈ T, p.1 = P → p.2 = X.env.qual ++ "<lambda>") (L : LamS X.env.scope b.scope) (hdef : defaultsOf b.params X.env = ([], [])) :
    PE X (.Lambda b.params b.body b.scope pos) (tMk X T b) := by
  refine ⟨fun pins s σ H Q I h => ?_⟩
  obtain ⟨hT, h⟩ := h
  refine lam_new I TB hcode hm hu hT hdef (L.has I.ok) fun f c' H2 s2 J e t l n => ?_
  refine ⟨.ref f, H2, J, rfl, h f c' H2 e t l ?_⟩
  cases z : H f with
  | none => rfl
  | some o => exact absurd z (n o)
theorem r_mkLam {X : Cx} {T : List (Addr × Str)} {b : LamB} {σ : L2.St} {H : Hp} {Q : VK} (hT : Tabs T H) (q : ∀ f c' H2, ExtN H H2 → Tabs T H2 → LamIn X b f c' H2 → H f = none → Q (.ref f) H2) : tMk X T b σ H Q := ⟨hT, q⟩
/-! ### what can be called: a lambda, seen from a state of its maker -/
/-- from the state s, H of a maker with the frames fs on: f can be called wherever LU holds, and does what tl says -/
def Act (P : Program) (w : World) (K : PySem.W.Frag) (mg : Str → Option Value) (base : Heap) (fs : List Addr) (s : Shared) (H : Hp) (k : Nat) (f : Addr) (LU : Hp → Prop) (tl : XK → Hp → VK → Prop) : Prop :=
  (∀ (h : Heap) (HZ : Hp), HOk P w HZ h → LU HZ → PySem.W.FnAt f h) ∧ (∀ H1 H2 : Hp, ExtN H1 H2 → LU H1 → LU H2) ∧ ∀ (A : Around) (outer : List Env) (s1 : Shared) (HZ : Hp) (Q : VK) (E : XK), Room (k + 1) A → Env0 P w K mg base A outer s1 HZ → Un fs [] H HZ s.heap s1.heap → LU HZ → tl E HZ Q →
    codeAny (model P w) A (.call (.ref f) ⟨[], []⟩) (L2.CR (L2.CX P w) outer P w HZ s1 Q E) s1
theorem unDeep {fs fs' : List Addr} {H H1 H2 : Hp} {h h1 h2 : Heap} (a : Un fs [] H H1 h h1) (b : Un fs' [] H1 H2 h1 h2) (sub : ∀ x ∈ fs', x ∈ fs ∨ h.get? x = none) : Un fs [] H H2 h h2 where
  keep := fun c ob q n hc hx => b.keep c ob (a.keep c ob q n hc hx) (a.free c ob q n hx) (fun z => (sub c z).elim hc fun z => by rw [z] at q; cases q) hx
  slot := fun c ob q n hc hx => by
    obtain ⟨sl, e1⟩ := a.slot c ob q n hc hx
    obtain ⟨sl2, e2⟩ := b.any e1 (a.free c ob q n hx) hx
    exact ⟨sl2, e2⟩
  free := fun c ob q n hx => by
    obtain ⟨sl, e1⟩ := a.any q n hx
    exact b.free c _ e1 (a.free c ob q n hx) hx
  there := fun c ob q hx => by
    obtain ⟨o1, e1⟩ := a.there c ob q hx
    exact b.there c o1 e1 hx
  tups := fun c xs q => b.tups c xs (a.tups c xs q)
  frzs := fun c o u q => b.frzs c o u (a.frzs c o u q)
  tbls := fun c ps q => by
    obtain ⟨m1, e1⟩ := a.tbls c ps q
    obtain ⟨m2, e2⟩ := b.tbls c _ e1
    exact ⟨m1 ++ m2, by rw [e2, Array.append_assoc]⟩
/-- the same, seen from a later state, deeper -/
theorem Act.lift {P : Program} {w : World} {K : PySem.W.Frag} {mg : Str → Option Value} {base : Heap} {fs fs' : List Addr} {s s1 : Shared} {H HZ : Hp} {k j : Nat} {f : Addr} {LU : Hp → Prop} {tl : XK → Hp → VK → Prop} (a : Act P w K mg base fs s H k f LU tl) (hk : k ≤ j)
    (un : Un fs [] H HZ s.heap s1.heap) (sub : ∀ x ∈ fs', x ∈ fs ∨ s.heap.get? x = none) : Act P w K mg base fs' s1 HZ j f LU tl :=
  ⟨a.1, a.2.1, fun A outer s2 H2 Q E hr e0 u l h => a.2.2 A outer s2 H2 Q E (hr.mono (by omega)) e0 (unDeep un u sub) l h⟩
section
variable {X : Cx} {pins : List (Addr × Obj)} {σ : L2.St} {H : Hp} {s : Shared}
/-- of a lambda of the context X, in a state of it -/
theorem act_of {b : LamB} {f c' : Addr} {k : Nat} {t : XK → TE} (I : Inv X pins σ H s) (L : LamS X.env.scope b.scope) (hbind : ∀ (q : Str) (cl : List (Str × Addr)) (pm cv ctv : Value), bindArgs (PySem.W.kla_fn "<lambda>" q b.params b.body b.scope cl pm cv ctv) ⟨[], []⟩ = pure [])
    (hbody : ∀ (A : Around) (outer : List Env) (s : Shared) (H : Hp) (E : XK), Room k (A.deeper (lamEnv X b.scope s.heap.objs.size f c')) → PE (lamCx X A outer s H E b.scope f c') b.body (t E)) :
    Act X.prog X.w X.K X.mg X.base (frs X.stack) s H k f (LamIn X b f c') (fun E H' Q' => t E σ H' Q') := by
  refine ⟨fun h HZ hok l => ?_, fun H1 H2 e l => l.ext e, fun A outer s1 HZ Q E hr e0 un l ht => ?_⟩
  · obtain ⟨⟨pm, ctv, hf⟩, _, _⟩ := hok f _ l.1
    exact ⟨_, _, _, _, hf⟩
  obtain ⟨⟨pm, ctv, hf⟩, _, _⟩ := e0.hok f _ l.1
  obtain ⟨⟨oc, vs, tk, g1, g2, g3⟩, _, _⟩ := e0.hok c' _ l.2
  have lim : s1.heap.NoLimit := e0.mod.nolimit.keeps fun a o e => (e0.bs a o e).1
  refine PySem.W.kla_callFunE hr.depth hf rfl L.co L.gen rfl ⟨c', oc, vs, tk, rfl, g1, g2, g3⟩ ?_
  rw [hbind]
  refine wpAny_pure (wpAny_newFunctionEnv (fun y hy => (L.own y hy).2) (fun y hy => absurd hy (by simp)) (fun h₁ hns hsb => ?_) L.kind)
  refine ⟨lim.fresh _ hsb, ?_⟩
  have kp : ∀ a o, s1.heap.get? a = some o → h₁.get? a = some o := fun a o e =>
    hsb.extBut a o (Nat.ne_of_lt (Heap.lt_size e)) (Heap.get?_push_of_some _ e)
  have J := lam_start2 (A := A) (outer := outer) (E := E) (scope := b.scope) (f := f) (c' := c') (tk := s1.toks + ([] : List (Str × Value)).length) I L e0 hr.hd un hns kp
  refine PySem.W.kla_codeExpr (wpAny_mono ((hbody A outer s1 HZ E (hr.deeper _)).run [] _ _ HZ Q J ht) (fun v s' hq => ?_) fun e s' hq => hq)
  obtain ⟨w', H', J', rv, q⟩ := hq
  exact ⟨w', H', J'.os, J'.bare, J'.base, J'.hok, rv, q⟩
end
/-- x(), where x is such a thing, in the def that got it -/
theorem act_call {P : Program} {w : World} {K : PySem.W.Frag} {mg : Str → Option Value} {base : Heap} {CXg : CXT} {Eg E : XK} {Ng : List Str} {qg a : Str} {sg : Scope} {g f : Addr} {cdg : Value} {A : Around} {outer : List Env} {s : Shared} {H : Hp} {k i : Nat} {LU : Hp → Prop} {tl : XK → Hp → VK → Prop} {pn : List (Addr × Obj)}
    {xe : Value → Shared → Prop} {W : WX} {p1 p2 : Pos} (act : Act P w K mg base (frs outer) s H k f LU tl) (tk : Takes ((cxOf CXg P w K mg base Ng qg sg g cdg A outer s H Eg).tr pn xe) W) (hW : ∀ cls d σ' H', E cls d H' → W cls d σ' H') (hr : Room (k + 1) (A.deeper (envOfC qg sg s.heap.objs.size g cdg)))
    (hN : Ng[i]? = some a) (hv : Vis sg a) (hd : (a == ("__debug__" : Str)) = false := by decide) (hcd : (a == ("__classdict__" : Str)) = false := by decide) :
    PE ((cxOf CXg P w K mg base Ng qg sg g cdg A outer s H Eg).tr pn xe) (.Call (.Name a p1) [] [] p2) (fun σZ HZ Q => σZ[i]? = some (some (.ref f)) ∧ LU HZ ∧ tl E HZ Q) := by
  refine ⟨fun pinsZ sZ σZ HZ Q IZ ⟨hs, lu, ht⟩ => ?_⟩
  have var := (pe_var (X := (cxOf CXg P w K mg base Ng qg sg g cdg A outer s H Eg).tr pn xe) (pos := p1) (i := i) hN hv hd hcd).run pinsZ sZ σZ HZ (fun v H1 => v = .ref f ∧ H1 = HZ) IZ ⟨.ref f, hs, rfl, rfl⟩
  refine wpAny_Call_Name_kw (thn var fun u s1 hh => ?_)
  obtain ⟨v, H1, I1, r1, rfl, rfl⟩ := hh
  obtain rfl : u = Value.ref f := r1
  refine PySem.W.callWith_F0 (act.1 _ _ I1.hok lu) (wpAny_call (codeAny_mono (act.2.2 _ _ s1 H1 Q E hr I1.env0 I1.base lu ht) fun r s2 hq => ?_))
  have hx : Passes (L2.CX P w) ((cxOf CXg P w K mg base Ng qg sg g cdg A outer s H Eg).tr pn xe) E := passes_call tk hW
  match r, hq with
  | .error e, hq => exact hx pinsZ σZ H1 s1 e s2 I1 hq
  | .ok (.ret u), hq => exact I1.after hq
  | .ok .next, hq => exact False.elim hq
  | .ok .brk, hq => exact False.elim hq
  | .ok .cont, hq => exact False.elim hq
/-- the def y calls what it gets, or hands it on: what it makes of it is TT -/
def Gives2 (P : Program) (w : World) (K : PySem.W.Frag) (mg : Str → Option Value) (base : Heap) (k j : Nat) (Ng : List Str) (y : Str) (sg : Scope) (g : Addr) (cdg : Value) (bg : List Stmt) (TT : (XK → Hp → VK → Prop) → Hp → VK → Prop) : Prop :=
  ∀ (A : Around) (outer : List Env) (s : Shared) (H : Hp) (Q : VK) (f : Addr) (LU : Hp → Prop) (tl : XK → Hp → VK → Prop), Room j (A.deeper (envOfC y sg s.heap.objs.size g cdg)) → Act P w K mg base (frs outer) s H k f LU tl → LU H → TT tl H Q →
    ∃ t, PSs (cxOf C8.CX0 P w K mg base Ng y sg g cdg A outer s H C8.E0).nox bg t ∧ t { nx := fun _ H' => Q .non H', rt := Q } (L2.start Ng [.ref f]) H
abbrev Prov : Type := L2.St → Hp → Addr → (Hp → Prop) → (XK → Hp → VK → Prop) → Prop
/-- y(a), a being such a thing -/
def tPass (prov : Prov) (TT : (XK → Hp → VK → Prop) → Hp → VK → Prop) (ta : TA) : TE := fun σ H Q => ta σ H fun vs H1 => ∃ f LU tl, vs = [.ref f] ∧ prov σ H1 f LU tl ∧ LU H1 ∧ TT tl H1 Q
theorem pe_pass {X : Cx} {prov : Prov} {TT : (XK → Hp → VK → Prop) → Hp → VK → Prop} {k j : Nat} {Ng : List Str} {y nm : Str} {pg : Arguments} {bg : List Stmt} {sg : Scope} {fd : FuncData} {ta : TA} {a : Expr} {p pos : Pos}
    (hprov : ∀ pins σ H s f LU tl, Inv X pins σ H s → prov σ H f LU tl → Act X.prog X.w X.K X.mg X.base (frs X.stack) s H k f LU tl) (F : FunD X.K y y pg bg sg [] [] (He.ga X.K y) fd) (hm : X.mg y = some (.ref (He.ga X.K y))) (hk : PySem.W.keepIn X.K (.ref (He.ga X.K y)) = true)
    (hb : L2.Binds X.K fd [nm] []) (Sg : FnScope Ng [nm] sg) (hG : ∀ cdg : Value, Gives2 X.prog X.w X.K X.mg X.base k j Ng y sg (He.ga X.K y) cdg bg TT) (ha : PA X [a] ta) (hr : Room (j + 1) X.A) (hg : Gl X y := by rfl) (hdb : (y == ("__debug__" : Str)) = false := by decide)
    (he : starEach (a :: []) X.env = (false, eval a X.env) :: starEach [] X.env := by rfl) (hpl : (backTo pos (starEach [] X.env)).any (·.1) = false := by rfl) :
    PE X (.Call (.Name y p) [a] [] pos) (tPass prov TT ta) := by
  obtain ⟨oc, od, dV, kV, doc, pm, an, cdv, ct, osl, rfl, lk, hcd, _, _⟩ := F.ex
  refine ⟨fun pins s σ H Q I h => ?_⟩
  refine wpAny_Call_Name_kw (ld_glob I hg hm ?_ hdb)
  refine PySem.W.callWith_K (h₀ := X.base) I.ok.mod.kin hk (thn (ha.run pos pins s σ H _ I h) fun us s1 hh => ?_) he hpl
  obtain ⟨vs, H1, I1, r1, f, LU, tl, rfl, hp, lu, ht⟩ := hh
  refine ⟨I1.kIn, ?_⟩
  obtain ⟨u, rfl, ru⟩ := vals1 r1
  obtain rfl : u = Value.ref f := ru
  have rc : codeAny (model X.prog X.w) X.A (.call (.ref (He.ga X.K y)) ⟨[.ref f], []⟩) (L2.CR C8.CX0 X.stack X.prog X.w H1 s1 Q C8.E0) s1 := by
    refine run_ofS (N := Ng) (ps := [nm]) (us := [.ref f]) (vs := [.ref f]) lk hcd Sg hr I1.env0 (hb s1 [.ref f] I1.kIn rfl) (.cons rfl .nil) rfl fun hr' => ?_
    obtain ⟨t', ht', hq'⟩ := hG _ _ _ s1 H1 Q f LU tl hr' (hprov pins σ H1 s1 f LU tl I1 hp) lu ht
    exact ⟨t', ht'.nox, hq'⟩
  refine wpAny_call (codeAny_mono rc fun r s2 hq => ?_)
  match r, hq with
  | .error e, hq => exact (show False from hq).elim
  | .ok (.ret u), hq => exact I1.after hq
  | .ok .next, hq => exact False.elim hq
  | .ok .brk, hq => exact False.elim hq
  | .ok .cont, hq => exact False.elim hq
/-- lambdas of a context, and what each does -/
inductive LamsP (X : Cx) (k : Nat) : List LamB → List (XK → TE) → Prop
  | nil : LamsP X k [] []
  | cons {b : LamB} {t : XK → TE} {bs : List LamB} {ts : List (XK → TE)} : LamS X.env.scope b.scope → (∀ (q : Str) (cl : List (Str × Addr)) (pm cv ctv : Value), bindArgs (PySem.W.kla_fn "<lambda>" q b.params b.body b.scope cl pm cv ctv) ⟨[], []⟩ = pure []) →
      (∀ (A : Around) (outer : List Env) (s : Shared) (H : Hp) (E : XK) (f c' : Addr), Room k (A.deeper (lamEnv X b.scope s.heap.objs.size f c')) → PE (lamCx X A outer s H E b.scope f c') b.body (t E)) → LamsP X k bs ts → LamsP X k (b :: bs) (t :: ts)
def provL (X : Cx) (bs : List LamB) (ts : List (XK → TE)) : Prov := fun σ _ f LU tl => ∃ (i : Nat) (b : LamB) (t : XK → TE) (c' : Addr), bs[i]? = some b ∧ ts[i]? = some t ∧ LU = LamIn X b f c' ∧ tl = fun E H' Q' => t E σ H' Q'
theorem LamsP.get {X : Cx} {k : Nat} {bs : List LamB} {ts : List (XK → TE)} (h : LamsP X k bs ts) : ∀ {i : Nat} {b : LamB} {t : XK → TE}, bs[i]? = some b → ts[i]? = some t → LamS X.env.scope b.scope ∧ (∀ (q : Str) (cl : List (Str × Addr)) (pm cv ctv : Value), bindArgs (PySem.W.kla_fn "<lambda>" q b.params b.body b.scope cl pm cv ctv) ⟨[], []⟩ = pure []) ∧
    (∀ (A : Around) (outer : List Env) (s : Shared) (H : Hp) (E : XK) (f c' : Addr), Room k (A.deeper (lamEnv X b.scope s.heap.objs.size f c')) → PE (lamCx X A outer s H E b.scope f c') b.body (t E)) := by
  induction h with
  | nil => intro i b t h1; simp at h1
  | cons g1 g2 g3 _ ih =>
    intro i b t h1 h2
    cases i with
    | zero =>
      obtain rfl := Option.some.inj h1
      obtain rfl := Option.some.inj h2
      exact ⟨g1, g2, g3⟩
    | succ i => exact ih (i := i) h1 h2
theorem LamsP.prov {X : Cx} {k : Nat} {bs : List LamB} {ts : List (XK → TE)} (h : LamsP X k bs ts) : ∀ pins σ H s f LU tl, Inv X pins σ H s → provL X bs ts σ H f LU tl → Act X.prog X.w X.K X.mg X.base (frs X.stack) s H k f LU tl := by
  rintro pins σ H s f LU tl I ⟨i, b, t, c', h1, h2, rfl, rfl⟩
  obtain ⟨g1, g2, g3⟩ := h.get h1 h2
  exact act_of I g1 g2 fun A outer s H E hr => g3 A outer s H E f c' hr
/-- what was got is handed on -/
def prov1 (f : Addr) (LU : Hp → Prop) (tl : XK → Hp → VK → Prop) : Prov := fun _ _ f' LU' tl' => f' = f ∧ LU' = LU ∧ tl' = tl
theorem prov1_of {P : Program} {w : World} {K : PySem.W.Frag} {mg : Str → Option Value} {base : Heap} {CXg : CXT} {Eg : XK} {Ng : List Str} {qg : Str} {sg : Scope} {g f : Addr} {cdg : Value} {A : Around} {outer : List Env} {s : Shared} {H : Hp} {k j : Nat} {LU : Hp → Prop} {tl : XK → Hp → VK → Prop}
    (act : Act P w K mg base (frs outer) s H k f LU tl) (hk : k ≤ j) : ∀ pins σ H1 s1 f' LU' tl', Inv (cxOf CXg P w K mg base Ng qg sg g cdg A outer s H Eg).nox pins σ H1 s1 → prov1 f LU tl σ H1 f' LU' tl' → Act P w K mg base (frs (cxOf CXg P w K mg base Ng qg sg g cdg A outer s H Eg).nox.stack) s1 H1 j f' LU' tl' := by
  rintro pins σ H1 s1 f' LU' tl' I ⟨rfl, rfl, rfl⟩
  refine act.lift hk I.base fun x hx => ?_
  have hx : x ∈ frs (envOfC qg sg s.heap.objs.size g cdg :: outer) := hx
  unfold frs at hx ⊢
  obtain ⟨e, he, z⟩ := List.mem_filterMap.mp hx
  rcases List.mem_cons.mp he with rfl | he
  · have z : some s.heap.objs.size = some x := z
    obtain rfl := Option.some.inj z
    refine .inr ?_
    cases q : s.heap.get? s.heap.objs.size with
    | none => rfl
    | some o => exact absurd (Heap.lt_size q) (Nat.lt_irrefl _)
  · exact .inl (List.mem_filterMap.mpr ⟨e, he, z⟩)
end Wp
set_option Elab.async false
set_option linter.all false
set_option maxRecDepth 100000
set_option maxHeartbeats 4000000
/-! The law's own catcher of errors: the exception, or None. -/
namespace Wp
open PySem PySem.Spec PyProof.Rows L2 LamX
abbrev s__law_caught : Stmt := topS 47
local macro_rules | `(tactic| walk_at "val") => `(tactic| assumption)
local macro_rules | `(tactic| walk_at "rd1") => `(tactic| first
  | with_reducible refine r_seq ?_ | with_reducible refine r_next ?_ | with_reducible refine r_if ?_ | with_reducible refine r_asg ?_ | with_reducible refine r_gname ?_
  | with_reducible refine r_ret ?_ | with_reducible refine r_retN ?_ | with_reducible refine r_drop ?_ | with_reducible refine r_par ?_ | with_reducible refine r_kPar ?_
  | ((with_reducible refine' r_var ?hv ?_); (case hv => exact rfl)) | with_reducible refine r_c ?_ | with_reducible refine r_nil ?_ | with_reducible refine r_cons ?_
  | with_reducible refine r_fn ?_ | with_reducible refine r_cb ?_ | with_reducible refine r_op ?_ | with_reducible refine r_un ?_ | with_reducible refine r_I0 ?_
  | with_reducible refine r_pow5 ?_ | with_reducible refine r_pow6 ?_ | with_reducible refine r_pow7 ?_ | with_reducible refine r_pow9 ?_ | with_reducible refine r_pow18 ?_ | with_reducible refine r_pow20 ?_ | with_reducible refine r_pow30 ?_
  | with_reducible refine r_isN_non ?_ | with_reducible refine r_isN_ref ?_ | with_reducible refine r_isN_int ?_ | with_reducible refine r_isN_str ?_ | with_reducible refine r_isN_bl ?_ | with_reducible refine r_notN_non ?_ | with_reducible refine r_notN_ref ?_ | with_reducible refine r_notN_int ?_ | with_reducible refine r_notN_str ?_ | with_reducible refine r_notN_bl ?_
  | ((with_reducible refine r_I ?hc ?_); (case hc => walk_at "side")) | with_reducible refine r_U ?_
  | with_reducible refine r_eqI ?_ | with_reducible refine r_neI ?_ | with_reducible refine r_eqS ?_ | with_reducible refine r_neS ?_ | with_reducible refine r_eqB ?_ | with_reducible refine r_neB ?_
  | with_reducible refine r_chain ?_ | with_reducible refine r_test ?_ | with_reducible refine r_tB ?_ | with_reducible refine r_kTest ?_ | with_reducible refine r_not ?_
  | with_reducible refine r_and ?_ | with_reducible refine r_or ?_ | with_reducible refine r_tif ?_ | with_reducible refine r_andV ?_ | with_reducible refine r_orV ?_ | with_reducible refine r_notV ?_
  | with_reducible refine r_kAndV ?_ | with_reducible refine r_kOrV ?_ | with_reducible refine r_kNotV ?_
  | with_reducible refine w_T ?_ | with_reducible refine w_F ?_ | with_reducible refine w_NT ?_ | with_reducible refine w_NF ?_
  | with_reducible refine r_tup ?_ | with_reducible refine r_lst ?_ | with_reducible refine r_fld ?_ | with_reducible refine r_prop ?_ | ((with_reducible refine' r_aug ?h1 ?_); (case h1 => exact rfl)) | with_reducible refine r_ipI ?_ | with_reducible refine r_dget ?_ | with_reducible refine r_dput ?_ | with_reducible refine r_bm ?_
  | ((with_reducible refine' r_kDGetS ?h1 ?h2 ?_); (case h1 => assumption); (case h2 => walk_at "val"))
  | ((with_reducible refine' r_kBML ?h1 ?_); (case h1 => assumption))
  | with_reducible refine r_forL ?_ | with_reducible refine r_forR1 ?_ | with_reducible refine r_forR2 ?_ | with_reducible refine r_forT ?_ | with_reducible refine r_lcL ?_ | with_reducible refine r_lcR1 ?_
  | ((with_reducible refine r_kLcG ?hw ?_); (case hw => exact rfl)) | with_reducible refine r_kLcT ?_ | with_reducible refine r_yes ?_
  | with_reducible refine r_pnil ?_ | with_reducible refine r_pcons ?_
  | with_reducible refine r_fnK ?_ | ((with_reducible refine r_kFnK ?hl ?_); (case hl => exact rfl))
  | with_reducible refine r_isi_ii ?_ | with_reducible refine r_isi_ib ?_ | with_reducible refine r_isi_bi ?_ | with_reducible refine r_isi_bb ?_ | with_reducible refine r_isi_ss ?_ | with_reducible refine r_isi_is ?_ | with_reducible refine r_isi_it ?_
  | ((with_reducible refine' r_isi_tt ?h1 ?_); (case h1 => assumption))
  | with_reducible refine r_sfld ?_ | with_reducible refine r_gnil ?_ | with_reducible refine r_gcons ?_
  | ((with_reducible refine' r_gtup ?h1 ?h2 ?_); (case h1 => exact SqT.of (by assumption)); (case h2 => exact rfl))
  | with_reducible refine r_sl ?_ | with_reducible refine r_noPart ?_ | with_reducible refine r_part ?_ | with_reducible refine r_kPart ?_ | with_reducible refine r_m1 ?_ | with_reducible refine r_kM1 ?_ | with_reducible refine r_forS ?_ | with_reducible refine r_lcS ?_ | with_reducible refine r_lcTu ?_ | with_reducible refine r_lcK ?_ | with_reducible refine r_dcL ?_ | with_reducible refine r_dcK ?_ | with_reducible refine r_lc2L ?_ | with_reducible refine r_kLc2TL ?_ | with_reducible refine r_dcEn ?_ | with_reducible refine r_gslc ?_ | with_reducible refine r_lcEn ?_ | with_reducible refine r_lcZip ?_ | with_reducible refine r_lcEl ?_ | with_reducible refine r_lcR2 ?_ | with_reducible refine r_rg1 ?_ | with_reducible refine r_rg2 ?_ | with_reducible refine r_forET ?_ | with_reducible refine r_lenD ?_
  | ((with_reducible refine r_kDcG ?hw ?_); (case hw => exact rfl)) | with_reducible refine r_kDcT ?_
  | with_reducible refine r_fldaug ?_ | with_reducible refine r_daug ?_ | with_reducible refine r_rAdd ?_ | with_reducible refine r_rSub ?_ | with_reducible refine r_ddel ?_ | with_reducible refine r_bmF ?_ | with_reducible refine r_dget2 ?_ | with_reducible refine r_listItems ?_ | with_reducible refine r_bm0 ?_ | with_reducible refine r_lc2E ?_ | ((with_reducible refine r_kLc2G ?hw ?_); (case hw => exact rfl)) | with_reducible refine r_kLc2T ?_ | with_reducible refine r_forE ?_ | with_reducible refine r_orT ?_ | with_reducible refine r_din ?_ | with_reducible refine r_augS ?_ | with_reducible refine r_dnotin ?_ | with_reducible refine r_lcIT ?_ | with_reducible refine r_cont ?_ | with_reducible refine r_meth ?_ | with_reducible refine r_frz ?_ | with_reducible refine r_par3 ?_ | with_reducible refine r_kPar3 ?_ | with_reducible refine r_dz ?_ | with_reducible refine r_revL ?_ | with_reducible refine r_revT ?_ | with_reducible refine r_star ?_ | with_reducible refine r_int1 ?_ | with_reducible refine r_int1b ?_ | with_reducible refine r_min2 ?_ | with_reducible refine r_max2 ?_ | with_reducible refine r_gsub ?_ | with_reducible refine r_err ?_ | with_reducible refine r_errT ?_ | with_reducible refine r_xv ?_)
local macro_rules | `(tactic| walk_at "rd") => `(tactic| repeat walk_at "rd1")
local macro_rules | `(tactic| walk_at "side") => `(tactic| first | assumption | exact Or.inr ⟨by decide, by decide⟩ | exact Or.inl ⟨by decide, by decide⟩ | (constructor <;> omega) | omega | decide | (refine Or.inl ⟨?_, ?_⟩ <;> omega) | (refine Or.inr ⟨?_, ?_⟩ <;> omega) | (refine ⟨?_, ?_, ?_⟩ <;> first | decide | omega))
theorem takes_len {X : Cx} {W : WX} (tk : Takes X W) : Takes X (fun cls d σ H => σ.length = X.N.length → W cls d σ H) := fun u s' ⟨a, B, sI, pins, σ, H, cls, d, e, I, nb, up, sky, na, os, ag, w⟩ =>
  tk u s' ⟨a, B, sI, pins, σ, H, cls, d, e, I, nb, up, sky, na, os, ag, w I.len⟩
/-- what the catcher makes of the work's reading -/
def TCaught (K : PySem.W.Frag) (CE : Addr) : (XK → Hp → VK → Prop) → Hp → VK → Prop := fun tl H Q =>
  tl (fun cls d H' => PySem.W.exmOne K cls (.ref CE) = some true ∧ ∀ a, H' a = none → Q (.ref a) (upd H' a (ExV cls d a))) H (fun _ H' => Q .non H')
theorem caught_gives {X : Cx} {g CE : Addr} {cdg : Value} {q : Str} (hme : X.mg "CreditError" = some (.ref CE)) :
    GivesTo X ["_law_work", "_law_caught_here", "_law_error"] "_law_caught" (defScope s__law_caught) g cdg (defBody s__law_caught) "_law_work" q (TCaught X.K CE) := by
  intro f c' s H Q tl act hc h
  have sc : FnScope ["_law_work", "_law_caught_here", "_law_error"] ["_law_work"] (defScope s__law_caught) := ⟨rfl, rfl, rfl, by decide +kernel, rfl, by decide +kernel, by decide +kernel⟩
  refine ⟨_, pss_cons (ps_set (i := 1) sc.nd rfl (by first | exact Or.inl rfl | exact Or.inr rfl) pe_non) (pss_cons
    (ps_try_keep (X := (cxOf C8.CX0 X.prog X.w X.K X.mg X.base ["_law_work", "_law_caught_here", "_law_error"] "_law_caught" (defScope s__law_caught) g cdg X.A X.stack s H C8.E0).nox) (c := .ref CE) (i := 2)
      (tb := fun W D σ H => ∃ (Ech : XK) (Qn : VK), (∀ cls d σ' H', Ech cls d H' → σ'.length = 3 → W cls d σ' H') ∧ σ[0]? = some (some (.ref f)) ∧ H c' = some (CodeO c' q) ∧ tl Ech H Qn ∧ ∀ v H', Qn v H' → D.nx σ H')
      rfl rfl rfl sc.nd rfl rfl ⟨by rfl, by decide, .inl hme⟩ L2.takes0 (fun W pn xe tk _ => ?body) (fun a oe cls d pn _ _ => pss_one (ps_set (i := 1) sc.nd rfl (by first | exact Or.inl rfl | exact Or.inr rfl) (pv 2))))
    (pss_one (ps_ret (pv 1)))), ?_⟩
  case body =>
    refine ⟨fun pins s' σ H' D I h' => ?_⟩
    obtain ⟨Ech, Qn, hW, h1, h2, h3, h4⟩ := h'
    refine wpAny_execs_cons (wpAny_Expr_any (thn ((act _ pn xe Ech _ _ (takes_len tk) (fun cls d σ' H' e => hW cls d σ' H' e)).run pins s' σ H' Qn I ⟨h1, h2, h3⟩) fun u s1 ⟨v, H1, I1, r1, q1⟩ => ?_))
    exact wpAny_execs_nil ⟨σ, H1, I1, h4 v H1 q1⟩
  · refine ⟨fun cls d H' => PySem.W.exmOne X.K cls (.ref CE) = some true ∧ ∀ a, H' a = none → Q (.ref a) (upd H' a (ExV cls d a)), fun _ H' => Q .non H', fun cls d σ' H' ⟨e1, e2⟩ hl => ?_, rfl, hc, h, fun v H' q => ?_⟩
    · refine ⟨true, e1, fun _ a ha => ?_, fun z => (by cases z)⟩
      obtain ⟨x0, x1, x2, rfl⟩ : ∃ x0 x1 x2, σ' = [x0, x1, x2] := by
        match σ', hl with
        | [x0, x1, x2], _ => exact ⟨x0, x1, x2, rfl⟩
      walk_at "rd"
      exact e2 a ha
    · walk_at "rd"
      exact q
/-- the catcher stands in the text -/
structure CtD (K : PySem.W.Frag) (mg : Str → Option Value) (CE : Addr) : Prop where
  f : ∃ fd, FnP K "_law_caught" s__law_caught (He.ga K "_law_caught") fd ∧ Binds K fd ["_law_work"] []
  gm : mg "_law_caught" = some (.ref (He.ga K "_law_caught"))
  kp : PySem.W.keepIn K (.ref (He.ga K "_law_caught")) = true
  ce : mg "CreditError" = some (.ref CE)
theorem pe_caught {X : Cx} {T : List (Addr × Str)} {c P CE : Addr} {k : Nat} {params : Arguments} {body : Expr} {scope : Scope} {t : XK → TE} {p lpos pos : Pos} (D : CtD X.K X.mg CE) (TB : TabB X.base X.mg c P) (hcode : X.env.code = .ref c)
    (hmT : (P, X.env.qual ++ "<lambda>") ∈ T) (hu : ∀ p ∈ T, p.1 = P → p.2 = X.env.qual ++ "<lambda>") (hr : Room (k + 2) X.A) (L : LamS X.env.scope scope) (hdef : defaultsOf params X.env = ([], []))
    (hbind : ∀ (q : Str) (cl : List (Str × Addr)) (pm cv ctv : Value), bindArgs (PySem.W.kla_fn "<lambda>" q params body scope cl pm cv ctv) ⟨[], []⟩ = pure [])
    (hbody : ∀ (A : Around) (outer : List Env) (s : Shared) (H : Hp) (E : XK) (f c' : Addr), Room k (A.deeper (lamEnv X scope s.heap.objs.size f c')) → PE (lamCx X A outer s H E scope f c') body (t E)) (hg : Gl X "_law_caught" := by rfl) :
    PE X (.Call (.Name "_law_caught" p) [.Lambda params body scope lpos] [] pos) (tLam T (TCaught X.K CE) t) := by
  obtain ⟨fd, F, b⟩ := D.f
  obtain ⟨oc, od, dV, kV, doc, pm, an, cdv, ct, osl, rfl, lk, hcd, _, _⟩ := F.ex
  have sc : FnScope ["_law_work", "_law_caught_here", "_law_error"] ["_law_work"] (defScope s__law_caught) := ⟨rfl, rfl, rfl, by decide +kernel, rfl, by decide +kernel, by decide +kernel⟩
  exact pe_lamcall hg D.gm D.kp lk hcd b sc rfl (.inl rfl) (caught_gives D.ce) TB hcode hmT hu hr L hdef hbind hbody
theorem r_caught {K : PySem.W.Frag} {CE : Addr} {T : List (Addr × Str)} {t : XK → TE} {σ : L2.St} {H : Hp} {Q : VK} (hT : Tabs T H) (q : ∀ H1, ExtN H H1 → Tabs T H1 → t (EC K CE Q) σ H1 (fun _ H' => Q .non H')) : tLam T (TCaught K CE) t σ H Q := ⟨hT, q⟩
end Wp
set_option Elab.async false
set_option linter.all false
set_option maxRecDepth 100000
set_option maxHeartbeats 4000000
/-! The law's own catcher, of a lambda that is a value. -/
namespace Wp
open PySem PySem.Spec PyProof.Rows L2 LamX
local macro_rules | `(tactic| walk_at "val") => `(tactic| assumption)
local macro_rules | `(tactic| walk_at "rd1") => `(tactic| first
  | with_reducible refine r_seq ?_ | with_reducible refine r_next ?_ | with_reducible refine r_if ?_ | with_reducible refine r_asg ?_ | with_reducible refine r_gname ?_
  | with_reducible refine r_ret ?_ | with_reducible refine r_retN ?_ | with_reducible refine r_drop ?_ | with_reducible refine r_par ?_ | with_reducible refine r_kPar ?_
  | ((with_reducible refine' r_var ?hv ?_); (case hv => exact rfl)) | with_reducible refine r_c ?_ | with_reducible refine r_nil ?_ | with_reducible refine r_cons ?_
  | with_reducible refine r_fn ?_ | with_reducible refine r_cb ?_ | with_reducible refine r_op ?_ | with_reducible refine r_un ?_ | with_reducible refine r_I0 ?_
  | with_reducible refine r_pow5 ?_ | with_reducible refine r_pow6 ?_ | with_reducible refine r_pow7 ?_ | with_reducible refine r_pow9 ?_ | with_reducible refine r_pow18 ?_ | with_reducible refine r_pow20 ?_ | with_reducible refine r_pow30 ?_
  | with_reducible refine r_isN_non ?_ | with_reducible refine r_isN_ref ?_ | with_reducible refine r_isN_int ?_ | with_reducible refine r_isN_str ?_ | with_reducible refine r_isN_bl ?_ | with_reducible refine r_notN_non ?_ | with_reducible refine r_notN_ref ?_ | with_reducible refine r_notN_int ?_ | with_reducible refine r_notN_str ?_ | with_reducible refine r_notN_bl ?_
  | ((with_reducible refine r_I ?hc ?_); (case hc => walk_at "side")) | with_reducible refine r_U ?_
  | with_reducible refine r_eqI ?_ | with_reducible refine r_neI ?_ | with_reducible refine r_eqS ?_ | with_reducible refine r_neS ?_ | with_reducible refine r_eqB ?_ | with_reducible refine r_neB ?_
  | with_reducible refine r_chain ?_ | with_reducible refine r_test ?_ | with_reducible refine r_tB ?_ | with_reducible refine r_kTest ?_ | with_reducible refine r_not ?_
  | with_reducible refine r_and ?_ | with_reducible refine r_or ?_ | with_reducible refine r_tif ?_ | with_reducible refine r_andV ?_ | with_reducible refine r_orV ?_ | with_reducible refine r_notV ?_
  | with_reducible refine r_kAndV ?_ | with_reducible refine r_kOrV ?_ | with_reducible refine r_kNotV ?_
  | with_reducible refine w_T ?_ | with_reducible refine w_F ?_ | with_reducible refine w_NT ?_ | with_reducible refine w_NF ?_
  | with_reducible refine r_tup ?_ | with_reducible refine r_lst ?_ | with_reducible refine r_fld ?_ | with_reducible refine r_prop ?_ | ((with_reducible refine' r_aug ?h1 ?_); (case h1 => exact rfl)) | with_reducible refine r_ipI ?_ | with_reducible refine r_dget ?_ | with_reducible refine r_dput ?_ | with_reducible refine r_bm ?_
  | ((with_reducible refine' r_kDGetS ?h1 ?h2 ?_); (case h1 => assumption); (case h2 => walk_at "val"))
  | ((with_reducible refine' r_kBML ?h1 ?_); (case h1 => assumption))
  | with_reducible refine r_forL ?_ | with_reducible refine r_forR1 ?_ | with_reducible refine r_forR2 ?_ | with_reducible refine r_forT ?_ | with_reducible refine r_lcL ?_ | with_reducible refine r_lcR1 ?_
  | ((with_reducible refine r_kLcG ?hw ?_); (case hw => exact rfl)) | with_reducible refine r_kLcT ?_ | with_reducible refine r_yes ?_
  | with_reducible refine r_pnil ?_ | with_reducible refine r_pcons ?_
  | with_reducible refine r_fnK ?_ | ((with_reducible refine r_kFnK ?hl ?_); (case hl => exact rfl))
  | with_reducible refine r_isi_ii ?_ | with_reducible refine r_isi_ib ?_ | with_reducible refine r_isi_bi ?_ | with_reducible refine r_isi_bb ?_ | with_reducible refine r_isi_ss ?_ | with_reducible refine r_isi_is ?_ | with_reducible refine r_isi_it ?_
  | ((with_reducible refine' r_isi_tt ?h1 ?_); (case h1 => assumption))
  | with_reducible refine r_sfld ?_ | with_reducible refine r_gnil ?_ | with_reducible refine r_gcons ?_
  | ((with_reducible refine' r_gtup ?h1 ?h2 ?_); (case h1 => exact SqT.of (by assumption)); (case h2 => exact rfl))
  | with_reducible refine r_sl ?_ | with_reducible refine r_noPart ?_ | with_reducible refine r_part ?_ | with_reducible refine r_kPart ?_ | with_reducible refine r_m1 ?_ | with_reducible refine r_kM1 ?_ | with_reducible refine r_forS ?_ | with_reducible refine r_lcS ?_ | with_reducible refine r_lcTu ?_ | with_reducible refine r_lcK ?_ | with_reducible refine r_dcL ?_ | with_reducible refine r_dcK ?_ | with_reducible refine r_lc2L ?_ | with_reducible refine r_kLc2TL ?_ | with_reducible refine r_dcEn ?_ | with_reducible refine r_gslc ?_ | with_reducible refine r_lcEn ?_ | with_reducible refine r_lcZip ?_ | with_reducible refine r_lcEl ?_ | with_reducible refine r_lcR2 ?_ | with_reducible refine r_rg1 ?_ | with_reducible refine r_rg2 ?_ | with_reducible refine r_forET ?_ | with_reducible refine r_lenD ?_
  | ((with_reducible refine r_kDcG ?hw ?_); (case hw => exact rfl)) | with_reducible refine r_kDcT ?_
  | with_reducible refine r_fldaug ?_ | with_reducible refine r_daug ?_ | with_reducible refine r_rAdd ?_ | with_reducible refine r_rSub ?_ | with_reducible refine r_ddel ?_ | with_reducible refine r_bmF ?_ | with_reducible refine r_dget2 ?_ | with_reducible refine r_listItems ?_ | with_reducible refine r_bm0 ?_ | with_reducible refine r_lc2E ?_ | ((with_reducible refine r_kLc2G ?hw ?_); (case hw => exact rfl)) | with_reducible refine r_kLc2T ?_ | with_reducible refine r_forE ?_ | with_reducible refine r_orT ?_ | with_reducible refine r_din ?_ | with_reducible refine r_augS ?_ | with_reducible refine r_dnotin ?_ | with_reducible refine r_lcIT ?_ | with_reducible refine r_cont ?_ | with_reducible refine r_meth ?_ | with_reducible refine r_frz ?_ | with_reducible refine r_par3 ?_ | with_reducible refine r_kPar3 ?_ | with_reducible refine r_dz ?_ | with_reducible refine r_revL ?_ | with_reducible refine r_revT ?_ | with_reducible refine r_star ?_ | with_reducible refine r_int1 ?_ | with_reducible refine r_int1b ?_ | with_reducible refine r_min2 ?_ | with_reducible refine r_max2 ?_ | with_reducible refine r_gsub ?_ | with_reducible refine r_err ?_ | with_reducible refine r_errT ?_ | with_reducible refine r_xv ?_)
local macro_rules | `(tactic| walk_at "rd") => `(tactic| repeat walk_at "rd1")
local macro_rules | `(tactic| walk_at "side") => `(tactic| first | assumption | exact Or.inr ⟨by decide, by decide⟩ | exact Or.inl ⟨by decide, by decide⟩ | (constructor <;> omega) | omega | decide | (refine Or.inl ⟨?_, ?_⟩ <;> omega) | (refine Or.inr ⟨?_, ?_⟩ <;> omega) | (refine ⟨?_, ?_, ?_⟩ <;> first | decide | omega))
theorem caught2 {P : Program} {w : World} {K : PySem.W.Frag} {mg : Str → Option Value} {base : Heap} {k : Nat} {g CE : Addr} (hme : mg "CreditError" = some (.ref CE)) (cdg : Value) :
    Gives2 P w K mg base k (k + 1) ["_law_work", "_law_caught_here", "_law_error"] "_law_caught" (defScope s__law_caught) g cdg (defBody s__law_caught) (TCaught K CE) := by
  intro A outer s H Q f LU tl hr act lu h
  have sc : FnScope ["_law_work", "_law_caught_here", "_law_error"] ["_law_work"] (defScope s__law_caught) := ⟨rfl, rfl, rfl, by decide +kernel, rfl, by decide +kernel, by decide +kernel⟩
  refine ⟨_, pss_cons (ps_set (i := 1) sc.nd rfl (by first | exact Or.inl rfl | exact Or.inr rfl) pe_non) (pss_cons
    (ps_try_keep (X := (cxOf C8.CX0 P w K mg base ["_law_work", "_law_caught_here", "_law_error"] "_law_caught" (defScope s__law_caught) g cdg A outer s H C8.E0).nox) (c := .ref CE) (i := 2)
      (tb := fun W D σ H => ∃ (Ech : XK) (Qn : VK), (∀ cls d σ' H', Ech cls d H' → σ'.length = 3 → W cls d σ' H') ∧ σ[0]? = some (some (.ref f)) ∧ LU H ∧ tl Ech H Qn ∧ ∀ v H', Qn v H' → D.nx σ H')
      rfl rfl rfl sc.nd rfl rfl ⟨by rfl, by decide, .inl hme⟩ L2.takes0 (fun W pn xe tk _ => ?body) (fun a oe cls d pn _ _ => pss_one (ps_set (i := 1) sc.nd rfl (by first | exact Or.inl rfl | exact Or.inr rfl) (pv 2))))
    (pss_one (ps_ret (pv 1)))), ?_⟩
  case body =>
    refine ⟨fun pins s' σ H' D I h' => ?_⟩
    obtain ⟨Ech, Qn, hW, h1, h2, h3, h4⟩ := h'
    refine wpAny_execs_cons (wpAny_Expr_any (thn ((act_call (CXg := C8.CX0) (Eg := C8.E0) (i := 0) (E := Ech) act (takes_len tk) (fun cls d σ' H' e => hW cls d σ' H' e) hr rfl (.inl rfl)).run pins s' σ H' Qn I ⟨h1, h2, h3⟩) fun u s1 hh => ?_))
    obtain ⟨v, H1, I1, r1, q1⟩ := hh
    exact wpAny_execs_nil ⟨σ, H1, I1, h4 v H1 q1⟩
  · refine ⟨fun cls d H' => PySem.W.exmOne K cls (.ref CE) = some true ∧ ∀ a, H' a = none → Q (.ref a) (upd H' a (ExV cls d a)), fun _ H' => Q .non H', fun cls d σ' H' ⟨e1, e2⟩ hl => ?_, rfl, lu, h, fun v H' q => ?_⟩
    · refine ⟨true, e1, fun _ a ha => ?_, fun z => (by cases z)⟩
      obtain ⟨x0, x1, x2, rfl⟩ : ∃ x0 x1 x2, σ' = [x0, x1, x2] := by
        match σ', hl with
        | [x0, x1, x2], _ => exact ⟨x0, x1, x2, rfl⟩
      walk_at "rd"
      exact e2 a ha
    · walk_at "rd"
      exact q
/-- `_law_caught(a)`, a such a value -/
theorem pe_caught2 {X : Cx} {prov : Prov} {CE : Addr} {k : Nat} {a : Expr} {ta : TA} {p pos : Pos} (D : CtD X.K X.mg CE) (hprov : ∀ pins σ H s f LU tl, Inv X pins σ H s → prov σ H f LU tl → Act X.prog X.w X.K X.mg X.base (frs X.stack) s H k f LU tl) (ha : PA X [a] ta) (hr : Room (k + 2) X.A)
    (hg : Gl X "_law_caught" := by rfl) (he : starEach (a :: []) X.env = (false, eval a X.env) :: starEach [] X.env := by rfl) (hpl : (backTo pos (starEach [] X.env)).any (·.1) = false := by rfl) :
    PE X (.Call (.Name "_law_caught" p) [a] [] pos) (tPass prov (TCaught X.K CE) ta) := by
  obtain ⟨fd, F, b⟩ := D.f
  have sc : FnScope ["_law_work", "_law_caught_here", "_law_error"] ["_law_work"] (defScope s__law_caught) := ⟨rfl, rfl, rfl, by decide +kernel, rfl, by decide +kernel, by decide +kernel⟩
  exact pe_pass hprov F D.gm D.kp b sc (fun cdg => caught2 D.ce cdg) ha hr hg (by decide) he hpl
/-! readings -/
theorem r_lamPass {X : Cx} {T : List (Addr × Str)} {b : LamB} {t : XK → TE} {TT : (XK → Hp → VK → Prop) → Hp → VK → Prop} {σ : L2.St} {H : Hp} {Q : VK} (hT : Tabs T H)
    (q : ∀ f c' H1, ExtN H H1 → Tabs T H1 → LamIn X b f c' H1 → H f = none → TT (fun E H' Q' => t E σ H' Q') H1 Q) : tPass (provL X [b] [t]) TT (tCons (tMk X T b) tNil) σ H Q := by
  unfold tPass tCons tNil
  exact r_mkLam hT fun f c' H2 e t2 l n => ⟨f, _, _, rfl, ⟨0, b, t, c', rfl, rfl, rfl, rfl⟩, l, q f c' H2 e t2 l n⟩
theorem r_handOn {f : Addr} {LU : Hp → Prop} {tl : XK → Hp → VK → Prop} {TT : (XK → Hp → VK → Prop) → Hp → VK → Prop} {n : Nat} {σ : L2.St} {H : Hp} {Q : VK} (h0 : σ[n]? = some (some (.ref f))) (lu : LU H) (q : TT tl H Q) : tPass (prov1 f LU tl) TT (tCons (tVar n) tNil) σ H Q :=
  ⟨.ref f, h0, f, LU, tl, rfl, ⟨rfl, rfl, rfl⟩, lu, q⟩
end Wp
set_option Elab.async false
set_option linter.all false
set_option maxRecDepth 100000
set_option maxHeartbeats 4000000
/-! Lambdas kept in lists: which stand in a def. -/
namespace Wp
open PySem PySem.Spec PyProof.Rows L2 LamX
def lamsE : Expr → List LamB
  | .Lambda p b s _ => [⟨p, b, s⟩]
  | _ => []
def lamsS : Stmt → List LamB
  | .Assign _ (.List es _) _ => es.flatMap lamsE
  | .Expr (.Call _ es _ _) _ => es.flatMap lamsE
  | _ => []
/-- the lambdas of a def's statements, in their order -/
def lamsD (ss : List Stmt) : List LamB := ss.flatMap lamsS
def lamN (s : Stmt) (ss : List Stmt) (i : Nat) : LamB := match (lamsD ss)[i]? with
  | some b => b
  | none => ⟨defArgs s, .Name "" ⟨0, 0, 0, 0⟩, defScope s⟩
theorem provL_at {X : Cx} {bs : List LamB} {ts : List (XK → TE)} {σ : L2.St} {H : Hp} {f c' : Addr} {b : LamB} {t : XK → TE} {Q : Prop} (i : Nat) (h1 : bs[i]? = some b) (h2 : ts[i]? = some t) : provL X bs ts σ H f (LamIn X b f c') (fun E H' Q' => t E σ H' Q') := ⟨i, b, t, c', h1, h2, rfl, rfl⟩
/-- what stands in a list is handed on -/
theorem r_passL {X : Cx} {bs : List LamB} {ts : List (XK → TE)} {TT : (XK → Hp → VK → Prop) → Hp → VK → Prop} {n : Nat} {σ : L2.St} {H : Hp} {Q : VK} {f c' : Addr} {b : LamB} {t : XK → TE} (i : Nat) (h0 : σ[n]? = some (some (.ref f))) (l : LamIn X b f c' H) (h1 : bs[i]? = some b) (h2 : ts[i]? = some t) (q : TT (fun E H' Q' => t E σ H' Q') H Q) :
    tPass (provL X bs ts) TT (tCons (tVar n) tNil) σ H Q := by
  show tVar n σ H fun x H1 => tNil σ H1 fun xs H2 => _
  unfold tVar
  exact ⟨_, h0, f, _, _, rfl, ⟨i, b, t, c', h1, h2, rfl, rfl⟩, l, q⟩
end Wp
set_option Elab.async false
set_option linter.all false
set_option maxRecDepth 100000
set_option maxHeartbeats 4000000
/-! zip of four lists. (printed by gen72z.py) -/
namespace Wp
open PySem PySem.Spec PyProof.Rows L2
theorem neA {a b : Nat} (h : a ≠ b) : @Ne Addr a b := h
abbrev IsTup4 (h : Heap) (T : Addr) (a1 a2 a3 a4 : Value) : Prop := h.get? T = some { cls := .type "tuple", data := .seq #[a1, a2, a3, a4] }
section
variable {prog : Program} {w : World} {A : Around} {E : Value → Shared → Prop} {s : Shared}
theorem upd_IsTup4 {T : Addr} {a1 a2 a3 a4 x : Value} {k : Nat} {Q : Unit → Shared → Prop} (hT : IsTup4 s.heap T a1 a2 a3 a4)
    (h : ∀ h', h'.get? T = some { cls := .type "tuple", data := .seq ((#[a1, a2, a3, a4] : Array Value).setIfInBounds k x) } → Heap.SameBut T s.heap h' → Q () { s with heap := h' }) :
    wpAny (model prog w) A (updateSeq T (·.setIfInBounds k x)) Q E s := by
  refine wpAny_updateSeq hT rfl (h _ ?_ (Heap.SameBut.update ..))
  rw [Heap.get?_update_self _ hT rfl]
  simp [Obj.mapSeq]
theorem zip4_next_item {N l1 l2 l3 l4 : Nat} {k : Nat} {xs1 xs2 xs3 xs4 : Array Value} {a1 a2 a3 a4 : Value} {x1 x2 x3 x4 : Value} {Q : Value → Shared → Prop} (q1 : l1 < N) (q2 : l2 < N) (q3 : l3 < N) (q4 : l4 < N) (hz : IsZip s.heap (N + 6) (N + 4) (N + 5) .none) (hTI : IsTup4 s.heap (N + 4) (.ref N) (.ref (N + 1)) (.ref (N + 2)) (.ref (N + 3))) (hTO : IsTup4 s.heap (N + 5) a1 a2 a3 a4)
    (h1 : s.heap.IsListIter N l1 k) (h2 : s.heap.IsListIter (N + 1) l2 k) (h3 : s.heap.IsListIter (N + 2) l3 k) (h4 : s.heap.IsListIter (N + 3) l4 k) (hl1 : s.heap.IsList l1 xs1) (hl2 : s.heap.IsList l2 xs2) (hl3 : s.heap.IsList l3 xs3) (hl4 : s.heap.IsList l4 xs4) (hx1 : xs1[k]? = some x1) (hx2 : xs2[k]? = some x2) (hx3 : xs3[k]? = some x3) (hx4 : xs4[k]? = some x4)
    (hQ : ∀ h', IsZip h' (N + 6) (N + 4) (N + 5) (rawInt s.heap.objs.size) → IsTup4 h' (N + 5) x1 x2 x3 x4 → h'.IsListIter N l1 (k + 1) → h'.IsListIter (N + 1) l2 (k + 1) → h'.IsListIter (N + 2) l3 (k + 1) → h'.IsListIter (N + 3) l4 (k + 1) → IsTup4 h' s.heap.objs.size x1 x2 x3 x4 → h'.objs.size = s.heap.objs.size + 1 →
      (∀ c o, c ≠ N + 6 → c ≠ N + 5 → c ≠ N → c ≠ N + 1 → c ≠ N + 2 → c ≠ N + 3 → s.heap.get? c = some o → h'.get? c = some o) → Q (.ref s.heap.objs.size) { s with heap := h' }) :
    wpAny (model prog w) A (Builtin.«zip.__next__» ⟨[.ref (N + 6)], []⟩) (fun fin s' => ∃ v, fin = .done (.ret v) ∧ Q v s') E s := by
  show wpAny _ _ (field (.ref (N + 6)) 2 >>= _) _ _ _
  refine wpAny_bind (wpAny_field hz rfl (x := .bool false) rfl ?_)
  show wpAny _ _ (field (.ref (N + 6)) 3 >>= _) _ _ _
  refine wpAny_bind (wpAny_field hz rfl (x := .ref (N + 4)) rfl ?_)
  refine wpAny_bind (wpAny_seqItems hTI rfl ?_)
  show wpAny _ _ (Builtin.SmallTypes.ownedTupleIsFree (.ref (N + 6)) >>= _) _ _ _
  refine wpAny_bind ?_
  unfold Builtin.SmallTypes.ownedTupleIsFree
  refine wpAny_bind (wpAny_field hz rfl (x := .none) rfl (wpAny_pure ?_))
  simp only [if_true]
  refine wpAny_bind (wpAny_rule ?_)
  refine wpAny_bind (wpAny_field hz rfl (x := .ref (N + 5)) rfl ?_)
  refine wpAny_bind (wpAny_setField_rec hz (by simp) fun g0 hz0 hs0 => ?_)
  replace hz0 : IsZip g0 (N + 6) (N + 4) (N + 5) .ellipsis := hz0
  refine wpAny_bind ?_
  simp only [List.zipIdx_cons, List.zipIdx_nil, List.forIn_cons, List.forIn_nil]
  refine wpAny_bind (wpAny_bind (wpAny_onRaise ?_))
  show wpAny _ _ (Builtin.SmallTypes.nextOf (.ref N) >>= _) _ _ _
  refine wpAny_bind (wpAny_nextOf_list_item (h1.extBut hs0.extBut (neA (by omega))) (hl1.extBut hs0.extBut (neA (by omega))) hx1 fun p1 hj1 hp1 => wpAny_pure ?_)
  have hU1 : IsTup4 p1 (N + 5) a1 a2 a3 a4 := hp1.extBut _ _ (neA (by omega)) (hs0.extBut _ _ (neA (by omega)) hTO)
  refine wpAny_bind (wpAny_seqItems hU1 rfl ?_)
  refine wpAny_bind (upd_IsTup4 hU1 fun g1 hT1 hs1 => ?_)
  replace hT1 : IsTup4 g1 (N + 5) x1 a2 a3 a4 := hT1
  refine wpAny_bind (wpAny_letGo (wpAny_pure ?_))
  refine wpAny_bind (wpAny_bind (wpAny_onRaise ?_))
  show wpAny _ _ (Builtin.SmallTypes.nextOf (.ref (N + 1)) >>= _) _ _ _
  refine wpAny_bind (wpAny_nextOf_list_item (((h2.extBut hs0.extBut (neA (by omega))).extBut hp1.extBut (neA (by omega))).extBut hs1.extBut (neA (by omega))) (((hl2.extBut hs0.extBut (neA (by omega))).extBut hp1.extBut (neA (by omega))).extBut hs1.extBut (neA (by omega))) hx2 fun p2 hj2 hp2 => wpAny_pure ?_)
  have hU2 : IsTup4 p2 (N + 5) x1 a2 a3 a4 := hp2.extBut _ _ (neA (by omega)) hT1
  refine wpAny_bind (wpAny_seqItems hU2 rfl ?_)
  refine wpAny_bind (upd_IsTup4 hU2 fun g2 hT2 hs2 => ?_)
  replace hT2 : IsTup4 g2 (N + 5) x1 x2 a3 a4 := hT2
  refine wpAny_bind (wpAny_letGo (wpAny_pure ?_))
  refine wpAny_bind (wpAny_bind (wpAny_onRaise ?_))
  show wpAny _ _ (Builtin.SmallTypes.nextOf (.ref (N + 2)) >>= _) _ _ _
  refine wpAny_bind (wpAny_nextOf_list_item (((((h3.extBut hs0.extBut (neA (by omega))).extBut hp1.extBut (neA (by omega))).extBut hs1.extBut (neA (by omega))).extBut hp2.extBut (neA (by omega))).extBut hs2.extBut (neA (by omega))) (((((hl3.extBut hs0.extBut (neA (by omega))).extBut hp1.extBut (neA (by omega))).extBut hs1.extBut (neA (by omega))).extBut hp2.extBut (neA (by omega))).extBut hs2.extBut (neA (by omega))) hx3 fun p3 hj3 hp3 => wpAny_pure ?_)
  have hU3 : IsTup4 p3 (N + 5) x1 x2 a3 a4 := hp3.extBut _ _ (neA (by omega)) hT2
  refine wpAny_bind (wpAny_seqItems hU3 rfl ?_)
  refine wpAny_bind (upd_IsTup4 hU3 fun g3 hT3 hs3 => ?_)
  replace hT3 : IsTup4 g3 (N + 5) x1 x2 x3 a4 := hT3
  refine wpAny_bind (wpAny_letGo (wpAny_pure ?_))
  refine wpAny_bind (wpAny_bind (wpAny_onRaise ?_))
  show wpAny _ _ (Builtin.SmallTypes.nextOf (.ref (N + 3)) >>= _) _ _ _
  refine wpAny_bind (wpAny_nextOf_list_item (((((((h4.extBut hs0.extBut (neA (by omega))).extBut hp1.extBut (neA (by omega))).extBut hs1.extBut (neA (by omega))).extBut hp2.extBut (neA (by omega))).extBut hs2.extBut (neA (by omega))).extBut hp3.extBut (neA (by omega))).extBut hs3.extBut (neA (by omega))) (((((((hl4.extBut hs0.extBut (neA (by omega))).extBut hp1.extBut (neA (by omega))).extBut hs1.extBut (neA (by omega))).extBut hp2.extBut (neA (by omega))).extBut hs2.extBut (neA (by omega))).extBut hp3.extBut (neA (by omega))).extBut hs3.extBut (neA (by omega))) hx4 fun p4 hj4 hp4 => wpAny_pure ?_)
  have hU4 : IsTup4 p4 (N + 5) x1 x2 x3 a4 := hp4.extBut _ _ (neA (by omega)) hT3
  refine wpAny_bind (wpAny_seqItems hU4 rfl ?_)
  refine wpAny_bind (upd_IsTup4 hU4 fun g4 hT4 hs4 => ?_)
  replace hT4 : IsTup4 g4 (N + 5) x1 x2 x3 x4 := hT4
  refine wpAny_bind (wpAny_letGo (wpAny_pure (wpAny_pure ?_)))
  refine wpAny_bind (wpAny_seqItems hT4 rfl ?_)
  refine wpAny_bind (wpAny_newTuple ?_)
  have hsz : g4.objs.size = s.heap.objs.size := by rw [hs4.1, hp4.1, hs3.1, hp3.1, hs2.1, hp2.1, hs1.1, hp1.1, hs0.1]
  have hz4 : IsZip g4 (N + 6) (N + 4) (N + 5) .ellipsis := (hs4.extBut _ _ (neA (by omega)) (hp4.extBut _ _ (neA (by omega)) (hs3.extBut _ _ (neA (by omega)) (hp3.extBut _ _ (neA (by omega)) (hs2.extBut _ _ (neA (by omega)) (hp2.extBut _ _ (neA (by omega)) (hs1.extBut _ _ (neA (by omega)) (hp1.extBut _ _ (neA (by omega)) hz0))))))))
  have hk4 : ∀ c o, c ≠ N + 6 → c ≠ N + 5 → c ≠ N → c ≠ N + 1 → c ≠ N + 2 → c ≠ N + 3 → s.heap.get? c = some o → g4.get? c = some o := fun c o c0 cT c1 c2 c3 c4 e => (hs4.extBut _ _ cT (hp4.extBut _ _ c4 (hs3.extBut _ _ cT (hp3.extBut _ _ c3 (hs2.extBut _ _ cT (hp2.extBut _ _ c2 (hs1.extBut _ _ cT (hp1.extBut _ _ c1 (hs0.extBut _ _ c0 e)))))))))
  have hf1 : g4.IsListIter N l1 (k + 1) := (((((((hj1.extBut hs1.extBut (neA (by omega))).extBut hp2.extBut (neA (by omega))).extBut hs2.extBut (neA (by omega))).extBut hp3.extBut (neA (by omega))).extBut hs3.extBut (neA (by omega))).extBut hp4.extBut (neA (by omega))).extBut hs4.extBut (neA (by omega)))
  have hf2 : g4.IsListIter (N + 1) l2 (k + 1) := (((((hj2.extBut hs2.extBut (neA (by omega))).extBut hp3.extBut (neA (by omega))).extBut hs3.extBut (neA (by omega))).extBut hp4.extBut (neA (by omega))).extBut hs4.extBut (neA (by omega)))
  have hf3 : g4.IsListIter (N + 2) l3 (k + 1) := (((hj3.extBut hs3.extBut (neA (by omega))).extBut hp4.extBut (neA (by omega))).extBut hs4.extBut (neA (by omega)))
  have hf4 : g4.IsListIter (N + 3) l4 (k + 1) := (hj4.extBut hs4.extBut (neA (by omega)))
  have hzlt : (N + 6) < g4.objs.size := Heap.lt_size hz4
  show wpAny _ _ (Builtin.SmallTypes.ownedTupleHandOut (.ref (N + 6)) (.ref g4.objs.size) >>= _) _ _ _
  refine wpAny_bind ?_
  unfold Builtin.SmallTypes.ownedTupleHandOut
  have hz6 : IsZip (g4.push { cls := .type "tuple", data := .seq #[x1, x2, x3, x4] }) (N + 6) (N + 4) (N + 5) .ellipsis := Heap.get?_push_of_some _ hz4
  refine wpAny_bind (wpAny_setField_rec hz6 (by simp) fun h7 hz7 hs7 => ?_)
  replace hz7 : IsZip h7 (N + 6) (N + 4) (N + 5) (rawInt g4.objs.size) := hz7
  refine wpAny_setField_rec hz7 (by simp) fun h8 hz8 hs8 => ?_
  replace hz8 : IsZip h8 (N + 6) (N + 4) (N + 5) (rawInt g4.objs.size) := hz8
  have up : ∀ c o, c ≠ N + 6 → g4.get? c = some o → h8.get? c = some o := fun c o c1 e => hs8.extBut _ _ c1 (hs7.extBut _ _ c1 (Heap.get?_push_of_some _ e))
  have hT8 : IsTup4 h8 g4.objs.size x1 x2 x3 x4 := hs8.extBut _ _ (Nat.ne_of_gt hzlt) (hs7.extBut _ _ (Nat.ne_of_gt hzlt) (Heap.get?_push_size _ rfl))
  have hs8z : h8.objs.size = g4.objs.size + 1 := by rw [hs8.1, hs7.1, Heap.size_push]
  rw [hsz] at hz8 hT8 hs8z
  refine wpAny_pure ⟨_, rfl, ?_⟩
  show Q (.ref g4.objs.size) _
  rw [hsz]
  exact hQ h8 hz8 (up _ _ (neA (by omega)) hT4) (hf1.at fun o e => up _ o (neA (by omega)) e) (hf2.at fun o e => up _ o (neA (by omega)) e) (hf3.at fun o e => up _ o (neA (by omega)) e) (hf4.at fun o e => up _ o (neA (by omega)) e) hT8 hs8z fun c o c0 cT c1 c2 c3 c4 e => up c o c0 (hk4 c o c0 cT c1 c2 c3 c4 e)
theorem zip4_next_end {N l1 l2 l3 l4 : Nat} {k : Nat} {xs1 xs2 xs3 xs4 : Array Value} {a1 a2 a3 a4 : Value} {Q : PySem.Fin → Shared → Prop} (hh : A.handled = none) (q1 : l1 < N) (q2 : l2 < N) (q3 : l3 < N) (q4 : l4 < N) (hz : IsZip s.heap (N + 6) (N + 4) (N + 5) .none) (hTI : IsTup4 s.heap (N + 4) (.ref N) (.ref (N + 1)) (.ref (N + 2)) (.ref (N + 3))) (hTO : IsTup4 s.heap (N + 5) a1 a2 a3 a4)
    (h1 : s.heap.IsListIter N l1 k) (h2 : s.heap.IsListIter (N + 1) l2 k) (h3 : s.heap.IsListIter (N + 2) l3 k) (h4 : s.heap.IsListIter (N + 3) l4 k) (hl1 : s.heap.IsList l1 xs1) (hl2 : s.heap.IsList l2 xs2) (hl3 : s.heap.IsList l3 xs3) (hl4 : s.heap.IsList l4 xs4) (hend : xs1[k]? = none ∨ xs2[k]? = none ∨ xs3[k]? = none ∨ xs4[k]? = none)
    (hE : ∀ h' e, (∀ c o, c ≠ N + 6 → c ≠ N + 5 → c ≠ N → c ≠ N + 1 → c ≠ N + 2 → c ≠ N + 3 → s.heap.get? c = some o → h'.get? c = some o) → (∃ o, h'.get? e = some o ∧ o.cls = .type "StopIteration") → E (.ref e) { s with heap := h' }) :
    wpAny (model prog w) A (Builtin.«zip.__next__» ⟨[.ref (N + 6)], []⟩) Q E s := by
  show wpAny _ _ (field (.ref (N + 6)) 2 >>= _) _ _ _
  refine wpAny_bind (wpAny_field hz rfl (x := .bool false) rfl ?_)
  show wpAny _ _ (field (.ref (N + 6)) 3 >>= _) _ _ _
  refine wpAny_bind (wpAny_field hz rfl (x := .ref (N + 4)) rfl ?_)
  refine wpAny_bind (wpAny_seqItems hTI rfl ?_)
  show wpAny _ _ (Builtin.SmallTypes.ownedTupleIsFree (.ref (N + 6)) >>= _) _ _ _
  refine wpAny_bind ?_
  unfold Builtin.SmallTypes.ownedTupleIsFree
  refine wpAny_bind (wpAny_field hz rfl (x := .none) rfl (wpAny_pure ?_))
  simp only [if_true]
  refine wpAny_bind (wpAny_rule ?_)
  refine wpAny_bind (wpAny_field hz rfl (x := .ref (N + 5)) rfl ?_)
  refine wpAny_bind (wpAny_setField_rec hz (by simp) fun g0 hz0 hs0 => ?_)
  replace hz0 : IsZip g0 (N + 6) (N + 4) (N + 5) .ellipsis := hz0
  refine wpAny_bind ?_
  simp only [List.zipIdx_cons, List.zipIdx_nil, List.forIn_cons, List.forIn_nil]
  refine wpAny_bind (wpAny_bind (wpAny_onRaise ?_))
  show wpAny _ _ (Builtin.SmallTypes.nextOf (.ref N) >>= _) _ _ _
  cases hx1 : xs1[k]? with
  | none =>
    refine wpAny_bind (wpAny_nextOf_list_end hh (h1.extBut hs0.extBut (neA (by omega))) (hl1.extBut hs0.extBut (neA (by omega))) hx1 fun q e hq he => ?_)
    obtain ⟨oe, hoe, hce⟩ := he
    have hzq : IsZip q (N + 6) (N + 4) (N + 5) .ellipsis := hq _ _ (neA (by omega)) hz0
    have hez : e ≠ N + 6 := fun x => by subst x; rw [hzq] at hoe; cases hoe; simp at hce
    refine wpAny_setField_rec hzq (by simp) fun q' _ hq' => hE q' e (fun c o c0 cT c1 c2 c3 c4 e => hq'.extBut _ _ c0 (hq _ _ c1 (hs0.extBut _ _ c0 e))) ⟨oe, hq'.extBut _ _ hez hoe, hce⟩
  | some x1 =>
    refine wpAny_bind (wpAny_nextOf_list_item (h1.extBut hs0.extBut (neA (by omega))) (hl1.extBut hs0.extBut (neA (by omega))) hx1 fun p1 hj1 hp1 => wpAny_pure ?_)
    have hU1 : IsTup4 p1 (N + 5) a1 a2 a3 a4 := hp1.extBut _ _ (neA (by omega)) (hs0.extBut _ _ (neA (by omega)) hTO)
    refine wpAny_bind (wpAny_seqItems hU1 rfl ?_)
    refine wpAny_bind (upd_IsTup4 hU1 fun g1 hT1 hs1 => ?_)
    replace hT1 : IsTup4 g1 (N + 5) x1 a2 a3 a4 := hT1
    refine wpAny_bind (wpAny_letGo (wpAny_pure ?_))
    refine wpAny_bind (wpAny_bind (wpAny_onRaise ?_))
    show wpAny _ _ (Builtin.SmallTypes.nextOf (.ref (N + 1)) >>= _) _ _ _
    cases hx2 : xs2[k]? with
    | none =>
      refine wpAny_bind (wpAny_nextOf_list_end hh (((h2.extBut hs0.extBut (neA (by omega))).extBut hp1.extBut (neA (by omega))).extBut hs1.extBut (neA (by omega))) (((hl2.extBut hs0.extBut (neA (by omega))).extBut hp1.extBut (neA (by omega))).extBut hs1.extBut (neA (by omega))) hx2 fun q e hq he => ?_)
      obtain ⟨oe, hoe, hce⟩ := he
      have hzq : IsZip q (N + 6) (N + 4) (N + 5) .ellipsis := hq _ _ (neA (by omega)) (hs1.extBut _ _ (neA (by omega)) (hp1.extBut _ _ (neA (by omega)) hz0))
      have hez : e ≠ N + 6 := fun x => by subst x; rw [hzq] at hoe; cases hoe; simp at hce
      refine wpAny_setField_rec hzq (by simp) fun q' _ hq' => hE q' e (fun c o c0 cT c1 c2 c3 c4 e => hq'.extBut _ _ c0 (hq _ _ c2 (hs1.extBut _ _ cT (hp1.extBut _ _ c1 (hs0.extBut _ _ c0 e))))) ⟨oe, hq'.extBut _ _ hez hoe, hce⟩
    | some x2 =>
      refine wpAny_bind (wpAny_nextOf_list_item (((h2.extBut hs0.extBut (neA (by omega))).extBut hp1.extBut (neA (by omega))).extBut hs1.extBut (neA (by omega))) (((hl2.extBut hs0.extBut (neA (by omega))).extBut hp1.extBut (neA (by omega))).extBut hs1.extBut (neA (by omega))) hx2 fun p2 hj2 hp2 => wpAny_pure ?_)
      have hU2 : IsTup4 p2 (N + 5) x1 a2 a3 a4 := hp2.extBut _ _ (neA (by omega)) hT1
      refine wpAny_bind (wpAny_seqItems hU2 rfl ?_)
      refine wpAny_bind (upd_IsTup4 hU2 fun g2 hT2 hs2 => ?_)
      replace hT2 : IsTup4 g2 (N + 5) x1 x2 a3 a4 := hT2
      refine wpAny_bind (wpAny_letGo (wpAny_pure ?_))
      refine wpAny_bind (wpAny_bind (wpAny_onRaise ?_))
      show wpAny _ _ (Builtin.SmallTypes.nextOf (.ref (N + 2)) >>= _) _ _ _
      cases hx3 : xs3[k]? with
      | none =>
        refine wpAny_bind (wpAny_nextOf_list_end hh (((((h3.extBut hs0.extBut (neA (by omega))).extBut hp1.extBut (neA (by omega))).extBut hs1.extBut (neA (by omega))).extBut hp2.extBut (neA (by omega))).extBut hs2.extBut (neA (by omega))) (((((hl3.extBut hs0.extBut (neA (by omega))).extBut hp1.extBut (neA (by omega))).extBut hs1.extBut (neA (by omega))).extBut hp2.extBut (neA (by omega))).extBut hs2.extBut (neA (by omega))) hx3 fun q e hq he => ?_)
        obtain ⟨oe, hoe, hce⟩ := he
        have hzq : IsZip q (N + 6) (N + 4) (N + 5) .ellipsis := hq _ _ (neA (by omega)) (hs2.extBut _ _ (neA (by omega)) (hp2.extBut _ _ (neA (by omega)) (hs1.extBut _ _ (neA (by omega)) (hp1.extBut _ _ (neA (by omega)) hz0))))
        have hez : e ≠ N + 6 := fun x => by subst x; rw [hzq] at hoe; cases hoe; simp at hce
        refine wpAny_setField_rec hzq (by simp) fun q' _ hq' => hE q' e (fun c o c0 cT c1 c2 c3 c4 e => hq'.extBut _ _ c0 (hq _ _ c3 (hs2.extBut _ _ cT (hp2.extBut _ _ c2 (hs1.extBut _ _ cT (hp1.extBut _ _ c1 (hs0.extBut _ _ c0 e))))))) ⟨oe, hq'.extBut _ _ hez hoe, hce⟩
      | some x3 =>
        refine wpAny_bind (wpAny_nextOf_list_item (((((h3.extBut hs0.extBut (neA (by omega))).extBut hp1.extBut (neA (by omega))).extBut hs1.extBut (neA (by omega))).extBut hp2.extBut (neA (by omega))).extBut hs2.extBut (neA (by omega))) (((((hl3.extBut hs0.extBut (neA (by omega))).extBut hp1.extBut (neA (by omega))).extBut hs1.extBut (neA (by omega))).extBut hp2.extBut (neA (by omega))).extBut hs2.extBut (neA (by omega))) hx3 fun p3 hj3 hp3 => wpAny_pure ?_)
        have hU3 : IsTup4 p3 (N + 5) x1 x2 a3 a4 := hp3.extBut _ _ (neA (by omega)) hT2
        refine wpAny_bind (wpAny_seqItems hU3 rfl ?_)
        refine wpAny_bind (upd_IsTup4 hU3 fun g3 hT3 hs3 => ?_)
        replace hT3 : IsTup4 g3 (N + 5) x1 x2 x3 a4 := hT3
        refine wpAny_bind (wpAny_letGo (wpAny_pure ?_))
        refine wpAny_bind (wpAny_bind (wpAny_onRaise ?_))
        show wpAny _ _ (Builtin.SmallTypes.nextOf (.ref (N + 3)) >>= _) _ _ _
        cases hx4 : xs4[k]? with
        | none =>
          refine wpAny_bind (wpAny_nextOf_list_end hh (((((((h4.extBut hs0.extBut (neA (by omega))).extBut hp1.extBut (neA (by omega))).extBut hs1.extBut (neA (by omega))).extBut hp2.extBut (neA (by omega))).extBut hs2.extBut (neA (by omega))).extBut hp3.extBut (neA (by omega))).extBut hs3.extBut (neA (by omega))) (((((((hl4.extBut hs0.extBut (neA (by omega))).extBut hp1.extBut (neA (by omega))).extBut hs1.extBut (neA (by omega))).extBut hp2.extBut (neA (by omega))).extBut hs2.extBut (neA (by omega))).extBut hp3.extBut (neA (by omega))).extBut hs3.extBut (neA (by omega))) hx4 fun q e hq he => ?_)
          obtain ⟨oe, hoe, hce⟩ := he
          have hzq : IsZip q (N + 6) (N + 4) (N + 5) .ellipsis := hq _ _ (neA (by omega)) (hs3.extBut _ _ (neA (by omega)) (hp3.extBut _ _ (neA (by omega)) (hs2.extBut _ _ (neA (by omega)) (hp2.extBut _ _ (neA (by omega)) (hs1.extBut _ _ (neA (by omega)) (hp1.extBut _ _ (neA (by omega)) hz0))))))
          have hez : e ≠ N + 6 := fun x => by subst x; rw [hzq] at hoe; cases hoe; simp at hce
          refine wpAny_setField_rec hzq (by simp) fun q' _ hq' => hE q' e (fun c o c0 cT c1 c2 c3 c4 e => hq'.extBut _ _ c0 (hq _ _ c4 (hs3.extBut _ _ cT (hp3.extBut _ _ c3 (hs2.extBut _ _ cT (hp2.extBut _ _ c2 (hs1.extBut _ _ cT (hp1.extBut _ _ c1 (hs0.extBut _ _ c0 e))))))))) ⟨oe, hq'.extBut _ _ hez hoe, hce⟩
        | some x4 =>
          exact absurd hend (by rw [hx1, hx2, hx3, hx4]; simp)
theorem pyNext_zip4_item {N l1 l2 l3 l4 : Nat} {k : Nat} {xs1 xs2 xs3 xs4 : Array Value} {a1 a2 a3 a4 : Value} {x1 x2 x3 x4 : Value} {Q : Option Value → Shared → Prop} (q1 : l1 < N) (q2 : l2 < N) (q3 : l3 < N) (q4 : l4 < N) (hz : IsZip s.heap (N + 6) (N + 4) (N + 5) .none) (hTI : IsTup4 s.heap (N + 4) (.ref N) (.ref (N + 1)) (.ref (N + 2)) (.ref (N + 3))) (hTO : IsTup4 s.heap (N + 5) a1 a2 a3 a4)
    (h1 : s.heap.IsListIter N l1 k) (h2 : s.heap.IsListIter (N + 1) l2 k) (h3 : s.heap.IsListIter (N + 2) l3 k) (h4 : s.heap.IsListIter (N + 3) l4 k) (hl1 : s.heap.IsList l1 xs1) (hl2 : s.heap.IsList l2 xs2) (hl3 : s.heap.IsList l3 xs3) (hl4 : s.heap.IsList l4 xs4) (hx1 : xs1[k]? = some x1) (hx2 : xs2[k]? = some x2) (hx3 : xs3[k]? = some x3) (hx4 : xs4[k]? = some x4)
    (hQ : ∀ h', IsZip h' (N + 6) (N + 4) (N + 5) (rawInt s.heap.objs.size) → IsTup4 h' (N + 5) x1 x2 x3 x4 → h'.IsListIter N l1 (k + 1) → h'.IsListIter (N + 1) l2 (k + 1) → h'.IsListIter (N + 2) l3 (k + 1) → h'.IsListIter (N + 3) l4 (k + 1) → IsTup4 h' s.heap.objs.size x1 x2 x3 x4 → h'.objs.size = s.heap.objs.size + 1 →
      (∀ c o, c ≠ N + 6 → c ≠ N + 5 → c ≠ N → c ≠ N + 1 → c ≠ N + 2 → c ≠ N + 3 → s.heap.get? c = some o → h'.get? c = some o) → Q (some (.ref s.heap.objs.size)) { s with heap := h' }) :
    wpAny (model prog w) A (pyNext (.ref (N + 6))) Q E s := by
  have hT : s.TypeIs (.ref (N + 6)) "zip" := ⟨_, hz, rfl⟩
  unfold pyNext
  exact wpAny_bind (wpAny_attempt (wpAny_callSpecial?_slot (name := Str.ofString "__next__") hT F.slot_zip_next
    (wpAny_call_entry F.slot_zip_next hT F.entry_zip_next
      (zip4_next_item q1 q2 q3 q4 hz hTI hTO h1 h2 h3 h4 hl1 hl2 hl3 hl4 hx1 hx2 hx3 hx4 fun h' b1 b2 d1 d2 d3 d4 b3 b4 b5 => wpAny_pure (hQ h' b1 b2 d1 d2 d3 d4 b3 b4 b5)) (F.args_zip_next_1 _))))
theorem pyNext_zip4_end {N l1 l2 l3 l4 : Nat} {k : Nat} {xs1 xs2 xs3 xs4 : Array Value} {a1 a2 a3 a4 : Value} {Q : Option Value → Shared → Prop} (hh : A.handled = none) (q1 : l1 < N) (q2 : l2 < N) (q3 : l3 < N) (q4 : l4 < N) (hz : IsZip s.heap (N + 6) (N + 4) (N + 5) .none) (hTI : IsTup4 s.heap (N + 4) (.ref N) (.ref (N + 1)) (.ref (N + 2)) (.ref (N + 3))) (hTO : IsTup4 s.heap (N + 5) a1 a2 a3 a4)
    (h1 : s.heap.IsListIter N l1 k) (h2 : s.heap.IsListIter (N + 1) l2 k) (h3 : s.heap.IsListIter (N + 2) l3 k) (h4 : s.heap.IsListIter (N + 3) l4 k) (hl1 : s.heap.IsList l1 xs1) (hl2 : s.heap.IsList l2 xs2) (hl3 : s.heap.IsList l3 xs3) (hl4 : s.heap.IsList l4 xs4) (hend : xs1[k]? = none ∨ xs2[k]? = none ∨ xs3[k]? = none ∨ xs4[k]? = none)
    (hQ : ∀ h', (∀ c o, c ≠ N + 6 → c ≠ N + 5 → c ≠ N → c ≠ N + 1 → c ≠ N + 2 → c ≠ N + 3 → s.heap.get? c = some o → h'.get? c = some o) → Q none { s with heap := h' }) : wpAny (model prog w) A (pyNext (.ref (N + 6))) Q E s := by
  have hT : s.TypeIs (.ref (N + 6)) "zip" := ⟨_, hz, rfl⟩
  unfold pyNext
  refine wpAny_bind (wpAny_attempt (wpAny_callSpecial?_slot (name := Str.ofString "__next__") hT F.slot_zip_next
    (wpAny_call_entry F.slot_zip_next hT F.entry_zip_next (zip4_next_end hh q1 q2 q3 q4 hz hTI hTO h1 h2 h3 h4 hl1 hl2 hl3 hl4 hend fun h' e hk he => ?_) (F.args_zip_next_1 _))))
  obtain ⟨o, ho, hc⟩ := he
  refine wpAny_bind (wpAny_isInstance (T := "StopIteration") (b := true) ⟨o, ho, hc⟩ isSubtype_stop ?_)
  exact wpAny_pure (hQ _ hk)
end
abbrev zq1 (h : Heap) (l1 : Addr) : Heap := h.push { cls := .type "list_iterator", data := .fields #[.ref l1, .int 0 0] }
abbrev zq2 (h : Heap) (l1 l2 : Addr) : Heap := (zq1 h l1).push { cls := .type "list_iterator", data := .fields #[.ref l2, .int 0 0] }
abbrev zq3 (h : Heap) (l1 l2 l3 : Addr) : Heap := (zq2 h l1 l2).push { cls := .type "list_iterator", data := .fields #[.ref l3, .int 0 0] }
abbrev zq4 (h : Heap) (l1 l2 l3 l4 : Addr) : Heap := (zq3 h l1 l2 l3).push { cls := .type "list_iterator", data := .fields #[.ref l4, .int 0 0] }
abbrev zq5 (h : Heap) (l1 l2 l3 l4 : Addr) : Heap := (zq4 h l1 l2 l3 l4).push { cls := .type "tuple", data := .seq #[.ref h.objs.size, .ref (zq1 h l1).objs.size, .ref (zq2 h l1 l2).objs.size, .ref (zq3 h l1 l2 l3).objs.size] }
abbrev zq6 (h : Heap) (l1 l2 l3 l4 : Addr) : Heap := (zq5 h l1 l2 l3 l4).push { cls := .type "tuple", data := .seq #[.none, .none, .none, .none] }
abbrev zq7 (h : Heap) (l1 l2 l3 l4 : Addr) : Heap := (zq6 h l1 l2 l3 l4).push { cls := .type "zip", data := .fields #[.none, .bool false, .bool false, .ref (zq4 h l1 l2 l3 l4).objs.size, .ref (zq5 h l1 l2 l3 l4).objs.size] }
theorem typeCall_zip_4 (a b c d : Value) : checkTypeCall "zip" ⟨[a, b, c, d], []⟩ = pure () := by kernel_rfl
theorem newCall_zip_4 (a b c d : Value) : checkBuiltinCall "zip.__new__" ⟨[.type "zip", a, b, c, d], []⟩ = pure () := by kernel_rfl
theorem args_object_init_5 (a b c d e : Value) : argsOk "object.__init__" ⟨[a, b, c, d, e], []⟩ := by
  unfold argsOk; rw [signature?_of (id := "object.__init__") (n := ['_', '_', 't', 'i', 'n', 'i', '_', '_']) (o := ['t', 'c', 'e', 'j', 'b', 'o']) (by kernel_rfl) F.owner_object]; kernel_rfl
theorem meets_zip4_new (l1 l2 l3 l4 : Addr) (xs1 xs2 xs3 xs4 : Array Value) :
    Meets (Builtin.«zip.__new__» ⟨[.type "zip", .ref l1, .ref l2, .ref l3, .ref l4], []⟩) (fun _ R s => s.heap.IsList l1 xs1 ∧ s.heap.IsList l2 xs2 ∧ s.heap.IsList l3 xs3 ∧ s.heap.IsList l4 xs4 ∧
      R (.ok (.ret (.ref (zq6 s.heap l1 l2 l3 l4).objs.size))) { s with heap := zq7 s.heap l1 l2 l3 l4 }) :=
  .of_wp fun prog w A R s h => by
    obtain ⟨hp, g, d, tk, os⟩ := s; obtain ⟨hl1, hl2, hl3, hl4, h⟩ := h
    have hsub := sub_zip
    have hL1 : Heap.IsList (Shared.heap ⟨hp, g, d, tk, os⟩) l1 xs1 := hl1
    have hL2 : Heap.IsList (Shared.heap ⟨zq1 hp l1, g, d, tk, os⟩) l2 xs2 := Heap.IsList.push hl2 _
    have hL3 : Heap.IsList (Shared.heap ⟨zq2 hp l1 l2, g, d, tk, os⟩) l3 xs3 := Heap.IsList.push (Heap.IsList.push hl3 _) _
    have hL4 : Heap.IsList (Shared.heap ⟨zq3 hp l1 l2 l3, g, d, tk, os⟩) l4 xs4 := Heap.IsList.push (Heap.IsList.push (Heap.IsList.push hl4 _) _) _
    wp_walk using wpAny_pyIter_list hL1, wpAny_pyIter_list hL2, wpAny_pyIter_list hL3, wpAny_pyIter_list hL4
    exact ⟨_, rfl, h⟩
section
variable {prog : Program} {w : World} {A : Around} {E : Value → Shared → Prop} {s : Shared}
theorem call_zip4 {l1 l2 l3 l4 : Addr} {xs1 xs2 xs3 xs4 : Array Value} {Q : Value → Shared → Prop} (hl1 : s.heap.IsList l1 xs1) (hl2 : s.heap.IsList l2 xs2) (hl3 : s.heap.IsList l3 xs3) (hl4 : s.heap.IsList l4 xs4)
    (h : ∀ h', IsZip h' (s.heap.objs.size + 6) (s.heap.objs.size + 4) (s.heap.objs.size + 5) .none → IsTup4 h' (s.heap.objs.size + 4) (.ref s.heap.objs.size) (.ref (s.heap.objs.size + 1)) (.ref (s.heap.objs.size + 2)) (.ref (s.heap.objs.size + 3)) →
      IsTup4 h' (s.heap.objs.size + 5) .none .none .none .none → h'.IsListIter s.heap.objs.size l1 0 → h'.IsListIter (s.heap.objs.size + 1) l2 0 → h'.IsListIter (s.heap.objs.size + 2) l3 0 → h'.IsListIter (s.heap.objs.size + 3) l4 0 →
      (∀ c o, s.heap.get? c = some o → h'.get? c = some o) → Q (.ref (s.heap.objs.size + 6)) { s with heap := h' }) :
    wpAny (model prog w) A (call (.type "zip") [.ref l1, .ref l2, .ref l3, .ref l4]) Q E s := by
  refine callType_new F.called_zip (by decide) (typeCall_zip_4 _ _ _ _) (newCall_zip_4 _ _ _ _) (fun obj => args_object_init_5 obj _ _ _ _) F.entry_zip_new
    (meets_zip4_new l1 l2 l3 l4 xs1 xs2 xs3 xs4) ⟨hl1, hl2, hl3, hl4, ?_⟩
  have z1 : (zq1 s.heap l1).objs.size = s.heap.objs.size + 1 := Heap.size_push ..
  have z2 : (zq2 s.heap l1 l2).objs.size = s.heap.objs.size + 2 := by rw [Heap.size_push, z1]
  have z3 : (zq3 s.heap l1 l2 l3).objs.size = s.heap.objs.size + 3 := by rw [Heap.size_push, z2]
  have z4 : (zq4 s.heap l1 l2 l3 l4).objs.size = s.heap.objs.size + 4 := by rw [Heap.size_push, z3]
  have z5 : (zq5 s.heap l1 l2 l3 l4).objs.size = s.heap.objs.size + 5 := by rw [Heap.size_push, z4]
  have z6 : (zq6 s.heap l1 l2 l3 l4).objs.size = s.heap.objs.size + 6 := by rw [Heap.size_push, z5]
  have g7 : (zq7 s.heap l1 l2 l3 l4).get? (zq6 s.heap l1 l2 l3 l4).objs.size = some _ := Heap.get?_push_size _ rfl
  have g6 : (zq7 s.heap l1 l2 l3 l4).get? (zq5 s.heap l1 l2 l3 l4).objs.size = some _ := Heap.get?_push_of_some _ (Heap.get?_push_size _ rfl)
  have g5 : (zq7 s.heap l1 l2 l3 l4).get? (zq4 s.heap l1 l2 l3 l4).objs.size = some _ := Heap.get?_push_of_some _ (Heap.get?_push_of_some _ (Heap.get?_push_size _ rfl))
  have g4 : (zq7 s.heap l1 l2 l3 l4).get? (zq3 s.heap l1 l2 l3).objs.size = some _ := Heap.get?_push_of_some _ (Heap.get?_push_of_some _ (Heap.get?_push_of_some _ (Heap.get?_push_size _ rfl)))
  have g3 : (zq7 s.heap l1 l2 l3 l4).get? (zq2 s.heap l1 l2).objs.size = some _ := Heap.get?_push_of_some _ (Heap.get?_push_of_some _ (Heap.get?_push_of_some _ (Heap.get?_push_of_some _ (Heap.get?_push_size _ rfl))))
  have g2 : (zq7 s.heap l1 l2 l3 l4).get? (zq1 s.heap l1).objs.size = some _ := Heap.get?_push_of_some _ (Heap.get?_push_of_some _ (Heap.get?_push_of_some _ (Heap.get?_push_of_some _ (Heap.get?_push_of_some _ (Heap.get?_push_size _ rfl)))))
  have g1 : (zq7 s.heap l1 l2 l3 l4).get? s.heap.objs.size = some _ := Heap.get?_push_of_some _ (Heap.get?_push_of_some _ (Heap.get?_push_of_some _ (Heap.get?_push_of_some _ (Heap.get?_push_of_some _ (Heap.get?_push_of_some _ (Heap.get?_push_size _ rfl))))))
  show _ ∧ _
  rw [z4, z5, z6] at g7
  rw [z5] at g6
  rw [z1, z2, z3, z4] at g5
  rw [z3] at g4
  rw [z2] at g3
  rw [z1] at g2
  rw [z6]
  exact ⟨⟨_, g7, rfl⟩, h _ g7 g5 g6 ⟨_, g1, rfl, rfl⟩ ⟨_, g2, rfl, rfl⟩ ⟨_, g3, rfl, rfl⟩ ⟨_, g4, rfl, rfl⟩ fun c o x =>
    Heap.get?_push_of_some _ (Heap.get?_push_of_some _ (Heap.get?_push_of_some _ (Heap.get?_push_of_some _ (Heap.get?_push_of_some _ (Heap.get?_push_of_some _ (Heap.get?_push_of_some _ x))))))⟩
end
end Wp
set_option Elab.async false
set_option linter.all false
set_option maxRecDepth 100000
set_option maxHeartbeats 4000000
/-! zip of four lists in a for: the turn, the call, the reading. -/
namespace Wp
open PySem PySem.Spec PyProof.Rows L2
/-- the lists as they stand at each turn, the items in new tuples -/
def Itz4 (K : PySem.W.Frag) (a b c d : Addr) : It :=
  ⟨fun i H => ∃ (xa xb xc xd : List V) (x1 x2 x3 x4 : V), SqL K H a xa ∧ SqL K H b xb ∧ SqL K H c xc ∧ SqL K H d xd ∧ xa[i]? = some x1 ∧ xb[i]? = some x2 ∧ xc[i]? = some x3 ∧ xd[i]? = some x4,
    fun i H v H' => ∃ T x1 x2 x3 x4, v = .ref T ∧ H T = none ∧ H' = upd H T (.tup [x1, x2, x3, x4]) ∧ (∀ xs, SqL K H a xs → xs[i]? = some x1) ∧ (∀ xs, SqL K H b xs → xs[i]? = some x2) ∧ (∀ xs, SqL K H c xs → xs[i]? = some x3) ∧ ∀ xs, SqL K H d xs → xs[i]? = some x4,
    fun i H => ∃ xa xb xc xd : List V, SqL K H a xa ∧ SqL K H b xb ∧ SqL K H c xc ∧ SqL K H d xd ∧ (xa.length ≤ i ∨ xb.length ≤ i ∨ xc.length ≤ i ∨ xd.length ≤ i)⟩
abbrev fp4 (N : Nat) : List Addr := [N + 6, N + 4, N + 5, N, N + 1, N + 2, N + 3]
theorem turn_zip4 {P : Program} {w : World} {K : PySem.W.Frag} {elts : List Expr} {kk : Nat} {tpos : Pos} {N a b c d : Nat} (q1 : a < N) (q2 : b < N) (q3 : c < N) (q4 : d < N) :
    Turn P w K (.Tuple elts kk tpos) (Itz4 K a b c d) (fp4 N) (N + 6) (fun i h => IsZip h (N + 6) (N + 4) (N + 5) .none ∧ IsTup4 h (N + 4) (.ref N) (.ref (N + 1)) (.ref (N + 2)) (.ref (N + 3)) ∧ (∃ x1 x2 x3 x4, IsTup4 h (N + 5) x1 x2 x3 x4) ∧ h.IsListIter N a i ∧ h.IsListIter (N + 1) b i ∧ h.IsListIter (N + 2) c i ∧ h.IsListIter (N + 3) d i) where
  mem := by simp
  obj := fun i h st e hc => by
    obtain ⟨hz, hTI, ⟨x, y, u, v, hTO⟩, ⟨o1, e1, _, d1⟩, ⟨o2, e2, _, d2⟩, ⟨o3, e3, _, d3⟩, ⟨o4, e4, _, d4⟩⟩ := st
    have e' : e = N + 6 ∨ e = N + 4 ∨ e = N + 5 ∨ e = N ∨ e = N + 1 ∨ e = N + 2 ∨ e = N + 3 := by simpa using hc
    rcases e' with q | q | q | q | q | q | q
    · rw [q]; exact ⟨_, hz, fun v q => nomatch q⟩
    · rw [q]; exact ⟨_, hTI, fun v q => nomatch q⟩
    · rw [q]; exact ⟨_, hTO, fun v q => nomatch q⟩
    · rw [q]; exact ⟨o1, e1, fun v q => by rw [d1] at q; cases q⟩
    · rw [q]; exact ⟨o2, e2, fun v q => by rw [d2] at q; cases q⟩
    · rw [q]; exact ⟨o3, e3, fun v q => by rw [d3] at q; cases q⟩
    · rw [q]; exact ⟨o4, e4, fun v q => by rw [d4] at q; cases q⟩
  keep := fun i h h' st k => by
    obtain ⟨hz, hTI, ⟨x, y, u, v, hTO⟩, h1, h2, h3, h4⟩ := st
    exact ⟨k (N + 6) (by simp) _ hz, k (N + 4) (by simp) _ hTI, ⟨x, y, u, v, k (N + 5) (by simp) _ hTO⟩, h1.at fun o q => k N (by simp) o q, h2.at fun o q => k (N + 1) (by simp) o q, h3.at fun o q => k (N + 2) (by simp) o q, h4.at fun o q => k (N + 3) (by simp) o q⟩
  item := by
    intro X hP hw hK hc i pins s σ H E I hf st hg
    subst hP hw hK
    obtain ⟨hz, hTI, ⟨y1, y2, y3, y4, hTO⟩, h1, h2, h3, h4⟩ := st
    obtain ⟨xa, xb, xc, xd, x1, x2, x3, x4, hq1, hq2, hq3, hq4, hx1, hx2, hx3, hx4⟩ := hg
    obtain ⟨its1, rv1, p1, _⟩ := I.list hq1
    obtain ⟨its2, rv2, p2, _⟩ := I.list hq2
    obtain ⟨its3, rv3, p3, _⟩ := I.list hq3
    obtain ⟨its4, rv4, p4, _⟩ := I.list hq4
    obtain ⟨u1, hu1, ru1⟩ := rv1.get hx1
    obtain ⟨u2, hu2, ru2⟩ := rv2.get hx2
    obtain ⟨u3, hu3, ru3⟩ := rv3.get hx3
    obtain ⟨u4, hu4, ru4⟩ := rv4.get hx4
    have hzl : N + 6 < s.heap.objs.size := Heap.lt_size hz
    refine pyNext_zip4_item q1 q2 q3 q4 hz hTI hTO h1 h2 h3 h4 p1.isList p2.isList p3.isList p4.isList (x1 := u1) (x2 := u2) (x3 := u3) (x4 := u4) (by simpa using hu1) (by simpa using hu2) (by simpa using hu3) (by simpa using hu4) fun h' z' TO' h1' h2' h3' h4' hT hsz hk => ?_
    refine ⟨_, rfl, wpAny_letOwnedTupleGo_zip (s := { s with heap := h' }) z' fun h'' z'' sb => ?_⟩
    have hT2 : h''.get? s.heap.objs.size = some { cls := .type "tuple", data := .seq #[u1, u2, u3, u4] } := (sb.2 _ (Nat.ne_of_gt hzl)).trans hT
    have new : ObjOk X.prog X.w (upd H s.heap.objs.size (.tup [x1, x2, x3, x4])) h'' s.heap.objs.size (.tup [x1, x2, x3, x4]) :=
      ⟨by show 4 ≤ sizeLine; decide, [u1, u2, u3, u4], .cons ru1 (.cons ru2 (.cons ru3 (.cons ru4 .nil))), ⟨_, hT2, rfl, _, rfl⟩⟩
    have I1 : Inv X pins σ (upd H s.heap.objs.size (.tup [x1, x2, x3, x4])) { s with heap := h'' } :=
      I.turnedNew (t' := s.toks) (ch := fp4 N) (fun c o hb q => (sb.2 c (fun q' => hb (by simp [q']))).trans (hk c o (fun q' => hb (by simp [q'])) (fun q' => hb (by simp [q'])) (fun q' => hb (by simp [q'])) (fun q' => hb (by simp [q'])) (fun q' => hb (by simp [q'])) (fun q' => hb (by simp [q'])) q)) hf (Nat.le_refl _) new
    refine ⟨.ref s.heap.objs.size, _, I1, rfl, ⟨_, x1, x2, x3, x4, rfl, I.hok.fresh (Nat.le_refl _), rfl, fun l hl => by rw [I.list_inj hl hq1]; exact hx1, fun l hl => by rw [I.list_inj hl hq2]; exact hx2, fun l hl => by rw [I.list_inj hl hq3]; exact hx3, fun l hl => by rw [I.list_inj hl hq4]; exact hx4⟩, ⟨z'', ?_, ⟨u1, u2, u3, u4, ?_⟩, ?_, ?_, ?_, ?_⟩, fun c hcm => ?_⟩
    · exact (sb.2 _ (neA (by omega))).trans (hk _ _ (neA (by omega)) (neA (by omega)) (neA (by omega)) (neA (by omega)) (neA (by omega)) (neA (by omega)) hTI)
    · exact (sb.2 _ (neA (by omega))).trans TO'
    · exact h1'.at fun o q => (sb.2 _ (neA (by omega))).trans q
    · exact h2'.at fun o q => (sb.2 _ (neA (by omega))).trans q
    · exact h3'.at fun o q => (sb.2 _ (neA (by omega))).trans q
    · exact h4'.at fun o q => (sb.2 _ (neA (by omega))).trans q
    · have hlt : c < s.heap.objs.size := by
        have e' : c = N + 6 ∨ c = N + 4 ∨ c = N + 5 ∨ c = N ∨ c = N + 1 ∨ c = N + 2 ∨ c = N + 3 := by simpa using hcm
        show @LT.lt Nat _ c s.heap.objs.size
        rcases e' with q | q | q | q | q | q | q <;> (rw [q]; omega)
      rw [upd_ne (Nat.ne_of_lt hlt)]
      exact (hf c hcm).1
  done := by
    intro X hP hw hK hc i pins s σ H E I hf st hg
    subst hP hw hK
    obtain ⟨hz, hTI, ⟨y1, y2, y3, y4, hTO⟩, h1, h2, h3, h4⟩ := st
    obtain ⟨xa, xb, xc, xd, hq1, hq2, hq3, hq4, hend⟩ := hg
    obtain ⟨its1, rv1, p1, _⟩ := I.list hq1
    obtain ⟨its2, rv2, p2, _⟩ := I.list hq2
    obtain ⟨its3, rv3, p3, _⟩ := I.list hq3
    obtain ⟨its4, rv4, p4, _⟩ := I.list hq4
    have l1 := rv1.length
    have l2 := rv2.length
    have l3 := rv3.length
    have l4 := rv4.length
    have he : its1.toArray[i]? = none ∨ its2.toArray[i]? = none ∨ its3.toArray[i]? = none ∨ its4.toArray[i]? = none := by
      rcases hend with q | q | q | q
      · exact .inl (by simp; omega)
      · exact .inr (.inl (by simp; omega))
      · exact .inr (.inr (.inl (by simp; omega)))
      · exact .inr (.inr (.inr (by simp; omega)))
    exact pyNext_zip4_end (I.ok.hd hc) q1 q2 q3 q4 hz hTI hTO h1 h2 h3 h4 p1.isList p2.isList p3.isList p4.isList he fun h' hk => ⟨rfl, I.turnedL (t' := s.toks) (ch := fp4 N) (fun c o hb q =>
      hk c o (fun q' => hb (by simp [q'])) (fun q' => hb (by simp [q'])) (fun q' => hb (by simp [q'])) (fun q' => hb (by simp [q'])) (fun q' => hb (by simp [q'])) (fun q' => hb (by simp [q'])) q) hf⟩
  self := fun A i s Q E st h => wpAny_pyIter_zip st.1 h
def iZip4 (K : PySem.W.Frag) (ta : TA) : TI := fun σ H R => ta σ H fun vs H1 => ∃ a b c d xa xb xc xd, vs = [.ref a, .ref b, .ref c, .ref d] ∧ SqL K H1 a xa ∧ SqL K H1 b xb ∧ SqL K H1 c xc ∧ SqL K H1 d xd ∧ R (Itz4 K a b c d) H1
theorem pi_zip4 {X : Cx} {e1 e2 e3 e4 : Expr} {ta : TA} {p pos tpos : Pos} {elts : List Expr} {kk : Nat} (hg : Gl X "zip") (hm : X.mg "zip" = none) (ha : PA X [e1, e2, e3, e4] ta)
    (hs : starEach [e1, e2, e3, e4] X.env = (false, eval e1 X.env) :: starEach [e2, e3, e4] X.env := by rfl) (hpl : (backTo pos (starEach [e2, e3, e4] X.env)).any (·.1) = false := by rfl) :
    PI X (.Tuple elts kk tpos) (.Call (.Name "zip" p) [e1, e2, e3, e4] [] pos) (iZip4 X.K ta) := by
  refine ⟨fun pins s σ H R I h => ?_⟩
  refine Call_ (ld_blt I hg hm PyProof.Rows.boot_zip (PyProof.Rows.callWith_type1 (thn (ha.run pos pins s σ H _ I h) fun us s1 ⟨vs, H1, I1, r1, q1⟩ => ?_) hs hpl))
  obtain ⟨a, b, c, d, xa, xb, xc, xd, ex, hq1, hq2, hq3, hq4, q⟩ := q1
  subst ex
  cases r1 with
  | cons r rr =>
    cases rr with
    | cons r' rr =>
      cases rr with
      | cons r2 rr =>
        cases rr with
        | cons r3 rr =>
          cases rr
          cases r
          cases r'
          cases r2
          cases r3
          have fresh7 : ∀ c, c ∈ fp4 s1.heap.objs.size → FpOk X pins H1 c := fun c hcm => by
            have e' : c = s1.heap.objs.size + 6 ∨ c = s1.heap.objs.size + 4 ∨ c = s1.heap.objs.size + 5 ∨ c = s1.heap.objs.size ∨ c = s1.heap.objs.size + 1 ∨ c = s1.heap.objs.size + 2 ∨ c = s1.heap.objs.size + 3 := by simpa using hcm
            have hle : s1.heap.objs.size ≤ c := by
              show @LE.le Nat _ _ c
              rcases e' with z | z | z | z | z | z | z <;> (rw [z]; omega)
            exact I1.fpOk hle (I1.hok.fresh hle)
          obtain ⟨its1, rv1, p1, _⟩ := I1.list hq1
          obtain ⟨its2, rv2, p2, _⟩ := I1.list hq2
          obtain ⟨its3, rv3, p3, _⟩ := I1.list hq3
          obtain ⟨its4, rv4, p4, _⟩ := I1.list hq4
          refine call_zip4 p1.isList p2.isList p3.isList p4.isList fun h' hz hTI hTO h1 h2 h3 h4 hk => wpAny_pyIter_zip hz ?_
          have I2 : Inv X pins σ H1 { s1 with heap := h' } := I1.kept (t' := s1.toks) hk
          exact ⟨s1.heap.objs.size + 6, fp4 s1.heap.objs.size, _, _, H1, rfl, I2, turn_zip4 p1.lt p2.lt p3.lt p4.lt, ⟨hz, hTI, ⟨_, _, _, _, hTO⟩, h1, h2, h3, h4⟩, fresh7, q⟩
/-! for over it -/
section
variable {K : PySem.W.Frag} {g : TG} {tw : TS} {D : Ends} {σ : L2.St} {H : Hp} {ta : TA} {a b c d : Addr} {xa xb xc xd : List V}
def kForZ4 (K : PySem.W.Frag) (g : TG) (tw : TS) (D : Ends) (σ : L2.St) : List V → Hp → Prop := fun vs H1 => ∃ a b c d xa xb xc xd, vs = [.ref a, .ref b, .ref c, .ref d] ∧ SqL K H1 a xa ∧ SqL K H1 b xb ∧ SqL K H1 c xc ∧ SqL K H1 d xd ∧
  ∃ W : Nat → Nat → L2.St → Hp → Prop, (∃ m, W 0 m σ H1) ∧ ∀ i m σ H, W i m σ H →
  ((Itz4 K a b c d).stop i H ∧ D.nx σ H) ∨ ((Itz4 K a b c d).go i H ∧ ∃ N : L2.St → Hp → Prop, (∀ σ' H', N σ' H' → ∃ m', m' < m ∧ W (i + 1) m' σ' H') ∧
    ∀ x H', (Itz4 K a b c d).yld i H x H' → g x σ H' fun σ2 H2 => tw { D with nx := N, ct := N, bk := D.nx } σ2 H2)
theorem r_forZ4 (h : ta σ H (kForZ4 K g tw D σ)) : tFor (iZip4 K ta) g tw D σ H := h
/-- the first list is the shortest -/
theorem r_kForZ4 (Pv : Nat → L2.St → Hp → Prop) (ha : SqL K H a xa) (hb : SqL K H b xb) (hc : SqL K H c xc) (hd : SqL K H d xd) (nb : xa.length ≤ xb.length) (nc : xa.length ≤ xc.length) (nd : xa.length ≤ xd.length)
    (h0 : Pv 0 σ H) (hk : ∀ i σ' H', Pv i σ' H' → SqL K H' a xa ∧ SqL K H' b xb ∧ SqL K H' c xc ∧ SqL K H' d xd)
    (hs : ∀ (i : Nat) (x1 x2 x3 x4 : V) (T : Addr) σ' H', xa[i]? = some x1 → xb[i]? = some x2 → xc[i]? = some x3 → xd[i]? = some x4 → Pv i σ' H' → H' T = none →
      g (.ref T) σ' (upd H' T (.tup [x1, x2, x3, x4])) fun σ2 H2 => tw { D with nx := Pv (i + 1), ct := Pv (i + 1), bk := D.nx } σ2 H2)
    (hf : ∀ σ' H', Pv xa.length σ' H' → D.nx σ' H') : kForZ4 K g tw D σ [.ref a, .ref b, .ref c, .ref d] H := by
  refine ⟨a, b, c, d, xa, xb, xc, xd, rfl, ha, hb, hc, hd, fun i m σ H => m = xa.length - i ∧ i ≤ xa.length ∧ Pv i σ H, ⟨xa.length, rfl, Nat.zero_le _, h0⟩, ?_⟩
  rintro i m σ H ⟨rfl, hi, p⟩
  obtain ⟨q1, q2, q3, q4⟩ := hk i σ H p
  by_cases hlt : i < xa.length
  · refine .inr ⟨⟨xa, xb, xc, xd, _, _, _, _, q1, q2, q3, q4, List.getElem?_eq_getElem hlt, List.getElem?_eq_getElem (by omega), List.getElem?_eq_getElem (by omega), List.getElem?_eq_getElem (by omega)⟩, Pv (i + 1), fun σ' H' p' => ⟨xa.length - (i + 1), by omega, rfl, hlt, p'⟩, fun v H' y => ?_⟩
    obtain ⟨T, y1, y2, y3, y4, rfl, hT, rfl, f1, f2, f3, f4⟩ := y
    exact hs i y1 y2 y3 y4 T σ H (f1 _ q1) (f2 _ q2) (f3 _ q3) (f4 _ q4) p hT
  · have e : i = xa.length := by omega
    subst e
    exact .inl ⟨⟨xa, xb, xc, xd, q1, q2, q3, q4, Or.inl (Nat.le_refl _)⟩, hf σ H p⟩
end
end Wp
set_option linter.all false
/-! Plans of least payments: what a month does, rows of balances (plain Lean). -/
namespace Wp
structure Pl where
  r : Int
  s : Int
  m : Int
  b : Bool
structure Pl.Ok (P : Pl) : Prop where
  r0 : 0 ≤ P.r
  r1 : P.r ≤ 1000
  s0 : 0 ≤ P.s
  s1 : P.s ≤ 1000
  m0 : 1 ≤ P.m
  m1 : P.m ≤ 1000000
namespace Pl
def intr (P : Pl) (x : Int) : Int := x * P.r / 1000
def owed (P : Pl) (x : Int) : Int := x + P.intr x
def want (P : Pl) (x : Int) : Int := if P.b then P.intr x + x * P.s / 1000 else P.owed x * P.s / 1000
def pay (P : Pl) (e x : Int) : Int := if P.owed x ≤ P.m then P.owed x else min (P.owed x) (max P.m (P.want x) + e)
def nxt (P : Pl) (e x : Int) : Int := if P.owed x ≤ P.m then 0 else P.owed x - min (P.owed x) (max P.m (P.want x) + e)
theorem nxt_nonneg (P : Pl) (e x : Int) : 0 ≤ P.nxt e x := by
  unfold nxt
  split <;> omega
theorem nxt_pay (P : Pl) (e x : Int) : P.nxt e x = P.owed x - P.pay e x := by
  unfold nxt pay
  split <;> omega
/-- the balances from x on, at most n months -/
def rowF (P : Pl) (e : Int) : Nat → Int → List Int
  | 0, x => [x]
  | n + 1, x => if 0 < x ∧ P.nxt e x < x then x :: rowF P e n (P.nxt e x) else [x]
def row (P : Pl) (e x : Int) : List Int := P.rowF e x.toNat x
variable {P : Pl} {e : Int}
theorem rowF_same : ∀ (n m : Nat) (x : Int), x.toNat ≤ n → x.toNat ≤ m → P.rowF e n x = P.rowF e m x
  | 0, 0, x, _, _ => rfl
  | 0, m + 1, x, h, _ => by
    have : ¬ (0 < x ∧ P.nxt e x < x) := by omega
    simp only [rowF, if_neg this]
  | n + 1, 0, x, _, h => by
    have : ¬ (0 < x ∧ P.nxt e x < x) := by omega
    simp only [rowF, if_neg this]
  | n + 1, m + 1, x, h1, h2 => by
    simp only [rowF]
    split
    · rename_i h
      have h0 := P.nxt_nonneg e x
      rw [rowF_same n m (P.nxt e x) (by omega) (by omega)]
    · rfl
theorem rowF_row {n : Nat} {x : Int} (h : x.toNat ≤ n) : P.rowF e n x = P.row e x := rowF_same n x.toNat x h (Nat.le_refl _)
theorem row_eq (x : Int) : P.row e x = if 0 < x ∧ P.nxt e x < x then x :: P.row e (P.nxt e x) else [x] := by
  rw [← rowF_row (n := x.toNat + 1) (by omega)]
  simp only [rowF]
  split
  · rename_i h
    have h0 := P.nxt_nonneg e x
    rw [rowF_row (by omega)]
  · rfl
theorem row_step {x : Int} (h1 : 0 < x) (h2 : P.nxt e x < x) : P.row e x = x :: P.row e (P.nxt e x) := by
  rw [row_eq, if_pos ⟨h1, h2⟩]
theorem row_end {x : Int} (h : ¬ (0 < x ∧ P.nxt e x < x)) : P.row e x = [x] := by
  rw [row_eq, if_neg h]
theorem rowF_len : ∀ (n : Nat) (x : Int), (P.rowF e n x).length ≤ n + 1
  | 0, x => Nat.le_refl _
  | n + 1, x => by
    simp only [rowF]
    split
    · have := rowF_len n (P.nxt e x)
      simp only [List.length_cons]
      omega
    · simp
theorem row_len (x : Int) : (P.row e x).length ≤ x.toNat + 1 := rowF_len _ _
theorem rowF_ne : ∀ (n : Nat) (x : Int), P.rowF e n x ≠ []
  | 0, x => by simp [rowF]
  | n + 1, x => by
    simp only [rowF]
    split <;> simp
theorem row_ne (x : Int) : P.row e x ≠ [] := rowF_ne _ _
theorem rowF_mem : ∀ (n : Nat) (x y : Int), 0 ≤ x → y ∈ P.rowF e n x → 0 ≤ y ∧ y ≤ x
  | 0, x, y, h0, h => by
    simp only [rowF, List.mem_singleton] at h
    omega
  | n + 1, x, y, h0, h => by
    simp only [rowF] at h
    split at h
    · rename_i hc
      rcases List.mem_cons.mp h with h | h
      · omega
      · have := rowF_mem n (P.nxt e x) y (P.nxt_nonneg e x) h
        omega
    · have := List.mem_singleton.mp h
      omega
theorem row_mem {x y : Int} (h0 : 0 ≤ x) (h : y ∈ P.row e x) : 0 ≤ y ∧ y ≤ x := rowF_mem _ _ _ h0 h
/-- where a row ends: at 0, or at a balance that is not made less -/
theorem row_last : ∀ (n : Nat) (x : Int), x.toNat ≤ n → 0 ≤ x → ∃ pre z, P.row e x = pre ++ [z] ∧ 0 ≤ z ∧ z ≤ x ∧ ¬ (0 < z ∧ P.nxt e z < z)
  | 0, x, h, h0 => ⟨[], x, row_end (by omega), h0, Int.le_refl _, by omega⟩
  | n + 1, x, h, h0 => by
    by_cases hc : 0 < x ∧ P.nxt e x < x
    · have hn := P.nxt_nonneg e x
      obtain ⟨pre, z, h1, h2, h3, h4⟩ := row_last n (P.nxt e x) (by omega) hn
      exact ⟨x :: pre, z, by rw [row_step hc.1 hc.2, h1]; rfl, h2, by omega, h4⟩
    · exact ⟨[], x, row_end hc, h0, Int.le_refl _, hc⟩
def lastOf (l : List Int) : Int := l.getLast?.getD 0
theorem lastOf_app (pre : List Int) (z : Int) : lastOf (pre ++ [z]) = z := by
  simp [lastOf]
/-- what is told of a balance: None, or its months and all the interest -/
def endR (P : Pl) (x : Int) : Option (Int × Int) :=
  if lastOf (P.row 0 x) > 0 then none else some (((P.row 0 x).length : Int) - 1, ((P.row 0 x).map P.intr).sum)
/-- no interest, no share: a fixed payment a month -/
theorem flat_nxt {m x : Int} {b : Bool} (h0 : 0 ≤ x) (hm : 1 ≤ m) : (Pl.mk 0 0 m b).nxt 0 x = if x ≤ m then 0 else x - m := by
  have e1 : (Pl.mk 0 0 m b).intr x = 0 := by simp [intr]
  have e2 : (Pl.mk 0 0 m b).owed x = x := by simp [owed, e1]
  have e3 : (Pl.mk 0 0 m b).want x = 0 := by
    unfold want
    split <;> simp [e1, e2]
  unfold nxt
  rw [e2, e3]
  show (if x ≤ m then 0 else x - min x (max m 0 + 0)) = _
  split <;> omega
theorem flat_row {m : Int} {b : Bool} (hm : 1 ≤ m) : ∀ (k : Nat) (x : Int), x.toNat ≤ k → 0 ≤ x → (Pl.mk 0 0 m b).row 0 x = ((List.range ((x + m - 1) / m).toNat).map fun i : Nat => x + (i : Int) * (0 - m)) ++ [0]
  | k, x, hk, h0 => by
    by_cases hz : x = 0
    · subst hz
      rw [row_end (by omega)]
      have e : ((0 : Int) + m - 1) / m = 0 := Int.ediv_eq_zero_of_lt (by omega) (by omega)
      rw [e]
      rfl
    · have hn := flat_nxt (b := b) h0 hm
      have hlt : (Pl.mk 0 0 m b).nxt 0 x < x := by
        rw [hn]
        split <;> omega
      rw [row_step (by omega) hlt, hn]
      by_cases hx : x ≤ m
      · rw [if_pos hx, row_end (by omega)]
        have e : (x + m - 1) / m = 1 := by
          have e2 : x + m - 1 = (x - 1) + 1 * m := by omega
          rw [e2, Int.add_mul_ediv_right _ _ (by omega), Int.ediv_eq_zero_of_lt (by omega) (by omega)]
          rfl
        rw [e]
        simp [List.range_succ]
      · rw [if_neg hx]
        cases k with
        | zero => omega
        | succ k =>
          rw [flat_row hm k (x - m) (by omega) (by omega)]
          have e2 : x + m - 1 = (x - m + m - 1) + 1 * m := by omega
          have e : (x + m - 1) / m = (x - m + m - 1) / m + 1 := by rw [e2, Int.add_mul_ediv_right _ _ (by omega)]
          have hq : 0 ≤ (x - m + m - 1) / m := Int.ediv_nonneg (by omega) (by omega)
          have e3 : ((x - m + m - 1) / m + 1).toNat = ((x - m + m - 1) / m).toNat + 1 := by omega
          rw [e, e3, List.range_succ_eq_map, List.map_cons, List.map_map, List.cons_append]
          congr 1
          · simp
          · congr 1
            apply List.map_congr_left
            intro i _
            show x - m + (i : Int) * (0 - m) = x + ((i + 1 : Nat) : Int) * (0 - m)
            rw [Int.natCast_add, Int.add_mul]
            simp only [Int.cast_ofNat_Int]
            omega
theorem flat_end {m x : Int} {b : Bool} (hm : 1 ≤ m) (h0 : 0 ≤ x) : (Pl.mk 0 0 m b).endR x = some ((x + m - 1) / m, 0) := by
  have hr := flat_row (b := b) hm x.toNat x (Nat.le_refl _) h0
  have hq : 0 ≤ (x + m - 1) / m := Int.ediv_nonneg (by omega) (by omega)
  have hi : ∀ l : List Int, (l.map (Pl.mk 0 0 m b).intr).sum = 0 := by
    intro l
    induction l with
    | nil => rfl
    | cons a r ih => rw [List.map_cons, List.sum_cons, ih]; simp [intr]
  unfold endR
  rw [hr, lastOf_app, if_neg (by omega), hi]
  simp only [List.length_append, List.length_map, List.length_range, List.length_cons, List.length_nil]
  congr 2
  omega
/-- bounds of what is told -/
theorem intr_bd {P : Pl} (ok : P.Ok) {x : Int} (h0 : 0 ≤ x) : 0 ≤ P.intr x ∧ P.intr x ≤ x := by
  have h1 : 0 ≤ x * P.r := Int.mul_nonneg h0 ok.r0
  have h2 : x * P.r ≤ x * 1000 := Int.mul_le_mul_of_nonneg_left ok.r1 h0
  unfold intr
  omega
theorem sum_bd {P : Pl} (ok : P.Ok) {m : Int} : ∀ l : List Int, (∀ y ∈ l, 0 ≤ y ∧ y ≤ m) → 0 ≤ (l.map P.intr).sum ∧ (l.map P.intr).sum ≤ m * (l.length : Int)
  | [], _ => by simp
  | y :: r, h => by
    have ⟨h1, h2⟩ := h y (List.mem_cons_self ..)
    have ⟨h3, h4⟩ := intr_bd ok h1
    have ⟨h5, h6⟩ := sum_bd ok r fun z hz => h z (List.mem_cons_of_mem _ hz)
    rw [List.map_cons, List.sum_cons, List.length_cons]
    have e : m * ((r.length + 1 : Nat) : Int) = m * (r.length : Int) + m := by
      rw [Int.natCast_add, Int.mul_add]
      simp
    rw [e]
    omega
end Pl
end Wp
set_option Elab.async false
set_option linter.all false
set_option maxRecDepth 100000
set_option maxHeartbeats 4000000
namespace Wp
open PySem PySem.Spec PyProof.Rows L2
abbrev s_Plan___init__ : Stmt := inClass (topS 32) 0
abbrev s_need_plan : Stmt := topS 33
abbrev s_need_balance : Stmt := topS 34
abbrev s_month_with : Stmt := topS 35
local macro_rules | `(tactic| walk_at "val") => `(tactic| assumption)
local macro_rules | `(tactic| walk_at "rd1") => `(tactic| first
  | with_reducible refine r_seq ?_ | with_reducible refine r_next ?_ | with_reducible refine r_if ?_ | with_reducible refine r_asg ?_ | with_reducible refine r_gname ?_
  | with_reducible refine r_ret ?_ | with_reducible refine r_retN ?_ | with_reducible refine r_drop ?_ | with_reducible refine r_par ?_ | with_reducible refine r_kPar ?_
  | ((with_reducible refine' r_var ?hv ?_); (case hv => exact rfl)) | with_reducible refine r_c ?_ | with_reducible refine r_nil ?_ | with_reducible refine r_cons ?_
  | with_reducible refine r_fn ?_ | with_reducible refine r_cb ?_ | with_reducible refine r_op ?_ | with_reducible refine r_un ?_ | with_reducible refine r_I0 ?_
  | with_reducible refine r_pow5 ?_ | with_reducible refine r_pow6 ?_ | with_reducible refine r_pow7 ?_ | with_reducible refine r_pow9 ?_ | with_reducible refine r_pow18 ?_ | with_reducible refine r_pow20 ?_ | with_reducible refine r_pow30 ?_
  | with_reducible refine r_isN_non ?_ | with_reducible refine r_isN_ref ?_ | with_reducible refine r_isN_int ?_ | with_reducible refine r_isN_str ?_ | with_reducible refine r_isN_bl ?_ | with_reducible refine r_notN_non ?_ | with_reducible refine r_notN_ref ?_ | with_reducible refine r_notN_int ?_ | with_reducible refine r_notN_str ?_ | with_reducible refine r_notN_bl ?_
  | ((with_reducible refine r_I ?hc ?_); (case hc => walk_at "side")) | with_reducible refine r_U ?_
  | with_reducible refine r_eqI ?_ | with_reducible refine r_neI ?_ | with_reducible refine r_eqS ?_ | with_reducible refine r_neS ?_ | with_reducible refine r_eqB ?_ | with_reducible refine r_neB ?_
  | with_reducible refine r_chain ?_ | with_reducible refine r_test ?_ | with_reducible refine r_tB ?_ | with_reducible refine r_kTest ?_ | with_reducible refine r_not ?_
  | with_reducible refine r_and ?_ | with_reducible refine r_or ?_ | with_reducible refine r_tif ?_ | with_reducible refine r_andV ?_ | with_reducible refine r_orV ?_ | with_reducible refine r_notV ?_
  | with_reducible refine r_kAndV ?_ | with_reducible refine r_kOrV ?_ | with_reducible refine r_kNotV ?_
  | with_reducible refine w_T ?_ | with_reducible refine w_F ?_ | with_reducible refine w_NT ?_ | with_reducible refine w_NF ?_
  | with_reducible refine r_tup ?_ | with_reducible refine r_lst ?_ | with_reducible refine r_fld ?_ | with_reducible refine r_prop ?_ | ((with_reducible refine' r_aug ?h1 ?_); (case h1 => exact rfl)) | with_reducible refine r_ipI ?_ | with_reducible refine r_dget ?_ | with_reducible refine r_dput ?_ | with_reducible refine r_bm ?_
  | ((with_reducible refine' r_kDGetS ?h1 ?h2 ?_); (case h1 => assumption); (case h2 => walk_at "val"))
  | ((with_reducible refine' r_kBML ?h1 ?_); (case h1 => assumption))
  | with_reducible refine r_forL ?_ | with_reducible refine r_forR1 ?_ | with_reducible refine r_forR2 ?_ | with_reducible refine r_forT ?_ | with_reducible refine r_lcL ?_ | with_reducible refine r_lcR1 ?_
  | ((with_reducible refine r_kLcG ?hw ?_); (case hw => exact rfl)) | with_reducible refine r_kLcT ?_ | with_reducible refine r_yes ?_
  | with_reducible refine r_pnil ?_ | with_reducible refine r_pcons ?_
  | with_reducible refine r_fnK ?_ | ((with_reducible refine r_kFnK ?hl ?_); (case hl => exact rfl))
  | with_reducible refine r_isi_ii ?_ | with_reducible refine r_isi_ib ?_ | with_reducible refine r_isi_bi ?_ | with_reducible refine r_isi_bb ?_ | with_reducible refine r_isi_ss ?_ | with_reducible refine r_isi_is ?_ | with_reducible refine r_isi_it ?_
  | ((with_reducible refine' r_isi_tt ?h1 ?_); (case h1 => assumption))
  | with_reducible refine r_sfld ?_ | with_reducible refine r_gnil ?_ | with_reducible refine r_gcons ?_
  | ((with_reducible refine' r_gtup ?h1 ?h2 ?_); (case h1 => exact SqT.of (by assumption)); (case h2 => exact rfl))
  | with_reducible refine r_sl ?_ | with_reducible refine r_noPart ?_ | with_reducible refine r_part ?_ | with_reducible refine r_kPart ?_ | with_reducible refine r_m1 ?_ | with_reducible refine r_kM1 ?_ | with_reducible refine r_forS ?_ | with_reducible refine r_lcS ?_ | with_reducible refine r_lcTu ?_ | with_reducible refine r_lcK ?_ | with_reducible refine r_dcL ?_ | with_reducible refine r_dcK ?_ | with_reducible refine r_lc2L ?_ | with_reducible refine r_kLc2TL ?_ | with_reducible refine r_dcEn ?_ | with_reducible refine r_gslc ?_ | with_reducible refine r_lcEn ?_ | with_reducible refine r_lcZip ?_ | with_reducible refine r_lcEl ?_ | with_reducible refine r_lcR2 ?_ | with_reducible refine r_rg1 ?_ | with_reducible refine r_rg2 ?_ | with_reducible refine r_forET ?_ | with_reducible refine r_lenD ?_
  | ((with_reducible refine r_kDcG ?hw ?_); (case hw => exact rfl)) | with_reducible refine r_kDcT ?_
  | with_reducible refine r_fldaug ?_ | with_reducible refine r_daug ?_ | with_reducible refine r_rAdd ?_ | with_reducible refine r_rSub ?_ | with_reducible refine r_ddel ?_ | with_reducible refine r_bmF ?_ | with_reducible refine r_dget2 ?_ | with_reducible refine r_listItems ?_ | with_reducible refine r_bm0 ?_ | with_reducible refine r_lc2E ?_ | ((with_reducible refine r_kLc2G ?hw ?_); (case hw => exact rfl)) | with_reducible refine r_kLc2T ?_ | with_reducible refine r_forE ?_ | with_reducible refine r_orT ?_ | with_reducible refine r_din ?_ | with_reducible refine r_augS ?_ | with_reducible refine r_dnotin ?_ | with_reducible refine r_lcIT ?_ | with_reducible refine r_cont ?_ | with_reducible refine r_meth ?_ | with_reducible refine r_frz ?_ | with_reducible refine r_par3 ?_ | with_reducible refine r_kPar3 ?_ | with_reducible refine r_dz ?_ | with_reducible refine r_revL ?_ | with_reducible refine r_revT ?_ | with_reducible refine r_star ?_ | with_reducible refine r_int1 ?_ | with_reducible refine r_int1b ?_ | with_reducible refine r_min2 ?_ | with_reducible refine r_max2 ?_ | with_reducible refine r_gsub ?_ | with_reducible refine r_err ?_ | with_reducible refine r_errT ?_ | with_reducible refine r_xv ?_)
local macro_rules | `(tactic| walk_at "rd") => `(tactic| repeat walk_at "rd1")
local macro_rules | `(tactic| walk_at "side") => `(tactic| first | assumption | exact Or.inr ⟨by decide, by decide⟩ | exact Or.inl ⟨by decide, by decide⟩ | (constructor <;> omega) | omega | decide | (refine Or.inl ⟨?_, ?_⟩ <;> omega) | (refine Or.inr ⟨?_, ?_⟩ <;> omega) | (refine ⟨?_, ?_, ?_⟩ <;> first | decide | omega))
def fPlan (t : Addr) : List (Str × V) := [("l_parts", .ref t)]
/-- a plan stands at p -/
def PlanAt (C : Addr) (H : Hp) (p : Addr) (M : Pl) : Prop := ∃ dx t, H p = some (.ins C dx (fPlan t)) ∧ H t = some (.tup [.int M.r, .int M.s, .int M.m, .bl M.b])
theorem PlanAt.keep {C : Addr} {H H' : Hp} {p : Addr} {M : Pl} (h : PlanAt C H p M) (e : Same H H') : PlanAt C H' p M := by
  obtain ⟨dx, t, h1, h2⟩ := h
  exact ⟨dx, t, e _ _ h1, e _ _ h2⟩
theorem PlanAt.kp {C st l : Addr} {H H' : Hp} {p : Addr} {M : Pl} {kvs : List (Key × V)} {xs : List V} (h : PlanAt C H p M) (e : Kp st l H H') (h1 : H st = some (.dK kvs)) (h2 : H l = some (.lst xs)) : PlanAt C H' p M := by
  obtain ⟨dx, t, a, b⟩ := h
  exact ⟨dx, t, e _ _ a (ne_of a h1 (by intro z; cases z)) (ne_of a h2 (by intro z; cases z)), e _ _ b (ne_of b h1 (by intro z; cases z)) (ne_of b h2 (by intro z; cases z))⟩
def sp_need_plan (C : Addr) : Sp := fun vs H Q _ => ∃ (p : Addr) (M : Pl), vs = [.ref p] ∧ PlanAt C H p M ∧ Q .non H
def sp_need_balance (C : Addr) : Sp := fun vs H Q _ => ∃ (p : Addr) (M : Pl) (x : Int), vs = [.ref p, .int x] ∧ PlanAt C H p M ∧ 0 ≤ x ∧ x ≤ 100000 ∧ Q .non H
def sp_Plan_init (C : Addr) : Sp := fun vs H Q _ => ∃ (p dx : Addr) (M : Pl), vs = [.ref p, .int M.r, .int M.s, .int M.m, .bl M.b] ∧ M.Ok ∧ H p = some (.ins C dx []) ∧
  ∀ H', But p H H' → PlanAt C H' p M → Q .non H'
def sp_Plan (C : Addr) : Sp := fun vs H Q _ => ∃ (M : Pl), vs = [.int M.r, .int M.s, .int M.m, .bl M.b] ∧ M.Ok ∧
  ∀ p H', H p = none → Same H H' → PlanAt C H' p M → Q (.ref p) H'
def sp_month_with (C : Addr) : Sp := fun vs H Q _ => ∃ (p : Addr) (M : Pl) (x e : Int), vs = [.ref p, .int x, .int e] ∧ M.Ok ∧ PlanAt C H p M ∧
  ∀ t H', H t = none → Same H H' → H' t = some (.tup [.int (M.intr x), .int (M.pay e x), .int (M.nxt e x)]) → Q (.ref t) H'
def sp_row_with (C : Addr) : Sp := fun vs H Q _ => ∃ (p : Addr) (M : Pl) (x e : Int), vs = [.ref p, .int x, .int e] ∧ M.Ok ∧ PlanAt C H p M ∧ 0 ≤ x ∧ x ≤ 100000 ∧
  ∀ t H', H t = none → Same H H' → H' t = some (.lst ((M.row e x).map V.int)) → Q (.ref t) H'

section
variable {P : Program} {w : World} {K : PySem.W.Frag} {mg : Str → Option Value} {base : Heap}
theorem ok_Plan_init {f C : Addr} {fd : FuncData} (T : Tx K mg) (cl : Cls K C) (na : NoAttr K C "l_parts") (F : FunD K "__init__" "Plan.__init__" (defArgs s_Plan___init__) (defBody s_Plan___init__) (defScope s_Plan___init__) [.bl false] [] f fd)
    (d_is_number_in : Dn P w K mg base CX0 2 "is_number_in" ["value", "least", "most"] (sp_is_number_in K)) :
    FnOk P w K mg base CX0 3 f fd ["self", "rate", "share", "least", "plus"] (sp_Plan_init C) := by
  have sc : FnScope ["self", "rate", "share", "least", "plus"] ["self", "rate", "share", "least", "plus"] (defScope s_Plan___init__) := ⟨rfl, rfl, rfl, by decide +kernel, rfl, by decide +kernel, by decide +kernel⟩
  refine F.ok sc (by rintro vs H Q E ⟨_, _, _, rfl, _⟩; rfl) (fun cdv A outer s H vs Q E hr h => ⟨_, PSs.nox ((pss_cons (ps_if (pt_not (pt_val (pe_fn d_is_number_in (hr.mono (by decide)) pass0 (pa_cons (pv 1) (pa_cons pe_int (pa_cons (pe_glob (v := .int 1000) (by rfl) T.c_THOUSAND.choose_spec ⟨_, rfl⟩) pa_nil)))))) (pss_one ps_never) pss_nil)
      (pss_cons (ps_if (pt_not (pt_val (pe_fn d_is_number_in (hr.mono (by decide)) pass0 (pa_cons (pv 2) (pa_cons pe_int (pa_cons (pe_glob (v := .int 1000) (by rfl) T.c_THOUSAND.choose_spec ⟨_, rfl⟩) pa_nil)))))) (pss_one ps_never) pss_nil)
      (pss_cons (ps_if (pt_not (pt_val (pe_fn d_is_number_in (hr.mono (by decide)) pass0 (pa_cons (pv 3) (pa_cons pe_int (pa_cons (pe_glob (v := .int 1000000) (by rfl) T.c_MOST_LEAST.choose_spec ⟨_, rfl⟩) pa_nil)))))) (pss_one ps_never) pss_nil)
      (pss_cons (ps_if (pt_not (pt_val (pe_callB (c_isiK (K := K) rfl) (by rfl) T.b_isinstance (by decide +kernel) (pa_cons (pv 4) (pa_cons (pe_bltn (v := .ty "bool") (by rfl) T.b_bool (by decide +kernel) rfl) pa_nil))))) (pss_one ps_never) pss_nil)
      (pss_one (ps_fldK (K := K) rfl (pv 0) (pe_tup (pa_cons (pv 1) (pa_cons (pv 2) (pa_cons (pv 3) (pa_cons (pv 4) pa_nil)))))))))))), ?_⟩)
  obtain ⟨p, dx, M, rfl, ok, hp, k⟩ := h
  walk_at "rd"
  refine u_in ⟨ok.r0, ok.r1⟩ ?_
  walk_at "rd"
  refine u_in ⟨ok.s0, ok.s1⟩ ?_
  walk_at "rd"
  refine u_in ⟨ok.m0, ok.m1⟩ ?_
  walk_at "rd"
  refine r_kTup fun t H1 nt e1 ht => ?_
  walk_at "rd"
  refine r_kSFld (e1 _ _ hp) cl na (by decide) fun H2 b2 h2 => ?_
  have ntp : t ≠ p := (ne_of_none hp nt).symm
  exact k H2 (Same.but e1 b2) ⟨dx, t, h2, b2 _ _ ht ntp⟩
theorem imp_Plan {C : Addr} (vs : List V) (H : Hp) (Q : VK) (E : XK) (h : sp_Plan C vs H Q E) : spMk C (sp_Plan_init C) [] vs H Q E := by
  obtain ⟨M, rfl, ok, k⟩ := h
  intro x dx nx nd ne
  refine ⟨x, dx, M, rfl, ok, upd_same, fun H' b hP => ⟨rfl, k x H' nx (fun c o hc => ?_) hP⟩⟩
  refine b _ _ ?_ (ne_of_none hc nx)
  rw [upd_ne (ne_of_none hc nx), upd_ne (ne_of_none hc nd)]
  exact hc
theorem ok_need_plan {f : Addr} {fd : FuncData} (T : Tx K mg) (I_Plan : C8.InsC K (He.ga K "Plan")) (F : FnP K "need_plan" s_need_plan f fd) : FnOk P w K mg base CX0 1 f fd ["value"] (sp_need_plan (He.ga K "Plan")) := by
  have sc : FnScope ["value"] ["value"] (defScope s_need_plan) := ⟨rfl, rfl, rfl, by decide +kernel, rfl, by decide +kernel, by decide +kernel⟩
  refine F.ok sc (by rintro vs H Q E ⟨_, _, rfl, _⟩; rfl) (fun cdv A outer s H vs Q E hr h => ⟨_, PSs.nox ((pss_one (ps_if (pt_not (pt_val (pe_callB (C8.call_isC I_Plan) (by rfl) T.b_isinstance (by decide +kernel) (pa_cons (pv 0) (pa_cons (pe_glob (v := .ref (He.ga K "Plan")) (by rfl) T.g_Plan rfl) pa_nil))))) (pss_one ps_never) pss_nil))), ?_⟩)
  obtain ⟨p, M, rfl, ⟨dx, t, h1, h2⟩, q⟩ := h
  walk_at "rd"
  refine ⟨p, dx, fPlan t, rfl, h1, ?_⟩
  walk_at "rd"
  exact q
theorem ok_need_balance {f C : Addr} {fd : FuncData} (T : Tx K mg) (F : FnP K "need_balance" s_need_balance f fd) (d_need_plan : Dn P w K mg base CX0 1 "need_plan" ["value"] (sp_need_plan C))
    (d_is_number_in : Dn P w K mg base CX0 2 "is_number_in" ["value", "least", "most"] (sp_is_number_in K)) : FnOk P w K mg base CX0 3 f fd ["plan", "balance"] (sp_need_balance C) := by
  have sc : FnScope ["plan", "balance"] ["plan", "balance"] (defScope s_need_balance) := ⟨rfl, rfl, rfl, by decide +kernel, rfl, by decide +kernel, by decide +kernel⟩
  refine F.ok sc (by rintro vs H Q E ⟨_, _, _, rfl, _⟩; rfl) (fun cdv A outer s H vs Q E hr h => ⟨_, PSs.nox ((pss_cons (ps_expr (pe_fn d_need_plan (hr.mono (by decide)) pass0 (pa_cons (pv 0) pa_nil)))
      (pss_one (ps_if (pt_not (pt_val (pe_fn d_is_number_in (hr.mono (by decide)) pass0 (pa_cons (pv 1) (pa_cons pe_int (pa_cons (pe_glob (v := .int 100000) (by rfl) T.c_MOST_BALANCE.choose_spec ⟨_, rfl⟩) pa_nil)))))) (pss_one ps_never) pss_nil)))), ?_⟩)
  obtain ⟨p, M, x, rfl, hP, h0, h1, q⟩ := h
  walk_at "rd"
  refine ⟨p, M, rfl, hP, ?_⟩
  walk_at "rd"
  refine u_in ⟨h0, h1⟩ ?_
  walk_at "rd"
  exact q
theorem ok_month_with {f C : Addr} {fd : FuncData} (T : Tx K mg) (cl : Cls K C) (na : NoAttr K C "l_parts") (F : FnP K "month_with" s_month_with f fd) :
    FnOk P w K mg base CX0 1 f fd ["plan", "balance", "extra"] (sp_month_with C) := by
  have sc : FnScope ["plan", "balance", "extra", "rate", "share", "least", "plus", "interest", "owed", "wanted", "payment"] ["plan", "balance", "extra"] (defScope s_month_with) := ⟨rfl, rfl, rfl, by decide +kernel, rfl, by decide +kernel, by decide +kernel⟩
  refine F.ok sc (by rintro vs H Q E ⟨_, _, _, _, rfl, _⟩; rfl) (fun cdv A outer s H vs Q E hr h => ⟨_, PSs.nox ((pss_cons (ps_asg (pe_fldK (K := K) rfl (pv 0)) (pg_tupK (K := K) (n := 4) rfl rfl (pgs_cons (pg_name (i := 3) sc.nd rfl (by first | exact Or.inl rfl | exact Or.inr rfl)) (pgs_cons (pg_name (i := 4) sc.nd rfl (by first | exact Or.inl rfl | exact Or.inr rfl)) (pgs_cons (pg_name (i := 5) sc.nd rfl (by first | exact Or.inl rfl | exact Or.inr rfl)) (pgs_cons (pg_name (i := 6) sc.nd rfl (by first | exact Or.inl rfl | exact Or.inr rfl)) pgs_nil))))))
      (pss_cons (ps_set (i := 7) sc.nd rfl (by first | exact Or.inl rfl | exact Or.inr rfl) (pe_op op_fdiv (pe_op op_mul (pv 1) (pv 3)) (pe_glob (v := .int 1000) (by rfl) T.c_THOUSAND.choose_spec ⟨_, rfl⟩)))
      (pss_cons (ps_set (i := 8) sc.nd rfl (by first | exact Or.inl rfl | exact Or.inr rfl) (pe_op op_add (pv 1) (pv 7)))
      (pss_cons (ps_if (pt_cmpR op_le (pv 8) (pv 5) (nomark _)) (pss_one (ps_ret (pe_tup (pa_cons (pv 7) (pa_cons (pv 8) (pa_cons pe_int pa_nil)))))) pss_nil)
      (pss_cons (ps_set (i := 9) sc.nd rfl (by first | exact Or.inl rfl | exact Or.inr rfl) (pe_ifExp (pt_val (pv 6)) (pe_op op_add (pv 7) (pe_op op_fdiv (pe_op op_mul (pv 1) (pv 4)) (pe_glob (v := .int 1000) (by rfl) T.c_THOUSAND.choose_spec ⟨_, rfl⟩))) (pe_op op_fdiv (pe_op op_mul (pv 8) (pv 4)) (pe_glob (v := .int 1000) (by rfl) T.c_THOUSAND.choose_spec ⟨_, rfl⟩))))
      (pss_cons (ps_set (i := 10) sc.nd rfl (by first | exact Or.inl rfl | exact Or.inr rfl) (pe_callB (c_min2 rfl) (by rfl) T.b_min (by decide +kernel) (pa_cons (pv 8) (pa_cons (pe_op op_add (pe_callB (c_max2 rfl) (by rfl) T.b_max (by decide +kernel) (pa_cons (pv 5) (pa_cons (pv 9) pa_nil))) (pv 2)) pa_nil))))
      (pss_one (ps_ret (pe_tup (pa_cons (pv 7) (pa_cons (pv 10) (pa_cons (pe_op op_sub (pv 8) (pv 10)) pa_nil))))))))))))), ?_⟩)
  obtain ⟨p, M, x, e, rfl, ok, ⟨dx, t, h1, h2⟩, k⟩ := h
  have b1 := ok.r0
  have b2 := ok.r1
  have b3 := ok.s0
  have b4 := ok.s1
  walk_at "rd"
  refine r_kFld h1 cl na rfl ?_
  walk_at "rd"
  refine w_dec (fun hc => ?_) (fun hc => ?_)
  · walk_at "rd"
    refine r_kTup fun q H1 nq e1 hq => k q H1 nq e1 ?_
    have hc' : M.owed x ≤ M.m := hc
    unfold Pl.pay Pl.nxt
    rw [if_pos hc', if_pos hc']
    exact hq
  · have hc' : ¬ M.owed x ≤ M.m := hc
    have fin : ∀ z, M.want x = z → ∀ q H1, H q = none → Same H H1 → H1 q = some (.tup [.int (M.intr x), .int (min (M.owed x) (max M.m z + e)), .int (M.owed x - min (M.owed x) (max M.m z + e))]) → Q (.ref q) H1 := by
      intro z hz q H1 nq e1 hq
      refine k q H1 nq e1 ?_
      unfold Pl.pay Pl.nxt
      rw [if_neg hc', if_neg hc', hz]
      exact hq
    walk_at "rd"
    refine w_b (fun hb => ?_) (fun hb => ?_)
    · walk_at "rd"
      refine r_kTup fun q H1 nq e1 hq => fin _ ?_ q H1 nq e1 hq
      unfold Pl.want
      rw [if_pos hb]
      rfl
    · walk_at "rd"
      refine r_kTup fun q H1 nq e1 hq => fin _ ?_ q H1 nq e1 hq
      unfold Pl.want
      rw [if_neg (by rw [hb]; decide)]
      rfl
end
end Wp
set_option Elab.async false
set_option linter.all false
set_option maxRecDepth 100000
set_option maxHeartbeats 4000000
/-! What is told of several own errors; outcomes of books, courses and numbers. -/
namespace Wp
open PySem PySem.Spec PyProof.Rows L2 LamX
structure ErG (K : PySem.W.Frag) (CE : Addr) (es : List Str) : Prop where
  x : ∀ c ∈ es, ExcC K (He.ga K c)
  ve : ∀ c ∈ es, PySem.W.kitOne K (.ref (He.ga K c)) (.type "ValueError") = some true
  k : ∀ c ∈ es, ∀ c' ∈ es, PySem.W.kitOne K (.ref (He.ga K c)) (.ref (He.ga K c')) = some (decide (c = c'))
  ex : ∀ c ∈ es, PySem.W.exmOne K (.ref (He.ga K c)) (.ref CE) = some true
  no : ∀ c ∈ es, noKitB K (He.ga K c) = true
section
variable {K : PySem.W.Frag} {CE : Addr} {es : List Str} {H : Hp} {Q : VK} {v : V} {c c' : Str} {r : Option (Str × V)}
theorem er_isG (ef : ErG K CE es) (h : ErV K H v (some (c, r))) (hc : c ∈ es) (hc' : c' ∈ es) (q : Q (.bl (decide (c = c'))) H) : rIsE K [v, .ref (He.ga K c')] H Q := by
  cases h with
  | b h => exact r_isEb h (ef.x c hc) (.own _) (ef.k c hc c' hc') q
  | f h g => exact r_isEf h g (ef.x c hc) (.own _) (ef.k c hc c' hc') q
theorem er_veG (ef : ErG K CE es) (h : ErV K H v (some (c, r))) (hc : c ∈ es) (q : Q (.bl true) H) : rIsE K [v, .ty "ValueError"] H Q := by
  cases h with
  | b h => exact r_isEb h (ef.x c hc) (.ty _) (ef.ve c hc) q
  | f h g => exact r_isEf h g (ef.x c hc) (.ty _) (ef.ve c hc) q
theorem er_isN (ef : ErG K CE es) (hc' : c' ∈ es) (q : Q (.bl false) H) : rIsE K [.non, .ref (He.ga K c')] H Q := r_isEn (.own _) (noKit_ok (ef.no c' hc') .none) q
theorem ErV.at_ref (h : ErV K H v (some (c, r))) : ∃ a, v = .ref a := by
  cases h with
  | b h => exact ⟨_, rfl⟩
  | f h g => exact ⟨_, rfl⟩
theorem caught_wordG (ef : ErG K CE es) {Qn : VK} {o : Wr} (hw : ∀ c r, o = some (c, r) → c ∈ es) (hn : ∀ v H', Q .non H' → Qn v H') (k : ∀ v H', Same H H' → ErV K H' v o → Q v H') : outE K H Qn (EC K CE Q) o := by
  have h := out_caught (fun c r e => ef.ex c (hw c r e)) k
  cases o with
  | none => exact fun v H' e => hn v H' (h v H' e)
  | some cr =>
    obtain ⟨c, r⟩ := cr
    cases r with
    | none => exact h
    | some fv => exact h
end
end Wp
set_option Elab.async false
set_option linter.all false
set_option maxRecDepth 100000
set_option maxHeartbeats 4000000
/-! x == y, x != y, x an instance of a class with its own __eq__ and without an own __ne__; y anything. -/
namespace Wp
open PySem PySem.Spec PyProof.Rows L2
structure EqC (K : PySem.W.Frag) (C f : Addr) : Prop where
  eq : PySem.W.findIn K (.ref C) "__eq__" = some (some (.ref f))
  fn : PySem.W.isFn K (.ref f) = true
  ne : PySem.W.findIn K (.ref C) "__ne__" = some (some (.builtin "object.__ne__"))
  ob : PySem.W.mroIn K C (.type "object") = some true
/-- the class at C has an own == that keeps the promise -/
structure Deq (P : Program) (w : World) (K : PySem.W.Frag) (mg : Str → Option Value) (base : Heap) (CX : CXT) (k : Nat) (C : Addr) (sp : Sp) : Prop where
  ex : ∃ f fd ps, EqC K C f ∧ FnOk P w K mg base CX k f fd ps sp ∧ Binds K fd ps []
def kEqO (K : PySem.W.Frag) (C : Addr) (sp : Sp) (E : XK) (neg : Bool) : R2 := fun x y H Q => ∃ a dx fs tb, x = .ref a ∧ H a = some (.ins C dx fs) ∧ TyX K H y tb ∧ PySem.W.notFirst K C tb = true ∧
  sp [x, y] H (fun v H' => ∃ b, v = .bl b ∧ Q (.bl (neg ^^ b)) H') E
section
variable {X : Cx} {CX : CXT} {k : Nat} {C : Addr} {sp : Sp} {E : XK}
theorem own_call {f : Addr} {fd : FuncData} {ps : List Str} (F : FnOk X.prog X.w X.K X.mg X.base CX k f fd ps sp) (hb : Binds X.K fd ps []) (hx : Passes CX X E) {A : Around} (hr : Room k A) (fr : A.frames = X.A.frames)
    {pins : List (Addr × Obj)} {s : Shared} {σ : L2.St} {H : Hp} {x y : V} {u v : Value} {Q : VK} {R : Value → Shared → Prop} (I : Inv X pins σ H s) (rx : RelV x u) (ry : RelV y v) (h : sp [x, y] H Q E)
    (q : ∀ z w s' H', Inv X pins σ H' s' → RelV z w → Q z H' → R w s') : wpAny (model X.prog X.w) A (call (.ref f) [u, v]) R X.xe s := by
  have e0 : Env0 X.prog X.w X.K X.mg X.base A X.stack s H := by
    have e := I.env0
    exact ⟨by rw [fr]; exact e.frames, e.mod, e.bs, e.bsz, e.funs, e.frf, e.hok, e.bare⟩
  have hl := F.len _ _ _ _ h
  have r2 : Vals [x, y] [u, v] := .cons rx (.cons ry .nil)
  refine wpAny_call (codeAny_mono (F.run A X.stack s H ⟨[u, v], []⟩ [u, v] [x, y] _ E hr e0 (by
    have := hb s [u, v] I.kIn (by simpa using hl)
    simpa using this) r2 h) fun r s' hq => ?_)
  cases r with
  | error e => exact hx pins σ H s e s' I hq
  | ok fl =>
    cases fl with
    | ret w =>
      obtain ⟨z, H', I', rz, ez⟩ := I.after hq
      exact q z w s' H' I' rz ez
    | next => exact False.elim hq
    | brk => exact False.elim hq
    | cont => exact False.elim hq
theorem op_eqO (D : Deq X.prog X.w X.K X.mg X.base CX k C sp) (hr : Room (k + 1) X.A) (hx : Passes CX X E) : OpR X (compareOp .Eq) (kEqO X.K C sp E false) := by
  intro pins s σ H x y u v Q I rx ry h
  obtain ⟨a, dx, fs, tb, rfl, ha, ty, hn, h⟩ := h
  obtain ⟨f, fd, ps, W, F, hb⟩ := D.ex
  cases rx
  obtain ⟨mA, J, _⟩ := ins_get I.hok ha
  obtain ⟨od, J, _⟩ := J.look
  obtain ⟨PP, Z, hP, _⟩ := kit_of I ry ty
  obtain ⟨m, hF⟩ := I.fr
  have hr0 := hr.mono (Nat.le_succ k)
  show wpAny (model X.prog X.w) X.A (richCompare .Eq (.ref a) v) (EP X pins σ Q) X.xe s
  refine PySem.W.cmp_K (op := .Eq) (tb := tb) hr0.units0 hF I.ok.mod.kin J (Z.ty _ _ I.kIn hP) hn W.eq W.fn ?_
  refine own_call F hb hx hr0 rfl I (x := V.ref a) (u := Value.ref a) rfl ry h fun z w s' H' I' rz hz => ?_
  obtain ⟨b, rfl, q⟩ := hz
  cases rz
  exact ⟨.bl b, H', I', rfl, by rw [Bool.false_xor] at q; exact q⟩
theorem op_eqOK {K : PySem.W.Frag} (hK : X.K = K) (D : Deq X.prog X.w X.K X.mg X.base CX k C sp) (hr : Room (k + 1) X.A) (hx : Passes CX X E) : OpR X (compareOp .Eq) (kEqO K C sp E false) := by
  subst hK
  exact op_eqO D hr hx
theorem entry_ne {K : PySem.W.Frag} {prog : Program} {w : World} {A : Around} {Ex : Value → Shared → Prop} {s : Shared} {x f : Addr} {C : Addr} {ox : Obj} {od : Option Obj} {b : Value} {Q : PySem.Fin → Shared → Prop} (hu : A.units < cLine) (X : K.In s.heap) (I : PySem.W.InstAt s.heap x ox C od)
    (W : EqC K C f) (h : wpAny (model prog w) A (call (.ref f) [.ref x, b]) (fun v s' => ∃ r, v = .bool r ∧ Q (.done (.ret (.bool (!r)))) s') Ex s) :
    wpAny (model prog w) A (Builtin.«object.__ne__» ⟨[.ref x, b], []⟩) Q Ex s := by
  unfold Builtin.«object.__ne__»
  repeat (first
    | with_reducible refine wpAny_cRoomFor hu ?_
    | (refine wpAny_bind (m := callSpecialIfBound? (.ref x) (Str.ofString "__eq__") [b])
        (PySem.W.ifBound_K X I W.eq W.fn (wpAny_mono h (fun r s' hr => by
          obtain ⟨b, rfl, hq⟩ := hr
          repeat (first | exact hq | exact wpAny_pure hq | exact wpAny_truthy_bool hq | (refine wpAny_bind (m := truthy (.bool _)) (wpAny_truthy_bool ?_)) | wp_step)) fun _ _ e => e)))
    | wp_step)
theorem ifBound_objNe {M : Model} {A : Around} {Ex : Value → Shared → Prop} {s : Shared} {K : PySem.W.Frag} {x C : Addr} {ox : Obj} {od : Option Obj} {args : List Value} {Q : Option Value → Shared → Prop} (X : K.In s.heap) (I : PySem.W.InstAt s.heap x ox C od)
    (hs : PySem.W.findIn K (.ref C) "__ne__" = some (some (.builtin "object.__ne__")))
    (h : wpAny M A (call (.builtin "object.__ne__") (.ref x :: args)) (fun v => Q (some v)) Ex s) : wpAny M A (callSpecialIfBound? (.ref x) "__ne__" args) Q Ex s := by
  simp only [callSpecialIfBound?, bindSpecialIfBound?]
  refine wpAny_holding (wpAny_bind (wpAny_bind (wpAny_bind (I.type.here ((PySem.W.looks_findIn X hs).here ?_)))))
  refine wpAny_bind (wpAny_askSetting (wpAny_ite ?_))
  have fin : wpAny M A (call (.builtin "object.__ne__") ([.ref x] ++ args) >>= fun v => pure (some v)) Q Ex s := wpAny_bind (wpAny_mono h (fun v s' h' => wpAny_pure h') fun _ _ h' => h')
  split
  · exact wpAny_bind (wpAny_of_eq (F.cmp_object.ne.bind _) (wpAny_pure (by exact fin)))
  · exact wpAny_tryCatch (wpAny_bind (wpAny_of_eq (F.cmp_object.ne.bind _) (wpAny_pure (by exact fin))))
theorem op_neO (D : Deq X.prog X.w X.K X.mg X.base CX k C sp) (hr : Room (k + 2) X.A) (hx : Passes CX X E) : OpR X (compareOp .NotEq) (kEqO X.K C sp E true) := by
  intro pins s σ H x y u v Q I rx ry h
  obtain ⟨a, dx, fs, tb, rfl, ha, ty, hn, h⟩ := h
  obtain ⟨f, fd, ps, W, G, hb⟩ := D.ex
  cases rx
  obtain ⟨mA, J, _⟩ := ins_get I.hok ha
  obtain ⟨od, J, _⟩ := J.look
  obtain ⟨PP, Z, hP, _⟩ := kit_of I ry ty
  have hr1 : Room k X.A.in1 := (hr.mono (Nat.le_succ (k + 1))).in1
  have XK := I.kIn
  have one : wpAny (model X.prog X.w) X.A (tryCompare (.ref a) "__ne__" v) (fun r s' => ∃ b, r = some (.bool b) ∧ EP X pins σ Q (.bool b) s') X.xe s := by
    unfold tryCompare
    refine wpAny_bind (ifBound_objNe XK J W.ne (wpAny_call (codeAny_call_builtin F.cmp_object.ne.plain F.cmpEntry_ne (PySem.W.check_slot F.cmpKind_ne F.cmpSplit_ne (J.type.andThen (PySem.W.looks_mroIn XK W.ob)) (F.cmpArgs_ne _ _)
      (entry_ne (A := X.A.in1) hr1.units0 XK J W (own_call G hb hx hr1 rfl I (x := V.ref a) (u := Value.ref a) rfl ry h fun z w s' H' I' rz hz => ?_))))))
    obtain ⟨b, rfl, q⟩ := hz
    cases rz
    have e : EP X pins σ Q (.bool (!b)) s' := ⟨.bl (!b), H', I', rfl, by rw [Bool.true_xor] at q; exact q⟩
    first | exact ⟨b, rfl, wpAny_pure ⟨_, rfl, e⟩⟩ | exact ⟨b, rfl, ⟨_, rfl, e⟩⟩
  show wpAny (model X.prog X.w) X.A (richCompare .NotEq (.ref a) v) (EP X pins σ Q) X.xe s
  unfold richCompare
  simp only [oneThing_ref]
  refine wpAny_holding (wpAny_bind (wpAny_cRoomFor (hr.mono (Nat.le_add_right k 2)).units0 ?_))
  rw [cmpInfo_NotEq]
  dsimp only
  refine wpAny_bind (J.type.here (wpAny_bind ((Z.ty _ _ XK hP).here ?_)))
  split
  · rename_i q
    have e : PySem.W.subIn X.K tb (.ref C) = some false := by
      rcases Bool.or_eq_true_iff.mp hn with e | e
      · rw [beq_iff_eq.mp e] at q; simp at q
      · exact beq_iff_eq.mp e
    refine wpAny_bind ((PySem.W.looks_subIn XK e).here ?_)
    simp only [Bool.false_eq_true, if_false]
    refine wpAny_bind (wpAny_mono one (fun r s' z => ?_) fun _ _ e => e)
    obtain ⟨v, rfl, hq⟩ := z
    exact wpAny_pure hq
  · refine wpAny_bind (wpAny_pure ?_)
    simp only [Bool.false_eq_true, if_false]
    refine wpAny_bind (wpAny_mono one (fun r s' z => ?_) fun _ _ e => e)
    obtain ⟨v, rfl, hq⟩ := z
    exact wpAny_pure hq
end
end Wp
set_option Elab.async false
set_option linter.all false
set_option maxRecDepth 100000
set_option maxHeartbeats 4000000
/-! A class called by keywords alone. -/
namespace Wp
open PySem PySem.Spec PyProof.Rows L2
/-- a class called by keywords ks alone; g puts their values in the parameters' order -/
structure Dcq (P : Program) (w : World) (K : PySem.W.Frag) (mg : Str → Option Value) (base : Heap)
    (CX : CXT) (k : Nat) (x : Str) (ks : List Str) (g : List V → List V) (sp : Sp) : Prop where
  ex : ∃ fI fd ps spI gv gV, Mk K (He.ga K x) fI ∧ FnOk P w K mg base CX k fI fd ps spI ∧ KBn K fd ps 1 ks gv gV ∧ (∀ y zs, gV [y] zs = y :: g zs) ∧ ∀ vs H Q E, sp vs H Q E → spMk (He.ga K x) spI [] vs H Q E
  gm : mg x = some (.ref (He.ga K x))
section
variable {X : Cx}
theorem pe_mkQ {CX : CXT} {k : Nat} {x : Str} {ks : List Str} {g : List V → List V} {sp : Sp} {E : XK} {kws : List Keyword} {tk : TA} {p pos : Pos}
    (D : Dcq X.prog X.w X.K X.mg X.base CX k x ks g sp) (hr : Room (k + 1) X.A) (hx : Passes CX X E) (hkw : PK X kws tk) (hg : Gl X x := by rfl)
    (hall : (backToKw pos (keywordEach kws X.env)).all (·.1.isSome) = true := by rfl) (hks : (backToKw pos (keywordEach kws X.env)).filterMap (·.1) = ks := by rfl)
    (hdb : (x == ("__debug__" : Str)) = false := by decide)
    (hpl : ((backTo pos (starEach [] X.env)).any (·.1) || (backToKw pos (keywordEach kws X.env)).any (·.1.isNone)) = false := by rfl) :
    PE X (.Call (.Name x p) [] kws pos) (tFnK ks.length g sp E tk) := by
  obtain ⟨fI, fd, ps, spI, gv, gV, M, F, b, hgV, imp⟩ := D.ex
  refine ⟨fun pins s σ H Q I h => ?_⟩
  refine wpAny_Call_Name_kw (ld_glob I hg D.gm ?_ hdb)
  refine PySem.W.callWith_KW0 (h₀ := X.base) I.ok.mod.kin M.kp hall ?_ hpl
  refine thn (hkw.run pos pins s σ H _ I h) fun ws s2 ⟨zs, H2, I2, rz, l2, q2⟩ => ⟨I2.kIn, ?_⟩
  rw [hks]
  refine run_makeK (us := []) (vs := []) M F hr b hx I2 .nil rz rfl l2 fun x dx nx nd ne => ?_
  rw [hgV]
  have z := imp _ _ _ _ q2 x dx nx nd ne
  rw [List.append_nil] at z
  exact z
end
/-- [a, b, c, d] ↦ [c, d, b, a] -/
def perm4 {α : Type} : List α → List α
  | [a, b, c, d] => [c, d, b, a]
  | l => l
theorem perm4_rel {vs : List V} {us : List Value} (r : Vals vs us) : Vals (perm4 vs) (perm4 us) := by
  match vs, us, r with
  | [], _, .nil => exact .nil
  | [_], _, .cons a .nil => exact .cons a .nil
  | [_, _], _, .cons a (.cons b .nil) => exact .cons a (.cons b .nil)
  | [_, _, _], _, .cons a (.cons b (.cons c .nil)) => exact .cons a (.cons b (.cons c .nil))
  | [_, _, _, _], _, .cons a (.cons b (.cons c (.cons d .nil))) => exact .cons c (.cons d (.cons b (.cons a .nil)))
  | _ :: _ :: _ :: _ :: _ :: _, _, .cons a (.cons b (.cons c (.cons d (.cons e f)))) => exact .cons a (.cons b (.cons c (.cons d (.cons e f))))
/-- a def with defaults called with n positional values and all others by keywords -/
theorem kbn1 {K : PySem.W.Frag} {x qual : Str} {params : Arguments} {body : List Stmt} {scope : Scope} {dvs : List V} {kws : List (Str × V)} {f : Addr} {fd : FuncData} {ps ks : List Str} {n : Nat} {g : List Value → List Value → List Value} {gV : List V → List V → List V}
    (F : FunD K x qual params body scope dvs kws f fd) (hd : dvs ≠ []) (hrel : ∀ {vs : List V} {us : List Value} {zs : List V} {ws : List Value}, Vals vs us → Vals zs ws → Vals (gV vs zs) (g us ws))
    (h : ∀ (T : Addr) (kV doc pm : Value) (an : Option Addr) (cdv ct : Value) (us its ws : List Value), us.length = n → its.length = dvs.length → ws.length = ks.length →
      ∃ k, bindArgs (PySem.W.fnOf x qual params body scope (.ref T) kV doc pm an cdv ct) ⟨us, ks.zip ws⟩ = seqItems? (.ref T) >>= k ∧ k (some its.toArray) = pure (ps.zip (g us ws))) : KBn K fd ps n ks g gV := by
  obtain ⟨oc, od, dV, kV, doc, pm, an, cdv, ct, osl, rfl, lk, hcd, hD, hK⟩ := F.ex
  rcases hD with ⟨e, _⟩ | ⟨_, T, o, its, m, rfl, lT, oT, rT⟩
  · exact absurd e hd
  · refine ⟨fun s us ws X l1 l2 => ?_, hrel⟩
    obtain ⟨k, e1, e2⟩ := h T kV doc pm an cdv ct us its ws l1 rT.length.symm l2
    refine BindsTo.of_looks fun M => ?_
    rw [e1]
    exact looks_items X lT oT (.of_pure e2)
theorem self4_rel {vs zs : List V} {us ws : List Value} (r : Vals vs us) (q : Vals zs ws) : Vals (vs ++ perm4 zs) (us ++ perm4 ws) := r.append (perm4_rel q)
end Wp
set_option Elab.async false
set_option linter.all false
set_option maxRecDepth 100000
set_option maxHeartbeats 4000000
/-! k72: plans of any parts, plans compared. -/
namespace Wp
open PySem PySem.Spec PyProof.Rows L2 LamX
abbrev s_Plan___eq__ : Stmt := inClass (topS 32) 5
abbrev s_Plan_rate : Stmt := inClass (topS 32) 1
abbrev s_Plan_share : Stmt := inClass (topS 32) 2
abbrev s_Plan_least : Stmt := inClass (topS 32) 3
abbrev s_Plan_plus : Stmt := inClass (topS 32) 4
abbrev s_month : Stmt := topS 36
local macro_rules | `(tactic| walk_at "val") => `(tactic| assumption)
local macro_rules | `(tactic| walk_at "rd1") => `(tactic| first
  | with_reducible refine r_seq ?_ | with_reducible refine r_next ?_ | with_reducible refine r_if ?_ | with_reducible refine r_asg ?_ | with_reducible refine r_gname ?_
  | with_reducible refine r_ret ?_ | with_reducible refine r_retN ?_ | with_reducible refine r_drop ?_ | with_reducible refine r_par ?_ | with_reducible refine r_kPar ?_
  | ((with_reducible refine' r_var ?hv ?_); (case hv => exact rfl)) | with_reducible refine r_c ?_ | with_reducible refine r_nil ?_ | with_reducible refine r_cons ?_
  | with_reducible refine r_fn ?_ | with_reducible refine r_cb ?_ | with_reducible refine r_op ?_ | with_reducible refine r_un ?_ | with_reducible refine r_I0 ?_
  | with_reducible refine r_pow5 ?_ | with_reducible refine r_pow6 ?_ | with_reducible refine r_pow7 ?_ | with_reducible refine r_pow9 ?_ | with_reducible refine r_pow18 ?_ | with_reducible refine r_pow20 ?_ | with_reducible refine r_pow30 ?_
  | with_reducible refine r_isN_non ?_ | with_reducible refine r_isN_ref ?_ | with_reducible refine r_isN_int ?_ | with_reducible refine r_isN_str ?_ | with_reducible refine r_isN_bl ?_ | with_reducible refine r_notN_non ?_ | with_reducible refine r_notN_ref ?_ | with_reducible refine r_notN_int ?_ | with_reducible refine r_notN_str ?_ | with_reducible refine r_notN_bl ?_
  | ((with_reducible refine r_I ?hc ?_); (case hc => walk_at "side")) | with_reducible refine r_U ?_
  | with_reducible refine r_eqI ?_ | with_reducible refine r_neI ?_ | with_reducible refine r_eqS ?_ | with_reducible refine r_neS ?_ | with_reducible refine r_eqB ?_ | with_reducible refine r_neB ?_
  | with_reducible refine r_chain ?_ | with_reducible refine r_test ?_ | with_reducible refine r_tB ?_ | with_reducible refine r_kTest ?_ | with_reducible refine r_not ?_
  | with_reducible refine r_and ?_ | with_reducible refine r_or ?_ | with_reducible refine r_tif ?_ | with_reducible refine r_andV ?_ | with_reducible refine r_orV ?_ | with_reducible refine r_notV ?_
  | with_reducible refine r_kAndV ?_ | with_reducible refine r_kOrV ?_ | with_reducible refine r_kNotV ?_
  | with_reducible refine w_T ?_ | with_reducible refine w_F ?_ | with_reducible refine w_NT ?_ | with_reducible refine w_NF ?_
  | with_reducible refine r_tup ?_ | with_reducible refine r_lst ?_ | with_reducible refine r_fld ?_ | with_reducible refine r_prop ?_ | ((with_reducible refine' r_aug ?h1 ?_); (case h1 => exact rfl)) | with_reducible refine r_ipI ?_ | with_reducible refine r_dget ?_ | with_reducible refine r_dput ?_ | with_reducible refine r_bm ?_
  | ((with_reducible refine' r_kDGetS ?h1 ?h2 ?_); (case h1 => assumption); (case h2 => walk_at "val"))
  | ((with_reducible refine' r_kBML ?h1 ?_); (case h1 => assumption))
  | with_reducible refine r_forL ?_ | with_reducible refine r_forR1 ?_ | with_reducible refine r_forR2 ?_ | with_reducible refine r_forT ?_ | with_reducible refine r_lcL ?_ | with_reducible refine r_lcR1 ?_
  | ((with_reducible refine r_kLcG ?hw ?_); (case hw => exact rfl)) | with_reducible refine r_kLcT ?_ | with_reducible refine r_yes ?_
  | with_reducible refine r_pnil ?_ | with_reducible refine r_pcons ?_
  | with_reducible refine r_fnK ?_ | ((with_reducible refine r_kFnK ?hl ?_); (case hl => exact rfl))
  | with_reducible refine r_isi_ii ?_ | with_reducible refine r_isi_ib ?_ | with_reducible refine r_isi_bi ?_ | with_reducible refine r_isi_bb ?_ | with_reducible refine r_isi_ss ?_ | with_reducible refine r_isi_is ?_ | with_reducible refine r_isi_it ?_
  | ((with_reducible refine' r_isi_tt ?h1 ?_); (case h1 => assumption))
  | with_reducible refine r_sfld ?_ | with_reducible refine r_gnil ?_ | with_reducible refine r_gcons ?_
  | ((with_reducible refine' r_gtup ?h1 ?h2 ?_); (case h1 => exact SqT.of (by assumption)); (case h2 => exact rfl))
  | with_reducible refine r_sl ?_ | with_reducible refine r_noPart ?_ | with_reducible refine r_part ?_ | with_reducible refine r_kPart ?_ | with_reducible refine r_m1 ?_ | with_reducible refine r_kM1 ?_ | with_reducible refine r_forS ?_ | with_reducible refine r_lcS ?_ | with_reducible refine r_lcTu ?_ | with_reducible refine r_lcK ?_ | with_reducible refine r_dcL ?_ | with_reducible refine r_dcK ?_ | with_reducible refine r_lc2L ?_ | with_reducible refine r_kLc2TL ?_ | with_reducible refine r_dcEn ?_ | with_reducible refine r_gslc ?_ | with_reducible refine r_lcEn ?_ | with_reducible refine r_lcZip ?_ | with_reducible refine r_lcEl ?_ | with_reducible refine r_lcR2 ?_ | with_reducible refine r_rg1 ?_ | with_reducible refine r_rg2 ?_ | with_reducible refine r_forET ?_ | with_reducible refine r_lenD ?_
  | ((with_reducible refine r_kDcG ?hw ?_); (case hw => exact rfl)) | with_reducible refine r_kDcT ?_
  | with_reducible refine r_fldaug ?_ | with_reducible refine r_daug ?_ | with_reducible refine r_rAdd ?_ | with_reducible refine r_rSub ?_ | with_reducible refine r_ddel ?_ | with_reducible refine r_bmF ?_ | with_reducible refine r_dget2 ?_ | with_reducible refine r_listItems ?_ | with_reducible refine r_bm0 ?_ | with_reducible refine r_lc2E ?_ | ((with_reducible refine r_kLc2G ?hw ?_); (case hw => exact rfl)) | with_reducible refine r_kLc2T ?_ | with_reducible refine r_forE ?_ | with_reducible refine r_orT ?_ | with_reducible refine r_din ?_ | with_reducible refine r_augS ?_ | with_reducible refine r_dnotin ?_ | with_reducible refine r_lcIT ?_ | with_reducible refine r_cont ?_ | with_reducible refine r_meth ?_ | with_reducible refine r_frz ?_ | with_reducible refine r_par3 ?_ | with_reducible refine r_kPar3 ?_ | with_reducible refine r_dz ?_ | with_reducible refine r_revL ?_ | with_reducible refine r_revT ?_ | with_reducible refine r_star ?_ | with_reducible refine r_int1 ?_ | with_reducible refine r_int1b ?_ | with_reducible refine r_min2 ?_ | with_reducible refine r_max2 ?_ | with_reducible refine r_gsub ?_ | with_reducible refine r_err ?_ | with_reducible refine r_errT ?_ | with_reducible refine r_xv ?_)
local macro_rules | `(tactic| walk_at "rd") => `(tactic| repeat walk_at "rd1")
local macro_rules | `(tactic| walk_at "side") => `(tactic| first | assumption | exact Or.inr ⟨by decide, by decide⟩ | exact Or.inl ⟨by decide, by decide⟩ | (constructor <;> omega) | omega | decide | (refine Or.inl ⟨?_, ?_⟩ <;> omega) | (refine Or.inr ⟨?_, ?_⟩ <;> omega) | (refine ⟨?_, ?_, ?_⟩ <;> first | decide | omega))
def boB : PyData → Bool
  | .bool _ => true
  | _ => false
theorem Od.isB {K : PySem.W.Frag} {A : Addr → Prop} {H : Hp} {v : V} {d : PyData} {Q : VK} (h : Od A H v d) (q : Q (.bl (boB d)) H) : rIsi K [v, .ty "bool"] H Q := by
  cases d with
  | bool b => exact r_isiT h.ty (show kitB "bool" "bool" = some true by decide +kernel) q
  | none => exact r_isiT h.ty (show kitB "NoneType" "bool" = some false by decide +kernel) q
  | int b => exact r_isiT h.ty (show kitB "int" "bool" = some false by decide +kernel) q
  | str b => exact r_isiT h.ty (show kitB "str" "bool" = some false by decide +kernel) q
  | list b => exact r_isiT h.ty (show kitB "list" "bool" = some false by decide +kernel) q
  | tuple b => exact r_isiT h.ty (show kitB "tuple" "bool" = some false by decide +kernel) q
  | dict b => exact r_isiT h.ty (show kitB "dict" "bool" = some false by decide +kernel) q
/-- the first part that is wrong -/
def plnP (dr ds dm db : PyData) : Option Str := if inB (numD dr) 0 1000 = false then some "rate" else if inB (numD ds) 0 1000 = false then some "share" else if inB (numD dm) 1 1000000 = false then some "least" else if boB db = false then some "plus" else none
def spx_PlanI (K : PySem.W.Frag) (C : Addr) : Sp := fun vs H Q E => ∃ (A : Addr → Prop) (p dx : Addr) (vr v2 vm vb : V) (dr ds dm db : PyData), vs = [.ref p, vr, v2, vm, vb] ∧ Od A H vr dr ∧ Od A H v2 ds ∧ Od A H vm dm ∧ Od A H vb db ∧ H p = some (.ins C dx []) ∧
  (plnP dr ds dm db = none → ∀ H', But p H H' → Q .non H') ∧ (∀ z, plnP dr ds dm db = some z → badE K H E "BadPlan" "part" (.str z))
def spx_Plan (K : PySem.W.Frag) : Sp := fun vs H Q E => ∃ (A : Addr → Prop) (vr v2 vm vb : V) (dr ds dm db : PyData), vs = [vr, v2, vm, vb] ∧ Od A H vr dr ∧ Od A H v2 ds ∧ Od A H vm dm ∧ Od A H vb db ∧
  (plnP dr ds dm db = none → ∀ x H', Same H H' → Q (.ref x) H') ∧ (∀ z, plnP dr ds dm db = some z → badE K H E "BadPlan" "part" (.str z))
/-- what a plan is held against -/
inductive PlE (K : PySem.W.Frag) (C : Addr) (H : Hp) : V → Option Pl → Prop
  | plan {p : Addr} {M : Pl} : PlanAt C H p M → PlE K C H (.ref p) (some M)
  | oth {v : V} {t : Value} : TyX K H v t → PySem.W.kitOne K t (.ref C) = some false → PySem.W.notFirst K C t = true → PlE K C H v none
instance : DecidableEq Pl := fun a b => if h : a.r = b.r ∧ a.s = b.s ∧ a.m = b.m ∧ a.b = b.b then .isTrue (by cases a; cases b; obtain ⟨h1, h2, h3, h4⟩ := h; cases h1; cases h2; cases h3; cases h4; rfl) else .isFalse (fun z => h (by rw [z]; exact ⟨rfl, rfl, rfl, rfl⟩))
def plEq (M : Pl) : Option Pl → Bool
  | none => false
  | some N => decide (M = N)
def sp_eqP (K : PySem.W.Frag) (C : Addr) : Sp := fun vs H Q _ => ∃ (p : Addr) (M : Pl) (v : V) (o : Option Pl), vs = [.ref p, v] ∧ PlanAt C H p M ∧ PlE K C H v o ∧ Q (.bl (plEq M o)) H
def sp_Pl (C : Addr) (f : Pl → V) : Sp := fun vs H Q _ => ∃ (p : Addr) (M : Pl), vs = [.ref p] ∧ PlanAt C H p M ∧ Q (f M) H
def sp_month (C : Addr) : Sp := fun vs H Q _ => ∃ (p : Addr) (M : Pl) (x : Int), vs = [.ref p, .int x] ∧ M.Ok ∧ PlanAt C H p M ∧ 0 ≤ x ∧ x ≤ 100000 ∧
  ∀ t H', H t = none → Same H H' → H' t = some (.tup [.int (M.intr x), .int (M.pay 0 x), .int (M.nxt 0 x)]) → Q (.ref t) H'
def plD (M : Pl) : PyData := .tuple [.int M.r, .int M.s, .int M.m, .bool M.b]
theorem plD_eqv (M N : Pl) : PyData.eqv (plD M) (plD N) = decide (M = N) := by
  have e : PyData.eqv (plD M) (plD N) = ((M.r == N.r) && ((M.s == N.s) && ((M.m == N.m) && ((M.b == N.b) && true)))) := rfl
  rw [e, Bool.eq_iff_iff]
  simp only [Bool.and_eq_true, beq_iff_eq, decide_eq_true_eq, and_true]
  constructor
  · rintro ⟨h1, h2, h3, h4⟩
    cases M; cases N
    cases h1; cases h2; cases h3; cases h4
    rfl
  · rintro rfl
    exact ⟨rfl, rfl, rfl, rfl⟩
section
variable {P : Program} {w : World} {K : PySem.W.Frag} {mg : Str → Option Value} {base : Heap}
theorem okx_Plan_init {f C : Addr} {fd : FuncData} (T : Tx K mg) (cl : Cls K C) (na : NoAttr K C "l_parts") (e_BadPlan : ErrC P K mg "BadPlan" (He.ga K "BadPlan") "part") (F : FunD K "__init__" "Plan.__init__" (defArgs s_Plan___init__) (defBody s_Plan___init__) (defScope s_Plan___init__) [.bl false] [] f fd)
    (d_is_number_in : Dn P w K mg base CX0 2 "is_number_in" ["value", "least", "most"] (sp_is_number_in K)) :
    FnOk P w K mg base (L2.CX P w) 3 f fd ["self", "rate", "share", "least", "plus"] (spx_PlanI K C) := by
  have sc : FnScope ["self", "rate", "share", "least", "plus"] ["self", "rate", "share", "least", "plus"] (defScope s_Plan___init__) := ⟨rfl, rfl, rfl, by decide +kernel, rfl, by decide +kernel, by decide +kernel⟩
  refine F.okE sc (by rintro vs H Q E ⟨_, _, _, _, _, _, _, _, _, _, _, rfl, _⟩; rfl) (fun cdv A outer s H vs Q E hr tk h => ⟨_, (pss_cons (ps_if (pt_not (pt_val (pe_fn d_is_number_in (hr.mono (by decide)) pass0 (pa_cons (pv 1) (pa_cons pe_int (pa_cons (pe_glob (v := .int 1000) (by rfl) T.c_THOUSAND.choose_spec ⟨_, rfl⟩) pa_nil)))))) (pss_one (ps_err rfl e_BadPlan hr tk (pa_cons pe_str pa_nil))) pss_nil)
      (pss_cons (ps_if (pt_not (pt_val (pe_fn d_is_number_in (hr.mono (by decide)) pass0 (pa_cons (pv 2) (pa_cons pe_int (pa_cons (pe_glob (v := .int 1000) (by rfl) T.c_THOUSAND.choose_spec ⟨_, rfl⟩) pa_nil)))))) (pss_one (ps_err rfl e_BadPlan hr tk (pa_cons pe_str pa_nil))) pss_nil)
      (pss_cons (ps_if (pt_not (pt_val (pe_fn d_is_number_in (hr.mono (by decide)) pass0 (pa_cons (pv 3) (pa_cons pe_int (pa_cons (pe_glob (v := .int 1000000) (by rfl) T.c_MOST_LEAST.choose_spec ⟨_, rfl⟩) pa_nil)))))) (pss_one (ps_err rfl e_BadPlan hr tk (pa_cons pe_str pa_nil))) pss_nil)
      (pss_cons (ps_if (pt_not (pt_val (pe_callB (c_isiK (K := K) rfl) (by rfl) T.b_isinstance (by decide +kernel) (pa_cons (pv 4) (pa_cons (pe_bltn (v := .ty "bool") (by rfl) T.b_bool (by decide +kernel) rfl) pa_nil))))) (pss_one (ps_err rfl e_BadPlan hr tk (pa_cons pe_str pa_nil))) pss_nil)
      (pss_one (ps_fldK (K := K) rfl (pv 0) (pe_tup (pa_cons (pv 1) (pa_cons (pv 2) (pa_cons (pv 3) (pa_cons (pv 4) pa_nil))))))))))), ?_⟩)
  obtain ⟨A, p, dx, vr, v2, vm, vb, dr, ds, dm, db, rfl, hr, hs, hm, hb, hp, k1, k2⟩ := h
  unfold plnP at k1 k2
  walk_at "rd"
  refine ⟨vr, numD dr, 0, 1000, rfl, hr.num, ?_⟩
  walk_at "rd"
  cases b1 : inB (numD dr) 0 1000 with
  | false =>
    walk_at "rd"
    exact r_kErr fun d H' n e q => k2 "rate" (by rw [b1]; rfl) d H' n e q
  | true =>
    rw [b1] at k1 k2
    rw [if_neg (by simp)] at k1 k2
    walk_at "rd"
    refine ⟨v2, numD ds, 0, 1000, rfl, hs.num, ?_⟩
    walk_at "rd"
    cases b2 : inB (numD ds) 0 1000 with
    | false =>
      walk_at "rd"
      exact r_kErr fun d H' n e q => k2 "share" (by rw [b2]; rfl) d H' n e q
    | true =>
      rw [b2] at k1 k2
      rw [if_neg (by simp)] at k1 k2
      walk_at "rd"
      refine ⟨vm, numD dm, 1, 1000000, rfl, hm.num, ?_⟩
      walk_at "rd"
      cases b3 : inB (numD dm) 1 1000000 with
      | false =>
        walk_at "rd"
        exact r_kErr fun d H' n e q => k2 "least" (by rw [b3]; rfl) d H' n e q
      | true =>
        rw [b3] at k1 k2
        rw [if_neg (by simp)] at k1 k2
        walk_at "rd"
        refine hb.isB ?_
        walk_at "rd"
        cases b4 : boB db with
        | false =>
          walk_at "rd"
          exact r_kErr fun d H' n e q => k2 "plus" (by rw [b4]; rfl) d H' n e q
        | true =>
          walk_at "rd"
          refine r_kTup fun t H1 nt e1 ht => ?_
          walk_at "rd"
          refine r_kSFld (e1 _ _ hp) cl na (by decide) fun H2 b2 h2 => ?_
          exact k1 (by rw [b4]; rfl) H2 (Same.but e1 b2)
theorem impx_Plan {C : Addr} (vs : List V) (H : Hp) (Q : VK) (E : XK) (h : spx_Plan K vs H Q E) : spMk C (spx_PlanI K C) [] vs H Q E := by
  obtain ⟨A, vr, v2, vm, vb, dr, ds, dm, db, rfl, hr, hs, hm, hb, k1, k2⟩ := h
  intro x dx nx nd ne
  have e1 : Same H (upd (upd H dx (.own x)) x (.ins C dx [])) := fun c o hc => by
    rw [upd_ne (ne_of_none hc nx), upd_ne (ne_of_none hc nd)]
    exact hc
  refine ⟨A, x, dx, vr, v2, vm, vb, dr, ds, dm, db, rfl, hr.keep (.same e1), hs.keep (.same e1), hm.keep (.same e1), hb.keep (.same e1), upd_same, fun n H' b => ⟨rfl, k1 n x H' (Same.mut e1 b nx)⟩, fun z n => (k2 z n).back e1⟩
theorem ok_Plan_eq {f : Addr} {fd : FuncData} (T : Tx K mg) (I_Plan : C8.InsC K (He.ga K "Plan")) (cl : Cls K (He.ga K "Plan")) (na : NoAttr K (He.ga K "Plan") "l_parts") (F : FunD K "__eq__" "Plan.__eq__" (defArgs s_Plan___eq__) (defBody s_Plan___eq__) (defScope s_Plan___eq__) [] [] f fd) :
    FnOk P w K mg base CX0 1 f fd ["self", "other"] (sp_eqP K (He.ga K "Plan")) := by
  have sc : FnScope ["self", "other"] ["self", "other"] (defScope s_Plan___eq__) := ⟨rfl, rfl, rfl, by decide +kernel, rfl, by decide +kernel, by decide +kernel⟩
  refine F.ok sc (by rintro vs H Q E ⟨_, _, _, _, rfl, _⟩; rfl) (fun cdv A outer s H vs Q E hr h => ⟨_, PSs.nox ((pss_one (ps_ret (pe_and (pe_callB (c_isBk rfl I_Plan) (by rfl) T.b_isinstance (by decide +kernel) (pa_cons (pv 1) (pa_cons (pe_glob (v := .ref (He.ga K "Plan")) (by rfl) T.g_Plan rfl) pa_nil))) (pe_one (pe_cmpR (eqDK (K := K) rfl hr.units) (pe_fldK (K := K) rfl (pv 0)) (pe_fldK (K := K) rfl (pv 1)) (nomark _))))))), ?_⟩)
  obtain ⟨p, M, v, o, rfl, hP, hv, k⟩ := h
  walk_at "rd"
  obtain ⟨dx, t, h1, h2⟩ := hP
  cases hv with
  | @plan q N h =>
    obtain ⟨dy, u, h3, h4⟩ := h
    refine r_isBk h3 ?_
    walk_at "rd"
    refine r_kFld h1 cl na rfl ?_
    walk_at "rd"
    refine r_kFld h3 cl na rfl ?_
    walk_at "rd"
    refine ⟨plD M, plD N, .tup (SqT.of h2) (.cons (.int _) (.cons (.int _) (.cons (.int _) (.cons (.bl _) .nil)))), .tup (SqT.of h4) (.cons (.int _) (.cons (.int _) (.cons (.int _) (.cons (.bl _) .nil)))), rfl, rfl, ?_⟩
    rw [plD_eqv]
    exact k
  | oth ty no nf =>
    refine .inr (r_isi (.own _) ty no ?_)
    walk_at "rd"
    exact k
theorem ok_Pl_rate {f C : Addr} {fd : FuncData} (T : Tx K mg) (cl : Cls K C) (na : NoAttr K C "l_parts") (F : FunD K "rate" "Plan.rate" (defArgs s_Plan_rate) (defBody s_Plan_rate) (defScope s_Plan_rate) [] [] f fd) :
    FnOk P w K mg base CX0 1 f fd ["self"] (sp_Pl C (fun M => .int M.r)) := by
  have sc : FnScope ["self"] ["self"] (defScope s_Plan_rate) := ⟨rfl, rfl, rfl, by decide +kernel, rfl, by decide +kernel, by decide +kernel⟩
  refine F.ok sc (by rintro vs H Q E ⟨_, _, rfl, _⟩; rfl) (fun cdv A outer s H vs Q E hr h => ⟨_, PSs.nox ((pss_one (ps_ret (pe_ix (ix_tupK (K := K) rfl) (pe_fldK (K := K) rfl (pv 0)) pe_int (fun _ _ => rfl))))), ?_⟩)
  obtain ⟨p, M, rfl, ⟨dx, t, h1, h2⟩, q⟩ := h
  walk_at "rd"
  refine r_kFld h1 cl na rfl ?_
  walk_at "rd"
  exact r_ixT (SqT.of h2) (at_get (n := 0) rfl rfl) q
theorem ok_Pl_share {f C : Addr} {fd : FuncData} (T : Tx K mg) (cl : Cls K C) (na : NoAttr K C "l_parts") (F : FunD K "share" "Plan.share" (defArgs s_Plan_share) (defBody s_Plan_share) (defScope s_Plan_share) [] [] f fd) :
    FnOk P w K mg base CX0 1 f fd ["self"] (sp_Pl C (fun M => .int M.s)) := by
  have sc : FnScope ["self"] ["self"] (defScope s_Plan_share) := ⟨rfl, rfl, rfl, by decide +kernel, rfl, by decide +kernel, by decide +kernel⟩
  refine F.ok sc (by rintro vs H Q E ⟨_, _, rfl, _⟩; rfl) (fun cdv A outer s H vs Q E hr h => ⟨_, PSs.nox ((pss_one (ps_ret (pe_ix (ix_tupK (K := K) rfl) (pe_fldK (K := K) rfl (pv 0)) pe_int (fun _ _ => rfl))))), ?_⟩)
  obtain ⟨p, M, rfl, ⟨dx, t, h1, h2⟩, q⟩ := h
  walk_at "rd"
  refine r_kFld h1 cl na rfl ?_
  walk_at "rd"
  exact r_ixT (SqT.of h2) (at_get (n := 1) rfl rfl) q
theorem ok_Pl_least {f C : Addr} {fd : FuncData} (T : Tx K mg) (cl : Cls K C) (na : NoAttr K C "l_parts") (F : FunD K "least" "Plan.least" (defArgs s_Plan_least) (defBody s_Plan_least) (defScope s_Plan_least) [] [] f fd) :
    FnOk P w K mg base CX0 1 f fd ["self"] (sp_Pl C (fun M => .int M.m)) := by
  have sc : FnScope ["self"] ["self"] (defScope s_Plan_least) := ⟨rfl, rfl, rfl, by decide +kernel, rfl, by decide +kernel, by decide +kernel⟩
  refine F.ok sc (by rintro vs H Q E ⟨_, _, rfl, _⟩; rfl) (fun cdv A outer s H vs Q E hr h => ⟨_, PSs.nox ((pss_one (ps_ret (pe_ix (ix_tupK (K := K) rfl) (pe_fldK (K := K) rfl (pv 0)) pe_int (fun _ _ => rfl))))), ?_⟩)
  obtain ⟨p, M, rfl, ⟨dx, t, h1, h2⟩, q⟩ := h
  walk_at "rd"
  refine r_kFld h1 cl na rfl ?_
  walk_at "rd"
  exact r_ixT (SqT.of h2) (at_get (n := 2) rfl rfl) q
theorem ok_Pl_plus {f C : Addr} {fd : FuncData} (T : Tx K mg) (cl : Cls K C) (na : NoAttr K C "l_parts") (F : FunD K "plus" "Plan.plus" (defArgs s_Plan_plus) (defBody s_Plan_plus) (defScope s_Plan_plus) [] [] f fd) :
    FnOk P w K mg base CX0 1 f fd ["self"] (sp_Pl C (fun M => .bl M.b)) := by
  have sc : FnScope ["self"] ["self"] (defScope s_Plan_plus) := ⟨rfl, rfl, rfl, by decide +kernel, rfl, by decide +kernel, by decide +kernel⟩
  refine F.ok sc (by rintro vs H Q E ⟨_, _, rfl, _⟩; rfl) (fun cdv A outer s H vs Q E hr h => ⟨_, PSs.nox ((pss_one (ps_ret (pe_ix (ix_tupK (K := K) rfl) (pe_fldK (K := K) rfl (pv 0)) pe_int (fun _ _ => rfl))))), ?_⟩)
  obtain ⟨p, M, rfl, ⟨dx, t, h1, h2⟩, q⟩ := h
  walk_at "rd"
  refine r_kFld h1 cl na rfl ?_
  walk_at "rd"
  exact r_ixT (SqT.of h2) (at_get (n := 3) rfl rfl) q
theorem ok_month {f C : Addr} {fd : FuncData} (T : Tx K mg) (F : FnP K "month" s_month f fd) (d_need_balance : Dn P w K mg base CX0 3 "need_balance" ["plan", "balance"] (sp_need_balance C))
    (d_month_with : Dn P w K mg base CX0 1 "month_with" ["plan", "balance", "extra"] (sp_month_with C)) :
    FnOk P w K mg base CX0 4 f fd ["plan", "balance"] (sp_month C) := by
  have sc : FnScope ["plan", "balance"] ["plan", "balance"] (defScope s_month) := ⟨rfl, rfl, rfl, by decide +kernel, rfl, by decide +kernel, by decide +kernel⟩
  refine F.ok sc (by rintro vs H Q E ⟨_, _, _, rfl, _⟩; rfl) (fun cdv A outer s H vs Q E hr h => ⟨_, PSs.nox ((pss_cons (ps_expr (pe_fn d_need_balance (hr.mono (by decide)) pass0 (pa_cons (pv 0) (pa_cons (pv 1) pa_nil))))
      (pss_one (ps_ret (pe_fn d_month_with (hr.mono (by decide)) pass0 (pa_cons (pv 0) (pa_cons (pv 1) (pa_cons pe_int pa_nil)))))))), ?_⟩)
  obtain ⟨p, M, x, rfl, ok, hP, x0, x1, k⟩ := h
  walk_at "rd"
  refine ⟨p, M, x, rfl, hP, x0, x1, ?_⟩
  walk_at "rd"
  exact ⟨p, M, x, 0, rfl, ok, hP, k⟩
end
end Wp
set_option Elab.async false
set_option linter.all false
set_option maxRecDepth 100000
set_option maxHeartbeats 4000000
namespace Wp
open PySem PySem.Spec PyProof.Rows L2
abbrev s__law_parts : Stmt := topS 42
abbrev s__law_planned : Stmt := topS 43
abbrev s__law_step : Stmt := topS 50
local macro_rules | `(tactic| walk_at "val") => `(tactic| assumption)
local macro_rules | `(tactic| walk_at "rd1") => `(tactic| first
  | with_reducible refine r_seq ?_ | with_reducible refine r_next ?_ | with_reducible refine r_if ?_ | with_reducible refine r_asg ?_ | with_reducible refine r_gname ?_
  | with_reducible refine r_ret ?_ | with_reducible refine r_retN ?_ | with_reducible refine r_drop ?_ | with_reducible refine r_par ?_ | with_reducible refine r_kPar ?_
  | ((with_reducible refine' r_var ?hv ?_); (case hv => exact rfl)) | with_reducible refine r_c ?_ | with_reducible refine r_nil ?_ | with_reducible refine r_cons ?_
  | with_reducible refine r_fn ?_ | with_reducible refine r_cb ?_ | with_reducible refine r_op ?_ | with_reducible refine r_un ?_ | with_reducible refine r_I0 ?_
  | with_reducible refine r_pow5 ?_ | with_reducible refine r_pow6 ?_ | with_reducible refine r_pow7 ?_ | with_reducible refine r_pow9 ?_ | with_reducible refine r_pow18 ?_ | with_reducible refine r_pow20 ?_ | with_reducible refine r_pow30 ?_
  | with_reducible refine r_isN_non ?_ | with_reducible refine r_isN_ref ?_ | with_reducible refine r_isN_int ?_ | with_reducible refine r_isN_str ?_ | with_reducible refine r_isN_bl ?_ | with_reducible refine r_notN_non ?_ | with_reducible refine r_notN_ref ?_ | with_reducible refine r_notN_int ?_ | with_reducible refine r_notN_str ?_ | with_reducible refine r_notN_bl ?_
  | ((with_reducible refine r_I ?hc ?_); (case hc => walk_at "side")) | with_reducible refine r_U ?_
  | with_reducible refine r_eqI ?_ | with_reducible refine r_neI ?_ | with_reducible refine r_eqS ?_ | with_reducible refine r_neS ?_ | with_reducible refine r_eqB ?_ | with_reducible refine r_neB ?_
  | with_reducible refine r_chain ?_ | with_reducible refine r_test ?_ | with_reducible refine r_tB ?_ | with_reducible refine r_kTest ?_ | with_reducible refine r_not ?_
  | with_reducible refine r_and ?_ | with_reducible refine r_or ?_ | with_reducible refine r_tif ?_ | with_reducible refine r_andV ?_ | with_reducible refine r_orV ?_ | with_reducible refine r_notV ?_
  | with_reducible refine r_kAndV ?_ | with_reducible refine r_kOrV ?_ | with_reducible refine r_kNotV ?_
  | with_reducible refine w_T ?_ | with_reducible refine w_F ?_ | with_reducible refine w_NT ?_ | with_reducible refine w_NF ?_
  | with_reducible refine r_tup ?_ | with_reducible refine r_lst ?_ | with_reducible refine r_fld ?_ | with_reducible refine r_prop ?_ | ((with_reducible refine' r_aug ?h1 ?_); (case h1 => exact rfl)) | with_reducible refine r_ipI ?_ | with_reducible refine r_dget ?_ | with_reducible refine r_dput ?_ | with_reducible refine r_bm ?_
  | ((with_reducible refine' r_kDGetS ?h1 ?h2 ?_); (case h1 => assumption); (case h2 => walk_at "val"))
  | ((with_reducible refine' r_kBML ?h1 ?_); (case h1 => assumption))
  | with_reducible refine r_forL ?_ | with_reducible refine r_forR1 ?_ | with_reducible refine r_forR2 ?_ | with_reducible refine r_forT ?_ | with_reducible refine r_lcL ?_ | with_reducible refine r_lcR1 ?_
  | ((with_reducible refine r_kLcG ?hw ?_); (case hw => exact rfl)) | with_reducible refine r_kLcT ?_ | with_reducible refine r_yes ?_
  | with_reducible refine r_pnil ?_ | with_reducible refine r_pcons ?_
  | with_reducible refine r_fnK ?_ | ((with_reducible refine r_kFnK ?hl ?_); (case hl => exact rfl))
  | with_reducible refine r_isi_ii ?_ | with_reducible refine r_isi_ib ?_ | with_reducible refine r_isi_bi ?_ | with_reducible refine r_isi_bb ?_ | with_reducible refine r_isi_ss ?_ | with_reducible refine r_isi_is ?_ | with_reducible refine r_isi_it ?_
  | ((with_reducible refine' r_isi_tt ?h1 ?_); (case h1 => assumption))
  | with_reducible refine r_sfld ?_ | with_reducible refine r_gnil ?_ | with_reducible refine r_gcons ?_
  | ((with_reducible refine' r_gtup ?h1 ?h2 ?_); (case h1 => exact SqT.of (by assumption)); (case h2 => exact rfl))
  | with_reducible refine r_sl ?_ | with_reducible refine r_noPart ?_ | with_reducible refine r_part ?_ | with_reducible refine r_kPart ?_ | with_reducible refine r_m1 ?_ | with_reducible refine r_kM1 ?_ | with_reducible refine r_forS ?_ | with_reducible refine r_lcS ?_ | with_reducible refine r_lcTu ?_ | with_reducible refine r_lcK ?_ | with_reducible refine r_dcL ?_ | with_reducible refine r_dcK ?_ | with_reducible refine r_lc2L ?_ | with_reducible refine r_kLc2TL ?_ | with_reducible refine r_dcEn ?_ | with_reducible refine r_gslc ?_ | with_reducible refine r_lcEn ?_ | with_reducible refine r_lcZip ?_ | with_reducible refine r_lcEl ?_ | with_reducible refine r_lcR2 ?_ | with_reducible refine r_rg1 ?_ | with_reducible refine r_rg2 ?_ | with_reducible refine r_forET ?_ | with_reducible refine r_lenD ?_
  | ((with_reducible refine r_kDcG ?hw ?_); (case hw => exact rfl)) | with_reducible refine r_kDcT ?_
  | with_reducible refine r_fldaug ?_ | with_reducible refine r_daug ?_ | with_reducible refine r_rAdd ?_ | with_reducible refine r_rSub ?_ | with_reducible refine r_ddel ?_ | with_reducible refine r_bmF ?_ | with_reducible refine r_dget2 ?_ | with_reducible refine r_listItems ?_ | with_reducible refine r_bm0 ?_ | with_reducible refine r_lc2E ?_ | ((with_reducible refine r_kLc2G ?hw ?_); (case hw => exact rfl)) | with_reducible refine r_kLc2T ?_ | with_reducible refine r_forE ?_ | with_reducible refine r_orT ?_ | with_reducible refine r_din ?_ | with_reducible refine r_augS ?_ | with_reducible refine r_dnotin ?_ | with_reducible refine r_lcIT ?_ | with_reducible refine r_cont ?_ | with_reducible refine r_meth ?_ | with_reducible refine r_frz ?_ | with_reducible refine r_par3 ?_ | with_reducible refine r_kPar3 ?_ | with_reducible refine r_dz ?_ | with_reducible refine r_revL ?_ | with_reducible refine r_revT ?_ | with_reducible refine r_star ?_ | with_reducible refine r_int1 ?_ | with_reducible refine r_int1b ?_ | with_reducible refine r_min2 ?_ | with_reducible refine r_max2 ?_ | with_reducible refine r_gsub ?_ | with_reducible refine r_err ?_ | with_reducible refine r_errT ?_ | with_reducible refine r_xv ?_)
local macro_rules | `(tactic| walk_at "rd") => `(tactic| repeat walk_at "rd1")
local macro_rules | `(tactic| walk_at "side") => `(tactic| first | assumption | exact Or.inr ⟨by decide, by decide⟩ | exact Or.inl ⟨by decide, by decide⟩ | (constructor <;> omega) | omega | decide | (refine Or.inl ⟨?_, ?_⟩ <;> omega) | (refine Or.inr ⟨?_, ?_⟩ <;> omega) | (refine ⟨?_, ?_, ?_⟩ <;> first | decide | omega))
local macro_rules | `(tactic| walk_at "anyi") => `(tactic| repeat (first | exact trivial | refine ⟨⟨_, rfl⟩, ?_⟩))
local macro_rules | `(tactic| walk_at "ints") => `(tactic| repeat (first | exact trivial | refine ⟨⟨_, rfl, by first | omega | decide, by first | omega | decide⟩, ?_⟩))
/-- the drawn parts of a plan stand at t -/
def PartsAt (H : Hp) (t : Addr) (M : Pl) : Prop := H t = some (.tup [.int M.r, .int M.s, .int M.m, .bl M.b])
def sp_parts : Sp := fun vs H Q _ => ∃ (st l c : Addr) (cs : List Int) (B : Int), vs = [.ref st] ∧ B ≤ 17592186044416 ∧ DS st l c cs B H ∧
  ∀ (t : Addr) (M : Pl) (H' : Hp), H t = none → M.Ok → M.m ≤ 3000 → PartsAt H' t M → DS st l c cs (B + 12) H' → Kp st l H H' → Q (.ref t) H'
def sp_planned (C : Addr) : Sp := fun vs H Q _ => ∃ (t : Addr) (M : Pl), vs = [.ref t] ∧ M.Ok ∧ PartsAt H t M ∧
  ∀ p H', H p = none → Same H H' → PlanAt C H' p M → Q (.ref p) H'
def sp_step : Sp := fun vs H Q _ => ∃ (t : Addr) (M : Pl) (x e : Int), vs = [.ref t, .int x, .int e] ∧ M.Ok ∧ PartsAt H t M ∧
  ∀ u H', H u = none → Same H H' → H' u = some (.tup [.int (M.intr x), .int (M.pay e x), .int (M.nxt e x)]) → Q (.ref u) H'
section
variable {P : Program} {w : World} {K : PySem.W.Frag} {mg : Str → Option Value} {base : Heap}
theorem ok__law_parts {f : Addr} {fd : FuncData} (T : Tx K mg) (F : FnP K "_law_parts" s__law_parts f fd)
    (d__law_take : Dn P w K mg base CX0 2 "_law_take" ["_law_state", "_law_size"] sp_take) (d__law_pick : Dn P w K mg base CX0 3 "_law_pick" ["_law_state", "_law_some"] sp_pick) :
    FnOk P w K mg base CX0 4 f fd ["_law_state"] sp_parts := by
  have sc : FnScope ["_law_state", "_law_rated", "_law_part", "_law_low"] ["_law_state"] (defScope s__law_parts) := ⟨rfl, rfl, rfl, by decide +kernel, rfl, by decide +kernel, by decide +kernel⟩
  refine F.ok sc (by rintro vs H Q E ⟨_, _, _, _, _, rfl, _⟩; rfl) (fun cdv A outer s H vs Q E hr h => ⟨_, PSs.nox ((pss_cons (ps_set (i := 1) sc.nd rfl (by first | exact Or.inl rfl | exact Or.inr rfl) (pe_fn d__law_pick (hr.mono (by decide)) pass0 (pa_cons (pv 0) (pa_cons (pe_lst (pa_cons pe_int (pa_cons pe_int (pa_cons pe_int (pa_cons pe_int (pa_cons pe_int (pa_cons pe_int (pa_cons pe_int (pa_cons pe_int (pa_cons (pe_fn d__law_take (hr.mono (by decide)) pass0 (pa_cons (pv 0) (pa_cons pe_int pa_nil))) (pa_cons (pe_fn d__law_take (hr.mono (by decide)) pass0 (pa_cons (pv 0) (pa_cons pe_int pa_nil))) pa_nil))))))))))) pa_nil))))
      (pss_cons (ps_set (i := 2) sc.nd rfl (by first | exact Or.inl rfl | exact Or.inr rfl) (pe_fn d__law_pick (hr.mono (by decide)) pass0 (pa_cons (pv 0) (pa_cons (pe_lst (pa_cons pe_int (pa_cons pe_int (pa_cons pe_int (pa_cons pe_int (pa_cons pe_int (pa_cons pe_int (pa_cons pe_int (pa_cons pe_int (pa_cons (pe_fn d__law_take (hr.mono (by decide)) pass0 (pa_cons (pv 0) (pa_cons pe_int pa_nil))) (pa_cons (pe_fn d__law_take (hr.mono (by decide)) pass0 (pa_cons (pv 0) (pa_cons pe_int pa_nil))) pa_nil))))))))))) pa_nil))))
      (pss_cons (ps_set (i := 3) sc.nd rfl (by first | exact Or.inl rfl | exact Or.inr rfl) (pe_fn d__law_pick (hr.mono (by decide)) pass0 (pa_cons (pv 0) (pa_cons (pe_lst (pa_cons pe_int (pa_cons pe_int (pa_cons pe_int (pa_cons pe_int (pa_cons pe_int (pa_cons pe_int (pa_cons (pe_op op_add pe_int (pe_fn d__law_take (hr.mono (by decide)) pass0 (pa_cons (pv 0) (pa_cons pe_int pa_nil)))) (pa_cons (pe_op op_add pe_int (pe_fn d__law_take (hr.mono (by decide)) pass0 (pa_cons (pv 0) (pa_cons pe_int pa_nil)))) pa_nil))))))))) pa_nil))))
      (pss_one (ps_ret (pe_tup (pa_cons (pv 1) (pa_cons (pv 2) (pa_cons (pv 3) (pa_cons (pe_cmpR op_eq (pe_fn d__law_take (hr.mono (by decide)) pass0 (pa_cons (pv 0) (pa_cons pe_int pa_nil))) pe_int (nomark _)) pa_nil))))))))))), ?_⟩)
  obtain ⟨st, l, c, cs, B, rfl, hB, D, k⟩ := h
  walk_at "rd"
  refine u_take D (by omega) (by decide) (by decide) fun a1 H1 a1l a1h D1 k1 => ?_
  walk_at "rd"
  refine u_take D1 (by omega) (by decide) (by decide) fun a2 H2 a2l a2h D2 k2 => ?_
  walk_at "rd"
  refine r_kLst fun p1 H3 np1 e3 hp1 => ?_
  walk_at "rd"
  refine u_pick D2 (by omega) np1 e3 hp1 (by simp) (by simp) fun i x H4 hx D4 k4 => ?_
  obtain ⟨x, rfl, x0, x1⟩ := IntsIn.get (lo := 0) (hi := 1000) (by walk_at "ints") hx
  walk_at "rd"
  refine u_take D4 (by omega) (by decide) (by decide) fun a3 H5 a3l a3h D5 k5 => ?_
  walk_at "rd"
  refine u_take D5 (by omega) (by decide) (by decide) fun a4 H6 a4l a4h D6 k6 => ?_
  walk_at "rd"
  refine r_kLst fun p2 H7 np2 e7 hp2 => ?_
  walk_at "rd"
  refine u_pick D6 (by omega) np2 e7 hp2 (by simp) (by simp) fun j y H8 hy D8 k8 => ?_
  obtain ⟨y, rfl, y0, y1⟩ := IntsIn.get (lo := 0) (hi := 1000) (by walk_at "ints") hy
  walk_at "rd"
  refine u_take D8 (by omega) (by decide) (by decide) fun a5 H9 a5l a5h D9 k9 => ?_
  walk_at "rd"
  refine u_take D9 (by omega) (by decide) (by decide) fun a6 H10 a6l a6h D10 k10 => ?_
  walk_at "rd"
  refine r_kLst fun p3 H11 np3 e11 hp3 => ?_
  walk_at "rd"
  refine u_pick D10 (by omega) np3 e11 hp3 (by simp) (by simp) fun i3 z H12 hz D12 k12 => ?_
  obtain ⟨z, rfl, z0, z1⟩ := IntsIn.get (lo := 1) (hi := 3000) (by walk_at "ints") hz
  walk_at "rd"
  refine u_take D12 (by omega) (by decide) (by decide) fun a7 H13 a7l a7h D13 k13 => ?_
  walk_at "rd"
  have kk : Kp st l H H13 := ((((((((k1.trans k2).trans k4).trans k5).trans k6).trans k8).trans k9).trans k10).trans k12).trans k13
  refine r_kTup fun t H14 nt e14 ht => ?_
  have nt0 : H t = none := by
    cases q : H t with
    | none => rfl
    | some o =>
      by_cases h1 : t = st
      · obtain ⟨_, _, _, _, _, hd⟩ := D13.d
        rw [← h1, nt] at hd
        cases hd
      · by_cases h2 : t = l
        · obtain ⟨_, _, hd⟩ := D13.lg
          rw [← h2, nt] at hd
          cases hd
        · rw [kk t o q h1 h2] at nt
          cases nt
  exact k t ⟨x, y, z, decide (a7 = 0)⟩ H14 nt0 ⟨x0, x1, y0, y1, z0, by show z ≤ 1000000; omega⟩ z1 ht ((D13.mono (by omega)).keep e14) (kk.trans (Kp.of e14))
theorem ok__law_planned {f C : Addr} {fd : FuncData} (T : Tx K mg) (F : FnP K "_law_planned" s__law_planned f fd) (mk_Plan : Dc P w K mg base CX0 3 "Plan" (sp_Plan C)) :
    FnOk P w K mg base CX0 5 f fd ["_law_parts_here"] (sp_planned C) := by
  have sc : FnScope ["_law_parts_here"] ["_law_parts_here"] (defScope s__law_planned) := ⟨rfl, rfl, rfl, by decide +kernel, rfl, by decide +kernel, by decide +kernel⟩
  refine F.ok sc (by rintro vs H Q E ⟨_, _, rfl, _⟩; rfl) (fun cdv A outer s H vs Q E hr h => ⟨_, PSs.nox ((pss_one (ps_ret (pe_mk mk_Plan (hr.mono (by decide)) pass0 (pa_cons (pe_ix (ix_tupK (K := K) rfl) (pv 0) pe_int (fun _ _ => rfl)) (pa_cons (pe_ix (ix_tupK (K := K) rfl) (pv 0) pe_int (fun _ _ => rfl)) (pa_cons (pe_ix (ix_tupK (K := K) rfl) (pv 0) pe_int (fun _ _ => rfl)) (pa_cons (pe_ix (ix_tupK (K := K) rfl) (pv 0) pe_int (fun _ _ => rfl)) pa_nil)))))))), ?_⟩)
  obtain ⟨t, M, rfl, ok, ht, k⟩ := h
  have hs : ∀ (i : Nat) (v : V), [V.int M.r, V.int M.s, V.int M.m, V.bl M.b][i]? = some v → ∀ Q' : VK, Q' v H → rIxT K (.ref t) (.int (i : Int)) H Q' := fun i v hv Q' q => r_ixT (SqT.of ht) (atI_nat hv) q
  walk_at "rd"
  refine hs 0 _ rfl _ ?_
  walk_at "rd"
  refine hs 1 _ rfl _ ?_
  walk_at "rd"
  refine hs 2 _ rfl _ ?_
  walk_at "rd"
  refine hs 3 _ rfl _ ?_
  walk_at "rd"
  exact ⟨M, rfl, ok, k⟩
theorem ok__law_step {f : Addr} {fd : FuncData} (T : Tx K mg) (F : FnP K "_law_step" s__law_step f fd) :
    FnOk P w K mg base CX0 1 f fd ["_law_parts_here", "_law_sum_here", "_law_more"] sp_step := by
  have sc : FnScope ["_law_parts_here", "_law_sum_here", "_law_more", "_law_rated", "_law_part", "_law_low", "_law_is_plus", "_law_plus_here", "_law_every", "_law_due"] ["_law_parts_here", "_law_sum_here", "_law_more"] (defScope s__law_step) := ⟨rfl, rfl, rfl, by decide +kernel, rfl, by decide +kernel, by decide +kernel⟩
  refine F.ok sc (by rintro vs H Q E ⟨_, _, _, _, rfl, _⟩; rfl) (fun cdv A outer s H vs Q E hr h => ⟨_, PSs.nox ((pss_cons (ps_asg (pv 0) (pg_tupK (K := K) (n := 4) rfl rfl (pgs_cons (pg_name (i := 3) sc.nd rfl (by first | exact Or.inl rfl | exact Or.inr rfl)) (pgs_cons (pg_name (i := 4) sc.nd rfl (by first | exact Or.inl rfl | exact Or.inr rfl)) (pgs_cons (pg_name (i := 5) sc.nd rfl (by first | exact Or.inl rfl | exact Or.inr rfl)) (pgs_cons (pg_name (i := 6) sc.nd rfl (by first | exact Or.inl rfl | exact Or.inr rfl)) pgs_nil))))))
      (pss_cons (ps_set (i := 7) sc.nd rfl (by first | exact Or.inl rfl | exact Or.inr rfl) (pe_op op_fdiv (pe_op op_mul (pv 1) (pv 3)) pe_int))
      (pss_cons (ps_set (i := 8) sc.nd rfl (by first | exact Or.inl rfl | exact Or.inr rfl) (pe_op op_add (pv 1) (pv 7)))
      (pss_cons (ps_if (pt_cmpR op_le (pv 8) (pv 5) (nomark _)) (pss_one (ps_ret (pe_tup (pa_cons (pv 7) (pa_cons (pv 8) (pa_cons pe_int pa_nil)))))) pss_nil)
      (pss_cons (ps_set (i := 9) sc.nd rfl (by first | exact Or.inl rfl | exact Or.inr rfl) (pe_op op_fdiv (pe_op op_mul (pv 8) (pv 4)) pe_int))
      (pss_cons (ps_if (pt_val (pv 6)) (pss_one (ps_set (i := 9) sc.nd rfl (by first | exact Or.inl rfl | exact Or.inr rfl) (pe_op op_add (pv 7) (pe_op op_fdiv (pe_op op_mul (pv 1) (pv 4)) pe_int)))) pss_nil)
      (pss_cons (ps_set (i := 9) sc.nd rfl (by first | exact Or.inl rfl | exact Or.inr rfl) (pe_callB (c_min2 rfl) (by rfl) T.b_min (by decide +kernel) (pa_cons (pv 8) (pa_cons (pe_op op_add (pe_callB (c_max2 rfl) (by rfl) T.b_max (by decide +kernel) (pa_cons (pv 5) (pa_cons (pv 9) pa_nil))) (pv 2)) pa_nil))))
      (pss_one (ps_ret (pe_tup (pa_cons (pv 7) (pa_cons (pv 9) (pa_cons (pe_op op_sub (pv 8) (pv 9)) pa_nil)))))))))))))), ?_⟩)
  obtain ⟨t, M, x, e, rfl, ok, ht, k⟩ := h
  have b1 := ok.r0
  have b2 := ok.r1
  have b3 := ok.s0
  have b4 := ok.s1
  have h2 : H t = some (.tup [.int M.r, .int M.s, .int M.m, .bl M.b]) := ht
  walk_at "rd"
  refine w_dec (fun hc => ?_) (fun hc => ?_)
  · walk_at "rd"
    refine r_kTup fun q H1 nq e1 hq => k q H1 nq e1 ?_
    have hc' : M.owed x ≤ M.m := hc
    unfold Pl.pay Pl.nxt
    rw [if_pos hc', if_pos hc']
    exact hq
  · have hc' : ¬ M.owed x ≤ M.m := hc
    have fin : ∀ z, M.want x = z → ∀ q H1, H q = none → Same H H1 → H1 q = some (.tup [.int (M.intr x), .int (min (M.owed x) (max M.m z + e)), .int (M.owed x - min (M.owed x) (max M.m z + e))]) → Q (.ref q) H1 := by
      intro z hz q H1 nq e1 hq
      refine k q H1 nq e1 ?_
      unfold Pl.pay Pl.nxt
      rw [if_neg hc', if_neg hc', hz]
      exact hq
    walk_at "rd"
    refine w_b (fun hb => ?_) (fun hb => ?_)
    · walk_at "rd"
      refine r_kTup fun q H1 nq e1 hq => fin _ ?_ q H1 nq e1 hq
      unfold Pl.want
      rw [if_pos hb]
      rfl
    · walk_at "rd"
      refine r_kTup fun q H1 nq e1 hq => fin _ ?_ q H1 nq e1 hq
      unfold Pl.want
      rw [if_neg (by rw [hb]; decide)]
      rfl
end
end Wp
set_option Elab.async false
set_option linter.all false
set_option maxRecDepth 100000
set_option maxHeartbeats 4000000
/-! k72: the law's look at the parts of a plan. -/
namespace Wp
open PySem PySem.Spec PyProof.Rows L2 LamX
abbrev s__law_is_number : Stmt := topS 45
abbrev s__law_wrong : Stmt := topS 46
abbrev s__law_shown : Stmt := topS 44
local macro_rules | `(tactic| walk_at "val") => `(tactic| assumption)
local macro_rules | `(tactic| walk_at "rd1") => `(tactic| first
  | with_reducible refine r_seq ?_ | with_reducible refine r_next ?_ | with_reducible refine r_if ?_ | with_reducible refine r_asg ?_ | with_reducible refine r_gname ?_
  | with_reducible refine r_ret ?_ | with_reducible refine r_retN ?_ | with_reducible refine r_drop ?_ | with_reducible refine r_par ?_ | with_reducible refine r_kPar ?_
  | ((with_reducible refine' r_var ?hv ?_); (case hv => exact rfl)) | with_reducible refine r_c ?_ | with_reducible refine r_nil ?_ | with_reducible refine r_cons ?_
  | with_reducible refine r_fn ?_ | with_reducible refine r_cb ?_ | with_reducible refine r_op ?_ | with_reducible refine r_un ?_ | with_reducible refine r_I0 ?_
  | with_reducible refine r_pow5 ?_ | with_reducible refine r_pow6 ?_ | with_reducible refine r_pow7 ?_ | with_reducible refine r_pow9 ?_ | with_reducible refine r_pow18 ?_ | with_reducible refine r_pow20 ?_ | with_reducible refine r_pow30 ?_
  | with_reducible refine r_isN_non ?_ | with_reducible refine r_isN_ref ?_ | with_reducible refine r_isN_int ?_ | with_reducible refine r_isN_str ?_ | with_reducible refine r_isN_bl ?_ | with_reducible refine r_notN_non ?_ | with_reducible refine r_notN_ref ?_ | with_reducible refine r_notN_int ?_ | with_reducible refine r_notN_str ?_ | with_reducible refine r_notN_bl ?_
  | ((with_reducible refine r_I ?hc ?_); (case hc => walk_at "side")) | with_reducible refine r_U ?_
  | with_reducible refine r_eqI ?_ | with_reducible refine r_neI ?_ | with_reducible refine r_eqS ?_ | with_reducible refine r_neS ?_ | with_reducible refine r_eqB ?_ | with_reducible refine r_neB ?_
  | with_reducible refine r_chain ?_ | with_reducible refine r_test ?_ | with_reducible refine r_tB ?_ | with_reducible refine r_kTest ?_ | with_reducible refine r_not ?_
  | with_reducible refine r_and ?_ | with_reducible refine r_or ?_ | with_reducible refine r_tif ?_ | with_reducible refine r_andV ?_ | with_reducible refine r_orV ?_ | with_reducible refine r_notV ?_
  | with_reducible refine r_kAndV ?_ | with_reducible refine r_kOrV ?_ | with_reducible refine r_kNotV ?_
  | with_reducible refine w_T ?_ | with_reducible refine w_F ?_ | with_reducible refine w_NT ?_ | with_reducible refine w_NF ?_
  | with_reducible refine r_tup ?_ | with_reducible refine r_lst ?_ | with_reducible refine r_fld ?_ | with_reducible refine r_prop ?_ | ((with_reducible refine' r_aug ?h1 ?_); (case h1 => exact rfl)) | with_reducible refine r_ipI ?_ | with_reducible refine r_dget ?_ | with_reducible refine r_dput ?_ | with_reducible refine r_bm ?_
  | ((with_reducible refine' r_kDGetS ?h1 ?h2 ?_); (case h1 => assumption); (case h2 => walk_at "val"))
  | ((with_reducible refine' r_kBML ?h1 ?_); (case h1 => assumption))
  | with_reducible refine r_forL ?_ | with_reducible refine r_forR1 ?_ | with_reducible refine r_forR2 ?_ | with_reducible refine r_forT ?_ | with_reducible refine r_lcL ?_ | with_reducible refine r_lcR1 ?_
  | ((with_reducible refine r_kLcG ?hw ?_); (case hw => exact rfl)) | with_reducible refine r_kLcT ?_ | with_reducible refine r_yes ?_
  | with_reducible refine r_pnil ?_ | with_reducible refine r_pcons ?_
  | with_reducible refine r_fnK ?_ | ((with_reducible refine r_kFnK ?hl ?_); (case hl => exact rfl))
  | with_reducible refine r_isi_ii ?_ | with_reducible refine r_isi_ib ?_ | with_reducible refine r_isi_bi ?_ | with_reducible refine r_isi_bb ?_ | with_reducible refine r_isi_ss ?_ | with_reducible refine r_isi_is ?_ | with_reducible refine r_isi_it ?_
  | ((with_reducible refine' r_isi_tt ?h1 ?_); (case h1 => assumption))
  | with_reducible refine r_sfld ?_ | with_reducible refine r_gnil ?_ | with_reducible refine r_gcons ?_
  | ((with_reducible refine' r_gtup ?h1 ?h2 ?_); (case h1 => exact SqT.of (by assumption)); (case h2 => exact rfl))
  | with_reducible refine r_sl ?_ | with_reducible refine r_noPart ?_ | with_reducible refine r_part ?_ | with_reducible refine r_kPart ?_ | with_reducible refine r_m1 ?_ | with_reducible refine r_kM1 ?_ | with_reducible refine r_forS ?_ | with_reducible refine r_lcS ?_ | with_reducible refine r_lcTu ?_ | with_reducible refine r_lcK ?_ | with_reducible refine r_dcL ?_ | with_reducible refine r_dcK ?_ | with_reducible refine r_lc2L ?_ | with_reducible refine r_kLc2TL ?_ | with_reducible refine r_dcEn ?_ | with_reducible refine r_gslc ?_ | with_reducible refine r_lcEn ?_ | with_reducible refine r_lcZip ?_ | with_reducible refine r_lcEl ?_ | with_reducible refine r_lcR2 ?_ | with_reducible refine r_rg1 ?_ | with_reducible refine r_rg2 ?_ | with_reducible refine r_forET ?_ | with_reducible refine r_lenD ?_
  | ((with_reducible refine r_kDcG ?hw ?_); (case hw => exact rfl)) | with_reducible refine r_kDcT ?_
  | with_reducible refine r_fldaug ?_ | with_reducible refine r_daug ?_ | with_reducible refine r_rAdd ?_ | with_reducible refine r_rSub ?_ | with_reducible refine r_ddel ?_ | with_reducible refine r_bmF ?_ | with_reducible refine r_dget2 ?_ | with_reducible refine r_listItems ?_ | with_reducible refine r_bm0 ?_ | with_reducible refine r_lc2E ?_ | ((with_reducible refine r_kLc2G ?hw ?_); (case hw => exact rfl)) | with_reducible refine r_kLc2T ?_ | with_reducible refine r_forE ?_ | with_reducible refine r_orT ?_ | with_reducible refine r_din ?_ | with_reducible refine r_augS ?_ | with_reducible refine r_dnotin ?_ | with_reducible refine r_lcIT ?_ | with_reducible refine r_cont ?_ | with_reducible refine r_meth ?_ | with_reducible refine r_frz ?_ | with_reducible refine r_par3 ?_ | with_reducible refine r_kPar3 ?_ | with_reducible refine r_dz ?_ | with_reducible refine r_revL ?_ | with_reducible refine r_revT ?_ | with_reducible refine r_star ?_ | with_reducible refine r_int1 ?_ | with_reducible refine r_int1b ?_ | with_reducible refine r_min2 ?_ | with_reducible refine r_max2 ?_ | with_reducible refine r_gsub ?_ | with_reducible refine r_err ?_ | with_reducible refine r_errT ?_ | with_reducible refine r_xv ?_)
local macro_rules | `(tactic| walk_at "rd") => `(tactic| repeat walk_at "rd1")
local macro_rules | `(tactic| walk_at "side") => `(tactic| first | assumption | exact Or.inr ⟨by decide, by decide⟩ | exact Or.inl ⟨by decide, by decide⟩ | (constructor <;> omega) | omega | decide | (refine Or.inl ⟨?_, ?_⟩ <;> omega) | (refine Or.inr ⟨?_, ?_⟩ <;> omega) | (refine ⟨?_, ?_, ?_⟩ <;> first | decide | omega))
def dueP : Option Str → List V
  | some z => [.str z]
  | none => []
def sp_wrong : Sp := fun vs H Q _ => ∃ (A : Addr → Prop) (l : Addr) (v1 v2 v3 v4 : V) (d1 d2 d3 d4 : PyData), vs = [.ref l] ∧ H l = some (.lst [v1, v2, v3, v4]) ∧ Od A H v1 d1 ∧ Od A H v2 d2 ∧ Od A H v3 d3 ∧ Od A H v4 d4 ∧
  ∀ p H', H p = none → Same H H' → H' p = some (.lst (dueP (plnP d1 d2 d3 d4))) → Q (.ref p) H'
def sp_lshown (C : Addr) : Sp := fun vs H Q _ => ∃ (p : Addr) (M : Pl), vs = [.ref p] ∧ PlanAt C H p M ∧ ∀ t H', H t = none → Same H H' → PartsAt H' t M → Q (.ref t) H'
section
variable {P : Program} {w : World} {K : PySem.W.Frag} {mg : Str → Option Value} {base : Heap}
theorem ok__law_is_number {f : Addr} {fd : FuncData} (T : Tx K mg) (F : FnP K "_law_is_number" s__law_is_number f fd) : FnOk P w K mg base CX0 1 f fd ["_law_thing"] (sp_is_number K) := by
  have sc : FnScope ["_law_thing"] ["_law_thing"] (defScope s__law_is_number) := ⟨rfl, rfl, rfl, by decide +kernel, rfl, by decide +kernel, by decide +kernel⟩
  refine F.ok sc (by rintro vs H Q E ⟨_, _, rfl, _⟩; rfl) (fun cdv A outer s H vs Q E hr h => ⟨_, PSs.nox ((pss_one (ps_ret (pe_and (pe_callB (c_isiK (K := K) rfl) (by rfl) T.b_isinstance (by decide +kernel) (pa_cons (pv 0) (pa_cons (pe_bltn (v := .ty "int") (by rfl) T.b_int (by decide +kernel) rfl) pa_nil))) (pe_one (pe_not (pe_callB (c_isiK (K := K) rfl) (by rfl) T.b_isinstance (by decide +kernel) (pa_cons (pv 0) (pa_cons (pe_bltn (v := .ty "bool") (by rfl) T.b_bool (by decide +kernel) rfl) pa_nil))))))))), ?_⟩)
  obtain ⟨x, o, rfl, hx, q⟩ := h
  walk_at "rd"
  cases hx with
  | int i =>
    walk_at "rd"
    exact q
  | @no _ t b1 b2 ht h1 h2 h3 =>
    refine r_isi (.ty "int") ht h1 ?_
    walk_at "rd"
    cases b1 with
    | false =>
      walk_at "rd"
      exact q
    | true =>
      walk_at "rd"
      refine r_isi (.ty "bool") ht h2 ?_
      walk_at "rd"
      have e : (!b2) = false := h3
      rw [e]
      exact q
theorem ok__law_shown {f C : Addr} {fd : FuncData} (T : Tx K mg) (cl : Cls K C) (F : FnP K "_law_shown" s__law_shown f fd) (m_rate : Dpr P w K mg base CX0 1 C "rate" (sp_Pl C (fun M => .int M.r))) (m_share : Dpr P w K mg base CX0 1 C "share" (sp_Pl C (fun M => .int M.s)))
    (m_least : Dpr P w K mg base CX0 1 C "least" (sp_Pl C (fun M => .int M.m))) (m_plus : Dpr P w K mg base CX0 1 C "plus" (sp_Pl C (fun M => .bl M.b))) : FnOk P w K mg base CX0 3 f fd ["_law_made"] (sp_lshown C) := by
  have sc : FnScope ["_law_made"] ["_law_made"] (defScope s__law_shown) := ⟨rfl, rfl, rfl, by decide +kernel, rfl, by decide +kernel, by decide +kernel⟩
  refine F.ok sc (by rintro vs H Q E ⟨_, _, rfl, _⟩; rfl) (fun cdv A outer s H vs Q E hr h => ⟨_, PSs.nox ((pss_one (ps_ret (pe_tup (pa_cons (pe_propA m_rate (pv 0) (hr.mono (by decide)) pass0) (pa_cons (pe_propA m_share (pv 0) (hr.mono (by decide)) pass0) (pa_cons (pe_propA m_least (pv 0) (hr.mono (by decide)) pass0) (pa_cons (pe_propA m_plus (pv 0) (hr.mono (by decide)) pass0) pa_nil)))))))), ?_⟩)
  obtain ⟨p, M, rfl, hP, k⟩ := h
  obtain ⟨dx, t, h1, h2⟩ := id hP
  walk_at "rd"
  refine r_kProp h1 ⟨p, M, rfl, hP, ?_⟩
  walk_at "rd"
  refine r_kProp h1 ⟨p, M, rfl, hP, ?_⟩
  walk_at "rd"
  refine r_kProp h1 ⟨p, M, rfl, hP, ?_⟩
  walk_at "rd"
  refine r_kProp h1 ⟨p, M, rfl, hP, ?_⟩
  walk_at "rd"
  exact r_kTup fun u H1 nu e1 hu => k u H1 nu e1 hu
theorem ok__law_wrong {f : Addr} {fd : FuncData} (T : Tx K mg) (F : FnP K "_law_wrong" s__law_wrong f fd) (d__law_is_number : Dn P w K mg base CX0 1 "_law_is_number" ["_law_thing"] (sp_is_number K)) : FnOk P w K mg base CX0 2 f fd ["_law_parts_here"] sp_wrong := by
  have sc : FnScope ["_law_parts_here", "_law_label", "_law_part", "_law_low", "_law_high"] ["_law_parts_here"] (defScope s__law_wrong) := ⟨rfl, rfl, rfl, by decide +kernel, rfl, by decide +kernel, by decide +kernel⟩
  refine F.ok sc (by rintro vs H Q E ⟨_, _, _, _, _, _, _, _, _, _, rfl, _⟩; rfl) (fun cdv A outer s H vs Q E hr h => ⟨_, PSs.nox ((pss_cons (ps_for PassesOwn.never rfl (pi_zip4 (by rfl) T.b_zip (pa_cons (pe_lst (pa_cons pe_str (pa_cons pe_str (pa_cons pe_str pa_nil)))) (pa_cons (pv 0) (pa_cons (pe_lst (pa_cons pe_int (pa_cons pe_int (pa_cons pe_int pa_nil)))) (pa_cons (pe_lst (pa_cons pe_int (pa_cons pe_int (pa_cons (pe_op op_pow pe_int pe_int) pa_nil)))) pa_nil))))) (pg_tupK (K := K) (n := 4) rfl rfl (pgs_cons (pg_name (i := 1) sc.nd rfl (by first | exact Or.inl rfl | exact Or.inr rfl)) (pgs_cons (pg_name (i := 2) sc.nd rfl (by first | exact Or.inl rfl | exact Or.inr rfl)) (pgs_cons (pg_name (i := 3) sc.nd rfl (by first | exact Or.inl rfl | exact Or.inr rfl)) (pgs_cons (pg_name (i := 4) sc.nd rfl (by first | exact Or.inl rfl | exact Or.inr rfl)) pgs_nil))))) (pss_one (ps_if (PW.pt (pw_or (pt_not (pt_val (pe_fn d__law_is_number (hr.mono (by decide)) pass0 (pa_cons (pv 2) pa_nil)))) (pw_or1 (pt_not (pt_chain op_le op_le (pv 3) (pv 2) (pv 4)))))) (pss_one (ps_ret (pe_lst (pa_cons (pv 1) pa_nil)))) pss_nil)))
      (pss_one (ps_ret (pe_ifExp (pt_val (pe_callB (c_isiK (K := K) rfl) (by rfl) T.b_isinstance (by decide +kernel) (pa_cons (pe_ix (ix_listK (K := K) rfl) (pv 0) pe_int (fun _ _ => rfl)) (pa_cons (pe_bltn (v := .ty "bool") (by rfl) T.b_bool (by decide +kernel) rfl) pa_nil)))) (pe_lst pa_nil) (pe_lst (pa_cons pe_str pa_nil))))))), ?_⟩)
  obtain ⟨A, l, v1, v2, v3, v4, d1, d2, d3, d4, rfl, hl, o1, o2, o3, o4, k⟩ := h
  walk_at "rd"
  refine r_forZ4 ?_
  walk_at "rd"
  refine r_kLst fun la H1 nla e1 hla => ?_
  walk_at "rd"
  refine r_kLst fun lb H2 nlb e2 hlb => ?_
  walk_at "rd"
  refine r_kLst fun lc H3 nlc e3 hlc => ?_
  walk_at "rd"
  have e13 := (e1.trans e2).trans e3
  have hla3 := e3 _ _ (e2 _ _ hla)
  have hlb3 := e3 _ _ hlb
  have hl3 := e13 _ _ hl
  refine r_kForZ4 (xa := [.str "rate", .str "share", .str "least"]) (xb := [v1, v2, v3, v4]) (xc := [.int 0, .int 0, .int 1]) (xd := [.int 1000, .int 1000, .int 1000000]) (fun i σ' H' => ∃ (x1 x2 x3 x4 : Option V), σ' = [some (.ref l), x1, x2, x3, x4] ∧ Same H3 H' ∧ (1 ≤ i → inB (numD d1) 0 1000 = true) ∧ (2 ≤ i → inB (numD d2) 0 1000 = true) ∧ (3 ≤ i → inB (numD d3) 1 1000000 = true))
    (SqL.of hla3) (SqL.of hl3) (SqL.of hlb3) (SqL.of hlc) (by simp) (by simp) (by simp) ⟨_, _, _, _, rfl, Same.refl _, by omega, by omega, by omega⟩ (fun i σ' H' ⟨_, _, _, _, _, e, _⟩ => ⟨SqL.of (e _ _ hla3), SqL.of (e _ _ hl3), SqL.of (e _ _ hlb3), SqL.of (e _ _ hlc)⟩) ?_ ?_
  · rintro i x1 x2 x3 x4 T σ' H' hx1 hx2 hx3 hx4 ⟨y1, y2, y3, y4, rfl, e', b1, b2, b3⟩ nT
    have e := e13.trans e'
    rcases i with _ | _ | _ | i
    · obtain rfl : x1 = .str "rate" := (Option.some.inj hx1).symm
      obtain rfl : v1 = x2 := Option.some.inj hx2
      obtain rfl : x3 = .int 0 := (Option.some.inj hx3).symm
      obtain rfl : x4 = .int 1000 := (Option.some.inj hx4).symm
      have eT : Same H' (upd H' T (.tup [.str "rate", v1, .int 0, .int 1000])) := Same.new nT
      refine r_gtup (SqT.of upd_same) rfl ?_
      walk_at "rd"
      have hn := (o1.keep (.same (e.trans eT))).num (K := K)
      refine ⟨v1, numD d1, rfl, hn, ?_⟩
      cases hd : numD d1 with
      | none =>
        refine ⟨_, rfl, ?_⟩
        refine w_yes rfl ?_
        refine w_yes rfl ?_
        walk_at "rd"
        refine r_kLst fun p G np eg hp => ?_
        refine k p G ((e.trans eT).free np) ((e.trans eT).trans eg) ?_
        have hz : plnP d1 d2 d3 d4 = some ("rate" : Str) := by unfold plnP; rw [hd]; rfl
        rw [hz]
        exact hp
      | some y =>
        rw [hd] at hn
        obtain rfl := hn.eq
        refine ⟨_, rfl, ?_⟩
        refine w_no rfl ?_
        walk_at "rd"
        refine r_kChain (fun g1 => ?_) (fun g1 => ?_)
        · walk_at "rd"
          cases g2 : decide (y ≤ 1000) with
          | true =>
            walk_at "rd"
            exact ⟨_, _, _, _, rfl, e'.trans eT, fun _ => by exact inB_yes ⟨of_decide_eq_true g1, of_decide_eq_true g2⟩, fun h => absurd h (by omega), fun h => absurd h (by omega)⟩
          | false =>
            walk_at "rd"
            refine r_kLst fun p G np eg hp => ?_
            refine k p G ((e.trans eT).free np) ((e.trans eT).trans eg) ?_
            have hz : plnP d1 d2 d3 d4 = some ("rate" : Str) := by
              unfold plnP; rw [hd, if_pos]
              show (decide ((0 : Int) ≤ y) && decide (y ≤ 1000)) = false
              rw [g2, Bool.and_false]
            rw [hz]
            exact hp
        · walk_at "rd"
          refine r_kLst fun p G np eg hp => ?_
          refine k p G ((e.trans eT).free np) ((e.trans eT).trans eg) ?_
          have hz : plnP d1 d2 d3 d4 = some ("rate" : Str) := by
            unfold plnP; rw [hd, if_pos]
            show (decide ((0 : Int) ≤ y) && decide (y ≤ 1000)) = false
            rw [g1, Bool.false_and]
          rw [hz]
          exact hp
    · obtain rfl : x1 = .str "share" := (Option.some.inj hx1).symm
      obtain rfl : v2 = x2 := Option.some.inj hx2
      obtain rfl : x3 = .int 0 := (Option.some.inj hx3).symm
      obtain rfl : x4 = .int 1000 := (Option.some.inj hx4).symm
      have eT : Same H' (upd H' T (.tup [.str "share", v2, .int 0, .int 1000])) := Same.new nT
      refine r_gtup (SqT.of upd_same) rfl ?_
      walk_at "rd"
      have hn := (o2.keep (.same (e.trans eT))).num (K := K)
      refine ⟨v2, numD d2, rfl, hn, ?_⟩
      cases hd : numD d2 with
      | none =>
        refine ⟨_, rfl, ?_⟩
        refine w_yes rfl ?_
        refine w_yes rfl ?_
        walk_at "rd"
        refine r_kLst fun p G np eg hp => ?_
        refine k p G ((e.trans eT).free np) ((e.trans eT).trans eg) ?_
        have hz : plnP d1 d2 d3 d4 = some ("share" : Str) := by unfold plnP; rw [if_neg (by rw [b1 (by omega)]; simp)]; rw [hd]; rfl
        rw [hz]
        exact hp
      | some y =>
        rw [hd] at hn
        obtain rfl := hn.eq
        refine ⟨_, rfl, ?_⟩
        refine w_no rfl ?_
        walk_at "rd"
        refine r_kChain (fun g1 => ?_) (fun g1 => ?_)
        · walk_at "rd"
          cases g2 : decide (y ≤ 1000) with
          | true =>
            walk_at "rd"
            exact ⟨_, _, _, _, rfl, e'.trans eT, fun _ => b1 (by omega), fun _ => by exact inB_yes ⟨of_decide_eq_true g1, of_decide_eq_true g2⟩, fun h => absurd h (by omega)⟩
          | false =>
            walk_at "rd"
            refine r_kLst fun p G np eg hp => ?_
            refine k p G ((e.trans eT).free np) ((e.trans eT).trans eg) ?_
            have hz : plnP d1 d2 d3 d4 = some ("share" : Str) := by
              unfold plnP; rw [if_neg (by rw [b1 (by omega)]; simp)]; rw [hd, if_pos]
              show (decide ((0 : Int) ≤ y) && decide (y ≤ 1000)) = false
              rw [g2, Bool.and_false]
            rw [hz]
            exact hp
        · walk_at "rd"
          refine r_kLst fun p G np eg hp => ?_
          refine k p G ((e.trans eT).free np) ((e.trans eT).trans eg) ?_
          have hz : plnP d1 d2 d3 d4 = some ("share" : Str) := by
            unfold plnP; rw [if_neg (by rw [b1 (by omega)]; simp)]; rw [hd, if_pos]
            show (decide ((0 : Int) ≤ y) && decide (y ≤ 1000)) = false
            rw [g1, Bool.false_and]
          rw [hz]
          exact hp
    · obtain rfl : x1 = .str "least" := (Option.some.inj hx1).symm
      obtain rfl : v3 = x2 := Option.some.inj hx2
      obtain rfl : x3 = .int 1 := (Option.some.inj hx3).symm
      obtain rfl : x4 = .int 1000000 := (Option.some.inj hx4).symm
      have eT : Same H' (upd H' T (.tup [.str "least", v3, .int 1, .int 1000000])) := Same.new nT
      refine r_gtup (SqT.of upd_same) rfl ?_
      walk_at "rd"
      have hn := (o3.keep (.same (e.trans eT))).num (K := K)
      refine ⟨v3, numD d3, rfl, hn, ?_⟩
      cases hd : numD d3 with
      | none =>
        refine ⟨_, rfl, ?_⟩
        refine w_yes rfl ?_
        refine w_yes rfl ?_
        walk_at "rd"
        refine r_kLst fun p G np eg hp => ?_
        refine k p G ((e.trans eT).free np) ((e.trans eT).trans eg) ?_
        have hz : plnP d1 d2 d3 d4 = some ("least" : Str) := by unfold plnP; rw [if_neg (by rw [b1 (by omega)]; simp)]; rw [if_neg (by rw [b2 (by omega)]; simp)]; rw [hd]; rfl
        rw [hz]
        exact hp
      | some y =>
        rw [hd] at hn
        obtain rfl := hn.eq
        refine ⟨_, rfl, ?_⟩
        refine w_no rfl ?_
        walk_at "rd"
        refine r_kChain (fun g1 => ?_) (fun g1 => ?_)
        · walk_at "rd"
          cases g2 : decide (y ≤ 1000000) with
          | true =>
            walk_at "rd"
            exact ⟨_, _, _, _, rfl, e'.trans eT, fun _ => b1 (by omega), fun _ => b2 (by omega), fun _ => by exact inB_yes ⟨of_decide_eq_true g1, of_decide_eq_true g2⟩⟩
          | false =>
            walk_at "rd"
            refine r_kLst fun p G np eg hp => ?_
            refine k p G ((e.trans eT).free np) ((e.trans eT).trans eg) ?_
            have hz : plnP d1 d2 d3 d4 = some ("least" : Str) := by
              unfold plnP; rw [if_neg (by rw [b1 (by omega)]; simp)]; rw [if_neg (by rw [b2 (by omega)]; simp)]; rw [hd, if_pos]
              show (decide ((1 : Int) ≤ y) && decide (y ≤ 1000000)) = false
              rw [g2, Bool.and_false]
            rw [hz]
            exact hp
        · walk_at "rd"
          refine r_kLst fun p G np eg hp => ?_
          refine k p G ((e.trans eT).free np) ((e.trans eT).trans eg) ?_
          have hz : plnP d1 d2 d3 d4 = some ("least" : Str) := by
            unfold plnP; rw [if_neg (by rw [b1 (by omega)]; simp)]; rw [if_neg (by rw [b2 (by omega)]; simp)]; rw [hd, if_pos]
            show (decide ((1 : Int) ≤ y) && decide (y ≤ 1000000)) = false
            rw [g1, Bool.false_and]
          rw [hz]
          exact hp
    · exact absurd hx1 (by simp)
  · rintro σ' H' ⟨y1, y2, y3, y4, rfl, e', b1, b2, b3⟩
    have e := e13.trans e'
    have c1 := b1 (by decide)
    have c2 := b2 (by decide)
    have c3 := b3 (by decide)
    walk_at "rd"
    refine r_ixL (SqL.of (e _ _ hl)) (at_get (n := 3) rfl rfl) ?_
    walk_at "rd"
    refine (o4.keep (.same e)).isB ?_
    cases hb : boB d4 with
    | true =>
      walk_at "rd"
      refine r_kLst fun p G np eg hp => ?_
      refine k p G (e.free np) (e.trans eg) ?_
      have hz : plnP d1 d2 d3 d4 = none := by unfold plnP; rw [c1, c2, c3, hb]; rfl
      rw [hz]
      exact hp
    | false =>
      walk_at "rd"
      refine r_kLst fun p G np eg hp => ?_
      refine k p G (e.free np) (e.trans eg) ?_
      have hz : plnP d1 d2 d3 d4 = some ("plus" : Str) := by unfold plnP; rw [c1, c2, c3, hb]; rfl
      rw [hz]
      exact hp
end
end Wp
set_option Elab.async false
set_option linter.all false
set_option maxRecDepth 100000
set_option maxHeartbeats 4000000
/-! What draws and lambdas leave. -/
namespace Wp
open PySem PySem.Spec PyProof.Rows L2
/-- all but the draws' state and tables is as it was -/
def KpN (st l : Addr) (H H' : Hp) : Prop := ∀ b o, H b = some o → b ≠ st → b ≠ l → (∀ ps, o ≠ .tbl ps) → H' b = some o
theorem KpN.refl {st l : Addr} {H : Hp} : KpN st l H H := fun _ _ h _ _ _ => h
theorem KpN.of {st l : Addr} {H H1 H2 : Hp} (k : Kp st l H H1) (n : KpN st l H1 H2) : KpN st l H H2 := fun b o h n1 n2 t => n b o (k b o h n1 n2) n1 n2 t
theorem KpN.trans {st l : Addr} {H H1 H2 : Hp} (k : KpN st l H H1) (n : KpN st l H1 H2) : KpN st l H H2 := fun b o h n1 n2 t => n b o (k b o h n1 n2 t) n1 n2 t
theorem KpN.lst {st l p : Addr} {H H' : Hp} {xs : List V} (k : KpN st l H H') (h : H p = some (.lst xs)) (n1 : p ≠ st) (n2 : p ≠ l) : H' p = some (.lst xs) := k _ _ h n1 n2 fun ps z => by cases z
theorem KpN.dK {st l p : Addr} {H H' : Hp} {kvs : List (Key × V)} (k : KpN st l H H') (h : H p = some (.dK kvs)) (n1 : p ≠ st) (n2 : p ≠ l) : H' p = some (.dK kvs) := k _ _ h n1 n2 fun ps z => by cases z
end Wp
set_option Elab.async false
set_option linter.all false
set_option maxRecDepth 100000
set_option maxHeartbeats 4000000
/-! Comprehensions over enumerate; ints in a list. -/
namespace Wp
open PySem PySem.Spec PyProof.Rows L2
section
variable {K : PySem.W.Frag} {H : Hp} {Q : VK} {p a : Addr} {σ : L2.St} {g : TG} {tt : TT} {te : TE} {ta : TA} {vs : List Nat} {xs : List V}
theorem r_lcEnumL (ht : ∀ Q' : List V → Hp → Prop, Q' [.ref p] H → ta σ H Q') (hl : SqL K H p xs) (Pv : Addr → Nat → Hp → Prop) (h0 : ∀ Da H', H Da = none → Same H H' → H' Da = some (.lst []) → Pv Da 0 H') (hk : ∀ Da i H', Pv Da i H' → Same H H')
    (hs : ∀ Da i x T H1 H', H Da = none → xs[i]? = some x → Pv Da i H1 → H1 T = none → Same H1 H' → H' T = some (.tup [.int (i : Nat), x]) → g (.ref T) (wipe σ vs) H' (kLcG tt te vs σ Da Pv i)) (hd : ∀ Da H', H Da = none → Pv Da xs.length H' → Q (.ref Da) H') :
    tLc (iEnum K ta) g tt te vs σ H Q := by
  refine ht _ ⟨p, xs, rfl, hl, ?_⟩
  exact lc_it (J := Ite K p) xs.length Pv h0 (fun Da i H' _ hi h => ⟨xs, xs[i], SqL.same (hk Da i H' h) hl, by simp [hi]⟩) (fun Da H' _ h => ⟨xs, SqL.same (hk Da _ H' h) hl, Nat.le_refl _⟩) (fun Da i x H' H2 hD _ h y => by
    obtain ⟨T, z, rfl, nT, rfl, y⟩ := y
    exact hs Da i z T H' _ hD (y xs (SqL.same (hk Da i H' h) hl)) h nT (Same.new nT) upd_same) hd
theorem r_lcEnumT (ht : ∀ Q' : List V → Hp → Prop, Q' [.ref p] H → ta σ H Q') (hl : SqT K H p xs) (Pv : Addr → Nat → Hp → Prop) (h0 : ∀ Da H', H Da = none → Same H H' → H' Da = some (.lst []) → Pv Da 0 H') (hk : ∀ Da i H', Pv Da i H' → Same H H')
    (hs : ∀ Da i x T H1 H', H Da = none → xs[i]? = some x → Pv Da i H1 → H1 T = none → Same H1 H' → H' T = some (.tup [.int (i : Nat), x]) → g (.ref T) (wipe σ vs) H' (kLcG tt te vs σ Da Pv i)) (hd : ∀ Da H', H Da = none → Pv Da xs.length H' → Q (.ref Da) H') :
    tLc (iEnumT K ta) g tt te vs σ H Q := by
  refine ht _ ⟨p, xs, rfl, hl, ?_⟩
  exact lc_it (J := IteT K p) xs.length Pv h0 (fun Da i H' _ hi h => ⟨xs, xs[i], SqT.same (hk Da i H' h) hl, by simp [hi]⟩) (fun Da H' _ h => ⟨xs, SqT.same (hk Da _ H' h) hl, Nat.le_refl _⟩) (fun Da i x H' H2 hD _ h y => by
    obtain ⟨T, z, rfl, nT, rfl, y⟩ := y
    exact hs Da i z T H' _ hD (y xs (SqT.same (hk Da i H' h) hl)) h nT (Same.new nT) upd_same) hd
theorem r_lcEnumS (ht : ∀ Q' : List V → Hp → Prop, Q' [.ref p] H → ta σ H Q') (hl : SeqV K H p xs) (Pv : Addr → Nat → Hp → Prop) (h0 : ∀ Da H', H Da = none → Same H H' → H' Da = some (.lst []) → Pv Da 0 H') (hk : ∀ Da i H', Pv Da i H' → Same H H')
    (hs : ∀ Da i x T H1 H', H Da = none → xs[i]? = some x → Pv Da i H1 → H1 T = none → Same H1 H' → H' T = some (.tup [.int (i : Nat), x]) → g (.ref T) (wipe σ vs) H' (kLcG tt te vs σ Da Pv i)) (hd : ∀ Da H', H Da = none → Pv Da xs.length H' → Q (.ref Da) H') :
    tLc (iEither (iEnum K ta) (iEnumT K ta)) g tt te vs σ H Q :=
  hl.elim (fun h => .inl (r_lcEnumL ht h Pv h0 hk hs hd)) (fun h => .inr (r_lcEnumT ht h Pv h0 hk hs hd))
/-- enumerate(course[0]) -/
theorem e0_at {n : Nat} {l : Addr} {e : Int} (hv : σ[n]? = some (some (.ref p))) (hp : H p = some (.tup [.ref l, .int e])) : ∀ Q' : List V → Hp → Prop, Q' [.ref l] H → tCons (tOp (rIxT K) (tVar n) (tC (.int 0))) tNil σ H Q' :=
  fun Q' q => r_cons (c0_at hv hp _ (r_nil q))
theorem ev_at {n : Nat} (hv : σ[n]? = some (some (.ref p))) : ∀ Q' : List V → Hp → Prop, Q' [.ref p] H → tCons (tVar n) tNil σ H Q' :=
  fun Q' q => r_cons (r_var hv (r_nil q))
theorem flat_ints : ∀ xs : List Int, (xs.map V.int).all flatV = true
  | [] => rfl
  | _ :: r => by rw [List.map_cons, List.all_cons, flat_ints r]; rfl
theorem in_ints (x : Int) : ∀ xs : List Int, inV (.int x) (xs.map V.int) = decide (x ∈ xs)
  | [] => by simp [inV]
  | y :: r => by
    have ih := in_ints x r
    unfold inV at ih ⊢
    rw [List.map_cons, List.any_cons, ih]
    have e : eqV (.int y) (.int x) = decide (y = x) := rfl
    rw [e]
    by_cases h : y = x
    · simp [h]
    · have h' : ¬ x = y := fun z => h z.symm
      simp [h, h']
theorem r_notInI {x : Int} {xs : List Int} (h : SqL K H p (xs.map V.int)) (q : Q (.bl (!decide (x ∈ xs))) H) : rIn K true (.int x) (.ref p) H Q :=
  ⟨p, xs.map V.int, rfl, .inl h, rfl, flat_ints xs, by rw [in_ints]; exact q⟩
end
end Wp
set_option Elab.async false
set_option linter.all false
set_option maxRecDepth 100000
set_option maxHeartbeats 4000000
/-! xs[i] += e of a list of ints. -/
namespace Wp
open PySem PySem.Spec PyProof.Rows L2
/-- xs[i], i from 0 on -/
def rGetL (K : PySem.W.Frag) : V → V → Hp → VK → Prop := fun x y H Q => ∃ (p : Addr) (xs : List V) (i : Int) (n : Nat) (v : V), x = .ref p ∧ y = .int i ∧ SqL K H p xs ∧ i = (n : Int) ∧ xs[n]? = some v ∧ Q v H
theorem get_list {X : Cx} {K : PySem.W.Frag} (hK : X.K = K) : PGet X (rGetL K) := by
  subst hK
  intro pins s σ H x y v u Q I rx ry h
  obtain ⟨p, xs, i, n, z, rfl, rfl, hq, rfl, he, q⟩ := h
  cases rx
  obtain ⟨t, rfl⟩ := ry
  obtain ⟨its, r, pl, hz⟩ := I.list hq
  obtain ⟨w, ew, rw'⟩ := r.get he
  have hl := r.length
  have hn := line63
  have hlt := (List.getElem?_eq_some_iff.mp he).1
  exact wpAny_getItem_list pl.isList (by omega) (by omega) (by rw [Int.toNat_natCast]; simpa using ew) ⟨z, H, I, rw', q⟩
section
variable {K : PySem.W.Frag} {H : Hp} {p : Addr} {xs : List V} {σ : L2.St} {D : Ends} {to ti te : TE} {tip : TIp} {n : Nat} {v z : V}
def kAugSet (D : Ends) (σ : L2.St) (o i : V) : VK := fun z H5 => rSetL o i z H5 fun H6 => D.nx σ H6
def kAugGet (K : PySem.W.Frag) (te : TE) (tip : TIp) (D : Ends) (σ : L2.St) (o : V) : VK := fun i H2 => rGetL K o i H2 fun x H3 => te σ H3 fun y H4 => tip x y H4 (kAugSet D σ o i)
theorem r_augS (q : to σ H fun o H1 => ti σ H1 (kAugGet K te tip D σ o)) : tAugS to ti te (rGetL K) tip rSetL D σ H := q
theorem r_kAugGet (h : SqL K H p xs) (e : xs[n]? = some v) (q : te σ H fun y H4 => tip v y H4 (kAugSet D σ (.ref p) (.int (n : Int)))) : kAugGet K te tip D σ (.ref p) (.int (n : Int)) H := ⟨p, xs, n, n, v, rfl, rfl, h, rfl, e, q⟩
theorem r_kAugSet (h : H p = some (.lst xs)) (hn : n < xs.length) (q : ∀ H', But p H H' → H' p = some (.lst (xs.set n z)) → D.nx σ H') : kAugSet D σ (.ref p) (.int (n : Int)) z H := by
  refine ⟨p, xs, n, n, rfl, rfl, h, ?_, q _ But.upd upd_same⟩
  unfold ixN
  rw [if_pos (by omega), if_pos (by omega), Int.toNat_natCast]
end
end Wp
set_option Elab.async false
set_option linter.all false
set_option maxRecDepth 100000
set_option maxHeartbeats 4000000
/-! in of ints, xs[i] = v. -/
namespace Wp
open PySem PySem.Spec PyProof.Rows L2
section
variable {K : PySem.W.Frag} {H : Hp} {p : Addr} {xs : List V} {σ : L2.St} {Q : VK} {QS : L2.St → Hp → Prop} {QH : Hp → Prop} {to ti : TE} {v z : V} {i : Int}
theorem r_inI {x : Int} {xs : List Int} (h : SqL K H p (xs.map V.int)) (q : Q (.bl (decide (x ∈ xs))) H) : rIn K false (.int x) (.ref p) H Q :=
  ⟨p, xs.map V.int, rfl, .inl h, rfl, flat_ints xs, by rw [in_ints]; exact q⟩
def kSetL (v : V) (σ : L2.St) (QS : L2.St → Hp → Prop) (o : V) : VK := fun i H2 => rSetL o i v H2 fun H3 => QS σ H3
theorem r_gsub (q : to σ H fun o H1 => ti σ H1 (kSetL v σ QS o)) : gSub to ti rSetL v σ H QS := q
theorem r_kSetL (h : H p = some (.lst xs)) (h0 : 0 ≤ i) (hn : i < (xs.length : Int)) (q : ∀ H', But p H H' → H' p = some (.lst (xs.set i.toNat v)) → QS σ H') : kSetL v σ QS (.ref p) (.int i) H := by
  refine ⟨p, xs, i, i.toNat, rfl, rfl, h, ?_, q _ But.upd upd_same⟩
  unfold ixN
  rw [if_pos h0, if_pos (by omega)]
end
end Wp
set_option Elab.async false
set_option linter.all false
set_option maxRecDepth 100000
set_option maxHeartbeats 4000000
/-! k72: plans of odd parts, refused or made. -/
namespace Wp
open PySem PySem.Spec PyProof.Rows L2 LamX
abbrev s__law_refused_right : Stmt := topS 48
local macro_rules | `(tactic| walk_at "val") => `(tactic| assumption)
local macro_rules | `(tactic| walk_at "rd1") => `(tactic| first
  | with_reducible refine r_seq ?_ | with_reducible refine r_next ?_ | with_reducible refine r_if ?_ | with_reducible refine r_asg ?_ | with_reducible refine r_gname ?_
  | with_reducible refine r_ret ?_ | with_reducible refine r_retN ?_ | with_reducible refine r_drop ?_ | with_reducible refine r_par ?_ | with_reducible refine r_kPar ?_
  | ((with_reducible refine' r_var ?hv ?_); (case hv => exact rfl)) | with_reducible refine r_c ?_ | with_reducible refine r_nil ?_ | with_reducible refine r_cons ?_
  | with_reducible refine r_fn ?_ | with_reducible refine r_cb ?_ | with_reducible refine r_op ?_ | with_reducible refine r_un ?_ | with_reducible refine r_I0 ?_
  | with_reducible refine r_pow5 ?_ | with_reducible refine r_pow6 ?_ | with_reducible refine r_pow7 ?_ | with_reducible refine r_pow9 ?_ | with_reducible refine r_pow18 ?_ | with_reducible refine r_pow20 ?_ | with_reducible refine r_pow30 ?_
  | with_reducible refine r_isN_non ?_ | with_reducible refine r_isN_ref ?_ | with_reducible refine r_isN_int ?_ | with_reducible refine r_isN_str ?_ | with_reducible refine r_isN_bl ?_ | with_reducible refine r_notN_non ?_ | with_reducible refine r_notN_ref ?_ | with_reducible refine r_notN_int ?_ | with_reducible refine r_notN_str ?_ | with_reducible refine r_notN_bl ?_
  | ((with_reducible refine r_I ?hc ?_); (case hc => walk_at "side")) | with_reducible refine r_U ?_
  | with_reducible refine r_eqI ?_ | with_reducible refine r_neI ?_ | with_reducible refine r_eqS ?_ | with_reducible refine r_neS ?_ | with_reducible refine r_eqB ?_ | with_reducible refine r_neB ?_
  | with_reducible refine r_chain ?_ | with_reducible refine r_test ?_ | with_reducible refine r_tB ?_ | with_reducible refine r_kTest ?_ | with_reducible refine r_not ?_
  | with_reducible refine r_and ?_ | with_reducible refine r_or ?_ | with_reducible refine r_tif ?_ | with_reducible refine r_andV ?_ | with_reducible refine r_orV ?_ | with_reducible refine r_notV ?_
  | with_reducible refine r_kAndV ?_ | with_reducible refine r_kOrV ?_ | with_reducible refine r_kNotV ?_
  | with_reducible refine w_T ?_ | with_reducible refine w_F ?_ | with_reducible refine w_NT ?_ | with_reducible refine w_NF ?_
  | with_reducible refine r_tup ?_ | with_reducible refine r_lst ?_ | with_reducible refine r_fld ?_ | with_reducible refine r_prop ?_ | ((with_reducible refine' r_aug ?h1 ?_); (case h1 => exact rfl)) | with_reducible refine r_ipI ?_ | with_reducible refine r_dget ?_ | with_reducible refine r_dput ?_ | with_reducible refine r_bm ?_
  | ((with_reducible refine' r_kDGetS ?h1 ?h2 ?_); (case h1 => assumption); (case h2 => walk_at "val"))
  | ((with_reducible refine' r_kBML ?h1 ?_); (case h1 => assumption))
  | with_reducible refine r_forL ?_ | with_reducible refine r_forR1 ?_ | with_reducible refine r_forR2 ?_ | with_reducible refine r_forT ?_ | with_reducible refine r_lcL ?_ | with_reducible refine r_lcR1 ?_
  | ((with_reducible refine r_kLcG ?hw ?_); (case hw => exact rfl)) | with_reducible refine r_kLcT ?_ | with_reducible refine r_yes ?_
  | with_reducible refine r_pnil ?_ | with_reducible refine r_pcons ?_
  | with_reducible refine r_fnK ?_ | ((with_reducible refine r_kFnK ?hl ?_); (case hl => exact rfl))
  | with_reducible refine r_isi_ii ?_ | with_reducible refine r_isi_ib ?_ | with_reducible refine r_isi_bi ?_ | with_reducible refine r_isi_bb ?_ | with_reducible refine r_isi_ss ?_ | with_reducible refine r_isi_is ?_ | with_reducible refine r_isi_it ?_
  | ((with_reducible refine' r_isi_tt ?h1 ?_); (case h1 => assumption))
  | with_reducible refine r_sfld ?_ | with_reducible refine r_gnil ?_ | with_reducible refine r_gcons ?_
  | ((with_reducible refine' r_gtup ?h1 ?h2 ?_); (case h1 => exact SqT.of (by assumption)); (case h2 => exact rfl))
  | with_reducible refine r_sl ?_ | with_reducible refine r_noPart ?_ | with_reducible refine r_part ?_ | with_reducible refine r_kPart ?_ | with_reducible refine r_m1 ?_ | with_reducible refine r_kM1 ?_ | with_reducible refine r_forS ?_ | with_reducible refine r_lcS ?_ | with_reducible refine r_lcTu ?_ | with_reducible refine r_lcK ?_ | with_reducible refine r_dcL ?_ | with_reducible refine r_dcK ?_ | with_reducible refine r_lc2L ?_ | with_reducible refine r_kLc2TL ?_ | with_reducible refine r_dcEn ?_ | with_reducible refine r_gslc ?_ | with_reducible refine r_lcEn ?_ | with_reducible refine r_lcZip ?_ | with_reducible refine r_lcEl ?_ | with_reducible refine r_lcR2 ?_ | with_reducible refine r_rg1 ?_ | with_reducible refine r_rg2 ?_ | with_reducible refine r_forET ?_ | with_reducible refine r_lenD ?_
  | ((with_reducible refine r_kDcG ?hw ?_); (case hw => exact rfl)) | with_reducible refine r_kDcT ?_
  | with_reducible refine r_fldaug ?_ | with_reducible refine r_daug ?_ | with_reducible refine r_rAdd ?_ | with_reducible refine r_rSub ?_ | with_reducible refine r_ddel ?_ | with_reducible refine r_bmF ?_ | with_reducible refine r_dget2 ?_ | with_reducible refine r_listItems ?_ | with_reducible refine r_bm0 ?_ | with_reducible refine r_lc2E ?_ | ((with_reducible refine r_kLc2G ?hw ?_); (case hw => exact rfl)) | with_reducible refine r_kLc2T ?_ | with_reducible refine r_forE ?_ | with_reducible refine r_orT ?_ | with_reducible refine r_din ?_ | with_reducible refine r_augS ?_ | with_reducible refine r_dnotin ?_ | with_reducible refine r_lcIT ?_ | with_reducible refine r_cont ?_ | with_reducible refine r_meth ?_ | with_reducible refine r_frz ?_ | with_reducible refine r_par3 ?_ | with_reducible refine r_kPar3 ?_ | with_reducible refine r_dz ?_ | with_reducible refine r_revL ?_ | with_reducible refine r_revT ?_ | with_reducible refine r_star ?_ | with_reducible refine r_int1 ?_ | with_reducible refine r_int1b ?_ | with_reducible refine r_min2 ?_ | with_reducible refine r_max2 ?_ | with_reducible refine r_gsub ?_ | with_reducible refine r_err ?_ | with_reducible refine r_errT ?_ | with_reducible refine r_xv ?_)
local macro_rules | `(tactic| walk_at "rd") => `(tactic| repeat walk_at "rd1")
local macro_rules | `(tactic| walk_at "side") => `(tactic| first | assumption | exact Or.inr ⟨by decide, by decide⟩ | exact Or.inl ⟨by decide, by decide⟩ | (constructor <;> omega) | omega | decide | (refine Or.inl ⟨?_, ?_⟩ <;> omega) | (refine Or.inr ⟨?_, ?_⟩ <;> omega) | (refine ⟨?_, ?_, ?_⟩ <;> first | decide | omega))
abbrev LQf : Str := ("_law_refused_right" : Str) ++ ".<locals>." ++ "<lambda>"
abbrev esQ : List Str := ["BadPlan"]
def plnW (o : Option Str) : Wr := o.map fun z => ("BadPlan", some ("part", .str z))
theorem DKp.kpQ {st l : Addr} {H H' : Hp} (k : Kp st l H H') : DKp (away st l) (away st l) H H' := ⟨fun _ _ h => h, fun p _ h1 h2 => k p _ h2 h1.1 h1.2, fun p _ h1 h2 => k p _ h2 h1.1 h1.2, fun p _ h1 h2 => k p _ h2 h1.1 h1.2⟩
/-- none of the draws' two, nor the list -/
def awayL (st l sm : Addr) : Addr → Prop := fun a => (a ≠ st ∧ a ≠ l) ∧ a ≠ sm
theorem DKp.kpL {st l sm : Addr} {H H' : Hp} (k : Kp st l H H') : DKp (awayL st l sm) (awayL st l sm) H H' := ⟨fun _ _ h => h, fun p _ h1 h2 => k p _ h2 h1.1.1 h1.1.2, fun p _ h1 h2 => k p _ h2 h1.1.1 h1.1.2, fun p _ h1 h2 => k p _ h2 h1.1.1 h1.1.2⟩
theorem DKp.butL {st l sm : Addr} {H H' : Hp} (k : But sm H H') : DKp (awayL st l sm) (awayL st l sm) H H' := ⟨fun _ _ h => h, fun p _ h1 h2 => k p _ h2 h1.2, fun p _ h1 h2 => k p _ h2 h1.2, fun p _ h1 h2 => k p _ h2 h1.2⟩
theorem DS.butNe {st l c p : Addr} {cs : List Int} {B : Int} {H H' : Hp} (D : DS st l c cs B H) (n1 : p ≠ st) (n2 : p ≠ l) (n3 : p ≠ c) (b : But p H H') : DS st l c cs B H' := by
  obtain ⟨⟨r, t, hr, h0, h1, h⟩, ⟨zs, hz, h2⟩, h3, n⟩ := D
  exact ⟨⟨r, t, hr, h0, h1, b _ _ h n1.symm⟩, ⟨zs, hz, b _ _ h2 n2.symm⟩, b _ _ h3 n3.symm, n⟩
theorem DS.keepN {st l c : Addr} {cs : List Int} {n : Int} {H H' : Hp} (D : DS st l c cs n H) (e : ExtN H H') : DS st l c cs n H' := by
  obtain ⟨⟨r, t, hr, h0, h1, h⟩, ⟨zs, hz, h2⟩, h3, n⟩ := D
  exact ⟨⟨r, t, hr, h0, h1, e _ _ h (fun ps z => by cases z)⟩, ⟨zs, hz, e _ _ h2 (fun ps z => by cases z)⟩, e _ _ h3 (fun ps z => by cases z), n⟩
theorem odAll_set {A : Addr → Prop} {H : Hp} : ∀ {vs : List V} {ds : List PyData} (_ : OdAll A H vs ds) {v : V} {d : PyData} (_ : Od A H v d) (i : Nat), OdAll A H (vs.set i v) (ds.set i d)
  | _, _, .nil, _, _, _, i => .nil
  | _, _, .cons _ hs, _, _, h, 0 => .cons h hs
  | _, _, .cons g hs, _, _, h, i + 1 => .cons g (odAll_set hs h i)
def oddQ : List PyData := [.none, .bool true, .bool false, .int (-1), .int 0, .int 1, .int 1000, .int 1001, .int 1000000, .int 1000001, .str "1", .tuple [], .list [], .int 1000000000000000000000000000000]
def smlQ (d : PyData) : Bool := d.showable && (decide (d.depth ≤ 3) && decide (d.shown.length ≤ 200))
theorem smlQ_ok {d : PyData} (h : smlQ d = true) : Sml d 200 3 := by
  obtain ⟨h1, h2⟩ := Bool.and_eq_true_iff.mp h
  obtain ⟨h2, h3⟩ := Bool.and_eq_true_iff.mp h2
  exact ⟨h1, of_decide_eq_true h2, of_decide_eq_true h3⟩
theorem odd_smlQ {d : PyData} (h : d ∈ oddQ) : Sml d 200 3 := smlQ_ok (List.all_eq_true.mp (by decide +kernel : oddQ.all smlQ = true) d h)
theorem int_smlQ {i : Int} (h0 : -1000000 ≤ i) (h1 : i ≤ 1000000) : Sml (.int i) 200 3 := by
  have hs : smI (.int i) = true := by unfold smI; exact decide_eq_true (by omega)
  exact (Sml.flat hs rfl).mono (by show wz (.int i) ≤ 200; unfold wz; omega) (by decide)
theorem bool_smlQ (b : Bool) : Sml (.bool b) 200 3 := by cases b <;> exact smlQ_ok (by decide +kernel)
theorem odAll_get {A : Addr → Prop} {H : Hp} : ∀ {vs : List V} {ds : List PyData} (_ : OdAll A H vs ds) {i : Nat} {v : V} (_ : vs[i]? = some v), ∃ d, d ∈ ds ∧ Od A H v d
  | _, _, .nil, i, v, h => by simp at h
  | _, _, .cons (v := v') (d := d) g hs, 0, v, h => by
    obtain rfl : v' = v := Option.some.inj h
    exact ⟨d, List.mem_cons_self .., g⟩
  | _, _, .cons g hs, i + 1, v, h => by
    obtain ⟨d, h1, h2⟩ := odAll_get hs (i := i) (v := v) (by simpa using h)
    exact ⟨d, List.mem_cons_of_mem _ h1, h2⟩
theorem odAll_four {A : Addr → Prop} {H : Hp} {vs : List V} {ds : List PyData} (h : OdAll A H vs ds) (hl : vs.length = 4) : ∃ v1 v2 v3 v4 d1 d2 d3 d4, vs = [v1, v2, v3, v4] ∧ ds = [d1, d2, d3, d4] ∧ Od A H v1 d1 ∧ Od A H v2 d2 ∧ Od A H v3 d3 ∧ Od A H v4 d4 := by
  match vs, ds, h, hl with
  | _, _, .cons h1 (.cons h2 (.cons h3 (.cons h4 .nil))), _ => exact ⟨_, _, _, _, _, _, _, _, rfl, rfl, h1, h2, h3, h4⟩
theorem ErV.butL {K : PySem.W.Frag} {H H' : Hp} {a : Addr} {xs : List V} {v : V} {o : Wr} (h : ErV K H v o) (hl : H a = some (.lst xs)) (b : But a H H') : ErV K H' v o := by
  cases h with
  | ok => exact .ok
  | b h => exact .b (b _ _ h (ne_of h hl (by unfold ExV; intro z; cases z)))
  | f h g => exact .f (b _ _ h (ne_of h hl (by unfold ExV; intro z; cases z))) (b _ _ g (ne_of g hl (by intro z; cases z)))
theorem ExtN.mutQ {H1 H2 H3 : Hp} {a : Addr} (n : H1 a = none) (y : ExtN H1 H2) (b : But a H2 H3) : ExtN H1 H3 := fun c o h k => b _ _ (y _ _ h k) (ne_of_none h n)
theorem plan_caught {K : PySem.W.Frag} {CE : Addr} (ef : ErG K CE esQ) {A : Addr → Prop} {H : Hp} {Q Qn : VK} {v1 v2 v3 v4 : V} {d1 d2 d3 d4 : PyData} (o1 : Od A H v1 d1) (o2 : Od A H v2 d2) (o3 : Od A H v3 d3) (o4 : Od A H v4 d4) (hn : ∀ v H', Q .non H' → Qn v H')
    (k : ∀ v H', Same H H' → ErV K H' v (plnW (plnP d1 d2 d3 d4)) → Q v H') : spx_Plan K [v1, v2, v3, v4] H Qn (EC K CE Q) := by
  have h := caught_wordG ef (Qn := Qn) (o := plnW (plnP d1 d2 d3 d4)) (fun c r e => by
    unfold plnW at e
    cases hz : plnP d1 d2 d3 d4 with
    | none => rw [hz] at e; cases e
    | some z => rw [hz] at e; cases e; decide) hn k
  refine ⟨A, v1, v2, v3, v4, d1, d2, d3, d4, rfl, o1, o2, o3, o4, fun e x H' s => ?_, fun z e => ?_⟩
  · rw [e] at h
    exact h _ H' s
  · rw [e] at h
    exact h
theorem _root_.L2.LamX.TabS.kpQ {P0 : Addr} {q : Str} {st l c : Addr} {cs : List Int} {n : Int} {H H' : Hp} (t : TabS H P0 q) (D : DS st l c cs n H) (k : Kp st l H H') : TabS H' P0 q := by
  obtain ⟨ps, h1, h2, h3⟩ := t
  obtain ⟨r, tt, xs, hl, _, hd⟩ := id D.d
  have move : ∀ {b : Addr} {o : HO}, H b = some o → (∀ kvs, o ≠ .dK kvs) → (∀ xs, o ≠ .lst xs) → H' b = some o := fun e n1 n2 => k _ _ e (ne_of e hd (n1 _)) (D.nld e n2)
  refine ⟨ps, move h1 (fun _ z => by cases z) (fun _ z => by cases z), h2, fun pos cv h => ?_⟩
  obtain ⟨c0, e1, e2⟩ := h3 pos cv h
  exact ⟨c0, e1, move e2 (fun _ z => by unfold CodeO at z; cases z) (fun _ z => by unfold CodeO at z; cases z)⟩
theorem word_shaped {d1 d2 d3 d4 : PyData} {z : Str} (h : plnP d1 d2 d3 d4 = some z) : SeqAt.shaped (.list [.str z]) = true := by
  have hm : z ∈ (["rate", "share", "least", "plus"] : List Str) := by
    unfold plnP at h
    repeat' split at h
    all_goals first | (cases h; decide) | cases h
  exact List.all_eq_true.mp (by decide +kernel : (["rate", "share", "least", "plus"] : List Str).all (fun z => SeqAt.shaped (.list [.str z])) = true) z hm
theorem inB_num {A : Addr → Prop} {H : Hp} {v : V} {d : PyData} {lo hi : Int} (o : Od A H v d) (h : inB (numD d) lo hi = true) : ∃ i, v = .int i ∧ lo ≤ i ∧ i ≤ hi := by
  cases o with
  | int i =>
    obtain ⟨h1, h2⟩ := Bool.and_eq_true_iff.mp (show (decide (lo ≤ i) && decide (i ≤ hi)) = true from h)
    exact ⟨i, rfl, of_decide_eq_true h1, of_decide_eq_true h2⟩
  | _ => cases h
theorem plnP_ok {A : Addr → Prop} {H : Hp} {v1 v2 v3 v4 : V} {d1 d2 d3 d4 : PyData} (h : plnP d1 d2 d3 d4 = none) (o1 : Od A H v1 d1) (o2 : Od A H v2 d2) (o3 : Od A H v3 d3) (o4 : Od A H v4 d4) : ∃ M : Pl, M.Ok ∧ v1 = .int M.r ∧ v2 = .int M.s ∧ v3 = .int M.m ∧ v4 = .bl M.b := by
  unfold plnP at h
  split at h
  · cases h
  split at h
  · cases h
  split at h
  · cases h
  split at h
  · cases h
  rename_i b1 b2 b3 b4
  obtain ⟨r, rfl, r0, r1⟩ := inB_num o1 (by simpa using b1)
  obtain ⟨s, rfl, s0, s1⟩ := inB_num o2 (by simpa using b2)
  obtain ⟨m, rfl, m0, m1⟩ := inB_num o3 (by simpa using b3)
  cases o4 with
  | bl b => exact ⟨⟨r, s, m, b⟩, ⟨r0, r1, s0, s1, m0, m1⟩, rfl, rfl, rfl, rfl⟩
  | _ => exact absurd rfl b4
theorem plan_sh {M : Pl} (ok : M.Ok) : (plD M).showable = true ∧ (plD M).depth ≤ 60 ∧ (plD M).shown.length ≤ sizeLine := by
  have h := Sml.tuple (n := 200) (k := 3) (ds := [.int M.r, .int M.s, .int M.m, .bool M.b]) (fun d hd => by
    simp only [List.mem_cons, List.not_mem_nil, or_false] at hd
    rcases hd with rfl | rfl | rfl | rfl
    · exact int_smlQ (by have := ok.r0; omega) (by have := ok.r1; omega)
    · exact int_smlQ (by have := ok.s0; omega) (by have := ok.s1; omega)
    · exact int_smlQ (by have := ok.m0; omega) (by have := ok.m1; omega)
    · exact bool_smlQ _)
  exact ⟨h.sh, Nat.le_trans h.de (by decide), by
    have := h.le
    rw [sizeLine_eq]
    simp only [List.length_cons, List.length_nil] at this
    exact Nat.le_trans this (by decide)⟩
theorem r_tupQ {K : PySem.W.Frag} {H : Hp} {Q : VK} {p : Addr} {xs : List V} (h : H p = some (.lst xs)) (k : ∀ t H', Same H H' → H' t = some (.tup xs) → Q (.ref t) H') : rTupOf K [.ref p] H Q :=
  ⟨p, xs, rfl, .inl ⟨SqL.of h, fun l hl => k l _ (Same.new hl) upd_same⟩⟩
def sp_refused (K : PySem.W.Frag) (P0 : Addr) : Sp := fun vs H Q _ => ∃ (st l c t : Addr) (cs : List Int) (n : Int) (M : Pl), vs = [.ref st, .ref t] ∧ n ≤ 8796093022208 ∧ DS st l c cs n H ∧ M.Ok ∧ M.m ≤ 3000 ∧ PartsAt H t M ∧ Tabs [(P0, LQf)] H ∧
  ∀ H', DS st l c cs (n + 20) H' → KpN st l H H' → Tabs [(P0, LQf)] H' → Q (.bl true) H'
section
variable {P : Program} {w : World} {K : PySem.W.Frag} {mg : Str → Option Value} {base : Heap}
theorem ok__law_refused_right {f CE C c P0 : Addr} {fd : FuncData} (T : Tx K mg) (F : FnP K "_law_refused_right" s__law_refused_right f fd) (hc : CodeAt K f c) (CT : CtD K mg CE) (TB : TabB base mg c P0) (ef : ErG K CE esQ) (sysK : sysB K = true)
    (xf_BadPlan : XfC K (He.ga K "BadPlan")) (nf_BadPlan : PySem.W.findIn K (.ref (He.ga K "BadPlan")) "part" = some none)
    (d__law_take : Dn P w K mg base CX0 2 "_law_take" ["_law_state", "_law_size"] sp_take) (d__law_pick : Dn P w K mg base CX0 3 "_law_pick" ["_law_state", "_law_some"] sp_pick) (d__law_wrong : Dn P w K mg base CX0 2 "_law_wrong" ["_law_parts_here"] sp_wrong) (d__law_shown : Dn P w K mg base CX0 3 "_law_shown" ["_law_made"] (sp_lshown C))
    (mk_Plan : Dc P w K mg base CX0 3 "Plan" (sp_Plan C)) (xm_Plan : Dc P w K mg base (L2.CX P w) 3 "Plan" (spx_Plan K)) (xq_Plan_plus_least_rate_share : Dcq P w K mg base (L2.CX P w) 3 "Plan" ["plus", "least", "rate", "share"] perm4 (spx_Plan K)) :
    FnG P w K mg base CX0 9 f fd ["_law_state", "_law_parts_here"] (sp_refused K P0) := by
  have sc : FnScope ["_law_state", "_law_parts_here", "_law_some", "_law_change", "_law_odd", "_law_due", "_law_errors", "_law_error"] ["_law_state", "_law_parts_here"] (defScope s__law_refused_right) := ⟨rfl, rfl, rfl, by decide +kernel, rfl, by decide +kernel, by decide +kernel⟩
  refine F.okGL hc sc (by rintro vs H Q E ⟨_, _, _, _, _, _, _, rfl, _⟩; rfl) (fun A outer s H vs Q E hr hG h => ⟨_, PSs.nox ((pss_cons (ps_set (i := 2) sc.nd rfl (by first | exact Or.inl rfl | exact Or.inr rfl) (pe_callTy (c_listK (K := K) rfl) (by rfl) T.b_list (by decide +kernel) (pa_cons (pv 1) pa_nil)))
      (pss_cons (ps_for PassesOwn.never rfl (pi_range1 (by rfl) T.b_range (pa_cons (pe_fn d__law_take (hr.mono (by decide)) pass0 (pa_cons (pv 0) (pa_cons pe_int pa_nil))) pa_nil)) (pg_name (i := 3) sc.nd rfl (by first | exact Or.inl rfl | exact Or.inr rfl)) (pss_cons (ps_set (i := 4) sc.nd rfl (by first | exact Or.inl rfl | exact Or.inr rfl) (pe_lst (pa_cons pe_non (pa_cons pe_bl (pa_cons pe_bl (pa_cons (pe_un un_neg pe_int) (pa_cons pe_int (pa_cons pe_int (pa_cons pe_int (pa_cons pe_int (pa_cons (pe_op op_pow pe_int pe_int) (pa_cons (pe_op op_add (pe_op op_pow pe_int pe_int) pe_int) (pa_cons pe_str (pa_cons (pe_tup pa_nil) (pa_cons (pe_lst pa_nil) (pa_cons (pe_op op_pow pe_int pe_int) pa_nil))))))))))))))))
      (pss_one (ps_asg (pe_fn d__law_pick (hr.mono (by decide)) pass0 (pa_cons (pv 0) (pa_cons (pv 4) pa_nil))) (pg_sub (pv 2) (pe_fn d__law_take (hr.mono (by decide)) pass0 (pa_cons (pv 0) (pa_cons pe_int pa_nil))) set_list)))))
      (pss_cons (ps_set (i := 5) sc.nd rfl (by first | exact Or.inl rfl | exact Or.inr rfl) (pe_fn d__law_wrong (hr.mono (by decide)) pass0 (pa_cons (pv 2) pa_nil)))
      (pss_cons (ps_set (i := 6) sc.nd rfl (by first | exact Or.inl rfl | exact Or.inr rfl) (pe_lst (pa_cons (pe_caught (k := 5) CT TB rfl (List.mem_singleton.mpr rfl) (fun p hp _ => by rw [List.mem_singleton.mp hp]) (hr.mono (by decide)) (lamS_by (by kernel_rfl)) (by rfl) (fun _ _ _ _ _ => by rfl) (fun A outer s H E f c' hr => (pe_mk xm_Plan (hr.mono (by decide)) (passX takes_lam) (pa_cons (pe_ix (ix_listK (K := K) rfl) (pv 2) pe_int (fun _ _ => rfl)) (pa_cons (pe_ix (ix_listK (K := K) rfl) (pv 2) pe_int (fun _ _ => rfl)) (pa_cons (pe_ix (ix_listK (K := K) rfl) (pv 2) pe_int (fun _ _ => rfl)) (pa_cons (pe_ix (ix_listK (K := K) rfl) (pv 2) pe_int (fun _ _ => rfl)) pa_nil))))))) pa_nil)))
      (pss_cons (ps_expr (pe_bmK (K := K) rfl PySem.F.plainAttrs_list PySem.F.slot_list_append PySem.F.type_list_append mt_append (pv 6) (pa_cons (pe_caught (k := 5) CT TB rfl (List.mem_singleton.mpr rfl) (fun p hp _ => by rw [List.mem_singleton.mp hp]) (hr.mono (by decide)) (lamS_by (by kernel_rfl)) (by rfl) (fun _ _ _ _ _ => by rfl) (fun A outer s H E f c' hr => (pe_mkQ xq_Plan_plus_least_rate_share (hr.mono (by decide)) (passX takes_lam) (pk_cons (pe_ix (ix_listK (K := K) rfl) (pv 2) pe_int (fun _ _ => rfl)) (pk_cons (pe_ix (ix_listK (K := K) rfl) (pv 2) pe_int (fun _ _ => rfl)) (pk_cons (pe_ix (ix_listK (K := K) rfl) (pv 2) pe_int (fun _ _ => rfl)) (pk_cons (pe_ix (ix_listK (K := K) rfl) (pv 2) pe_int (fun _ _ => rfl)) pk_nil))))))) pa_nil)))
      (pss_cons (ps_for PassesOwn.never rfl (pi_listK (K := K) rfl (pv 6)) (pg_name (i := 7) sc.nd rfl (by first | exact Or.inl rfl | exact Or.inr rfl)) (pss_one (ps_if (PW.pt (pw_or (pt_cmpR op_ne (pe_cmpR op_isN1 (pv 7) pe_non (nomark _)) (pe_cmpR (eqNilK (K := K) rfl hr.units) (pv 5) (pe_lst pa_nil) (nomark _)) (nomark _)) (pw_or1 (PW.pt (pw_and (pt_cmpR (neNilK (K := K) rfl hr.units) (pv 5) (pe_lst pa_nil) (nomark _)) (pw_and1 (PW.pt (pw_or (pt_not (pt_val (pe_callB (c_isE (K := K) rfl) (by rfl) T.b_isinstance (by decide +kernel) (pa_cons (pv 7) (pa_cons (pe_glob (v := .ref (He.ga K "BadPlan")) (by rfl) T.g_BadPlan rfl) pa_nil))))) (pw_or1 (pt_cmpR (neDK (K := K) rfl hr.units) (pe_lst (pa_cons (pe_xv xf_BadPlan nf_BadPlan (pv 7)) pa_nil)) (pv 5) (nomark _))))))))))) (pss_one (ps_ret pe_bl)) pss_nil)))
      (pss_one (ps_ret (pe_or (pe_cmpR (neNilK (K := K) rfl hr.units) (pv 5) (pe_lst pa_nil) (nomark _)) (pe_one (pe_cmpR op_eq (pe_callB (c_reprQ (K := K) rfl sysK hG hr) (by rfl) T.b_repr (by decide +kernel) (pa_cons (pe_fn d__law_shown (hr.mono (by decide)) pass0 (pa_cons (pe_mk mk_Plan (hr.mono (by decide)) pass0 (pa_cons (pe_ix (ix_listK (K := K) rfl) (pv 2) pe_int (fun _ _ => rfl)) (pa_cons (pe_ix (ix_listK (K := K) rfl) (pv 2) pe_int (fun _ _ => rfl)) (pa_cons (pe_ix (ix_listK (K := K) rfl) (pv 2) pe_int (fun _ _ => rfl)) (pa_cons (pe_ix (ix_listK (K := K) rfl) (pv 2) pe_int (fun _ _ => rfl)) pa_nil))))) pa_nil)) pa_nil)) (pe_callB (c_reprQ (K := K) rfl sysK hG hr) (by rfl) T.b_repr (by decide +kernel) (pa_cons (pe_callTy (c_tupleK (K := K) rfl) (by rfl) T.b_tuple (by decide +kernel) (pa_cons (pv 2) pa_nil)) pa_nil)) (nomark _))))))))))))), ?_⟩)
  obtain ⟨st, l, c0, t, cs, n, M, rfl, hn, D, ok, hm, ht, hT, k⟩ := h
  walk_at "rd"
  refine r_listT (SqT.of ht) fun sm H1 nsm e1 hsm => ?_
  have D1 := D.keep e1
  walk_at "rd"
  refine u_take D1 (by omega) (by decide) (by decide) fun a1 H2 a1l a1h D2 k2 => ?_
  have nst : sm ≠ st := D.nst nsm
  have nl : sm ≠ l := D.nl nsm
  have hsm2 := k2 _ _ hsm nst nl
  have kk2 : Kp st l H H2 := (Kp.of e1).trans k2
  walk_at "rd"
  have r0 := ok.r0
  refine r_kForR1 (fun i σ' H' => ∃ (x3 x4 : Option V) (vs : List V) (ds : List PyData), σ' = [some (.ref st), some (.ref t), some (.ref sm), x3, x4, none, none, none] ∧ DS st l c0 cs (n + 1 + 2 * (i : Int)) H' ∧ Kp st l H H' ∧ H' sm = some (.lst vs) ∧ vs.length = 4 ∧ OdAll (awayL st l sm) H' vs ds ∧ ∀ d ∈ ds, Sml d 200 3) (by omega)
    ⟨_, _, _, [.int M.r, .int M.s, .int M.m, .bool M.b], rfl, D2.mono (by omega), kk2, hsm2, rfl, .cons (.int _) (.cons (.int _) (.cons (.int _) (.cons (.bl _) .nil))), ?_⟩ ?_ ?_
  · intro d hd
    simp only [List.mem_cons, List.not_mem_nil, or_false] at hd
    rcases hd with rfl | rfl | rfl | rfl
    · exact int_smlQ (by have := ok.r0; omega) (by have := ok.r1; omega)
    · exact int_smlQ (by have := ok.s0; omega) (by have := ok.s1; omega)
    · exact int_smlQ (by have := ok.m0; omega) (by have := ok.m1; omega)
    · exact bool_smlQ _
  · rintro i σ' H3 hi ⟨x3, x4, vs, ds, rfl, D3, kk3, hsm3, hv4, hod, hsml⟩
    walk_at "rd"
    refine r_kTup fun t1 H4 nt1 e4 ht1 => ?_
    walk_at "rd"
    refine r_kLst fun l1 H5 nl1 e5 hl1 => ?_
    walk_at "rd"
    refine r_kLst fun lo H6 nlo e6 hlo => ?_
    walk_at "rd"
    have D4 := D3.keep e4
    have D5 := D4.keep e5
    have n4 : sm ≠ t1 := fun z => by rw [← z, hsm3] at nt1; cases nt1
    have n5 : sm ≠ l1 := fun z => by rw [← z, e4 _ _ hsm3] at nl1; cases nl1
    refine u_pick D5 (by omega) nlo e6 hlo (by simp) (by simp) fun ip v H7 hv D7 k7 => ?_
    have hall : OdAll (awayL st l sm) H5 [.non, .bl true, .bl false, .int (-1), .int 0, .int 1, .int 1000, .int 1001, .int 1000000, .int 1000001, .str "1", .ref t1, .ref l1, .int 1000000000000000000000000000000] oddQ :=
      .cons .non (.cons (.bl _) (.cons (.bl _) (.cons (.int _) (.cons (.int _) (.cons (.int _) (.cons (.int _) (.cons (.int _) (.cons (.int _) (.cons (.int _) (.cons (.str _) (.cons (.tup ⟨⟨D3.nst nt1, D3.nl nt1⟩, n4.symm⟩ (e5 _ _ ht1) .nil) (.cons (.lst ⟨⟨D4.nst nl1, D4.nl nl1⟩, n5.symm⟩ hl1 .nil) (.cons (.int _) .nil)))))))))))))
    obtain ⟨d, hdq, hdo⟩ := odAll_get hall (i := ip) (v := v) hv
    walk_at "rd"
    refine u_take D7 (by omega) (by decide) (by decide) fun ia H8 ia0 ia1 D8 k8 => ?_
    walk_at "rd"
    have kk58 : Kp st l H5 H8 := k7.trans k8
    have kk38 : Kp st l H3 H8 := (Kp.of (e4.trans e5)).trans kk58
    have hsm8 := kk38 _ _ hsm3 nst nl
    refine r_kSetL hsm8 ia0 (by rw [hv4]; exact ia1) fun H9 b9 h9 => ?_
    walk_at "rd"
    refine ⟨_, _, _, ds.set ia.toNat d, rfl, (D8.butNe nst nl (D.nc nsm) b9).mono (by omega), fun b o hb q1 q2 => b9 _ _ (kk38 _ _ (kk3 _ _ hb q1 q2) q1 q2) (fun z => by rw [z, nsm] at hb; cases hb), h9, by rw [List.length_set]; exact hv4, odAll_set ((hod.keep (.kpL kk38)).keep (.butL b9)) ((hdo.keep (.kpL kk58)).keep (.butL b9)) _, fun y hy => ?_⟩
    rcases List.mem_or_eq_of_mem_set hy with hy | rfl
    · exact hsml y hy
    · exact odd_smlQ hdq
  · rintro σ' H3 ⟨x3, x4, vs, ds, rfl, D3, kk3, hsm3, hv4, hod, hsml⟩
    obtain ⟨v1, v2, v3, v4, d1, d2, d3, d4, rfl, rfl, o1, o2, o3, o4⟩ := odAll_four hod hv4
    walk_at "rd"
    refine ⟨awayL st l sm, sm, v1, v2, v3, v4, d1, d2, d3, d4, rfl, hsm3, o1, o2, o3, o4, fun dl H4 ndl e4 hdl => ?_⟩
    have t3 : Tabs [(P0, LQf)] H3 := fun q hq => by
      rw [List.mem_singleton.mp hq]
      exact (hT _ (List.mem_singleton.mpr rfl)).kpQ D kk3
    have t4 : Tabs [(P0, LQf)] H4 := Tabs.same t3 e4
    walk_at "rd"
    refine r_caught t4 fun G1 x1 tg1 => ?_
    walk_at "rd"
    have hs1 := x1 _ _ (e4 _ _ hsm3) (fun ps z => by cases z)
    refine r_ixL (SqL.of hs1) (at_get (n := 0) rfl rfl) ?_
    walk_at "rd"
    refine r_ixL (SqL.of hs1) (at_get (n := 1) rfl rfl) ?_
    walk_at "rd"
    refine r_ixL (SqL.of hs1) (at_get (n := 2) rfl rfl) ?_
    walk_at "rd"
    refine r_ixL (SqL.of hs1) (at_get (n := 3) rfl rfl) ?_
    walk_at "rd"
    have p1 := (o1.keep (.same e4)).keep (.ext x1)
    have p2 := (o2.keep (.same e4)).keep (.ext x1)
    have p3 := (o3.keep (.same e4)).keep (.ext x1)
    have p4 := (o4.keep (.same e4)).keep (.ext x1)
    refine plan_caught ef p1 p2 p3 p4 (fun _ _ h => h) fun ev1 G2 eg2 vv1 => ?_
    walk_at "rd"
    refine r_kLst fun le G3 nle eg3 hle => ?_
    walk_at "rd"
    have tg3 := Tabs.same (Tabs.same tg1 eg2) eg3
    refine r_caught tg3 fun G4 x4' tg4 => ?_
    walk_at "rd"
    have x14 : ExtN G1 G4 := (ExtN.of_same (eg2.trans eg3)).trans x4'
    have hs4 := x14 _ _ hs1 (fun ps z => by cases z)
    refine r_ixL (SqL.of hs4) (at_get (n := 3) rfl rfl) ?_
    walk_at "rd"
    refine r_ixL (SqL.of hs4) (at_get (n := 2) rfl rfl) ?_
    walk_at "rd"
    refine r_ixL (SqL.of hs4) (at_get (n := 0) rfl rfl) ?_
    walk_at "rd"
    refine r_ixL (SqL.of hs4) (at_get (n := 1) rfl rfl) ?_
    walk_at "rd"
    refine plan_caught ef (p1.keep (.ext x14)) (p2.keep (.ext x14)) (p3.keep (.ext x14)) (p4.keep (.ext x14)) (fun _ _ h => h) fun ev2 G5 eg5 vv2 => ?_
    walk_at "rd"
    have hle5 := eg5 _ _ (x4' _ _ hle (fun ps z => by cases z))
    refine r_append hle5 (by simp) fun G6 b6 h6 => ?_
    walk_at "rd"
    have vv1' : ErV K G6 ev1 (plnW (plnP d1 d2 d3 d4)) := ErV.butL (((vv1.same eg3).keep x4').same eg5) hle5 b6
    have vv2' : ErV K G6 ev2 (plnW (plnP d1 d2 d3 d4)) := ErV.butL vv2 hle5 b6
    have nle1 : G1 le = none := eg2.free nle
    have x16 : ExtN G1 G6 := ExtN.mutQ nle1 (ExtN.same x14 eg5) b6
    have tg6 : Tabs [(P0, LQf)] G6 := Tabs.but (Tabs.same tg4 eg5) hle5 (fun ps z => by cases z) (fun _ _ z => by unfold CodeO at z; cases z) b6
    have hdl6 := x16 _ _ (x1 _ _ hdl (fun ps z => by cases z)) (fun ps z => by cases z)
    refine r_kForL (fun i σ' H' => ∃ x7, σ' = [some (.ref st), some (.ref t), some (.ref sm), x3, x4, some (.ref dl), some (.ref le), x7] ∧ Same G6 H') (SqL.of h6) ⟨_, rfl, Same.refl _⟩ (fun i σ' H' ⟨_, _, e⟩ => SqL.of (e _ _ h6)) ?_ ?_
    · rintro i ev σ' H' hi ⟨x7, rfl, e⟩
      have vv : ErV K H' ev (plnW (plnP d1 d2 d3 d4)) := by
        have hm := List.mem_of_getElem? hi
        simp only [List.mem_append, List.mem_cons, List.not_mem_nil, or_false, List.cons_append, List.nil_append] at hm
        rcases hm with rfl | rfl
        · exact vv1'.same e
        · exact vv2'.same e
      walk_at "rd"
      cases hz : plnP d1 d2 d3 d4 with
      | none =>
        rw [hz] at vv hdl6
        cases vv with
        | ok =>
        walk_at "rd"
        refine r_kLst fun ln G7 nln e7 hln => ?_
        refine r_eqNilA (xs := []) (SqL.of ((e.trans e7) _ _ hdl6)) (SqL.of hln) ?_
        rw [decide_eq_true rfl]
        walk_at "rd"
        refine w_no rfl ?_
        walk_at "rd"
        refine r_kLst fun lm G8 nlm e8 hlm => ?_
        refine r_neNilA (xs := []) (SqL.of (((e.trans e7).trans e8) _ _ hdl6)) (SqL.of hlm) ?_
        rw [decide_eq_true rfl]
        walk_at "rd"
        exact ⟨_, rfl, (e.trans e7).trans e8⟩
      | some z =>
        rw [hz] at vv hdl6
        obtain ⟨ea, rfl⟩ := ErV.at_ref vv
        walk_at "rd"
        refine r_kLst fun ln G7 nln e7 hln => ?_
        have vv7 := vv.same e7
        have hd7 := (e.trans e7) _ _ hdl6
        refine r_eqNilA (xs := [.str z]) (SqL.of hd7) (SqL.of hln) ?_
        rw [decide_eq_false (by simp)]
        walk_at "rd"
        refine w_no rfl ?_
        walk_at "rd"
        refine r_kLst fun lm G8 nlm e8 hlm => ?_
        have vv8 := vv7.same e8
        have hd8 := e8 _ _ hd7
        refine r_neNilA (xs := [.str z]) (SqL.of hd8) (SqL.of hlm) ?_
        rw [decide_eq_false (by simp)]
        walk_at "rd"
        refine er_isG ef vv8 (by decide) (by decide) ?_
        walk_at "rd"
        refine w_ndec (fun h => absurd rfl h) (fun _ => ?_)
        walk_at "rd"
        cases vv8 with
        | f hx hxd =>
        refine r_kXf hx hxd rfl ?_
        walk_at "rd"
        refine r_kLst fun lq G9 nlq e9 hlq => ?_
        walk_at "rd"
        refine r_neD_eq (d := .list [.str z]) (.lst (SqL.of hlq) (.cons (.str _) .nil)) (.lst (SqL.of (e9 _ _ hd8)) (.cons (.str _) .nil)) (word_shaped hz) ?_
        walk_at "rd"
        exact ⟨_, rfl, ((e.trans e7).trans e8).trans e9⟩
    · rintro σ' H' ⟨x7, rfl, e⟩
      walk_at "rd"
      refine r_kLst fun ln G7 nln e7 hln => ?_
      have e17 := ExtN.same x16 (e.trans e7)
      have x37 : ExtN H3 G7 := (ExtN.same (ExtN.of_same e4 |>.trans x1) (Same.refl _)).trans e17
      have D7 := (D3.keepN x37).mono (B' := n + 20) (by omega)
      have kn7 : KpN st l H G7 := KpN.of kk3 (fun b o h _ _ t => x37 _ _ h t)
      have t7 : Tabs [(P0, LQf)] G7 := Tabs.same tg6 (e.trans e7)
      cases hz : plnP d1 d2 d3 d4 with
      | some z =>
        rw [hz] at hdl6
        refine r_neNilA (xs := [.str z]) (SqL.of ((e.trans e7) _ _ hdl6)) (SqL.of hln) ?_
        rw [decide_eq_false (by simp)]
        walk_at "rd"
        exact k _ D7 kn7 t7
      | none =>
        rw [hz] at hdl6
        refine r_neNilA (xs := []) (SqL.of ((e.trans e7) _ _ hdl6)) (SqL.of hln) ?_
        rw [decide_eq_true rfl]
        walk_at "rd"
        obtain ⟨N, okN, rfl, rfl, rfl, rfl⟩ := plnP_ok hz o1 o2 o3 o4
        have hs7 := e17 _ _ hs1 (fun ps z => by cases z)
        refine r_ixL (SqL.of hs7) (at_get (n := 0) rfl rfl) ?_
        walk_at "rd"
        refine r_ixL (SqL.of hs7) (at_get (n := 1) rfl rfl) ?_
        walk_at "rd"
        refine r_ixL (SqL.of hs7) (at_get (n := 2) rfl rfl) ?_
        walk_at "rd"
        refine r_ixL (SqL.of hs7) (at_get (n := 3) rfl rfl) ?_
        walk_at "rd"
        refine ⟨N, rfl, okN, fun pn G8 npn e8 hpn => ?_⟩
        walk_at "rd"
        refine ⟨pn, N, rfl, hpn, fun u G9 nu e9 hu => ?_⟩
        obtain ⟨y1, y2, y3⟩ := plan_sh okN
        walk_at "rd"
        refine r_reprQ (A := fun _ => True) (.tup trivial hu (.cons (.int _) (.cons (.int _) (.cons (.int _) (.cons (.bl _) .nil))))) y1 y2 y3 ?_
        walk_at "rd"
        refine r_tupQ (e9 _ _ (e8 _ _ hs7)) fun u2 G10 e10 hu2 => ?_
        walk_at "rd"
        refine r_reprQ (A := fun _ => True) (.tup trivial hu2 (.cons (.int _) (.cons (.int _) (.cons (.int _) (.cons (.bl _) .nil))))) y1 y2 y3 ?_
        walk_at "rd"
        rw [decide_eq_true rfl]
        have e710 := (e8.trans e9).trans e10
        exact k _ (D7.keep e710) (KpN.trans kn7 (fun b o h _ _ _ => e710 _ _ h)) (Tabs.same t7 e710)
end
end Wp
set_option Elab.async false
set_option linter.all false
set_option maxRecDepth 100000
set_option maxHeartbeats 4000000
namespace Wp
open PySem PySem.Spec PyProof.Rows L2
abbrev s__law_sum_drawn : Stmt := topS 49
local macro_rules | `(tactic| walk_at "val") => `(tactic| assumption)
local macro_rules | `(tactic| walk_at "rd1") => `(tactic| first
  | with_reducible refine r_seq ?_ | with_reducible refine r_next ?_ | with_reducible refine r_if ?_ | with_reducible refine r_asg ?_ | with_reducible refine r_gname ?_
  | with_reducible refine r_ret ?_ | with_reducible refine r_retN ?_ | with_reducible refine r_drop ?_ | with_reducible refine r_par ?_ | with_reducible refine r_kPar ?_
  | ((with_reducible refine' r_var ?hv ?_); (case hv => exact rfl)) | with_reducible refine r_c ?_ | with_reducible refine r_nil ?_ | with_reducible refine r_cons ?_
  | with_reducible refine r_fn ?_ | with_reducible refine r_cb ?_ | with_reducible refine r_op ?_ | with_reducible refine r_un ?_ | with_reducible refine r_I0 ?_
  | with_reducible refine r_pow5 ?_ | with_reducible refine r_pow6 ?_ | with_reducible refine r_pow7 ?_ | with_reducible refine r_pow9 ?_ | with_reducible refine r_pow18 ?_ | with_reducible refine r_pow20 ?_ | with_reducible refine r_pow30 ?_
  | with_reducible refine r_isN_non ?_ | with_reducible refine r_isN_ref ?_ | with_reducible refine r_isN_int ?_ | with_reducible refine r_isN_str ?_ | with_reducible refine r_isN_bl ?_ | with_reducible refine r_notN_non ?_ | with_reducible refine r_notN_ref ?_ | with_reducible refine r_notN_int ?_ | with_reducible refine r_notN_str ?_ | with_reducible refine r_notN_bl ?_
  | ((with_reducible refine r_I ?hc ?_); (case hc => walk_at "side")) | with_reducible refine r_U ?_
  | with_reducible refine r_eqI ?_ | with_reducible refine r_neI ?_ | with_reducible refine r_eqS ?_ | with_reducible refine r_neS ?_ | with_reducible refine r_eqB ?_ | with_reducible refine r_neB ?_
  | with_reducible refine r_chain ?_ | with_reducible refine r_test ?_ | with_reducible refine r_tB ?_ | with_reducible refine r_kTest ?_ | with_reducible refine r_not ?_
  | with_reducible refine r_and ?_ | with_reducible refine r_or ?_ | with_reducible refine r_tif ?_ | with_reducible refine r_andV ?_ | with_reducible refine r_orV ?_ | with_reducible refine r_notV ?_
  | with_reducible refine r_kAndV ?_ | with_reducible refine r_kOrV ?_ | with_reducible refine r_kNotV ?_
  | with_reducible refine w_T ?_ | with_reducible refine w_F ?_ | with_reducible refine w_NT ?_ | with_reducible refine w_NF ?_
  | with_reducible refine r_tup ?_ | with_reducible refine r_lst ?_ | with_reducible refine r_fld ?_ | with_reducible refine r_prop ?_ | ((with_reducible refine' r_aug ?h1 ?_); (case h1 => exact rfl)) | with_reducible refine r_ipI ?_ | with_reducible refine r_dget ?_ | with_reducible refine r_dput ?_ | with_reducible refine r_bm ?_
  | ((with_reducible refine' r_kDGetS ?h1 ?h2 ?_); (case h1 => assumption); (case h2 => walk_at "val"))
  | ((with_reducible refine' r_kBML ?h1 ?_); (case h1 => assumption))
  | with_reducible refine r_forL ?_ | with_reducible refine r_forR1 ?_ | with_reducible refine r_forR2 ?_ | with_reducible refine r_forT ?_ | with_reducible refine r_lcL ?_ | with_reducible refine r_lcR1 ?_
  | ((with_reducible refine r_kLcG ?hw ?_); (case hw => exact rfl)) | with_reducible refine r_kLcT ?_ | with_reducible refine r_yes ?_
  | with_reducible refine r_pnil ?_ | with_reducible refine r_pcons ?_
  | with_reducible refine r_fnK ?_ | ((with_reducible refine r_kFnK ?hl ?_); (case hl => exact rfl))
  | with_reducible refine r_isi_ii ?_ | with_reducible refine r_isi_ib ?_ | with_reducible refine r_isi_bi ?_ | with_reducible refine r_isi_bb ?_ | with_reducible refine r_isi_ss ?_ | with_reducible refine r_isi_is ?_ | with_reducible refine r_isi_it ?_
  | ((with_reducible refine' r_isi_tt ?h1 ?_); (case h1 => assumption))
  | with_reducible refine r_sfld ?_ | with_reducible refine r_gnil ?_ | with_reducible refine r_gcons ?_
  | ((with_reducible refine' r_gtup ?h1 ?h2 ?_); (case h1 => exact SqT.of (by assumption)); (case h2 => exact rfl))
  | with_reducible refine r_sl ?_ | with_reducible refine r_noPart ?_ | with_reducible refine r_part ?_ | with_reducible refine r_kPart ?_ | with_reducible refine r_m1 ?_ | with_reducible refine r_kM1 ?_ | with_reducible refine r_forS ?_ | with_reducible refine r_lcS ?_ | with_reducible refine r_lcTu ?_ | with_reducible refine r_lcK ?_ | with_reducible refine r_dcL ?_ | with_reducible refine r_dcK ?_ | with_reducible refine r_lc2L ?_ | with_reducible refine r_kLc2TL ?_ | with_reducible refine r_dcEn ?_ | with_reducible refine r_gslc ?_ | with_reducible refine r_lcEn ?_ | with_reducible refine r_lcZip ?_ | with_reducible refine r_lcEl ?_ | with_reducible refine r_lcR2 ?_ | with_reducible refine r_rg1 ?_ | with_reducible refine r_rg2 ?_ | with_reducible refine r_forET ?_ | with_reducible refine r_lenD ?_
  | ((with_reducible refine r_kDcG ?hw ?_); (case hw => exact rfl)) | with_reducible refine r_kDcT ?_
  | with_reducible refine r_fldaug ?_ | with_reducible refine r_daug ?_ | with_reducible refine r_rAdd ?_ | with_reducible refine r_rSub ?_ | with_reducible refine r_ddel ?_ | with_reducible refine r_bmF ?_ | with_reducible refine r_dget2 ?_ | with_reducible refine r_listItems ?_ | with_reducible refine r_bm0 ?_ | with_reducible refine r_lc2E ?_ | ((with_reducible refine r_kLc2G ?hw ?_); (case hw => exact rfl)) | with_reducible refine r_kLc2T ?_ | with_reducible refine r_forE ?_ | with_reducible refine r_orT ?_ | with_reducible refine r_din ?_ | with_reducible refine r_augS ?_ | with_reducible refine r_dnotin ?_ | with_reducible refine r_lcIT ?_ | with_reducible refine r_cont ?_ | with_reducible refine r_meth ?_ | with_reducible refine r_frz ?_ | with_reducible refine r_par3 ?_ | with_reducible refine r_kPar3 ?_ | with_reducible refine r_dz ?_ | with_reducible refine r_revL ?_ | with_reducible refine r_revT ?_ | with_reducible refine r_star ?_ | with_reducible refine r_int1 ?_ | with_reducible refine r_int1b ?_ | with_reducible refine r_min2 ?_ | with_reducible refine r_max2 ?_ | with_reducible refine r_gsub ?_ | with_reducible refine r_err ?_ | with_reducible refine r_errT ?_ | with_reducible refine r_xv ?_)
local macro_rules | `(tactic| walk_at "rd") => `(tactic| repeat walk_at "rd1")
local macro_rules | `(tactic| walk_at "side") => `(tactic| first | assumption | exact Or.inr ⟨by decide, by decide⟩ | exact Or.inl ⟨by decide, by decide⟩ | (constructor <;> omega) | omega | decide | (refine Or.inl ⟨?_, ?_⟩ <;> omega) | (refine Or.inr ⟨?_, ?_⟩ <;> omega) | (refine ⟨?_, ?_, ?_⟩ <;> first | decide | omega))
local macro_rules | `(tactic| walk_at "anyi") => `(tactic| repeat (first | exact trivial | refine ⟨⟨_, rfl⟩, ?_⟩))
def sp_sum_drawn : Sp := fun vs H Q _ => ∃ (st l c t : Addr) (M : Pl) (cs : List Int) (B : Int), vs = [.ref st, .ref t] ∧ M.Ok ∧ PartsAt H t M ∧ B ≤ 17592186044416 ∧ DS st l c cs B H ∧
  ∀ (x : Int) (H' : Hp), 0 ≤ x → x ≤ 20000 → DS st l c cs (B + 3) H' → Kp st l H H' → Q (.int x) H'
section
variable {P : Program} {w : World} {K : PySem.W.Frag} {mg : Str → Option Value} {base : Heap}
theorem ok__law_sum_drawn {f : Addr} {fd : FuncData} (T : Tx K mg) (F : FnP K "_law_sum_drawn" s__law_sum_drawn f fd)
    (d__law_take : Dn P w K mg base CX0 2 "_law_take" ["_law_state", "_law_size"] sp_take) (d__law_pick : Dn P w K mg base CX0 3 "_law_pick" ["_law_state", "_law_some"] sp_pick) :
    FnOk P w K mg base CX0 4 f fd ["_law_state", "_law_parts_here"] sp_sum_drawn := by
  have sc : FnScope ["_law_state", "_law_parts_here", "_law_near", "_law_some"] ["_law_state", "_law_parts_here"] (defScope s__law_sum_drawn) := ⟨rfl, rfl, rfl, by decide +kernel, rfl, by decide +kernel, by decide +kernel⟩
  refine F.ok sc (by rintro vs H Q E ⟨_, _, _, _, _, _, _, rfl, _⟩; rfl) (fun cdv A outer s H vs Q E hr h => ⟨_, PSs.nox ((pss_cons (ps_set (i := 2) sc.nd rfl (by first | exact Or.inl rfl | exact Or.inr rfl) (pe_op op_fdiv (pe_op op_mul pe_int (pe_ix (ix_tupK (K := K) rfl) (pv 1) pe_int (fun _ _ => rfl))) (pe_callB (c_max2 rfl) (by rfl) T.b_max (by decide +kernel) (pa_cons pe_int (pa_cons (pe_ix (ix_tupK (K := K) rfl) (pv 1) pe_int (fun _ _ => rfl)) pa_nil)))))
      (pss_cons (ps_set (i := 3) sc.nd rfl (by first | exact Or.inl rfl | exact Or.inr rfl) (pe_lst (pa_cons pe_int (pa_cons pe_int (pa_cons pe_int (pa_cons (pe_ix (ix_tupK (K := K) rfl) (pv 1) pe_int (fun _ _ => rfl)) (pa_cons (pe_op op_add (pe_ix (ix_tupK (K := K) rfl) (pv 1) pe_int (fun _ _ => rfl)) pe_int) (pa_cons (pe_op op_sub (pv 2) pe_int) (pa_cons (pv 2) (pa_cons (pe_op op_add (pv 2) pe_int) (pa_cons (pe_fn d__law_take (hr.mono (by decide)) pass0 (pa_cons (pv 0) (pa_cons pe_int pa_nil))) (pa_cons (pe_fn d__law_take (hr.mono (by decide)) pass0 (pa_cons (pv 0) (pa_cons pe_int pa_nil))) pa_nil))))))))))))
      (pss_one (ps_ret (pe_callB (c_max2 rfl) (by rfl) T.b_max (by decide +kernel) (pa_cons pe_int (pa_cons (pe_callB (c_min2 rfl) (by rfl) T.b_min (by decide +kernel) (pa_cons pe_int (pa_cons (pe_fn d__law_pick (hr.mono (by decide)) pass0 (pa_cons (pv 0) (pa_cons (pv 3) pa_nil))) pa_nil))) pa_nil)))))))), ?_⟩)
  obtain ⟨st, l, c, t, M, cs, B, rfl, ok, ht, hB, D, k⟩ := h
  have b1 := ok.r0
  have b2 := ok.r1
  have b3 := ok.m0
  have b4 := ok.m1
  have hs : ∀ (i : Nat) (v : V), [V.int M.r, V.int M.s, V.int M.m, V.bl M.b][i]? = some v → ∀ Q' : VK, Q' v H → rIxT K (.ref t) (.int (i : Int)) H Q' := fun i v hv Q' q => r_ixT (SqT.of ht) (atI_nat hv) q
  walk_at "rd"
  refine hs 2 _ rfl _ ?_
  walk_at "rd"
  refine hs 0 _ rfl _ ?_
  walk_at "rd"
  refine hs 2 _ rfl _ ?_
  walk_at "rd"
  refine hs 2 _ rfl _ ?_
  walk_at "rd"
  refine u_take D (by omega) (by decide) (by decide) fun a1 H1 a1l a1h D1 k1 => ?_
  walk_at "rd"
  refine u_take D1 (by omega) (by decide) (by decide) fun a2 H2 a2l a2h D2 k2 => ?_
  walk_at "rd"
  refine r_kLst fun p1 H3 np1 e3 hp1 => ?_
  walk_at "rd"
  refine u_pick D2 (by omega) np1 e3 hp1 (by simp) (by simp) fun i x H4 hx D4 k4 => ?_
  obtain ⟨x, rfl⟩ := AnyI.get (by walk_at "anyi") hx
  walk_at "rd"
  exact k _ H4 (by omega) (by omega) (D4.mono (by omega)) ((k1.trans k2).trans k4)
end
end Wp
set_option Elab.async false
set_option linter.all false
set_option maxRecDepth 100000
set_option maxHeartbeats 4000000
/-! Books made with fewer arguments; tuple displays whose methods can be called. -/
namespace Wp
open PySem PySem.Spec PyProof.Rows L2
def sp_Book3 (C : Addr) : Sp := fun vs H Q _ => ∃ (a kd : Addr) (B : Bk) (kvs : List (Key × V)), vs = [.ref a, .int B.due, .ref kd] ∧ B.mem = 0 ∧ B.beg = "day" ∧ B.laid = none ∧ B.Ok ∧
  LsAt H a B.ls ∧ H kd = some (.dK kvs) ∧ KAt H kvs B.ks ∧ ∀ p H' ks, H p = none → Same H H' → ks.Perm B.ks → BookAt C H' p { B with ks := ks } → Q (.ref p) H'
def sp_Book4 (C : Addr) : Sp := fun vs H Q _ => ∃ (a kd : Addr) (B : Bk) (kvs : List (Key × V)), vs = [.ref a, .int B.due, .ref kd, .int B.mem] ∧ B.beg = "day" ∧ B.laid = none ∧ B.Ok ∧
  LsAt H a B.ls ∧ H kd = some (.dK kvs) ∧ KAt H kvs B.ks ∧ ∀ p H' ks, H p = none → Same H H' → ks.Perm B.ks → BookAt C H' p { B with ks := ks } → Q (.ref p) H'
def sp_Book5 (C : Addr) : Sp := fun vs H Q _ => ∃ (a kd : Addr) (B : Bk) (kvs : List (Key × V)), vs = [.ref a, .int B.due, .ref kd, .int B.mem, .str B.beg] ∧ B.laid = none ∧ B.Ok ∧
  LsAt H a B.ls ∧ H kd = some (.dK kvs) ∧ KAt H kvs B.ks ∧ ∀ p H' ks, H p = none → Same H H' → ks.Perm B.ks → BookAt C H' p { B with ks := ks } → Q (.ref p) H'
theorem imp_BookX {C : Addr} {dvs : List V} {vs : List V} {H : Hp} {Q : VK} {E : XK} {a kd : Addr} {B : Bk} {lv : V} {kvs : List (Key × V)} (ev : vs ++ dvs = [.ref a, .int B.due, .ref kd, .int B.mem, .str B.beg, lv]) (ok : B.Ok) (lo : B.LaidOk) (hl : LaidV H B.laid lv) (ha : LsAt H a B.ls) (hk : H kd = some (.dK kvs)) (hK : KAt H kvs B.ks)
    (k : ∀ p H' ks, H p = none → Same H H' → ks.Perm B.ks → BookAt C H' p { B with ks := ks } → Q (.ref p) H') : spMk C (sp_Book_init C) dvs vs H Q E := by
  intro x dx nx nd ne
  have up : ∀ c o, H c = some o → upd (upd H dx (.own x)) x (.ins C dx []) c = some o := fun c o hc => by
    rw [upd_ne (ne_of_none hc nx), upd_ne (ne_of_none hc nd)]
    exact hc
  refine ⟨x, dx, a, kd, B, lv, kvs, by rw [ev], ok, lo, hl.keep fun t o xs ht => up _ _ ht, upd_same, ha.keep up, up _ _ hk, hK.keepT up, fun H' ks b p1 p2 hB => ⟨rfl, k x H' ks nx (fun c o hc => ?_) p1 hB⟩⟩
  exact b _ _ (up _ _ hc) (ne_of_none hc nx)
theorem laid_none {B : Bk} (h : B.laid = none) : B.LaidOk := fun ns e => by rw [h] at e; cases e
theorem imp_Book3 {C : Addr} (vs : List V) (H : Hp) (Q : VK) (E : XK) (h : sp_Book3 C vs H Q E) : spMk C (sp_Book_init C) [.int 0, .str "day", .non] vs H Q E := by
  obtain ⟨a, kd, B, kvs, rfl, e1, e2, e3, ok, ha, hk, hK, k⟩ := h
  exact imp_BookX (lv := .non) (by rw [e1, e2]; rfl) ok (laid_none e3) (by rw [e3]; rfl) ha hk hK k
theorem imp_Book4 {C : Addr} (vs : List V) (H : Hp) (Q : VK) (E : XK) (h : sp_Book4 C vs H Q E) : spMk C (sp_Book_init C) [.str "day", .non] vs H Q E := by
  obtain ⟨a, kd, B, kvs, rfl, e2, e3, ok, ha, hk, hK, k⟩ := h
  exact imp_BookX (lv := .non) (by rw [e2]; rfl) ok (laid_none e3) (by rw [e3]; rfl) ha hk hK k
theorem imp_Book5 {C : Addr} (vs : List V) (H : Hp) (Q : VK) (E : XK) (h : sp_Book5 C vs H Q E) : spMk C (sp_Book_init C) [.non] vs H Q E := by
  obtain ⟨a, kd, B, kvs, rfl, e3, ok, ha, hk, hK, k⟩ := h
  exact imp_BookX (lv := .non) rfl ok (laid_none e3) (by rw [e3]; rfl) ha hk hK k
def kTupF (Q : VK) : List V → Hp → Prop := fun xs H1 => xs.length ≤ sizeLine ∧ ∀ (p : Addr) (o : Obj), H1 p = none → o.dict = none → Q (.ref p) (upd H1 p (.frz o (.tup xs)))
def tTupF (t : TA) : TE := fun σ H Q => t σ H (kTupF Q)
theorem pe_tupF {X : Cx} {es : List Expr} {t : TA} {x1 : Nat} {pos : Pos} (h : PA X es t) : PE X (.Tuple es x1 pos) (tTupF t) := by
  refine ⟨fun pins s σ H Q I hq => ?_⟩
  refine wpAny_Tuple_spliced (thn (h.run pos pins s σ H _ I hq) fun us s1 ⟨xs, H1, I1, r, z, q⟩ => ⟨by rw [← r.length]; exact z, ?_⟩)
  have hf : H1 s1.heap.objs.size = none := I1.hok.fresh (Nat.le_refl _)
  have I2 : Inv X pins σ (upd H1 s1.heap.objs.size (.frz { cls := .type "tuple", data := .seq us.toArray } (.tup xs))) { s1 with heap := s1.heap.push { cls := .type "tuple", data := .seq us.toArray } } :=
    I1.laid (t' := s1.toks) (fun b o e => Heap.get?_push_of_some _ e) (Nat.le_refl _) (show ObjOk X.prog X.w _ _ _ (.frz _ (.tup xs)) from ⟨Heap.get?_push_size _ rfl, z, us, r, IsTup.new _ _⟩)
  exact ⟨.ref s1.heap.objs.size, _, I2, rfl, q _ _ hf rfl⟩
theorem r_tupFz {t : TA} {σ : L2.St} {H : Hp} {Q : VK} (q : t σ H (kTupF Q)) : tTupF t σ H Q := q
theorem r_kTupF {xs : List V} {H : Hp} {Q : VK} (hz : xs.length ≤ 1000000) (k : ∀ t H', H t = none → Same H H' → FrzT H' t xs → Q (.ref t) H') : kTupF Q xs H :=
  ⟨sz5 hz, fun t o ht ho => k t _ ht (Same.new ht) ⟨o, ho, upd_same⟩⟩
end Wp
set_option Elab.async false
set_option linter.all false
set_option maxRecDepth 100000
set_option maxHeartbeats 4000000
/-! More of the draws; the law's own promise. -/
namespace Wp
open PySem PySem.Spec PyProof.Rows L2
section
variable {st l c p : Addr} {cs : List Int} {B : Int} {H H0 H' : Hp}
theorem PlanAt.kp2 {C : Addr} {M : Pl} (h : PlanAt C H p M) (k : Kp st l H H') (D : DS st l c cs B H) : PlanAt C H' p M := by
  obtain ⟨_, _, _, _, _, hd⟩ := D.d
  obtain ⟨_, _, hl⟩ := D.lg
  exact h.kp k hd hl
end
end Wp
set_option Elab.async false
set_option linter.all false
set_option maxRecDepth 100000
set_option maxHeartbeats 4000000
/-! k72: the law. -/
namespace Wp
open PySem PySem.Spec PyProof.Rows L2 LamX
abbrev s_law : Stmt := topS 51
local macro_rules | `(tactic| walk_at "val") => `(tactic| assumption)
local macro_rules | `(tactic| walk_at "rd1") => `(tactic| first
  | with_reducible refine r_seq ?_ | with_reducible refine r_next ?_ | with_reducible refine r_if ?_ | with_reducible refine r_asg ?_ | with_reducible refine r_gname ?_
  | with_reducible refine r_ret ?_ | with_reducible refine r_retN ?_ | with_reducible refine r_drop ?_ | with_reducible refine r_par ?_ | with_reducible refine r_kPar ?_
  | ((with_reducible refine' r_var ?hv ?_); (case hv => exact rfl)) | with_reducible refine r_c ?_ | with_reducible refine r_nil ?_ | with_reducible refine r_cons ?_
  | with_reducible refine r_fn ?_ | with_reducible refine r_cb ?_ | with_reducible refine r_op ?_ | with_reducible refine r_un ?_ | with_reducible refine r_I0 ?_
  | with_reducible refine r_pow5 ?_ | with_reducible refine r_pow6 ?_ | with_reducible refine r_pow7 ?_ | with_reducible refine r_pow9 ?_ | with_reducible refine r_pow18 ?_ | with_reducible refine r_pow20 ?_ | with_reducible refine r_pow30 ?_
  | with_reducible refine r_isN_non ?_ | with_reducible refine r_isN_ref ?_ | with_reducible refine r_isN_int ?_ | with_reducible refine r_isN_str ?_ | with_reducible refine r_isN_bl ?_ | with_reducible refine r_notN_non ?_ | with_reducible refine r_notN_ref ?_ | with_reducible refine r_notN_int ?_ | with_reducible refine r_notN_str ?_ | with_reducible refine r_notN_bl ?_
  | ((with_reducible refine r_I ?hc ?_); (case hc => walk_at "side")) | with_reducible refine r_U ?_
  | with_reducible refine r_eqI ?_ | with_reducible refine r_neI ?_ | with_reducible refine r_eqS ?_ | with_reducible refine r_neS ?_ | with_reducible refine r_eqB ?_ | with_reducible refine r_neB ?_
  | with_reducible refine r_chain ?_ | with_reducible refine r_test ?_ | with_reducible refine r_tB ?_ | with_reducible refine r_kTest ?_ | with_reducible refine r_not ?_
  | with_reducible refine r_and ?_ | with_reducible refine r_or ?_ | with_reducible refine r_tif ?_ | with_reducible refine r_andV ?_ | with_reducible refine r_orV ?_ | with_reducible refine r_notV ?_
  | with_reducible refine r_kAndV ?_ | with_reducible refine r_kOrV ?_ | with_reducible refine r_kNotV ?_
  | with_reducible refine w_T ?_ | with_reducible refine w_F ?_ | with_reducible refine w_NT ?_ | with_reducible refine w_NF ?_
  | with_reducible refine r_tup ?_ | with_reducible refine r_lst ?_ | with_reducible refine r_fld ?_ | with_reducible refine r_prop ?_ | ((with_reducible refine' r_aug ?h1 ?_); (case h1 => exact rfl)) | with_reducible refine r_ipI ?_ | with_reducible refine r_dget ?_ | with_reducible refine r_dput ?_ | with_reducible refine r_bm ?_
  | ((with_reducible refine' r_kDGetS ?h1 ?h2 ?_); (case h1 => assumption); (case h2 => walk_at "val"))
  | ((with_reducible refine' r_kBML ?h1 ?_); (case h1 => assumption))
  | with_reducible refine r_forL ?_ | with_reducible refine r_forR1 ?_ | with_reducible refine r_forR2 ?_ | with_reducible refine r_forT ?_ | with_reducible refine r_lcL ?_ | with_reducible refine r_lcR1 ?_
  | ((with_reducible refine r_kLcG ?hw ?_); (case hw => exact rfl)) | with_reducible refine r_kLcT ?_ | with_reducible refine r_yes ?_
  | with_reducible refine r_pnil ?_ | with_reducible refine r_pcons ?_
  | with_reducible refine r_fnK ?_ | ((with_reducible refine r_kFnK ?hl ?_); (case hl => exact rfl))
  | with_reducible refine r_isi_ii ?_ | with_reducible refine r_isi_ib ?_ | with_reducible refine r_isi_bi ?_ | with_reducible refine r_isi_bb ?_ | with_reducible refine r_isi_ss ?_ | with_reducible refine r_isi_is ?_ | with_reducible refine r_isi_it ?_
  | ((with_reducible refine' r_isi_tt ?h1 ?_); (case h1 => assumption))
  | with_reducible refine r_sfld ?_ | with_reducible refine r_gnil ?_ | with_reducible refine r_gcons ?_
  | ((with_reducible refine' r_gtup ?h1 ?h2 ?_); (case h1 => exact SqT.of (by assumption)); (case h2 => exact rfl))
  | with_reducible refine r_sl ?_ | with_reducible refine r_noPart ?_ | with_reducible refine r_part ?_ | with_reducible refine r_kPart ?_ | with_reducible refine r_m1 ?_ | with_reducible refine r_kM1 ?_ | with_reducible refine r_forS ?_ | with_reducible refine r_lcS ?_ | with_reducible refine r_lcTu ?_ | with_reducible refine r_lcK ?_ | with_reducible refine r_dcL ?_ | with_reducible refine r_dcK ?_ | with_reducible refine r_lc2L ?_ | with_reducible refine r_kLc2TL ?_ | with_reducible refine r_dcEn ?_ | with_reducible refine r_gslc ?_ | with_reducible refine r_lcEn ?_ | with_reducible refine r_lcZip ?_ | with_reducible refine r_lcEl ?_ | with_reducible refine r_lcR2 ?_ | with_reducible refine r_rg1 ?_ | with_reducible refine r_rg2 ?_ | with_reducible refine r_forET ?_ | with_reducible refine r_lenD ?_
  | ((with_reducible refine r_kDcG ?hw ?_); (case hw => exact rfl)) | with_reducible refine r_kDcT ?_
  | with_reducible refine r_fldaug ?_ | with_reducible refine r_daug ?_ | with_reducible refine r_rAdd ?_ | with_reducible refine r_rSub ?_ | with_reducible refine r_ddel ?_ | with_reducible refine r_bmF ?_ | with_reducible refine r_dget2 ?_ | with_reducible refine r_listItems ?_ | with_reducible refine r_bm0 ?_ | with_reducible refine r_lc2E ?_ | ((with_reducible refine r_kLc2G ?hw ?_); (case hw => exact rfl)) | with_reducible refine r_kLc2T ?_ | with_reducible refine r_forE ?_ | with_reducible refine r_orT ?_ | with_reducible refine r_din ?_ | with_reducible refine r_augS ?_ | with_reducible refine r_dnotin ?_ | with_reducible refine r_lcIT ?_ | with_reducible refine r_cont ?_ | with_reducible refine r_meth ?_ | with_reducible refine r_frz ?_ | with_reducible refine r_par3 ?_ | with_reducible refine r_kPar3 ?_ | with_reducible refine r_dz ?_ | with_reducible refine r_revL ?_ | with_reducible refine r_revT ?_ | with_reducible refine r_star ?_ | with_reducible refine r_int1 ?_ | with_reducible refine r_int1b ?_ | with_reducible refine r_min2 ?_ | with_reducible refine r_max2 ?_ | with_reducible refine r_gsub ?_ | with_reducible refine r_err ?_ | with_reducible refine r_errT ?_ | with_reducible refine r_xv ?_)
local macro_rules | `(tactic| walk_at "rd") => `(tactic| repeat walk_at "rd1")
local macro_rules | `(tactic| walk_at "side") => `(tactic| first | assumption | exact Or.inr ⟨by decide, by decide⟩ | exact Or.inl ⟨by decide, by decide⟩ | (constructor <;> omega) | omega | decide | (refine Or.inl ⟨?_, ?_⟩ <;> omega) | (refine Or.inr ⟨?_, ?_⟩ <;> omega) | (refine ⟨?_, ?_, ?_⟩ <;> first | decide | omega))
def spLawT (K : PySem.W.Frag) (P0 : Addr) : Sp := fun vs H Q _ => ∃ (a : Addr) (cs : List Int), vs = [.ref a] ∧ H P0 = some (.tbl #[]) ∧ SqL K H a (cs.map V.int) ∧ cs.length ≤ 63 ∧ ∀ H', Q (.bl true) H'
theorem op_catAQ {X : Cx} {K : PySem.W.Frag} (h : X.K = K) : OpR X (binaryOp .Add) (rCatA K) := by subst h; exact op_catA
theorem r_slX {K : PySem.W.Frag} {H : Hp} {Q : VK} {a : Addr} {xs ys : List V} {lo hi : Option Int} (h : SqT K H a xs) (hw : ¬ (HT.sIx xs.length 0 lo = 0 ∧ HT.sIx xs.length xs.length hi = xs.length)) (e : cutV xs lo hi = ys) (q : ∀ t H', H t = none → Same H H' → H' t = some (.tup ys) → Q (.ref t) H') : rSlT K (.ref a) lo hi H Q :=
  ⟨a, xs, rfl, h, hw, fun t ht => by rw [e]; exact q t _ ht (Same.new ht) upd_same⟩
theorem r_catX {K : PySem.W.Frag} {H : Hp} {Q : VK} {a b : Addr} {xs ys : List V} (h1 : H a = some (.tup xs)) (h2 : H b = some (.tup ys)) (hz : xs.length + ys.length ≤ 1000) (q : ∀ t H', Same H H' → H' t = some (.tup (xs ++ ys)) → Q (.ref t) H') : rCatA K (.ref a) (.ref b) H Q := by
  refine ⟨a, b, xs, ys, rfl, rfl, SqT.of h1, SqT.of h2, by rw [sizeLine_eq]; omega, fun e => ?_, fun _ e => ?_, fun _ _ p hp => q p _ (Same.new hp) upd_same⟩
  · subst e
    exact q b H (Same.refl _) h2
  · subst e
    exact q a H (Same.refl _) (by rw [List.append_nil]; exact h1)
theorem name_aQ : NameOk ("a" : Str) := ⟨by decide +kernel, by decide +kernel, (lowB_ok (show lowB ("a" : Str) = true by decide +kernel)).2⟩
theorem noKit_of {K : PySem.W.Frag} {C : Addr} {n : String} (h : noKitB K C = true) (hn : n ∈ tyNames) : PySem.W.kitOne K (.type n) (.ref C) = some false := of_decide_eq_true (List.all_eq_true.mp h n hn)
theorem KpN.tupD {st l c p : Addr} {cs : List Int} {n : Int} {H H' : Hp} {xs : List V} (k : KpN st l H H') (D : DS st l c cs n H) (h : H p = some (.tup xs)) : H' p = some (.tup xs) := by
  obtain ⟨r, t, _, _, _, hd⟩ := id D.d
  exact k _ _ h (ne_of h hd (by intro z; cases z)) (D.nld h fun xs z => by cases z) fun ps z => by cases z
theorem KpN.planD {C st l c p : Addr} {cs : List Int} {n : Int} {H H' : Hp} {M : Pl} (k : KpN st l H H') (D : DS st l c cs n H) (h : PlanAt C H p M) : PlanAt C H' p M := by
  obtain ⟨dx, tp, h1, h2⟩ := h
  obtain ⟨r, t, _, _, _, hd⟩ := id D.d
  exact ⟨dx, tp, k _ _ h1 (ne_of h1 hd (by intro z; cases z)) (D.nld h1 (fun xs z => by cases z)) (fun ps z => by cases z), k.tupD D h2⟩
theorem step_sh {M : Pl} (ok : M.Ok) {x : Int} (x0 : 0 ≤ x) (x1 : x ≤ 100000) : (PyData.tuple [.int (M.intr x), .int (M.pay 0 x), .int (M.nxt 0 x)]).showable = true ∧ (PyData.tuple [.int (M.intr x), .int (M.pay 0 x), .int (M.nxt 0 x)]).depth ≤ 60 ∧ (PyData.tuple [.int (M.intr x), .int (M.pay 0 x), .int (M.nxt 0 x)]).shown.length ≤ sizeLine := by
  have hb : ∀ d ∈ [PyData.int (M.intr x), .int (M.pay 0 x), .int (M.nxt 0 x)], Sml d 200 3 := by
    have r0 := ok.r0
    have m0 := ok.m0
    have h1 : 0 ≤ x * M.r := Int.mul_nonneg x0 ok.r0
    have h2 : x * M.r ≤ 100000 * 1000 := Int.mul_le_mul x1 ok.r1 ok.r0 (by decide)
    have i0 : 0 ≤ M.intr x ∧ M.intr x ≤ 100000 := by
      unfold Pl.intr
      generalize x * M.r = z at h1 h2
      omega
    have o0 : 0 ≤ M.owed x ∧ M.owed x ≤ 200000 := by
      unfold Pl.owed
      omega
    have p0 : 0 ≤ M.pay 0 x ∧ M.pay 0 x ≤ 200000 := by
      unfold Pl.pay
      split <;> omega
    have n0 := M.nxt_nonneg 0 x
    have n1 := M.nxt_pay 0 x
    intro d hd
    simp only [List.mem_cons, List.not_mem_nil, or_false] at hd
    rcases hd with rfl | rfl | rfl
    · exact int_smlQ (by omega) (by omega)
    · exact int_smlQ (by omega) (by omega)
    · exact int_smlQ (by omega) (by omega)
  have h := Sml.tuple hb
  exact ⟨h.sh, Nat.le_trans h.de (by decide), by
    have := h.le
    rw [sizeLine_eq]
    simp only [List.length_cons, List.length_nil] at this
    exact Nat.le_trans this (by decide)⟩
/-- what is held against a plan -/
structure NfC (K : PySem.W.Frag) (C CB : Addr) : Prop where
  t : ∀ n ∈ tyNames, PySem.W.notFirst K C (.type n) = true
  b : PySem.W.notFirst K C (.ref CB) = true
  s : PySem.W.notFirst K C (.ref C) = true
  kb : PySem.W.kitOne K (.ref CB) (.ref C) = some false
  nk : noKitB K C = true
  i : C8.InsC K C
  ib : C8.InsC K CB
theorem tyIns {K : PySem.W.Frag} {H : Hp} {a C dx : Addr} {fs : List (Str × V)} (c : C8.InsC K C) (h : H a = some (.ins C dx fs)) : TyX K H (.ref a) (.ref C) := .base (.ins h c.cl c.ha c.hn c.htk c.hm)
theorem r_eqPl {K : PySem.W.Frag} {C CB : Addr} {H : Hp} {Q : VK} {p q : Addr} {M N : Pl} {E : XK} {neg : Bool} (NF : NfC K C CB) (hp : PlanAt C H p M) (hq : PlanAt C H q N) (k : Q (.bl (neg ^^ decide (M = N))) H) : kEqO K C (sp_eqP K C) E neg (.ref p) (.ref q) H Q := by
  obtain ⟨dx, tp, h1, _⟩ := id hp
  obtain ⟨dy, tq, h2, _⟩ := id hq
  exact ⟨p, dx, _, _, rfl, h1, tyIns NF.i h2, NF.s, p, M, .ref q, some N, rfl, hp, .plan hq, _, rfl, k⟩
theorem r_eqPo {K : PySem.W.Frag} {C : Addr} {H : Hp} {Q : VK} {p : Addr} {M : Pl} {E : XK} {v : V} {t : Value} (hp : PlanAt C H p M) (ty : TyX K H v t) (h1 : PySem.W.notFirst K C t = true) (h2 : PySem.W.kitOne K t (.ref C) = some false) (k : Q (.bl false) H) : kEqO K C (sp_eqP K C) E false (.ref p) v H Q := by
  obtain ⟨dx, tp, h3, _⟩ := id hp
  exact ⟨p, dx, _, _, rfl, h3, ty, h1, p, M, v, none, rfl, hp, .oth ty h2 h1, _, rfl, k⟩
def sp_Plan3 (C : Addr) : Sp := fun vs H Q _ => ∃ (M : Pl), vs = [.int M.r, .int M.s, .int M.m] ∧ M.b = false ∧ M.Ok ∧
  ∀ p H', H p = none → Same H H' → PlanAt C H' p M → Q (.ref p) H'
theorem imp_Plan3 {C : Addr} (vs : List V) (H : Hp) (Q : VK) (E : XK) (h : sp_Plan3 C vs H Q E) : spMk C (sp_Plan_init C) [.bl false] vs H Q E := by
  obtain ⟨M, rfl, hb, ok, k⟩ := h
  exact imp_Plan _ H Q E ⟨M, by rw [hb], ok, k⟩
section
variable {P : Program} {w : World} {K : PySem.W.Frag} {mg : Str → Option Value} {base : Heap}
theorem ok_law {f C CB P0 : Addr} {fd : FuncData} (T : Tx K mg) (F : FnP K "law" s_law f fd) (sysK : sysB K = true) (E_Plan : Deq P w K mg base CX0 1 C (sp_eqP K C)) (NF : NfC K C CB)
    (d__law_begun : Dn P w K mg base CX0 1 "_law_begun" ["_law_script"] (sp_begun K)) (d__law_take : Dn P w K mg base CX0 2 "_law_take" ["_law_state", "_law_size"] sp_take) (d__law_pick : Dn P w K mg base CX0 3 "_law_pick" ["_law_state", "_law_some"] sp_pick)
    (d__law_parts : Dn P w K mg base CX0 4 "_law_parts" ["_law_state"] sp_parts) (d__law_planned : Dn P w K mg base CX0 5 "_law_planned" ["_law_parts_here"] (sp_planned C)) (d__law_shown : Dn P w K mg base CX0 3 "_law_shown" ["_law_made"] (sp_lshown C))
    (d__law_sum_drawn : Dn P w K mg base CX0 4 "_law_sum_drawn" ["_law_state", "_law_parts_here"] sp_sum_drawn) (d__law_step : Dn P w K mg base CX0 1 "_law_step" ["_law_parts_here", "_law_sum_here", "_law_more"] sp_step)
    (d__law_refused_right : Dg P w K mg base CX0 9 "_law_refused_right" ["_law_state", "_law_parts_here"] (sp_refused K P0)) (mk_Plan_3 : Dc P w K mg base CX0 3 "Plan" (sp_Plan3 C)) (mk_Book_3 : Dc P w K mg base CX0 5 "Book" (sp_Book3 CB)) (m_plus : Dpr P w K mg base CX0 1 C "plus" (sp_Pl C (fun M => .bl M.b)))
    (d_month : Dn P w K mg base CX0 4 "month" ["plan", "balance"] (sp_month C)) (k_month_balance_plan : Dq P w K mg base CX0 4 "month" ["balance", "plan"] swap2 (sp_month C)) :
    FnG P w K mg base CX0 10 f fd ["_law_script"] (spLawT K P0) := by
  have sc : FnScope ["_law_script", "_law_state", "_law_turn", "_law_parts_here", "_law_other", "_law_made", "_law_spot", "_law_near", "_law_others", "_law_lap", "_law_sum_here", "_law_due", "_law_odd"] ["_law_script"] (defScope s_law) := ⟨rfl, rfl, rfl, by decide +kernel, rfl, by decide +kernel, by decide +kernel⟩
  refine F.okG sc (by rintro vs H Q E ⟨_, _, rfl, _⟩; rfl) (fun cdv A outer s H vs Q E hr hG h => ⟨_, PSs.nox ((pss_cons (ps_set (i := 1) sc.nd rfl (by first | exact Or.inl rfl | exact Or.inr rfl) (pe_fn d__law_begun (hr.mono (by decide)) pass0 (pa_cons (pv 0) pa_nil)))
      (pss_cons (ps_for PassesOwn.never rfl (pi_range1 (by rfl) T.b_range (pa_cons (pe_op op_add pe_int (pe_callB (c_min2 rfl) (by rfl) T.b_min (by decide +kernel) (pa_cons (pe_callB (c_lenK (K := K) rfl) (by rfl) T.b_len (by decide +kernel) (pa_cons (pv 0) pa_nil)) (pa_cons pe_int pa_nil)))) pa_nil)) (pg_name (i := 2) sc.nd rfl (by first | exact Or.inl rfl | exact Or.inr rfl)) (pss_cons (ps_par (i := 3) (j := 4) (by rfl) sc.nd rfl rfl (by decide) rfl rfl (pa_cons (pe_fn d__law_parts (hr.mono (by decide)) pass0 (pa_cons (pv 1) pa_nil)) (pa_cons (pe_fn d__law_parts (hr.mono (by decide)) pass0 (pa_cons (pv 1) pa_nil)) pa_nil)) (by rfl))
      (pss_cons (ps_asg (pe_tup (pa_cons (pe_fn d__law_planned (hr.mono (by decide)) pass0 (pa_cons (pv 3) pa_nil)) (pa_cons (pe_fn d__law_take (hr.mono (by decide)) pass0 (pa_cons (pv 1) (pa_cons pe_int pa_nil))) pa_nil))) (pg_tupK (K := K) (n := 2) rfl rfl (pgs_cons (pg_name (i := 5) sc.nd rfl (by first | exact Or.inl rfl | exact Or.inr rfl)) (pgs_cons (pg_name (i := 6) sc.nd rfl (by first | exact Or.inl rfl | exact Or.inr rfl)) pgs_nil))))
      (Evl.pss_cut (ps_set (i := 7) sc.nd rfl (by first | exact Or.inl rfl | exact Or.inr rfl) (pe_op (op_catAQ (K := K) rfl) (pe_op (op_catAQ (K := K) rfl) (pe_slice (sl_tupK (K := K) rfl) (pv 3) po_none (po_some (pv 6))) (pe_slice (sl_tupK (K := K) rfl) (pv 4) (po_some (pv 6)) (po_some (pe_op op_add (pv 6) pe_int)))) (pe_slice (sl_tupK (K := K) rfl) (pv 3) (po_some (pe_op op_add (pv 6) pe_int)) po_none)))
      (pss_cons (ps_if (PW.pt (pw_or (pt_cmpR op_ne (pe_callB (c_reprQ (K := K) rfl sysK hG hr) (by rfl) T.b_repr (by decide +kernel) (pa_cons (pe_fn d__law_shown (hr.mono (by decide)) pass0 (pa_cons (pv 5) pa_nil)) pa_nil)) (pe_callB (c_reprQ (K := K) rfl sysK hG hr) (by rfl) T.b_repr (by decide +kernel) (pa_cons (pv 3) pa_nil)) (nomark _)) (pw_or1 (pt_cmpR op_notBl (pe_propA m_plus (pe_mk mk_Plan_3 (hr.mono (by decide)) pass0 (pa_cons (pe_ix (ix_tupK (K := K) rfl) (pv 3) pe_int (fun _ _ => rfl)) (pa_cons (pe_ix (ix_tupK (K := K) rfl) (pv 3) pe_int (fun _ _ => rfl)) (pa_cons (pe_ix (ix_tupK (K := K) rfl) (pv 3) pe_int (fun _ _ => rfl)) pa_nil)))) (hr.mono (by decide)) pass0) pe_bl (nomark _))))) (pss_one (ps_ret pe_bl)) pss_nil)
      (pss_cons (ps_if (PW.pt (pw_or (pt_cmpR op_ne (pe_cmpR (op_eqO E_Plan (hr.mono (by decide)) pass0) (pv 5) (pe_fn d__law_planned (hr.mono (by decide)) pass0 (pa_cons (pv 7) pa_nil)) (nomark _)) (pe_cmpR (eqDK (K := K) rfl hr.units) (pv 3) (pv 7) (nomark _)) (nomark _)) (pw_or1 (pt_cmpR op_eq (pe_cmpR (op_neO E_Plan (hr.mono (by decide)) pass0) (pv 5) (pe_fn d__law_planned (hr.mono (by decide)) pass0 (pa_cons (pv 7) pa_nil)) (nomark _)) (pe_cmpR (eqDK (K := K) rfl hr.units) (pv 3) (pv 7) (nomark _)) (nomark _))))) (pss_one (ps_ret pe_bl)) pss_nil)
      (pss_cons (ps_setLc (i := 8) (own := [("_law_odd", 12)]) (by rfl) sc.nd rfl rfl (sw_true rfl rfl rfl (by decide +kernel)) (pi_listK (K := K) rfl (pe_lst (pa_cons (pv 3) (pa_cons pe_non (pa_cons (pe_mk mk_Book_3 (hr.mono (by decide)) pass0 (pa_cons (pe_lst (pa_cons pe_int pa_nil)) (pa_cons pe_int (pa_cons (pe_disp (pps_cons pe_str (pe_tup (pa_cons (pe_ix (ix_tupK (K := K) rfl) (pv 3) pe_int (fun _ _ => rfl)) (pa_cons pe_bl pa_nil))) pps_nil) (by rfl) (by rfl) (fun z => by cases z) (by decide)) pa_nil)))) (pa_cons pe_int (pa_cons pe_str pa_nil))))))) (blkOk_by (own := [("_law_odd", 12)]) (N := ["_law_script", "_law_state", "_law_turn", "_law_parts_here", "_law_other", "_law_made", "_law_spot", "_law_near", "_law_others", "_law_lap", "_law_sum_here", "_law_due", "_law_odd"]) (sc := defScope s_law) (by decide +kernel)) (fun _ _ _ _ _ => (pg_name (i := 12) sc.nd rfl (by first | exact Or.inl rfl | exact Or.inr rfl))) (fun _ _ _ _ _ => (pts_one (pt_cmpR (op_eqOK (K := K) rfl E_Plan (hr.mono (by decide)) pass0) (pv 5) (pv 12) (nomark _)))) (fun _ _ _ _ _ => (pv 12)))
      (pss_cons (ps_if (PW.pt (pw_or (pt_cmpR (neNilK (K := K) rfl hr.units) (pv 8) (pe_lst pa_nil) (nomark _)) (pw_or1 (pt_not (pt_val (pe_fnG d__law_refused_right (hr.mono (by decide)) hG pass0 (pa_cons (pv 1) (pa_cons (pv 3) pa_nil)))))))) (pss_one (ps_ret pe_bl)) pss_nil)
      (pss_one (ps_for PassesOwn.never rfl (pi_range1 (by rfl) T.b_range (pa_cons pe_int pa_nil)) (pg_name (i := 9) sc.nd rfl (by first | exact Or.inl rfl | exact Or.inr rfl)) (pss_cons (ps_set (i := 10) sc.nd rfl (by first | exact Or.inl rfl | exact Or.inr rfl) (pe_fn d__law_pick (hr.mono (by decide)) pass0 (pa_cons (pv 1) (pa_cons (pe_lst (pa_cons (pe_fn d__law_sum_drawn (hr.mono (by decide)) pass0 (pa_cons (pv 1) (pa_cons (pv 3) pa_nil))) (pa_cons (pe_fn d__law_take (hr.mono (by decide)) pass0 (pa_cons (pv 1) (pa_cons (pe_op op_add (pe_op op_pow pe_int pe_int) pe_int) pa_nil))) (pa_cons (pe_op op_pow pe_int pe_int) pa_nil)))) pa_nil))))
      (pss_cons (ps_set (i := 11) sc.nd rfl (by first | exact Or.inl rfl | exact Or.inr rfl) (pe_callB (c_reprQ (K := K) rfl sysK hG hr) (by rfl) T.b_repr (by decide +kernel) (pa_cons (pe_fn d__law_step (hr.mono (by decide)) pass0 (pa_cons (pv 3) (pa_cons (pv 10) (pa_cons pe_int pa_nil)))) pa_nil)))
      (pss_one (ps_if (PW.pt (pw_or (pt_cmpR op_ne (pe_callB (c_reprQ (K := K) rfl sysK hG hr) (by rfl) T.b_repr (by decide +kernel) (pa_cons (pe_fn d_month (hr.mono (by decide)) pass0 (pa_cons (pv 5) (pa_cons (pv 10) pa_nil))) pa_nil)) (pv 11) (nomark _)) (pw_or1 (pt_cmpR op_ne (pe_callB (c_reprQ (K := K) rfl sysK hG hr) (by rfl) T.b_repr (by decide +kernel) (pa_cons (pe_fnK0 k_month_balance_plan (hr.mono (by decide)) pass0 (pk_cons (pv 10) (pk_cons (pv 5) pk_nil))) pa_nil)) (pv 11) (nomark _))))) (pss_one (ps_ret pe_bl)) pss_nil))))))))))))))
      (pss_one (ps_ret pe_bl))))), ?_⟩)
  obtain ⟨a, cs, rfl, hP1, hS, hlen, k⟩ := h
  walk_at "rd"
  refine ⟨a, cs, rfl, hS, hlen, fun st l c1 H1 nst nl nc e1 D1 => ?_⟩
  have t1 : Tabs [(P0, LQf)] H1 := fun q hq => by
    rw [List.mem_singleton.mp hq]
    exact TabS.nil (e1 _ _ hP1)
  walk_at "rd"
  have hS2 : SqL K H1 a (cs.map V.int) := SqL.kp hS e1 nst nl (Kp.refl)
  refine r_lenL hS2 ?_
  walk_at "rd"
  refine r_kForR1 (fun i σ' H' => ∃ (x2 x3 x4 x5 x6 x7 x8 x9 x10 x11 x12 : Option V), σ' = [some (.ref a), some (.ref st), x2, x3, x4, x5, x6, x7, x8, x9, x10, x11, x12] ∧ DS st l c1 cs (1000 * (i : Int)) H' ∧ Tabs [(P0, LQf)] H') (by rw [List.length_map]; omega) ⟨_, _, _, _, _, _, _, _, _, _, _, rfl, D1.mono (by omega), t1⟩ ?_ ?_
  · rintro i0 σ' H3 hi ⟨x2, x3, x4, x5, x6, x7, x8, x9, x10, x11, x12, rfl, D3, t3⟩
    have hi2 : (i0 : Int) ≤ 100 := by
      rw [List.length_map] at hi
      omega
    walk_at "rd"
    refine ⟨st, l, c1, cs, _, rfl, by omega, D3, fun t M H4 nt ok hm ht D4 k4 => ?_⟩
    walk_at "rd"
    refine ⟨st, l, c1, cs, _, rfl, by omega, D4, fun u N H5 nu okN hmN hu D5 k5 => ?_⟩
    have ht5 : PartsAt H5 t M := k5.tup D4 ht
    have t5 : Tabs [(P0, LQf)] H5 := fun q hq => by
      rw [List.mem_singleton.mp hq]
      exact ((t3 _ (List.mem_singleton.mpr rfl)).kpQ D3 k4).kpQ D4 k5
    walk_at "rd"
    refine ⟨t, M, rfl, ok, ht5, fun p H6 np e6 hp => ?_⟩
    have D6 := D5.keep e6
    walk_at "rd"
    refine u_take D6 (by omega) (by decide) (by decide) fun sp H7 sp0 sp1 D7 k7 => ?_
    have ht7 : PartsAt H7 t M := k7.tup D6 (e6 _ _ ht5)
    have hu7 : PartsAt H7 u N := k7.tup D6 (e6 _ _ hu)
    have hp7 : PlanAt C H7 p M := hp.kp2 k7 D6
    have t7 : Tabs [(P0, LQf)] H7 := fun q hq => by
      rw [List.mem_singleton.mp hq]
      exact (Tabs.same t5 e6 _ (List.mem_singleton.mpr rfl)).kpQ D6 k7
    walk_at "rd"
    refine r_kTup fun pt H8 npt e8 hpt => ?_
    walk_at "rd"
    have D8 := D7.keep e8
    refine r_cut (fun σ' H' => ∃ (tn : Addr) (N' : Pl), σ' = [some (.ref a), some (.ref st), some (.int (i0 : Int)), some (.ref t), some (.ref u), some (.ref p), some (.int sp), some (.ref tn), x8, x9, x10, x11, x12] ∧ Same H8 H' ∧ PartsAt H' tn N' ∧ N'.Ok ∧ N'.m ≤ 3000) ?_ ?_
    · have ht8 : H8 t = some (.tup [.int M.r, .int M.s, .int M.m, .bl M.b]) := e8 _ _ ht7
      have hu8 : H8 u = some (.tup [.int N.r, .int N.s, .int N.m, .bl N.b]) := e8 _ _ hu7
      have hc : sp = 0 ∨ sp = 1 ∨ sp = 2 ∨ sp = 3 := by omega
      walk_at "rd"
      rcases hc with hc | hc | hc | hc
      · subst hc
        refine r_slX (ys := []) (SqT.of ht8) (by show ¬ (HT.sIx 4 0 none = 0 ∧ HT.sIx 4 4 (some 0) = 4); decide) rfl fun p1 G1 np1 g1 h1 => ?_
        walk_at "rd"
        refine r_slX (ys := [.int N.r]) (SqT.of (g1 _ _ hu8)) (by show ¬ (HT.sIx 4 0 (some 0) = 0 ∧ HT.sIx 4 4 (some 1) = 4); decide) rfl fun p2 G2 np2 g2 h2 => ?_
        walk_at "rd"
        refine r_catX (g2 _ _ h1) h2 (by simp) fun p3 G3 g3 h3 => ?_
        walk_at "rd"
        refine r_slX (ys := [.int M.s, .int M.m, .bl M.b]) (SqT.of (g3 _ _ (g2 _ _ (g1 _ _ ht8)))) (by show ¬ (HT.sIx 4 0 (some 1) = 0 ∧ HT.sIx 4 4 none = 4); decide) rfl fun p4 G4 np4 g4 h4 => ?_
        walk_at "rd"
        refine r_catX (g4 _ _ h3) h4 (by simp) fun p5 G5 g5 h5 => ?_
        walk_at "rd"
        exact ⟨p5, ⟨N.r, M.s, M.m, M.b⟩, rfl, (((g1.trans g2).trans g3).trans g4).trans g5, h5, ⟨okN.r0, okN.r1, ok.s0, ok.s1, ok.m0, ok.m1⟩, hm⟩
      · subst hc
        refine r_slX (ys := [.int M.r]) (SqT.of ht8) (by show ¬ (HT.sIx 4 0 none = 0 ∧ HT.sIx 4 4 (some 1) = 4); decide) rfl fun p1 G1 np1 g1 h1 => ?_
        walk_at "rd"
        refine r_slX (ys := [.int N.s]) (SqT.of (g1 _ _ hu8)) (by show ¬ (HT.sIx 4 0 (some 1) = 0 ∧ HT.sIx 4 4 (some 2) = 4); decide) rfl fun p2 G2 np2 g2 h2 => ?_
        walk_at "rd"
        refine r_catX (g2 _ _ h1) h2 (by simp) fun p3 G3 g3 h3 => ?_
        walk_at "rd"
        refine r_slX (ys := [.int M.m, .bl M.b]) (SqT.of (g3 _ _ (g2 _ _ (g1 _ _ ht8)))) (by show ¬ (HT.sIx 4 0 (some 2) = 0 ∧ HT.sIx 4 4 none = 4); decide) rfl fun p4 G4 np4 g4 h4 => ?_
        walk_at "rd"
        refine r_catX (g4 _ _ h3) h4 (by simp) fun p5 G5 g5 h5 => ?_
        walk_at "rd"
        exact ⟨p5, ⟨M.r, N.s, M.m, M.b⟩, rfl, (((g1.trans g2).trans g3).trans g4).trans g5, h5, ⟨ok.r0, ok.r1, okN.s0, okN.s1, ok.m0, ok.m1⟩, hm⟩
      · subst hc
        refine r_slX (ys := [.int M.r, .int M.s]) (SqT.of ht8) (by show ¬ (HT.sIx 4 0 none = 0 ∧ HT.sIx 4 4 (some 2) = 4); decide) rfl fun p1 G1 np1 g1 h1 => ?_
        walk_at "rd"
        refine r_slX (ys := [.int N.m]) (SqT.of (g1 _ _ hu8)) (by show ¬ (HT.sIx 4 0 (some 2) = 0 ∧ HT.sIx 4 4 (some 3) = 4); decide) rfl fun p2 G2 np2 g2 h2 => ?_
        walk_at "rd"
        refine r_catX (g2 _ _ h1) h2 (by simp) fun p3 G3 g3 h3 => ?_
        walk_at "rd"
        refine r_slX (ys := [.bl M.b]) (SqT.of (g3 _ _ (g2 _ _ (g1 _ _ ht8)))) (by show ¬ (HT.sIx 4 0 (some 3) = 0 ∧ HT.sIx 4 4 none = 4); decide) rfl fun p4 G4 np4 g4 h4 => ?_
        walk_at "rd"
        refine r_catX (g4 _ _ h3) h4 (by simp) fun p5 G5 g5 h5 => ?_
        walk_at "rd"
        exact ⟨p5, ⟨M.r, M.s, N.m, M.b⟩, rfl, (((g1.trans g2).trans g3).trans g4).trans g5, h5, ⟨ok.r0, ok.r1, ok.s0, ok.s1, okN.m0, okN.m1⟩, hmN⟩
      · subst hc
        refine r_slX (ys := [.int M.r, .int M.s, .int M.m]) (SqT.of ht8) (by show ¬ (HT.sIx 4 0 none = 0 ∧ HT.sIx 4 4 (some 3) = 4); decide) rfl fun p1 G1 np1 g1 h1 => ?_
        walk_at "rd"
        refine r_slX (ys := [.bl N.b]) (SqT.of (g1 _ _ hu8)) (by show ¬ (HT.sIx 4 0 (some 3) = 0 ∧ HT.sIx 4 4 (some 4) = 4); decide) rfl fun p2 G2 np2 g2 h2 => ?_
        walk_at "rd"
        refine r_catX (g2 _ _ h1) h2 (by simp) fun p3 G3 g3 h3 => ?_
        walk_at "rd"
        refine r_slX (ys := []) (SqT.of (g3 _ _ (g2 _ _ (g1 _ _ ht8)))) (by show ¬ (HT.sIx 4 0 (some 4) = 0 ∧ HT.sIx 4 4 none = 4); decide) rfl fun p4 G4 np4 g4 h4 => ?_
        walk_at "rd"
        refine r_catX (g4 _ _ h3) h4 (by simp) fun p5 G5 g5 h5 => ?_
        walk_at "rd"
        exact ⟨p5, ⟨M.r, M.s, M.m, N.b⟩, rfl, (((g1.trans g2).trans g3).trans g4).trans g5, h5, ⟨ok.r0, ok.r1, ok.s0, ok.s1, ok.m0, ok.m1⟩, hm⟩
    rintro σ' H9 ⟨tn, N', rfl, e9, htn, okN', hmN'⟩
    have D9 := D8.keep e9
    have e79 := e8.trans e9
    have ht9 : PartsAt H9 t M := e79 _ _ ht7
    have hp9 : PlanAt C H9 p M := hp7.keep e79
    have t9 := Tabs.same t7 e79
    obtain ⟨y1, y2, y3⟩ := plan_sh ok
    walk_at "rd"
    refine ⟨p, M, rfl, hp9, fun s1 G1 n1 g1 h1 => ?_⟩
    walk_at "rd"
    refine r_reprQ (A := fun _ => True) (.tup trivial h1 (.cons (.int _) (.cons (.int _) (.cons (.int _) (.cons (.bl _) .nil))))) y1 y2 y3 ?_
    walk_at "rd"
    refine r_reprQ (A := fun _ => True) (.tup trivial (g1 _ _ ht9) (.cons (.int _) (.cons (.int _) (.cons (.int _) (.cons (.bl _) .nil))))) y1 y2 y3 ?_
    walk_at "rd"
    refine w_ndec (fun h => absurd rfl h) (fun _ => ?_)
    walk_at "rd"
    refine r_ixT (SqT.of (g1 _ _ ht9)) (at_get (n := 0) rfl rfl) ?_
    walk_at "rd"
    refine r_ixT (SqT.of (g1 _ _ ht9)) (at_get (n := 1) rfl rfl) ?_
    walk_at "rd"
    refine r_ixT (SqT.of (g1 _ _ ht9)) (at_get (n := 2) rfl rfl) ?_
    walk_at "rd"
    refine ⟨⟨M.r, M.s, M.m, false⟩, rfl, rfl, ⟨ok.r0, ok.r1, ok.s0, ok.s1, ok.m0, ok.m1⟩, fun p2 G2 n2 g2 hp2 => ?_⟩
    obtain ⟨dx2, tp2, hi2', _⟩ := id hp2
    walk_at "rd"
    refine r_kProp hi2' ⟨p2, _, rfl, hp2, ?_⟩
    refine ⟨false, false, rfl, rfl, ?_⟩
    refine ⟨_, rfl, ?_⟩
    refine w_no rfl ?_
    walk_at "rd"
    have hp2' := (hp9.keep g1).keep g2
    have htn2 : PartsAt G2 tn N' := g2 _ _ (g1 _ _ htn)
    have ht2 : PartsAt G2 t M := g2 _ _ (g1 _ _ ht9)
    refine ⟨tn, N', rfl, okN', htn2, fun p3 G3 n3 g3 hp3 => ?_⟩
    refine r_eqPl NF (hp2'.keep g3) hp3 ?_
    walk_at "rd"
    refine ⟨plD M, plD N', .tup (SqT.of (g3 _ _ ht2)) (.cons (.int _) (.cons (.int _) (.cons (.int _) (.cons (.bl _) .nil)))), .tup (SqT.of (g3 _ _ htn2)) (.cons (.int _) (.cons (.int _) (.cons (.int _) (.cons (.bl _) .nil)))), rfl, rfl, ?_⟩
    rw [plD_eqv, Bool.false_xor]
    walk_at "rd"
    refine w_ndec (fun h => absurd rfl h) (fun _ => ?_)
    walk_at "rd"
    refine ⟨tn, N', rfl, okN', g3 _ _ htn2, fun p4 G4 n4 g4 hp4 => ?_⟩
    have g34 := g3.trans g4
    refine r_eqPl NF (hp2'.keep g34) hp4 ?_
    walk_at "rd"
    refine ⟨plD M, plD N', .tup (SqT.of (g34 _ _ ht2)) (.cons (.int _) (.cons (.int _) (.cons (.int _) (.cons (.bl _) .nil)))), .tup (SqT.of (g34 _ _ htn2)) (.cons (.int _) (.cons (.int _) (.cons (.int _) (.cons (.bl _) .nil)))), rfl, rfl, ?_⟩
    rw [plD_eqv, Bool.true_xor]
    walk_at "rd"
    refine w_dec (fun h => absurd h (by cases decide (M = N') <;> decide)) (fun _ => ?_)
    walk_at "rd"
    -- values of other kinds
    have ht4 : PartsAt G4 t M := g34 _ _ ht2
    refine r_kLst fun la K1 nla f1 hla => ?_
    walk_at "rd"
    refine r_disp fun kd K2 nkd f2 hkd => ?_
    walk_at "rd"
    have f12 := f1.trans f2
    refine r_ixT (SqT.of (f12 _ _ ht4)) (at_get (n := 0) rfl rfl) ?_
    walk_at "rd"
    refine r_kTup fun kt K3 nkt f3 hkt => ?_
    walk_at "rd"
    refine r_kDisp [(Sum.inr "a", .ref kt)] (f3 _ _ hkd) rfl (by simp) (by simp) fun K4 b4 hk4 => ?_
    have f24 : Same K1 K4 := Same.mut (f2.trans f3) b4 nkd
    have nktk : kt ≠ kd := fun z => by rw [z, hkd] at nkt; cases nkt
    walk_at "rd"
    have hks : KindsOk [(("a" : Str), M.r, true)] := ⟨by simp, by simp, ⟨fun z hz => by rw [List.mem_singleton.mp hz]; exact name_aQ, by simp⟩, fun k hk => by rw [List.mem_singleton.mp hk]; exact ⟨ok.r0, ok.r1⟩⟩
    refine ⟨la, kd, ⟨[30], 0, [("a", M.r, true)], 0, "day", none⟩, _, rfl, rfl, rfl, rfl, ⟨by simp, by simp, fun n hn => by rw [List.mem_singleton.mp hn]; decide, Int.le_refl 0, fun n hn => by rw [List.mem_singleton.mp hn]; show (0 : Int) < 30; decide, hks, Int.le_refl 0, (by show (0 : Int) ≤ 2; decide), .inl rfl⟩, .inl (f24 _ _ hla), hk4, .cons (b4 _ _ hkt nktk) .nil, fun pb K5 ks npb f5 pm hB => ?_⟩
    walk_at "rd"
    refine r_kLst fun lo K6 nlo f6 hlo => ?_
    obtain ⟨_, _, _, _, _, hBi⟩ := id hB
    have f46 : Same G4 K6 := ((f1.trans f24).trans f5).trans f6
    have hp6 : PlanAt C K6 p M := ((hp2'.keep g34).keep f46)
    have ht6 := f46 _ _ ht4
    have hb6 := f6 _ _ hBi.i
    refine r_kLcL (xs := [V.ref t, .non, .ref pb, .int 0, .str ""]) (fun Da i H' => Same K6 H' ∧ H' Da = some (.lst [])) (SqL.of hlo) (fun Da H' _ e h => ⟨e, h⟩) (fun Da i H' h => SqL.of (h.1 _ _ hlo)) ?_ ?_
    · rintro Da i x H' nDa hx ⟨e, h⟩
      have hpe := hp6.keep e
      rcases i with _ | _ | _ | _ | _ | i
      · obtain rfl := Option.some.inj hx
        walk_at "rd"
        refine r_eqPo (t := .type "tuple") hpe (.base (.tup (e _ _ ht6))) (NF.t _ (by decide)) (noKit_of NF.nk (by decide)) ?_
        walk_at "rd"
        exact ⟨e, h⟩
      · obtain rfl := Option.some.inj hx
        walk_at "rd"
        refine r_eqPo hpe (.base .non) (NF.t _ (by decide)) (noKit_of NF.nk (by decide)) ?_
        walk_at "rd"
        exact ⟨e, h⟩
      · obtain rfl := Option.some.inj hx
        walk_at "rd"
        refine r_eqPo hpe (tyIns NF.ib (e _ _ hb6)) NF.b NF.kb ?_
        walk_at "rd"
        exact ⟨e, h⟩
      · obtain rfl := Option.some.inj hx
        walk_at "rd"
        refine r_eqPo hpe (.base (.int 0)) (NF.t _ (by decide)) (noKit_of NF.nk (by decide)) ?_
        walk_at "rd"
        exact ⟨e, h⟩
      · obtain rfl := Option.some.inj hx
        walk_at "rd"
        refine r_eqPo hpe (.base (.str "")) (NF.t _ (by decide)) (noKit_of NF.nk (by decide)) ?_
        walk_at "rd"
        exact ⟨e, h⟩
      · exact absurd hx (by simp)
    rintro Da K7 nDa ⟨f7, hDa⟩
    walk_at "rd"
    refine r_kLst fun ln K8 nln f8 hln => ?_
    refine r_neNilA (xs := []) (SqL.of (f8 _ _ hDa)) (SqL.of hln) ?_
    rw [decide_eq_true rfl]
    walk_at "rd"
    have f98 : Same H9 K8 := (((((g1.trans g2).trans g34).trans f46).trans f7).trans f8)
    have D18 := D9.keep f98
    have t18 := Tabs.same t9 f98
    have ht18 : PartsAt K8 t M := f98 _ _ ht9
    have hp18 : PlanAt C K8 p M := hp9.keep f98
    refine ⟨st, l, c1, t, cs, _, M, rfl, by omega, D18, ok, hm, ht18, t18, fun H10 D10 kn10 t10 => ?_⟩
    walk_at "rd"
    have D10' : DS st l c1 cs (1000 * (i0 : Int) + 60) H10 := D10.mono (by omega)
    refine r_kForR1 (fun i σ' H' => ∃ (z9 z10 z11 z12 : Option V), σ' = [some (.ref a), some (.ref st), some (.int (i0 : Int)), some (.ref t), some (.ref u), some (.ref p), some (.int sp), some (.ref tn), some (.ref Da), z9, z10, z11, z12] ∧ DS st l c1 cs (1000 * (i0 : Int) + 60 + 20 * (i : Int)) H' ∧ Tabs [(P0, LQf)] H' ∧ PartsAt H' t M ∧ PlanAt C H' p M) (by omega)
      ⟨_, _, _, _, rfl, D10'.mono (by omega), t10, kn10.tupD D18 ht18, kn10.planD D18 hp18⟩ ?_ ?_
    · rintro j σ' L1 hj ⟨z9, z10, z11, z12, rfl, E1, tl1, htl1, hpl1⟩
      walk_at "rd"
      refine ⟨st, l, c1, t, M, cs, _, rfl, ok, htl1, by omega, E1, fun x L2 x0 x1 E2 q2 => ?_⟩
      walk_at "rd"
      refine u_take E2 (by omega) (by decide) (by decide) fun y L3 yl yh E3 q3 => ?_
      walk_at "rd"
      refine r_kLst fun lp L4 nlp f4 hlp => ?_
      walk_at "rd"
      refine u_pick E3 (by omega) nlp f4 hlp (by simp) (by simp) fun ip v L5 hv E5 q5 => ?_
      obtain ⟨x', rfl, xa, xb⟩ : ∃ x' : Int, v = .int x' ∧ 0 ≤ x' ∧ x' ≤ 100000 := by
        have hm := List.mem_of_getElem? hv
        simp only [List.mem_cons, List.not_mem_nil, or_false] at hm
        rcases hm with rfl | rfl | rfl
        · exact ⟨_, rfl, x0, by omega⟩
        · exact ⟨_, rfl, yl, by omega⟩
        · exact ⟨_, rfl, by omega, by omega⟩
      have kk15 : Kp st l L1 L5 := (q2.trans q3).trans q5
      have ht5' : PartsAt L5 t M := kk15.tup E1 htl1
      have hp5' : PlanAt C L5 p M := hpl1.kp2 kk15 E1
      have tt5 : Tabs [(P0, LQf)] L5 := fun q hq => by
        rw [List.mem_singleton.mp hq]
        exact (tl1 _ (List.mem_singleton.mpr rfl)).kpQ E1 kk15
      obtain ⟨w1, w2, w3⟩ := step_sh ok xa xb
      walk_at "rd"
      refine ⟨t, M, x', 0, rfl, ok, ht5', fun s2 L6 ns2 f6 hs2 => ?_⟩
      walk_at "rd"
      refine r_reprQ (A := fun _ => True) (.tup trivial hs2 (.cons (.int _) (.cons (.int _) (.cons (.int _) .nil)))) w1 w2 w3 ?_
      walk_at "rd"
      refine ⟨p, M, x', rfl, ok, hp5'.keep f6, xa, xb, fun s3 L7 ns3 f7 hs3 => ?_⟩
      walk_at "rd"
      refine r_reprQ (A := fun _ => True) (.tup trivial hs3 (.cons (.int _) (.cons (.int _) (.cons (.int _) .nil)))) w1 w2 w3 ?_
      walk_at "rd"
      refine w_ndec (fun h => absurd rfl h) (fun _ => ?_)
      walk_at "rd"
      refine ⟨p, M, x', rfl, ok, (hp5'.keep f6).keep f7, xa, xb, fun s4 L8 ns4 f8 hs4 => ?_⟩
      walk_at "rd"
      refine r_reprQ (A := fun _ => True) (.tup trivial hs4 (.cons (.int _) (.cons (.int _) (.cons (.int _) .nil)))) w1 w2 w3 ?_
      walk_at "rd"
      refine w_ndec (fun h => absurd rfl h) (fun _ => ?_)
      walk_at "rd"
      have f58 := (f6.trans f7).trans f8
      exact ⟨_, _, _, _, rfl, (E5.keep f58).mono (by omega), Tabs.same tt5 f58, f58 _ _ ht5', hp5'.keep f58⟩
    · rintro σ' L1 ⟨z9, z10, z11, z12, rfl, E1, tl1, htl1, hpl1⟩
      walk_at "rd"
      exact ⟨_, _, _, _, _, _, _, _, _, _, _, rfl, E1.mono (by omega), tl1⟩
  · rintro σ' H' ⟨x2, x3, x4, x5, x6, x7, x8, x9, x10, x11, x12, rfl, _, _⟩
    walk_at "rd"
    exact k _
end
end Wp
set_option Elab.async false
set_option linter.all false
set_option maxRecDepth 100000
set_option maxHeartbeats 0
namespace Wp
open PySem PySem.Spec PyProof.Rows L2 LamX
theorem eqQ_ok {K : PySem.W.Frag} {C f : Addr} (h : eqQ K C f = true) : EqC K C f := by
  obtain ⟨h1, h⟩ := He.ba h
  obtain ⟨h2, h⟩ := He.ba h
  obtain ⟨h3, h4⟩ := He.ba h
  exact ⟨of_decide_eq_true h1, h2, of_decide_eq_true h3, of_decide_eq_true h4⟩
theorem nfQ_ok {K : PySem.W.Frag} {C CB : Addr} (h : nfQ K C CB = true) (nk : noKitB K C = true) (i : C8.InsC K C) (ib : C8.InsC K CB) : NfC K C CB := by
  obtain ⟨h1, h⟩ := He.ba h
  obtain ⟨h2, h⟩ := He.ba h
  obtain ⟨h3, h4⟩ := He.ba h
  exact ⟨fun n hn => List.all_eq_true.mp h1 n hn, h2, h3, of_decide_eq_true h4, nk, i, ib⟩
theorem tx_BadPlan : ErTx "part" "a value is no plan, or a part of one is wrong" E_BadPlan.params E_BadPlan.body E_BadPlan.scope := ⟨⟨_, _, rfl⟩, ⟨_, _, _, _, _, _, _, _, _, _, _, rfl, fun env => ⟨_, rfl⟩, fun env => rfl⟩, rfl, fun _ _ _ _ _ _ _ _ _ _ _ _ => rfl, fun _ _ => rfl, fun _ _ => rfl, rfl, rfl, rfl, rfl⟩
theorem factsL {P : Program} {w : World} {K : PySem.W.Frag} {h : Heap} {mg : Str → Option Value} {f : Addr} (X : K.In h) (G : h.Ns mainGlobals mg) (hfa : mg ("law" : Str) = some (.ref f)) (c : He.SaysD faL fnL K) (ex : exB K = true) (gg : ∀ d ∈ gsL, PropOf K (He.ga K d.c) d.f (He.ma K (He.ga K d.c) d.f) (gAd K d.c d.f) ∧ ∃ fd, FunD K d.f d.qual d.params d.body d.scope [] [] (gAd K d.c d.f) fd) (ee : ∀ d ∈ esL, fnE K d = d.val ∧ d.ok K "/claim/cut.py" = true) (prg : PrgT P "/claim/cut.py") :
    ∃ fd : FuncData, (∀ (s : Shared) (v : Value), BindsTo s fd ⟨[v], []⟩ [("_law_script", v)]) ∧ ∀ base : Heap, K.In base → base.Ns mainGlobals mg → (∀ p ∈ csL K tfL, TabB base mg p.1 p.2) → FnG P w K mg base CX0 10 f fd ["_law_script"] (spLawT K (He.cT K ("_law_refused_right", none)).2) := by
  obtain ⟨fd__law_begun, F__law_begun⟩ := c.def_ 0 (d := D__law_begun) rfl
  obtain ⟨fd__law_mixed, F__law_mixed⟩ := c.def_ 1 (d := D__law_mixed) rfl
  obtain ⟨fd__law_take, F__law_take⟩ := c.def_ 2 (d := D__law_take) rfl
  obtain ⟨fd__law_pick, F__law_pick⟩ := c.def_ 3 (d := D__law_pick) rfl
  obtain ⟨fd_is_number, F_is_number⟩ := c.def_ 4 (d := D_is_number) rfl
  obtain ⟨fd_is_number_in, F_is_number_in⟩ := c.def_ 5 (d := D_is_number_in) rfl
  obtain ⟨fd_is_list, F_is_list⟩ := c.def_ 6 (d := D_is_list) rfl
  obtain ⟨fd_is_name, F_is_name⟩ := c.def_ 7 (d := D_is_name) rfl
  obtain ⟨fd_are_lengths, F_are_lengths⟩ := c.def_ 8 (d := D_are_lengths) rfl
  obtain ⟨fd_is_kind, F_is_kind⟩ := c.def_ 9 (d := D_is_kind) rfl
  obtain ⟨fd_are_kinds, F_are_kinds⟩ := c.def_ 10 (d := D_are_kinds) rfl
  obtain ⟨fd_is_order, F_is_order⟩ := c.def_ 11 (d := D_is_order) rfl
  obtain ⟨fd_Book___init__, F_Book___init__⟩ := c.def_ 12 (d := D_Book___init__) rfl
  obtain ⟨fd_Plan___init__, F_Plan___init__⟩ := c.def_ 13 (d := D_Plan___init__) rfl
  obtain ⟨fd_Plan___eq__, F_Plan___eq__⟩ := c.def_ 14 (d := D_Plan___eq__) rfl
  obtain ⟨fd_need_plan, F_need_plan⟩ := c.def_ 15 (d := D_need_plan) rfl
  obtain ⟨fd_need_balance, F_need_balance⟩ := c.def_ 16 (d := D_need_balance) rfl
  obtain ⟨fd_month_with, F_month_with⟩ := c.def_ 17 (d := D_month_with) rfl
  obtain ⟨fd_month, F_month⟩ := c.def_ 18 (d := D_month) rfl
  obtain ⟨fd__law_caught, F__law_caught⟩ := c.def_ 19 (d := D__law_caught) rfl
  obtain ⟨fd__law_is_number, F__law_is_number⟩ := c.def_ 20 (d := D__law_is_number) rfl
  obtain ⟨fd__law_wrong, F__law_wrong⟩ := c.def_ 21 (d := D__law_wrong) rfl
  obtain ⟨fd__law_shown, F__law_shown⟩ := c.def_ 22 (d := D__law_shown) rfl
  obtain ⟨fd__law_parts, F__law_parts⟩ := c.def_ 23 (d := D__law_parts) rfl
  obtain ⟨fd__law_planned, F__law_planned⟩ := c.def_ 24 (d := D__law_planned) rfl
  obtain ⟨fd__law_sum_drawn, F__law_sum_drawn⟩ := c.def_ 25 (d := D__law_sum_drawn) rfl
  obtain ⟨fd__law_step, F__law_step⟩ := c.def_ 26 (d := D__law_step) rfl
  obtain ⟨fd__law_refused_right, F__law_refused_right⟩ := c.def_ 27 (d := D__law_refused_right) rfl
  obtain ⟨fd_law, F_law⟩ := c.def_ 28 (d := D_law) rfl
  obtain ⟨pr_Plan_rate, fd_Plan_rate, F_Plan_rate⟩ := gg G_Plan_rate (List.mem_of_getElem? (i := 0) rfl)
  obtain ⟨pr_Plan_share, fd_Plan_share, F_Plan_share⟩ := gg G_Plan_share (List.mem_of_getElem? (i := 1) rfl)
  obtain ⟨pr_Plan_least, fd_Plan_least, F_Plan_least⟩ := gg G_Plan_least (List.mem_of_getElem? (i := 2) rfl)
  obtain ⟨pr_Plan_plus, fd_Plan_plus, F_Plan_plus⟩ := gg G_Plan_plus (List.mem_of_getElem? (i := 3) rfl)
  have e := hfa.symm.trans (He.glo_ok X G (c.fact 25 (f := .glo "law") rfl))
  cases e
  have ex12 : (insB K (He.ga K "Plan") && (noKitQ K (He.ga K "Plan") && (sysQ K && (errsQ K ["BadPlan"] && ((["BadPlan"] : List Str).all (fun c => noKitQ K (He.ga K c)) && (insB K (He.ga K "Book") && (eqQ K (He.ga K "Plan") (He.fAd K ("Plan", some "__eq__")) && nfQ K (He.ga K "Plan") (He.ga K "Book")))))))) = true := ex
  have T : Tx K mg := { b_all := He.free_ok X G (c.fact 32 (f := .free "all") rfl), b_bool := He.free_ok X G (c.fact 33 (f := .free "bool") rfl), b_dict := He.free_ok X G (c.fact 34 (f := .free "dict") rfl), b_int := He.free_ok X G (c.fact 35 (f := .free "int") rfl), b_isinstance := He.free_ok X G (c.fact 36 (f := .free "isinstance") rfl), b_len := He.free_ok X G (c.fact 37 (f := .free "len") rfl), b_list := He.free_ok X G (c.fact 38 (f := .free "list") rfl), b_max := He.free_ok X G (c.fact 39 (f := .free "max") rfl), b_min := He.free_ok X G (c.fact 40 (f := .free "min") rfl), b_range := He.free_ok X G (c.fact 41 (f := .free "range") rfl), b_repr := He.free_ok X G (c.fact 42 (f := .free "repr") rfl), b_sorted := He.free_ok X G (c.fact 43 (f := .free "sorted") rfl), b_str := He.free_ok X G (c.fact 44 (f := .free "str") rfl), b_sum := He.free_ok X G (c.fact 45 (f := .free "sum") rfl), b_super := He.free_ok X G (c.fact 46 (f := .free "super") rfl), b_tuple := He.free_ok X G (c.fact 47 (f := .free "tuple") rfl), b_zip := He.free_ok X G (c.fact 48 (f := .free "zip") rfl), c_DAY := He.str_ok X G (c.fact 49 (f := .str "DAY" "day") rfl), c_LETTERS := He.str_ok X G (c.fact 50 (f := .str "LETTERS" "abcdefghijklmnopqrstuvwxyz") rfl), c_LONGEST := He.int_ok X G (c.fact 51 (f := .int "LONGEST" 31) rfl), c_MOST_BALANCE := He.int_ok X G (c.fact 52 (f := .int "MOST_BALANCE" 100000) rfl), c_MOST_DAY := He.int_ok X G (c.fact 53 (f := .int "MOST_DAY" 2000) rfl), c_MOST_KINDS := He.int_ok X G (c.fact 54 (f := .int "MOST_KINDS" 6) rfl), c_MOST_LEAST := He.int_ok X G (c.fact 55 (f := .int "MOST_LEAST" 1000000) rfl), c_MOST_LENGTHS := He.int_ok X G (c.fact 56 (f := .int "MOST_LENGTHS" 4) rfl), c_MOST_MEMORY := He.int_ok X G (c.fact 57 (f := .int "MOST_MEMORY" 2) rfl), c_MOST_NAME := He.int_ok X G (c.fact 58 (f := .int "MOST_NAME" 8) rfl), c_MOST_RATE := He.int_ok X G (c.fact 59 (f := .int "MOST_RATE" 1000) rfl), c_SHORTEST := He.int_ok X G (c.fact 60 (f := .int "SHORTEST" 2) rfl), c_STATEMENT := He.str_ok X G (c.fact 61 (f := .str "STATEMENT" "statement") rfl), c_THOUSAND := He.int_ok X G (c.fact 62 (f := .int "THOUSAND" 1000) rfl), g_CreditError := He.glo_ok X G (c.fact 26 (f := .glo "CreditError") rfl), g_BadBook := He.glo_ok X G (c.fact 27 (f := .glo "BadBook") rfl), g_BadNumber := He.glo_ok X G (c.fact 28 (f := .glo "BadNumber") rfl), g_BadPlan := He.glo_ok X G (c.fact 29 (f := .glo "BadPlan") rfl), g_Book := He.glo_ok X G (c.fact 30 (f := .glo "Book") rfl), g_Plan := He.glo_ok X G (c.fact 31 (f := .glo "Plan") rfl) }
  have clPlan := He.cls_ok (c.fact 63 (f := .cls "Plan") rfl)
  have naPlan := He.noat_ok (c.fact 64 (f := .noat "Plan" "l_parts") rfl)
  have mkPlan := He.mkr_ok (c.fact 65 (f := .mkr "Plan") rfl)
  have insPlan := insB_ok clPlan (He.ba ex12).1
  obtain ⟨bds, bvs, bPlan'⟩ := FunD.binds1 (ps := ["self", "rate", "share", "least", "plus"]) F_Plan___init__ 5 1 (List.cons_ne_nil _ _) rfl (fun T' kV doc pm an cdv ct us its h1 h2 => match us, its, h1, h2 with | [_, _, _, _, _], [_], _, _ => ⟨_, rfl, rfl⟩)
  have bPlan : Binds K fd_Plan___init__ ["self", "rate", "share", "least", "plus"] [] := by cases bvs; exact bPlan'
  obtain ⟨bd3P, bv3P, bPlan3⟩ := FunD.binds1 (ps := ["self", "rate", "share", "least", "plus"]) F_Plan___init__ 4 0 (List.cons_ne_nil _ _) rfl (fun T' kV doc pm an cdv ct us its h1 h2 => match us, its, h1, h2 with | [_, _, _, _], [_], _, _ => ⟨_, rfl, rfl⟩)
  have ex2 := (He.ba ex12).2
  have nk : noKitB K (He.ga K "Plan") = true := (He.ba ex2).1
  have ex3 := (He.ba ex2).2
  have sysK : sysB K = true := (He.ba ex3).1
  have ex4 := (He.ba ex3).2
  have erS : errsB K ["BadPlan"] = true := (He.ba ex4).1
  have ex5 := (He.ba ex4).2
  have erN : (["BadPlan"] : List Str).all (fun c => noKitB K (He.ga K c)) = true := (He.ba ex5).1
  have ex6 := (He.ba ex5).2
  have inB' := (He.ba ex6).1
  have eqP := eqQ_ok (He.ba (He.ba ex6).2).1
  have nfP := (He.ba (He.ba ex6).2).2
  have clBook := He.cls_ok (c.fact 66 (f := .cls "Book") rfl)
  have mkBook := He.mkr_ok (c.fact 67 (f := .mkr "Book") rfl)
  have bcBook : BkC K (He.ga K "Book") := ⟨clBook, He.noat_ok (c.fact 68 (f := .noat "Book" "b_lengths") rfl), He.noat_ok (c.fact 69 (f := .noat "Book" "b_due") rfl), He.noat_ok (c.fact 70 (f := .noat "Book" "b_kinds") rfl), He.noat_ok (c.fact 71 (f := .noat "Book" "b_memory") rfl), He.noat_ok (c.fact 72 (f := .noat "Book" "b_begins") rfl), He.noat_ok (c.fact 73 (f := .noat "Book" "b_laid") rfl)⟩
  have insBook := insB_ok clBook inB'
  obtain ⟨bd3, bv3, bBook3⟩ := FunD.binds1 (ps := ["self", "lengths", "due", "kinds", "memory", "begins", "laid"]) F_Book___init__ 4 0 (List.cons_ne_nil _ _) rfl (fun T' kV doc pm an cdv ct us its h1 h2 => match us, its, h1, h2 with | [_, _, _, _], [_, _, _], _, _ => ⟨_, rfl, rfl⟩)
  have NF := nfQ_ok nfP nk insPlan insBook
  have e_BadPlan : ErrC P K mg "BadPlan" (He.ga K "BadPlan") "part" := errC_ok (ee E_BadPlan (List.mem_of_getElem? (i := 0) rfl)) tx_BadPlan prg T.g_BadPlan
  have fx_BadPlan : ExcC K (He.ga K "BadPlan") ∧ XfC K (He.ga K "BadPlan") ∧ PySem.W.findIn K (.ref (He.ga K "BadPlan")) "part" = some none := errX_ok (ee E_BadPlan (List.mem_of_getElem? (i := 0) rfl)) tx_BadPlan
  have mg__law_caught : mg "_law_caught" = some (.ref (He.ga K "_law_caught")) := He.glo_ok X G (c.fact 16 (f := .glo "_law_caught") rfl)
  have CT : CtD K mg (He.ga K "CreditError") := ⟨⟨_, F__law_caught, FunD.bindsN F__law_caught fun _ _ _ _ _ _ us hl => match us, hl with | [_], _ => rfl⟩, mg__law_caught, F__law_caught.kp, T.g_CreditError⟩
  have ef : ErG K (He.ga K "CreditError") esQ := ⟨fun c hc => by rw [List.mem_singleton.mp hc]; exact fx_BadPlan.1, errsB_ve erS, errsB_k erS, errsB_ex erS, List.all_eq_true.mp erN⟩
  have b := FunD.bindsA (ps := ["_law_script"]) F_law fun _ _ _ _ _ _ us hl => match us, hl with | [_], _ => rfl
  refine ⟨fd_law, fun s v => b s [v] rfl, fun base inB nsB tbB => ?_⟩
  have m_rate : Dpr P w K mg base CX0 1 (He.ga K "Plan") "rate" (sp_Pl (He.ga K "Plan") (fun M => .int M.r)) := ⟨⟨_, _, _, _, pr_Plan_rate, ok_Pl_rate T clPlan naPlan F_Plan_rate, FunD.bindsN F_Plan_rate fun _ _ _ _ _ _ us hl => match us, hl with | [_], _ => rfl⟩, clPlan⟩
  have m_share : Dpr P w K mg base CX0 1 (He.ga K "Plan") "share" (sp_Pl (He.ga K "Plan") (fun M => .int M.s)) := ⟨⟨_, _, _, _, pr_Plan_share, ok_Pl_share T clPlan naPlan F_Plan_share, FunD.bindsN F_Plan_share fun _ _ _ _ _ _ us hl => match us, hl with | [_], _ => rfl⟩, clPlan⟩
  have m_least : Dpr P w K mg base CX0 1 (He.ga K "Plan") "least" (sp_Pl (He.ga K "Plan") (fun M => .int M.m)) := ⟨⟨_, _, _, _, pr_Plan_least, ok_Pl_least T clPlan naPlan F_Plan_least, FunD.bindsN F_Plan_least fun _ _ _ _ _ _ us hl => match us, hl with | [_], _ => rfl⟩, clPlan⟩
  have m_plus : Dpr P w K mg base CX0 1 (He.ga K "Plan") "plus" (sp_Pl (He.ga K "Plan") (fun M => .bl M.b)) := ⟨⟨_, _, _, _, pr_Plan_plus, ok_Pl_plus T clPlan naPlan F_Plan_plus, FunD.bindsN F_Plan_plus fun _ _ _ _ _ _ us hl => match us, hl with | [_], _ => rfl⟩, clPlan⟩
  have d__law_begun : Dn P w K mg base CX0 1 "_law_begun" ["_law_script"] (sp_begun K) := ⟨⟨_, ok__law_begun T F__law_begun, FunD.bindsN F__law_begun fun _ _ _ _ _ _ us hl => match us, hl with | [_], _ => rfl⟩, He.glo_ok X G (c.fact 0 (f := .glo "_law_begun") rfl), F__law_begun.kp⟩
  have d__law_mixed : Dn P w K mg base CX0 1 "_law_mixed" ["_law_state"] sp_mixed := ⟨⟨_, ok__law_mixed T F__law_mixed, FunD.bindsN F__law_mixed fun _ _ _ _ _ _ us hl => match us, hl with | [_], _ => rfl⟩, He.glo_ok X G (c.fact 1 (f := .glo "_law_mixed") rfl), F__law_mixed.kp⟩
  have d__law_take : Dn P w K mg base CX0 2 "_law_take" ["_law_state", "_law_size"] sp_take := ⟨⟨_, ok__law_take T F__law_take d__law_mixed, FunD.bindsN F__law_take fun _ _ _ _ _ _ us hl => match us, hl with | [_, _], _ => rfl⟩, He.glo_ok X G (c.fact 2 (f := .glo "_law_take") rfl), F__law_take.kp⟩
  have d__law_pick : Dn P w K mg base CX0 3 "_law_pick" ["_law_state", "_law_some"] sp_pick := ⟨⟨_, ok__law_pick T F__law_pick d__law_take, FunD.bindsN F__law_pick fun _ _ _ _ _ _ us hl => match us, hl with | [_, _], _ => rfl⟩, He.glo_ok X G (c.fact 3 (f := .glo "_law_pick") rfl), F__law_pick.kp⟩
  have d_is_number : Dn P w K mg base CX0 1 "is_number" ["value"] (sp_is_number K) := ⟨⟨_, ok_is_number T F_is_number, FunD.bindsN F_is_number fun _ _ _ _ _ _ us hl => match us, hl with | [_], _ => rfl⟩, He.glo_ok X G (c.fact 4 (f := .glo "is_number") rfl), F_is_number.kp⟩
  have d_is_number_in : Dn P w K mg base CX0 2 "is_number_in" ["value", "least", "most"] (sp_is_number_in K) := ⟨⟨_, ok_is_number_in T F_is_number_in d_is_number, FunD.bindsN F_is_number_in fun _ _ _ _ _ _ us hl => match us, hl with | [_, _, _], _ => rfl⟩, He.glo_ok X G (c.fact 5 (f := .glo "is_number_in") rfl), F_is_number_in.kp⟩
  have d_is_list : Dn P w K mg base CX0 1 "is_list" ["value"] (sp_is_list K) := ⟨⟨_, ok_is_list T F_is_list, FunD.bindsN F_is_list fun _ _ _ _ _ _ us hl => match us, hl with | [_], _ => rfl⟩, He.glo_ok X G (c.fact 6 (f := .glo "is_list") rfl), F_is_list.kp⟩
  have d_is_name : Dn P w K mg base CX0 1 "is_name" ["value"] sp_is_name := ⟨⟨_, ok_is_name T F_is_name, FunD.bindsN F_is_name fun _ _ _ _ _ _ us hl => match us, hl with | [_], _ => rfl⟩, He.glo_ok X G (c.fact 7 (f := .glo "is_name") rfl), F_is_name.kp⟩
  have d_are_lengths : Dn P w K mg base CX0 3 "are_lengths" ["value"] (sp_are_lengths K) := ⟨⟨_, ok_are_lengths T F_are_lengths d_is_list d_is_number_in, FunD.bindsN F_are_lengths fun _ _ _ _ _ _ us hl => match us, hl with | [_], _ => rfl⟩, He.glo_ok X G (c.fact 8 (f := .glo "are_lengths") rfl), F_are_lengths.kp⟩
  have d_is_kind : Dn P w K mg base CX0 3 "is_kind" ["value"] sp_is_kind := ⟨⟨_, ok_is_kind T F_is_kind d_is_number_in, FunD.bindsN F_is_kind fun _ _ _ _ _ _ us hl => match us, hl with | [_], _ => rfl⟩, He.glo_ok X G (c.fact 9 (f := .glo "is_kind") rfl), F_is_kind.kp⟩
  have d_are_kinds : Dn P w K mg base CX0 4 "are_kinds" ["value"] sp_are_kinds := ⟨⟨_, ok_are_kinds T F_are_kinds d_is_name d_is_kind, FunD.bindsN F_are_kinds fun _ _ _ _ _ _ us hl => match us, hl with | [_], _ => rfl⟩, He.glo_ok X G (c.fact 10 (f := .glo "are_kinds") rfl), F_are_kinds.kp⟩
  have d_is_order : Dn P w K mg base CX0 2 "is_order" ["names", "value"] sp_is_order := ⟨⟨_, ok_is_order T F_is_order d_is_name, FunD.bindsN F_is_order fun _ _ _ _ _ _ us hl => match us, hl with | [_, _], _ => rfl⟩, He.glo_ok X G (c.fact 11 (f := .glo "is_order") rfl), F_is_order.kp⟩
  have mk_Book_3 : Dc P w K mg base CX0 5 "Book" (sp_Book3 (He.ga K "Book")) := ⟨⟨_, _, _, _, [.int 0, .str "day", .non], bd3, mkBook, ok_Book_init T bcBook F_Book___init__ d_is_number_in d_are_lengths d_are_kinds d_is_order, bBook3, bv3, fun vs H Q E z => imp_Book3 vs H Q E z⟩, T.g_Book⟩
  have mk_Plan : Dc P w K mg base CX0 3 "Plan" (sp_Plan (He.ga K "Plan")) := ⟨⟨_, _, _, _, [], [], mkPlan, ok_Plan_init T clPlan naPlan F_Plan___init__ d_is_number_in, bPlan, .nil, fun vs H Q E z => imp_Plan vs H Q E z⟩, T.g_Plan⟩
  have mk_Plan_3 : Dc P w K mg base CX0 3 "Plan" (sp_Plan3 (He.ga K "Plan")) := ⟨⟨_, _, _, _, [.bl false], bd3P, mkPlan, ok_Plan_init T clPlan naPlan F_Plan___init__ d_is_number_in, bPlan3, bv3P, fun vs H Q E z => imp_Plan3 vs H Q E z⟩, T.g_Plan⟩
  have xm_Plan : Dc P w K mg base (L2.CX P w) 3 "Plan" (spx_Plan K) := ⟨⟨_, _, _, _, [], [], mkPlan, okx_Plan_init T clPlan naPlan e_BadPlan F_Plan___init__ d_is_number_in, bPlan, .nil, fun vs H Q E z => impx_Plan vs H Q E z⟩, T.g_Plan⟩
  have xq_Plan_plus_least_rate_share : Dcq P w K mg base (L2.CX P w) 3 "Plan" ["plus", "least", "rate", "share"] perm4 (spx_Plan K) := ⟨⟨_, _, _, _, _, _, mkPlan, okx_Plan_init T clPlan naPlan e_BadPlan F_Plan___init__ d_is_number_in, kbn1 (n := 1) (g := fun us ws => us ++ perm4 ws) (gV := fun vs zs => vs ++ perm4 zs) F_Plan___init__ (List.cons_ne_nil _ _) self4_rel (fun T' kV doc pm an cdv ct us its ws h1 h2 h3 => match us, its, ws, h1, h2, h3 with | [_], [_], [_, _, _, _], _, _, _ => ⟨_, rfl, rfl⟩), fun _ _ => rfl, fun vs H Q E z => impx_Plan vs H Q E z⟩, T.g_Plan⟩
  have E_Plan : Deq P w K mg base CX0 1 (He.ga K "Plan") (sp_eqP K (He.ga K "Plan")) := ⟨⟨_, _, _, eqP, ok_Plan_eq T insPlan clPlan naPlan F_Plan___eq__, FunD.bindsN F_Plan___eq__ fun _ _ _ _ _ _ us hl => match us, hl with | [_, _], _ => rfl⟩⟩
  have d_need_plan : Dn P w K mg base CX0 1 "need_plan" ["value"] (sp_need_plan (He.ga K "Plan")) := ⟨⟨_, ok_need_plan T insPlan F_need_plan, FunD.bindsN F_need_plan fun _ _ _ _ _ _ us hl => match us, hl with | [_], _ => rfl⟩, He.glo_ok X G (c.fact 12 (f := .glo "need_plan") rfl), F_need_plan.kp⟩
  have d_need_balance : Dn P w K mg base CX0 3 "need_balance" ["plan", "balance"] (sp_need_balance (He.ga K "Plan")) := ⟨⟨_, ok_need_balance T F_need_balance d_need_plan d_is_number_in, FunD.bindsN F_need_balance fun _ _ _ _ _ _ us hl => match us, hl with | [_, _], _ => rfl⟩, He.glo_ok X G (c.fact 13 (f := .glo "need_balance") rfl), F_need_balance.kp⟩
  have d_month_with : Dn P w K mg base CX0 1 "month_with" ["plan", "balance", "extra"] (sp_month_with (He.ga K "Plan")) := ⟨⟨_, ok_month_with T clPlan naPlan F_month_with, FunD.bindsN F_month_with fun _ _ _ _ _ _ us hl => match us, hl with | [_, _, _], _ => rfl⟩, He.glo_ok X G (c.fact 14 (f := .glo "month_with") rfl), F_month_with.kp⟩
  have d_month : Dn P w K mg base CX0 4 "month" ["plan", "balance"] (sp_month (He.ga K "Plan")) := ⟨⟨_, ok_month T F_month d_need_balance d_month_with, FunD.bindsN F_month fun _ _ _ _ _ _ us hl => match us, hl with | [_, _], _ => rfl⟩, He.glo_ok X G (c.fact 15 (f := .glo "month") rfl), F_month.kp⟩
  have k_month_balance_plan : Dq P w K mg base CX0 4 "month" ["balance", "plan"] swap2 (sp_month (He.ga K "Plan")) := ⟨⟨_, ["plan", "balance"], _, ok_month T F_month d_need_balance d_month_with, kbn_of F_month swap2_rel fun _ _ _ _ _ _ ws hl => match ws, hl with | [_, _], _ => rfl⟩, He.glo_ok X G (c.fact 15 (f := .glo "month") rfl), F_month.kp⟩
  have d__law_is_number : Dn P w K mg base CX0 1 "_law_is_number" ["_law_thing"] (sp_is_number K) := ⟨⟨_, ok__law_is_number T F__law_is_number , FunD.bindsN F__law_is_number fun _ _ _ _ _ _ us hl => match us, hl with | [_], _ => rfl⟩, He.glo_ok X G (c.fact 17 (f := .glo "_law_is_number") rfl), F__law_is_number.kp⟩
  have d__law_wrong : Dn P w K mg base CX0 2 "_law_wrong" ["_law_parts_here"] sp_wrong := ⟨⟨_, ok__law_wrong T F__law_wrong d__law_is_number, FunD.bindsN F__law_wrong fun _ _ _ _ _ _ us hl => match us, hl with | [_], _ => rfl⟩, He.glo_ok X G (c.fact 18 (f := .glo "_law_wrong") rfl), F__law_wrong.kp⟩
  have d__law_shown : Dn P w K mg base CX0 3 "_law_shown" ["_law_made"] (sp_lshown (He.ga K "Plan")) := ⟨⟨_, ok__law_shown T clPlan F__law_shown m_rate m_share m_least m_plus, FunD.bindsN F__law_shown fun _ _ _ _ _ _ us hl => match us, hl with | [_], _ => rfl⟩, He.glo_ok X G (c.fact 19 (f := .glo "_law_shown") rfl), F__law_shown.kp⟩
  have d__law_parts : Dn P w K mg base CX0 4 "_law_parts" ["_law_state"] sp_parts := ⟨⟨_, ok__law_parts T F__law_parts d__law_take d__law_pick, FunD.bindsN F__law_parts fun _ _ _ _ _ _ us hl => match us, hl with | [_], _ => rfl⟩, He.glo_ok X G (c.fact 20 (f := .glo "_law_parts") rfl), F__law_parts.kp⟩
  have d__law_planned : Dn P w K mg base CX0 5 "_law_planned" ["_law_parts_here"] (sp_planned (He.ga K "Plan")) := ⟨⟨_, ok__law_planned T F__law_planned mk_Plan, FunD.bindsN F__law_planned fun _ _ _ _ _ _ us hl => match us, hl with | [_], _ => rfl⟩, He.glo_ok X G (c.fact 21 (f := .glo "_law_planned") rfl), F__law_planned.kp⟩
  have d__law_sum_drawn : Dn P w K mg base CX0 4 "_law_sum_drawn" ["_law_state", "_law_parts_here"] sp_sum_drawn := ⟨⟨_, ok__law_sum_drawn T F__law_sum_drawn d__law_take d__law_pick, FunD.bindsN F__law_sum_drawn fun _ _ _ _ _ _ us hl => match us, hl with | [_, _], _ => rfl⟩, He.glo_ok X G (c.fact 22 (f := .glo "_law_sum_drawn") rfl), F__law_sum_drawn.kp⟩
  have d__law_step : Dn P w K mg base CX0 1 "_law_step" ["_law_parts_here", "_law_sum_here", "_law_more"] sp_step := ⟨⟨_, ok__law_step T F__law_step , FunD.bindsN F__law_step fun _ _ _ _ _ _ us hl => match us, hl with | [_, _, _], _ => rfl⟩, He.glo_ok X G (c.fact 23 (f := .glo "_law_step") rfl), F__law_step.kp⟩
  have d__law_refused_right : Dg P w K mg base CX0 9 "_law_refused_right" ["_law_state", "_law_parts_here"] (sp_refused K (He.cT K ("_law_refused_right", none)).2) := ⟨⟨_, ok__law_refused_right T F__law_refused_right (codeAt_of F__law_refused_right) CT (tbB _ (csL_of (List.mem_singleton.mpr rfl))) ef sysK fx_BadPlan.2.1 fx_BadPlan.2.2 d__law_take d__law_pick d__law_wrong d__law_shown mk_Plan xm_Plan xq_Plan_plus_least_rate_share, FunD.bindsN F__law_refused_right fun _ _ _ _ _ _ us hl => match us, hl with | [_, _], _ => rfl⟩, He.glo_ok X G (c.fact 24 (f := .glo "_law_refused_right") rfl), F__law_refused_right.kp⟩
  exact ok_law T F_law sysK E_Plan NF d__law_begun d__law_take d__law_pick d__law_parts d__law_planned d__law_shown d__law_sum_drawn d__law_step d__law_refused_right mk_Plan_3 mk_Book_3 m_plus d_month k_month_balance_plan
end Wp
open PySem PySem.W PySem.Calls PyProof.Rows
set_option maxRecDepth 100000 in
set_option maxHeartbeats 0 in
theorem PySem.Challenge.cw_wholepaid_k72_plans_and_months_holds : PySem.Challenge.rw_wholepaid_k72_plans_and_months.Holds := by
  refine Wp.holdsL ?hc
  case hc =>
    refine Wp.walk_ofGT (l := PySem.Challenge.rw_wholepaid_k72_plans_and_months) (n := 63) (k := 10) (x := "_law_script") (CX := L2.CX0) rfl (by decide) (by kernel_rfl) ⟨rfl, by decide, by decide⟩ ?F (fun _ _ _ _ z => z)
    intro w mg fa h Y G hmg0
    obtain ⟨K, inK, cX⟩ := Y
    have hmg : mg ("law" : PySem.Str) = some (.ref fa) := by
      have e : (HandSHeadRun.topDef Wp.Rw.prog 51).name = ("law" : PySem.Str) := by kernel_rfl
      rw [← e]
      exact hmg0
    obtain ⟨fd, hb, hF⟩ := Wp.factsL (P := (PySem.Challenge.rw_wholepaid_k72_plans_and_months).prog) (w := w) inK G hmg cX.t.d cX.more cX.g cX.e ⟨by kernel_rfl, by kernel_rfl⟩
    exact ⟨K, Wp.csL K Wp.tfL, fd, (Wp.spLawT K (He.cT K ("_law_refused_right", none)).2), inK, Wp.csL_all fun p hp => cX.empty p hp, Wp.csL_all fun p hp => cX.out p hp, Wp.csL_all fun p hp => codeHd_of_K inK (cX.hd p hp), hb, fun H a zs hl hH hS => ⟨a, zs, rfl, hH _ (Wp.csL_of (List.mem_singleton.mpr rfl)), hS, hl, fun _ => rfl⟩, hF⟩
