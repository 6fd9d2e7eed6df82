import PyProof.Rows.All
import Wide.All
import OpenK.AllK
import Wide.FinOn
import KE.KStateDown
import Lean
import HandS.ForMost
import HandS.Exc
import HandS.WordsExc
import HandS.Flow
import HandS.Style
import HandS.IsInst
import HandS.Defaults
import HandS.Conv
import HandS.Evl
import HandS.Steps
import HandS.Head0
import HandS.Head1
import HandS.Head2
import HandS.HeadEnd
import HandS.HeadHook1
import HandS.HeadHook2
import PyProof.ReprRoads
import HandS.MakeKwOnly
import HandS.Codes
import HandS.Property
import HandS.HeadHook3
import HandS.HeadHook4
import HandS.Text
import HandS.Iter
import HandS.DictComp
import HandS.More
import HandS.WordsDict
import KE.KDictZip
import HandS.Zip0
import HandS.Star
import KE.SortData
import HandS.Flt
import PyProof.ReprLen
import KE.GoesEnum
import HandS.TupAny
import HandS.ListItems
import HandS.Finally
import HandS.SortInts
import KE.DataMinMax
import PySem.Challenge.RW_wholepaid_k53_wishes_that_books_keep
set_option Elab.async false
set_option linter.all false
set_option maxRecDepth 100000
set_option maxHeartbeats 4000000
/-! The layer of this repo over the hand layer: defs called by their names, repr of data, the draws. -/
namespace Wp
open PySem PySem.Spec PyProof.Rows L2

/-- a def of the top as it stands -/
abbrev FnP (K : PySem.W.Frag) (x : Str) (st : Stmt) (f : Addr) (fd : FuncData) : Prop :=
  FunD K x x (defArgs st) (defBody st) (defScope st) [] [] f fd

/-- a def of the top that is called by its name -/
structure Dn (P : Program) (w : World) (K : PySem.W.Frag) (mg : Str → Option Value) (base : Heap)
    (CX : CXT) (k : Nat) (x : Str) (ps : List Str) (sp : Sp) : Prop where
  ex : ∃ fd, FnOk P w K mg base CX k (He.ga K x) fd ps sp ∧ Binds K fd ps []
  gm : mg x = some (.ref (He.ga K x))
  kp : PySem.W.keepIn K (.ref (He.ga K x)) = true

def tFn (sp : Sp) (E : XK) (t : TA) : TE := fun σ H Q => t σ H fun vs H1 => sp vs H1 Q E

section
variable {X : Cx}
theorem pe_fn {CX : CXT} {k : Nat} {x : Str} {ps : List Str} {sp : Sp} {E : XK} {e : Expr} {es : List Expr}
    {t : TA} {p pos : Pos} (D : Dn X.prog X.w X.K X.mg X.base CX k x ps sp) (hr : Room k X.A)
    (hx : Passes CX X E) (ha : PA X (e :: es) t) (hg : Gl X x := by rfl)
    (hdb : (x == ("__debug__" : Str)) = false := by decide)
    (he : starEach (e :: es) X.env = (false, eval e X.env) :: starEach es X.env := by rfl)
    (hpl : (backTo pos (starEach es X.env)).any (·.1) = false := by rfl) :
    PE X (.Call (.Name x p) (e :: es) [] pos) (tFn sp E t) := by
  obtain ⟨fd, F, b⟩ := D.ex
  refine ⟨fun pins s σ H Q I h => ?_⟩
  have q := pe_call (CX := CX) (E := E) (dvs := []) (p := p) (pos := pos) F hr hg D.gm D.kp b .nil hx ha hdb he hpl
  refine q.run pins s σ H Q I ?_
  have e2 : (fun vs H1 => sp (vs ++ []) H1 Q E) = fun vs H1 => sp vs H1 Q E := by
    funext vs H1
    rw [List.append_nil]
  show t σ H (fun vs H1 => sp (vs ++ []) H1 Q E)
  rw [e2]
  exact h
end
end Wp
set_option Elab.async false
set_option linter.all false
set_option maxRecDepth 100000
set_option maxHeartbeats 4000000
namespace Wp
open PySem PySem.Spec PyProof.Rows L2
def topS (i : Nat) : Stmt := PySem.Challenge.pw_wholepaid_k53_wishes_that_books_keep.main.body.getD i (.Pass ⟨0, 0, 0, 0⟩)
end Wp
set_option Elab.async false
set_option linter.all false
set_option maxRecDepth 100000
set_option maxHeartbeats 4000000
/-! Readings, step by step: one lemma for each head. -/
namespace Wp
open PySem PySem.Spec PyProof.Rows L2

theorem sz5 {n : Nat} (h : n ≤ 1000000) : n ≤ sizeLine := Nat.le_trans h (by decide)
theorem sz6 {n : Nat} (h : n < 1000000) : n < sizeLine := Nat.lt_of_lt_of_le h (by decide)
/-- all but the object at a is as it was -/
def But (a : Addr) (H H' : Hp) : Prop := ∀ b o, H b = some o → b ≠ a → H' b = some o
theorem Same.new {H : Hp} {p : Addr} {o : HO} (h : H p = none) : Same H (upd H p o) := fun b u e => by
  rw [upd_ne (ne_of_none e h)]
  exact e
theorem But.upd {H : Hp} {p : Addr} {o : HO} : But p H (upd H p o) := fun b u e n => by
  rw [upd_ne n]
  exact e
theorem But.same {H H1 H2 : Hp} {p : Addr} (a : But p H H1) (b : Same H1 H2) : But p H H2 := fun c o e n => b c o (a c o e n)
theorem Same.but {H H1 H2 : Hp} {p : Addr} (a : Same H H1) (b : But p H1 H2) : But p H H2 := fun c o e n => b c o (a c o e) n
/-- what is new may change -/
theorem Same.mut {H H1 H2 : Hp} {p : Addr} (a : Same H H1) (b : But p H1 H2) (n : H p = none) : Same H H2 := fun c o e => b c o (a c o e) (ne_of_none e n)

section
variable {t u : TS} {D : Ends} {σ : L2.St} {H : Hp} {te ta tb tc : TE} {ca cb : TT} {tr : TA} {g : TG} {gs : TGs} {Q : VK} {QB : Bool → Hp → Prop} {QA : List V → Hp → Prop} {QS : L2.St → Hp → Prop} {v x y : V} {i j : Int} {n : Nat} {b : Bool} {K : PySem.W.Frag}
/-! statements -/
theorem r_seq (h : t { D with nx := u D } σ H) : tSeq t u D σ H := h
theorem r_next (h : D.nx σ H) : tNext D σ H := h
theorem r_if {c : TT} (h : c σ H fun b H1 => if b = true then t D σ H1 else u D σ H1) : tIfS c t u D σ H := h
theorem r_asg (h : te σ H fun x H1 => g x σ H1 D.nx) : tAsg te g D σ H := h
theorem r_gname (h : QS (σ.set n (some v)) H) : gName n v σ H QS := h
theorem r_ret (h : te σ H D.rt) : tRet te D σ H := h
theorem r_retN (h : D.rt .non H) : tRetN D σ H := h
theorem r_drop (h : te σ H fun _ H1 => D.nx σ H1) : tDrop te D σ H := h
def kPar (m n : Nat) (D : Ends) (σ : L2.St) : List V → Hp → Prop := fun vs H1 => ∃ v w, vs = [v, w] ∧ D.nx ((σ.set m (some v)).set n (some w)) H1
theorem r_par {m : Nat} (h : tr σ H (kPar m n D σ)) : tPar m n tr D σ H := h
theorem r_kPar {m : Nat} (h : D.nx ((σ.set m (some x)).set n (some y)) H) : kPar m n D σ [x, y] H := ⟨x, y, rfl, h⟩
theorem r_gtup {a : Addr} {xs : List V} (h : SqT K H a xs) (l : xs.length = n) (q : gs xs σ H QS) : gTup K n gs (.ref a) σ H QS := ⟨a, xs, rfl, h, l, q⟩
theorem r_gnil (q : QS σ H) : gNil [] σ H QS := ⟨rfl, q⟩
theorem r_gcons {r : List V} (q : g v σ H fun σ' H' => gs r σ' H' QS) : gCons g gs (v :: r) σ H QS := ⟨v, r, rfl, q⟩
/-! names, constants, arguments -/
theorem r_var (h : σ[n]? = some (some v)) (q : Q v H) : tVar n σ H Q := ⟨v, h, q⟩
theorem r_c (q : Q v H) : tC v σ H Q := q
theorem r_nil (q : QA [] H) : tNil σ H QA := q
theorem r_cons (q : te σ H fun x H1 => tr σ H1 fun xs H2 => QA (x :: xs) H2) : tCons te tr σ H QA := q
theorem r_fn {sp : Sp} {E : XK} (q : tr σ H fun vs H1 => sp vs H1 Q E) : tFn sp E tr σ H Q := q
theorem r_cb {r : List V → Hp → VK → Prop} (q : tr σ H fun vs H1 => r vs H1 Q) : tCB r tr σ H Q := q
/-! operators -/
theorem r_op {r : R2} (q : ta σ H fun x H1 => tb σ H1 fun y H2 => r x y H2 Q) : tOp r ta tb σ H Q := q
theorem r_un {r : V → Hp → VK → Prop} (q : ta σ H fun x H1 => r x H1 Q) : tUn r ta σ H Q := q
theorem r_I0 {f : Int → Int → V} (q : Q (f i j) H) : rI0 f (.int i) (.int j) H Q := ⟨i, j, rfl, rfl, q⟩
theorem r_I {C : Int → Int → Prop} {f : Int → Int → V} (c : C i j) (q : Q (f i j) H) : rI C f (.int i) (.int j) H Q := ⟨i, j, rfl, rfl, c, q⟩
theorem r_U {f : Int → V} (q : Q (f i) H) : rU f (.int i) H Q := ⟨i, rfl, q⟩
theorem decI {i j : Int} : decide (V.int i = V.int j) = decide (i = j) := by
  by_cases h : i = j
  · rw [h]; simp
  · rw [decide_eq_false h, decide_eq_false fun z => h (V.int.inj z)]
theorem decS {i j : Str} : decide (V.str i = V.str j) = decide (i = j) := by
  by_cases h : i = j
  · rw [h]; simp
  · rw [decide_eq_false h, decide_eq_false fun z => h (V.str.inj z)]
theorem decB {i j : Bool} : decide (V.bl i = V.bl j) = decide (i = j) := by
  by_cases h : i = j
  · rw [h]; simp
  · rw [decide_eq_false h, decide_eq_false fun z => h (V.bl.inj z)]
theorem r_eqI (q : Q (.bl (decide (i = j))) H) : rEq (.int i) (.int j) H Q := ⟨rfl, by rw [decI]; exact q⟩
theorem r_neI (q : Q (.bl (!decide (i = j))) H) : rNe (.int i) (.int j) H Q := ⟨rfl, by rw [decI]; exact q⟩
theorem r_eqS {a c : Str} (q : Q (.bl (decide (a = c))) H) : rEq (.str a) (.str c) H Q := ⟨rfl, by rw [decS]; exact q⟩
theorem r_neS {a c : Str} (q : Q (.bl (!decide (a = c))) H) : rNe (.str a) (.str c) H Q := ⟨rfl, by rw [decS]; exact q⟩
theorem r_eqB {a c : Bool} (q : Q (.bl (decide (a = c))) H) : rEq (.bl a) (.bl c) H Q := ⟨rfl, by rw [decB]; exact q⟩
theorem r_neB {a c : Bool} (q : Q (.bl (!decide (a = c))) H) : rNe (.bl a) (.bl c) H Q := ⟨rfl, by rw [decB]; exact q⟩
def kChain (r' : R2) (tc : TE) (σ : L2.St) (y : V) (Q : VK) : VK := fun z H3 => ∃ k, z = .bl k ∧ (if k = true then tc σ H3 fun w' H4 => r' y w' H4 Q else Q (.bl false) H3)
theorem r_chain {r r' : R2} (q : ta σ H fun x H1 => tb σ H1 fun y H2 => r x y H2 (kChain r' tc σ y Q)) : tChain r r' ta tb tc σ H Q := q
theorem r_kChain {r' : R2} (q1 : b = true → tc σ H fun w' H4 => r' y w' H4 Q) (q2 : b = false → Q (.bl false) H) : kChain r' tc σ y Q (.bl b) H := by
  refine ⟨b, rfl, ?_⟩
  cases b with
  | true => exact iteT (q1 rfl)
  | false => exact iteF (q2 rfl)
/-! tests -/
def kTest (Q : Bool → Hp → Prop) : VK := fun x H' => ∃ k, x = .bl k ∧ Q k H'
theorem r_test (q : te σ H (kTest QB)) : tTest te σ H QB := q
theorem r_tB (q : te σ H (kTest QB)) : tB te σ H QB := q
theorem r_kTest (q : QB b H) : kTest QB (.bl b) H := ⟨b, rfl, q⟩
theorem r_not (q : ca σ H fun c H1 => QB (!c) H1) : tNot ca σ H QB := q
theorem r_and (q : ca σ H fun c H1 => if c = true then cb σ H1 QB else QB false H1) : tAnd ca cb σ H QB := q
theorem r_or (q : ca σ H fun c H1 => if c = true then QB true H1 else cb σ H1 QB) : tOr ca cb σ H QB := q
theorem r_tif (q : ca σ H fun c H1 => if c = true then ta σ H1 Q else tb σ H1 Q) : tIf ca ta tb σ H Q := q
def kAndV (tb : TE) (σ : L2.St) (Q : VK) : VK := fun x H1 => ∃ c, x = .bl c ∧ if c = true then tb σ H1 Q else Q (.bl false) H1
def kOrV (tb : TE) (σ : L2.St) (Q : VK) : VK := fun x H1 => ∃ c, x = .bl c ∧ if c = true then Q (.bl true) H1 else tb σ H1 Q
def kNotV (Q : VK) : VK := fun x H1 => ∃ c, x = .bl c ∧ Q (.bl (!c)) H1
theorem r_andV (q : ta σ H (kAndV tb σ Q)) : tAndV ta tb σ H Q := q
theorem r_orV (q : ta σ H (kOrV tb σ Q)) : tOrV ta tb σ H Q := q
theorem r_notV (q : ta σ H (kNotV Q)) : tNotV ta σ H Q := q
theorem r_kAndV (q : if b = true then tb σ H Q else Q (.bl false) H) : kAndV tb σ Q (.bl b) H := ⟨b, rfl, q⟩
theorem r_kOrV (q : if b = true then Q (.bl true) H else tb σ H Q) : kOrV tb σ Q (.bl b) H := ⟨b, rfl, q⟩
theorem r_kNotV (q : Q (.bl (!b)) H) : kNotV Q (.bl b) H := ⟨b, rfl, q⟩
end
/-! ways -/
section
variable {A B : Prop} {p : Prop} {ip : Decidable p} {b : Bool}
theorem w_T (h : A) : if true = true then A else B := iteT h
theorem w_F (h : B) : if false = true then A else B := iteF h
theorem w_NT (h : B) : if (!true) = true then A else B := iteF h
theorem w_NF (h : A) : if (!false) = true then A else B := iteT h
theorem w_dec (h1 : p → A) (h2 : ¬ p → B) : if decide p = true then A else B := by
  by_cases h : p
  · rw [decide_eq_true h]; exact iteT (h1 h)
  · rw [decide_eq_false h]; exact iteF (h2 h)
theorem w_ndec (h1 : ¬ p → A) (h2 : p → B) : if (!decide p) = true then A else B := by
  by_cases h : p
  · rw [decide_eq_true h]; exact iteF (h2 h)
  · rw [decide_eq_false h]; exact iteT (h1 h)
theorem w_b (h1 : b = true → A) (h2 : b = false → B) : if b = true then A else B := by
  cases b with
  | true => exact iteT (h1 rfl)
  | false => exact iteF (h2 rfl)
theorem w_nb (h1 : b = false → A) (h2 : b = true → B) : if (!b) = true then A else B := by
  cases b with
  | true => exact iteF (h2 rfl)
  | false => exact iteT (h1 rfl)
theorem w_yes (h : b = true) (q : A) : if b = true then A else B := by rw [h]; exact iteT q
theorem w_no (h : b = false) (q : B) : if b = true then A else B := by rw [h]; exact iteF q
end
/-! objects -/
section
variable {t u : TS} {D : Ends} {σ : L2.St} {H : Hp} {te ta tb tc td ty tv : TE} {tr : TA} {Q : VK} {QA : List V → Hp → Prop} {v x y : V} {i j : Int} {n : Nat} {b : Bool} {K : PySem.W.Frag} {a C dx p : Addr} {fs : List (Str × V)} {f : Str} {xs ys : List V} {kvs : List (Key × V)} {k : Key}
theorem r_pow5 (q : Q (.int 100000) H) : rI CPow (fun i j => .int (i ^ j.toNat)) (.int 10) (.int 5) H Q := ⟨10, 5, rfl, rfl, ⟨by decide, by decide, by decide⟩, q⟩
theorem r_pow6 (q : Q (.int 1000000) H) : rI CPow (fun i j => .int (i ^ j.toNat)) (.int 10) (.int 6) H Q := ⟨10, 6, rfl, rfl, ⟨by decide, by decide, by decide⟩, q⟩
theorem r_pow7 (q : Q (.int 10000000) H) : rI CPow (fun i j => .int (i ^ j.toNat)) (.int 10) (.int 7) H Q := ⟨10, 7, rfl, rfl, ⟨by decide, by decide, by decide⟩, q⟩
theorem r_pow9 (q : Q (.int 1000000000) H) : rI CPow (fun i j => .int (i ^ j.toNat)) (.int 10) (.int 9) H Q := ⟨10, 9, rfl, rfl, ⟨by decide, by decide, by decide⟩, q⟩
theorem r_pow18 (q : Q (.int 1000000000000000000) H) : rI CPow (fun i j => .int (i ^ j.toNat)) (.int 10) (.int 18) H Q := ⟨10, 18, rfl, rfl, ⟨by decide, by decide, by decide⟩, q⟩
theorem r_pow20 (q : Q (.int 100000000000000000000) H) : rI CPow (fun i j => .int (i ^ j.toNat)) (.int 10) (.int 20) H Q := ⟨10, 20, rfl, rfl, ⟨by decide, by decide, by decide⟩, q⟩
theorem r_pow30 (q : Q (.int 1000000000000000000000000000000) H) : rI CPow (fun i j => .int (i ^ j.toNat)) (.int 10) (.int 30) H Q := ⟨10, 30, rfl, rfl, ⟨by decide, by decide, by decide⟩, q⟩
theorem r_isN_non (q : Q (.bl true) H) : rIsN .non .non H Q := ⟨rfl, q⟩
theorem r_isN_ref (q : Q (.bl false) H) : rIsN (.ref a) .non H Q := ⟨rfl, q⟩
theorem r_isN_int (q : Q (.bl false) H) : rIsN (.int i) .non H Q := ⟨rfl, q⟩
theorem r_isN_str {z : Str} (q : Q (.bl false) H) : rIsN (.str z) .non H Q := ⟨rfl, q⟩
theorem r_isN_bl (q : Q (.bl false) H) : rIsN (.bl b) .non H Q := ⟨rfl, q⟩
theorem r_notN_non (q : Q (.bl false) H) : rNotN .non .non H Q := ⟨rfl, q⟩
theorem r_notN_ref (q : Q (.bl true) H) : rNotN (.ref a) .non H Q := ⟨rfl, q⟩
theorem r_notN_int (q : Q (.bl true) H) : rNotN (.int i) .non H Q := ⟨rfl, q⟩
theorem r_notN_str {z : Str} (q : Q (.bl true) H) : rNotN (.str z) .non H Q := ⟨rfl, q⟩
theorem r_notN_bl (q : Q (.bl true) H) : rNotN (.bl b) .non H Q := ⟨rfl, q⟩
def kTup (Q : VK) : List V → Hp → Prop := fun xs H1 => xs.length ≤ sizeLine ∧ ∀ p, H1 p = none → Q (.ref p) (upd H1 p (.tup xs))
def kLst (Q : VK) : List V → Hp → Prop := fun xs H1 => xs.length ≤ sizeLine ∧ ∀ p, H1 p = none → Q (.ref p) (upd H1 p (.lst xs))
theorem r_tup (q : tr σ H (kTup Q)) : tTup tr σ H Q := q
theorem r_lst (q : tr σ H (kLst Q)) : tLst tr σ H Q := q
theorem r_kTup (q : ∀ p H', H p = none → Same H H' → H' p = some (.tup xs) → Q (.ref p) H') (hz : xs.length ≤ 1000000 := by (simp only [List.length_cons, List.length_nil]; decide)) : kTup Q xs H :=
  ⟨sz5 hz, fun p hp => q p _ hp (Same.new hp) upd_same⟩
theorem r_kLst (q : ∀ p H', H p = none → Same H H' → H' p = some (.lst xs) → Q (.ref p) H') (hz : xs.length ≤ 1000000 := by (simp only [List.length_cons, List.length_nil]; decide)) : kLst Q xs H :=
  ⟨sz5 hz, fun p hp => q p _ hp (Same.new hp) upd_same⟩
def kFld (K : PySem.W.Frag) (f : Str) (Q : VK) : VK := fun x H1 => ∃ a C dx fs v, x = .ref a ∧ H1 a = some (.ins C dx fs) ∧ Cls K C ∧ NoAttr K C f ∧ fs.lookup f = some v ∧ Q v H1
theorem r_fld (q : ta σ H (kFld K f Q)) : tFld K ta f σ H Q := q
theorem r_kFld (h1 : H a = some (.ins C dx fs)) (h2 : Cls K C) (h3 : NoAttr K C f) (h4 : fs.lookup f = some v) (q : Q v H) : kFld K f Q (.ref a) H := ⟨a, C, dx, fs, v, rfl, h1, h2, h3, h4, q⟩
def kSFld (K : PySem.W.Frag) (f : Str) (D : Ends) (σ : L2.St) (y : V) : VK := fun x H2 => ∃ a C dx fs, x = .ref a ∧ H2 a = some (.ins C dx fs) ∧ Cls K C ∧ NoAttr K C f ∧ fs.length < 1000 ∧ D.nx σ (upd H2 a (.ins C dx (putF f y fs)))
theorem r_sfld (q : tv σ H fun y H1 => ta σ H1 (kSFld K f D σ y)) : sFld K ta tv f D σ H := q
theorem r_kSFld (h1 : H a = some (.ins C dx fs)) (h2 : Cls K C) (h3 : NoAttr K C f) (hl : fs.length < 1000) (q : ∀ H', But a H H' → H' a = some (.ins C dx (putF f y fs)) → D.nx σ H') : kSFld K f D σ y (.ref a) H :=
  ⟨a, C, dx, fs, rfl, h1, h2, h3, hl, q _ But.upd upd_same⟩
def kDGet (Q : VK) (x : V) : VK := fun y H2 => ∃ a v, x = .ref a ∧ DGet H2 a y (some v) ∧ Q v H2
theorem r_dget (q : td σ H fun x H1 => ty σ H1 (kDGet Q x)) : tDGet td ty σ H Q := q
theorem r_kDGetS {z : Str} (h1 : H a = some (.dK kvs)) (h2 : valV kvs (Sum.inr z) = some v) (q : Q v H) : kDGet Q (.ref a) (.str z) H :=
  ⟨a, v, rfl, .inl ⟨kvs, Sum.inr z, .inl h1, rfl, h2.symm⟩, q⟩
theorem r_kDGetI {z : Int} (h1 : H a = some (.dK kvs)) (h2 : valV kvs (Sum.inl z) = some v) (q : Q v H) : kDGet Q (.ref a) (.int z) H :=
  ⟨a, v, rfl, .inl ⟨kvs, Sum.inl z, .inl h1, rfl, h2.symm⟩, q⟩
def kDPut (D : Ends) (σ : L2.St) (v x : V) : VK := fun y H3 => ∃ a H4, x = .ref a ∧ DPut H3 a y v H4 ∧ D.nx σ H4
theorem r_dput (q : tv σ H fun v H1 => td σ H1 fun x H2 => ty σ H2 (kDPut D σ v x)) : sDPut td ty tv D σ H := q
theorem r_kDPutS {z : Str} (h1 : H a = some (.dK kvs)) (hz : kvs.length < 1000000) (q : ∀ H', But a H H' → H' a = some (.dK (putK kvs (Sum.inr z) v)) → D.nx σ H') : kDPut D σ v (.ref a) (.str z) H :=
  ⟨a, _, rfl, .inl ⟨kvs, Sum.inr z, h1, rfl, sz6 hz, rfl⟩, q _ But.upd upd_same⟩
theorem r_ixL (h : SqL K H p xs) (e : atI xs i = some v) (q : Q v H) : rIxL K (.ref p) (.int i) H Q := ⟨p, xs, i, v, rfl, rfl, h, e, q⟩
theorem r_ixT (h : SqT K H p xs) (e : atI xs i = some v) (q : Q v H) : rIxT K (.ref p) (.int i) H Q := ⟨p, xs, i, v, rfl, rfl, h, e, q⟩
theorem r_ixSL (h : SqL K H p xs) (e : atI xs i = some v) (q : Q v H) : rIx K (.ref p) (.int i) H Q := .inl (r_ixL h e q)
theorem r_ixST (h : SqT K H p xs) (e : atI xs i = some v) (q : Q v H) : rIx K (.ref p) (.int i) H Q := .inr (.inl (r_ixT h e q))
def kBM (K : PySem.W.Frag) (T : String) (r : V → List V → Hp → VK → Prop) (tr : TA) (σ : L2.St) (Q : VK) : VK := fun x H1 => tyV K T x H1 ∧ tr σ H1 fun xs H2 => r x xs H2 Q
theorem r_bm {T : String} {r : V → List V → Hp → VK → Prop} (q : ta σ H (kBM K T r tr σ Q)) : tBM K T r ta tr σ H Q := q
theorem r_kBML {r : V → List V → Hp → VK → Prop} (h : H p = some (.lst xs)) (q : tr σ H fun ys H2 => r (.ref p) ys H2 Q) : kBM K "list" r tr σ Q (.ref p) H := ⟨.inl ⟨rfl, xs, SqL.of h⟩, q⟩
theorem r_append (h : H p = some (.lst xs)) (hz : xs.length < 1000000) (q : ∀ H', But p H H' → H' p = some (.lst (xs ++ [y])) → Q .non H') : rAppend (.ref p) [y] H Q :=
  ⟨p, xs, y, rfl, rfl, h, sz6 hz, q _ But.upd upd_same⟩
/-! built-in calls -/
def rInt1 : List V → Hp → VK → Prop := fun xs H Q => (∃ i, xs = [.int i] ∧ Q (.int i) H) ∨ ∃ k, xs = [.bl k] ∧ Q (.int (if k then 1 else 0)) H
theorem r_int1 (q : Q (.int i) H) : rInt1 [.int i] H Q := .inl ⟨i, rfl, q⟩
theorem r_int1b (q : Q (.int (if b then 1 else 0)) H) : rInt1 [.bl b] H Q := .inr ⟨b, rfl, q⟩
def rLen (K : PySem.W.Frag) : List V → Hp → VK → Prop := fun xs H Q => ∃ x n, xs = [x] ∧ LenV K x H n ∧ Q (.int n) H
theorem r_lenL (h : SqL K H p xs) (q : Q (.int (xs.length : Nat)) H) : rLen K [.ref p] H Q := ⟨_, _, rfl, .inl ⟨xs, h, rfl⟩, q⟩
theorem r_lenT (h : SqT K H p xs) (q : Q (.int (xs.length : Nat)) H) : rLen K [.ref p] H Q := ⟨_, _, rfl, .inr ⟨xs, h, rfl⟩, q⟩
def rMin2 : List V → Hp → VK → Prop := fun xs H Q => ∃ i j, xs = [.int i, .int j] ∧ Q (.int (if j < i then j else i)) H
def rMax2 : List V → Hp → VK → Prop := fun xs H Q => ∃ i j, xs = [.int i, .int j] ∧ Q (.int (if j > i then j else i)) H
theorem min_of (i j : Int) : (if j < i then j else i) = min i j := by
  split <;> omega
theorem max_of (i j : Int) : (if j > i then j else i) = max i j := by
  split <;> omega
theorem r_min2 (q : Q (.int (min i j)) H) : rMin2 [.int i, .int j] H Q := ⟨i, j, rfl, by rw [min_of]; exact q⟩
theorem r_max2 (q : Q (.int (max i j)) H) : rMax2 [.int i, .int j] H Q := ⟨i, j, rfl, by rw [max_of]; exact q⟩
def rListOf (K : PySem.W.Frag) : List V → Hp → VK → Prop := fun xs H Q => ∃ p ys, xs = [.ref p] ∧ (SqL K H p ys ∨ SqT K H p ys) ∧ ∀ l, H l = none → Q (.ref l) (upd H l (.lst ys))
theorem r_listL (h : SqL K H p xs) (q : ∀ l H', H l = none → Same H H' → H' l = some (.lst xs) → Q (.ref l) H') : rListOf K [.ref p] H Q := ⟨p, xs, rfl, .inl h, fun l hl => q l _ hl (Same.new hl) upd_same⟩
theorem r_listT (h : SqT K H p xs) (q : ∀ l H', H l = none → Same H H' → H' l = some (.lst xs) → Q (.ref l) H') : rListOf K [.ref p] H Q := ⟨p, xs, rfl, .inr h, fun l hl => q l _ hl (Same.new hl) upd_same⟩
theorem r_isi {c : V} {t u : Value} (h1 : ClsV c u) (h2 : TyX K H x t) (h3 : PySem.W.kitOne K t u = some b) (q : Q (.bl b) H) : rIsi K [x, c] H Q := ⟨x, c, t, u, b, rfl, h1, h2, h3, q⟩
theorem r_sum {zs : List Int} (h : SqL K H p (zs.map V.int)) (q : Q (.int zs.sum) H) : rSum K [.ref p] H Q := ⟨p, zs, rfl, h, q⟩
end
section
variable {X : Cx}
theorem c_int1 : CallR X (.type "int") rInt1 := call_int1
theorem c_len : CallR X (.builtin "len") (rLen X.K) := call_len
theorem c_min2 (h : X.calm = true) : CallR X (.builtin "min") rMin2 := call_min2 h
theorem c_max2 (h : X.calm = true) : CallR X (.builtin "max") rMax2 := call_max2 h
theorem c_list : CallR X (.type "list") (rListOf X.K) := call_list_of
end
end Wp
set_option Elab.async false
set_option linter.all false
set_option maxRecDepth 100000
set_option maxHeartbeats 4000000
/-! Readings of loops and comprehensions. -/
namespace Wp
open PySem PySem.Spec PyProof.Rows L2
section
variable {t u tw : TS} {D : Ends} {σ : L2.St} {H : Hp} {te ta tb tl : TE} {c tt : TT} {tr : TA} {g : TG} {Q : VK} {QB : Bool → Hp → Prop} {v x y : V} {n : Nat} {b : Bool} {K : PySem.W.Frag} {a : Addr} {xs : List V} {vs : List Nat}
theorem r_cut (Mid : L2.St → Hp → Prop) (h1 : t { D with nx := Mid } σ H) (h2 : ∀ σ' H', Mid σ' H' → u D σ' H') : Evl.tCut t u D σ H := ⟨Mid, h1, h2⟩
/-! for over a list -/
def kForL (K : PySem.W.Frag) (g : TG) (tw : TS) (D : Ends) (σ : L2.St) : VK := fun x H1 => ∃ a, x = .ref a ∧ (∃ xs, SqL K H1 a xs) ∧
  ∃ W : Nat → Nat → L2.St → Hp → Prop, (∃ m, W 0 m σ H1) ∧ ∀ i m σ H, W i m σ H →
  ((Itl K a).stop i H ∧ D.nx σ H) ∨ ((Itl K a).go i H ∧ ∃ N : L2.St → Hp → Prop, (∀ σ' H', N σ' H' → ∃ m', m' < m ∧ W (i + 1) m' σ' H') ∧
    ∀ x H', (Itl K a).yld i H x H' → g x σ H' fun σ2 H2 => tw { D with nx := N, ct := N, bk := D.nx } σ2 H2)
theorem r_forL (h : tl σ H (kForL K g tw D σ)) : tFor (iList K tl) g tw D σ H := h
theorem r_kForL (Pv : Nat → L2.St → Hp → Prop) (hl : SqL K H a xs) (h0 : Pv 0 σ H) (hk : ∀ i σ' H', Pv i σ' H' → SqL K H' a xs)
    (hs : ∀ i x σ' H', xs[i]? = some x → Pv i σ' H' → g x σ' H' fun σ2 H2 => tw { D with nx := Pv (i + 1), ct := Pv (i + 1), bk := D.nx } σ2 H2)
    (hd : ∀ σ' H', Pv xs.length σ' H' → D.nx σ' H') : kForL K g tw D σ (.ref a) H :=
  ⟨a, rfl, ⟨xs, hl⟩, for_list Pv h0 (fun i σ' H' _ p => hk i σ' H' p) hs hd⟩
def kForT (K : PySem.W.Frag) (g : TG) (tw : TS) (D : Ends) (σ : L2.St) : VK := fun x H1 => ∃ a, x = .ref a ∧ (∃ xs, SqT K H1 a xs) ∧
  ∃ W : Nat → Nat → L2.St → Hp → Prop, (∃ m, W 0 m σ H1) ∧ ∀ i m σ H, W i m σ H →
  ((Itt K a).stop i H ∧ D.nx σ H) ∨ ((Itt K a).go i H ∧ ∃ N : L2.St → Hp → Prop, (∀ σ' H', N σ' H' → ∃ m', m' < m ∧ W (i + 1) m' σ' H') ∧
    ∀ x H', (Itt K a).yld i H x H' → g x σ H' fun σ2 H2 => tw { D with nx := N, ct := N, bk := D.nx } σ2 H2)
theorem r_forT (h : tl σ H (kForT K g tw D σ)) : tFor (iTup K tl) g tw D σ H := h
theorem r_kForT (Pv : Nat → L2.St → Hp → Prop) (hl : SqT K H a xs) (h0 : Pv 0 σ H) (hk : ∀ i σ' H', Pv i σ' H' → SqT K H' a xs)
    (hs : ∀ i x σ' H', xs[i]? = some x → Pv i σ' H' → g x σ' H' fun σ2 H2 => tw { D with nx := Pv (i + 1), ct := Pv (i + 1), bk := D.nx } σ2 H2)
    (hd : ∀ σ' H', Pv xs.length σ' H' → D.nx σ' H') : kForT K g tw D σ (.ref a) H :=
  ⟨a, rfl, ⟨xs, hl⟩, for_tup Pv h0 (fun i σ' H' _ p => hk i σ' H' p) hs hd⟩
/-! for over a range -/
def kForR1 (g : TG) (tw : TS) (D : Ends) (σ : L2.St) : List V → Hp → Prop := fun ws H1 => ∃ j : Int, ws = [.int j] ∧ -(2 ^ 62) ≤ j ∧ j < 2 ^ 62 ∧
  ∃ W : Nat → Nat → L2.St → Hp → Prop, (∃ m, W 0 m σ H1) ∧ ∀ i m σ H, W i m σ H →
  ((Itr 0 j.toNat).stop i H ∧ D.nx σ H) ∨ ((Itr 0 j.toNat).go i H ∧ ∃ N : L2.St → Hp → Prop, (∀ σ' H', N σ' H' → ∃ m', m' < m ∧ W (i + 1) m' σ' H') ∧
    ∀ x H', (Itr 0 j.toNat).yld i H x H' → g x σ H' fun σ2 H2 => tw { D with nx := N, ct := N, bk := D.nx } σ2 H2)
theorem r_forR1 (h : tr σ H (kForR1 g tw D σ)) : tFor (iRng1 tr) g tw D σ H := h
theorem r_kForR1 {j : Int} (Pv : Nat → L2.St → Hp → Prop) (hj : -1000000000 ≤ j ∧ j ≤ 1000000000) (h0 : Pv 0 σ H)
    (hs : ∀ (i : Nat) σ' H', (i : Int) < j → Pv i σ' H' → g (.int (i : Int)) σ' H' fun σ2 H2 => tw { D with nx := Pv (i + 1), ct := Pv (i + 1), bk := D.nx } σ2 H2)
    (hd : ∀ σ' H', Pv j.toNat σ' H' → D.nx σ' H') : kForR1 g tw D σ [.int j] H :=
  ⟨j, rfl, by omega, by omega, for_range Pv h0 (fun i σ' H' hi p => by
    have e : (0 : Int) + (i : Int) = (i : Int) := Int.zero_add _
    rw [e]
    exact hs i σ' H' (by omega) p) hd⟩
def kForR2 (g : TG) (tw : TS) (D : Ends) (σ : L2.St) : List V → Hp → Prop := fun ws H1 => ∃ i0 j : Int, ws = [.int i0, .int j] ∧ (-(2 ^ 62) ≤ i0 ∧ i0 < 2 ^ 62 ∧ -(2 ^ 62) ≤ j ∧ j < 2 ^ 62) ∧
  ∃ W : Nat → Nat → L2.St → Hp → Prop, (∃ m, W 0 m σ H1) ∧ ∀ i m σ H, W i m σ H →
  ((Itr i0 (j - i0).toNat).stop i H ∧ D.nx σ H) ∨ ((Itr i0 (j - i0).toNat).go i H ∧ ∃ N : L2.St → Hp → Prop, (∀ σ' H', N σ' H' → ∃ m', m' < m ∧ W (i + 1) m' σ' H') ∧
    ∀ x H', (Itr i0 (j - i0).toNat).yld i H x H' → g x σ H' fun σ2 H2 => tw { D with nx := N, ct := N, bk := D.nx } σ2 H2)
theorem r_forR2 (h : tr σ H (kForR2 g tw D σ)) : tFor (iRng2 tr) g tw D σ H := h
theorem r_kForR2 {lo j : Int} (Pv : Nat → L2.St → Hp → Prop) (hj : -1000000000 ≤ lo ∧ lo ≤ 1000000000 ∧ -1000000000 ≤ j ∧ j ≤ 1000000000) (h0 : Pv 0 σ H)
    (hs : ∀ (i : Nat) σ' H', lo + (i : Int) < j → Pv i σ' H' → g (.int (lo + (i : Int))) σ' H' fun σ2 H2 => tw { D with nx := Pv (i + 1), ct := Pv (i + 1), bk := D.nx } σ2 H2)
    (hd : ∀ σ' H', Pv (j - lo).toNat σ' H' → D.nx σ' H') : kForR2 g tw D σ [.int lo, .int j] H :=
  ⟨lo, j, rfl, ⟨by omega, by omega, by omega, by omega⟩, for_range Pv h0 (fun i σ' H' hi p => hs i σ' H' (by omega) p) hd⟩
/-! while -/
def kWh (W : Nat → L2.St → Hp → Prop) (tw : TS) (D : Ends) (σ : L2.St) (m : Nat) : Bool → Hp → Prop := fun b H1 => if b = true then
  ∃ N : L2.St → Hp → Prop, (∀ σ' H', N σ' H' → ∃ m', m' < m ∧ W m' σ' H') ∧ tw { D with nx := N, ct := N, bk := D.nx } σ H1 else D.nx σ H1
def nWh (W : Nat → L2.St → Hp → Prop) (m : Nat) : L2.St → Hp → Prop := fun σ' H' => ∃ m', m' < m ∧ W m' σ' H'
theorem r_while (W : Nat → L2.St → Hp → Prop) (m : Nat) (h0 : W m σ H) (hs : ∀ m σ' H', W m σ' H' → c σ' H' (kWh W tw D σ' m)) : tWhile c tw D σ H := ⟨W, ⟨m, h0⟩, hs⟩
theorem r_kWh {W : Nat → L2.St → Hp → Prop} {m : Nat} (h1 : b = true → tw { D with nx := nWh W m, ct := nWh W m, bk := D.nx } σ H) (h2 : b = false → D.nx σ H) : kWh W tw D σ m b H := by
  unfold kWh
  cases b with
  | true => exact iteT ⟨nWh W m, fun _ _ z => z, h1 rfl⟩
  | false => exact iteF (h2 rfl)
/-! list comprehensions -/
def kLcE (Da : Addr) (Pv : Addr → Nat → Hp → Prop) (i : Nat) : VK := fun y H4 => ∃ acc, H4 Da = some (.lst acc) ∧ acc.length < sizeLine ∧ Pv Da (i + 1) (upd H4 Da (.lst (acc ++ [y])))
def kLcT (te : TE) (σ2 : L2.St) (Da : Addr) (Pv : Addr → Nat → Hp → Prop) (i : Nat) : Bool → Hp → Prop := fun b H3 => if b = true then te σ2 H3 (kLcE Da Pv i) else Pv Da (i + 1) H3
def kLcG (tt : TT) (te : TE) (vs : List Nat) (σ : L2.St) (Da : Addr) (Pv : Addr → Nat → Hp → Prop) (i : Nat) : L2.St → Hp → Prop := fun σ2 H2 => wipe σ2 vs = wipe σ vs ∧ tt σ2 H2 (kLcT te σ2 Da Pv i)
theorem r_yes (q : QB true H) : tYes σ H QB := q
section
variable {Da : Addr} {Pv : Addr → Nat → Hp → Prop} {i : Nat} {σ2 : L2.St} {acc : List V}
theorem r_kLcG (h : wipe σ2 vs = wipe σ vs) (q : tt σ2 H (kLcT te σ2 Da Pv i)) : kLcG tt te vs σ Da Pv i σ2 H := ⟨h, q⟩
theorem r_kLcT (q : if b = true then te σ2 H (kLcE Da Pv i) else Pv Da (i + 1) H) : kLcT te σ2 Da Pv i b H := q
theorem r_kLcE (h : H Da = some (.lst acc)) (hz : acc.length < 1000000) (q : ∀ H', But Da H H' → H' Da = some (.lst (acc ++ [y])) → Pv Da (i + 1) H') : kLcE Da Pv i y H :=
  ⟨acc, h, sz6 hz, q _ But.upd upd_same⟩
end
def kLcL (K : PySem.W.Frag) (g : TG) (tt : TT) (te : TE) (vs : List Nat) (σ : L2.St) (Q : VK) : VK := fun x H1 => ∃ a, x = .ref a ∧ (∃ xs, SqL K H1 a xs) ∧ ∀ Da, H1 Da = none → ∃ W : Nat → Nat → Hp → Prop, (∃ m, W 0 m (upd H1 Da (.lst []))) ∧ ∀ i m H, W i m H →
  ((Itl K a).stop i H ∧ Q (.ref Da) H) ∨ ((Itl K a).go i H ∧ ∃ Nx : Hp → Prop, (∀ H', Nx H' → ∃ m', m' < m ∧ W (i + 1) m' H') ∧ ∀ x H', (Itl K a).yld i H x H' → g x (wipe σ vs) H' fun σ2 H2 => wipe σ2 vs = wipe σ vs ∧ tt σ2 H2 fun b H3 =>
    if b = true then te σ2 H3 fun y H4 => ∃ acc, H4 Da = some (.lst acc) ∧ acc.length < sizeLine ∧ Nx (upd H4 Da (.lst (acc ++ [y]))) else Nx H3)
theorem r_lcL (q : tl σ H (kLcL K g tt te vs σ Q)) : tLc (iList K tl) g tt te vs σ H Q := q
theorem r_kLcL (Pv : Addr → Nat → Hp → Prop) (hl : SqL K H a xs) (h0 : ∀ Da H', H Da = none → Same H H' → H' Da = some (.lst []) → Pv Da 0 H') (hk : ∀ Da i H', Pv Da i H' → SqL K H' a xs)
    (hs : ∀ Da i x H', H Da = none → xs[i]? = some x → Pv Da i H' → g x (wipe σ vs) H' (kLcG tt te vs σ Da Pv i)) (hd : ∀ Da H', H Da = none → Pv Da xs.length H' → Q (.ref Da) H') : kLcL K g tt te vs σ Q (.ref a) H :=
  ⟨a, rfl, ⟨xs, hl⟩, fun Da hD => lc_list (Pv Da) (h0 Da _ hD (Same.new hD) upd_same) (fun i H' _ p => hk Da i H' p) (fun i x H' hx p => hs Da i x H' hD hx p) (fun H' p => hd Da H' hD p)⟩
def kLcR1 (g : TG) (tt : TT) (te : TE) (vs : List Nat) (σ : L2.St) (Q : VK) : List V → Hp → Prop := fun ws H1 => ∃ j : Int, ws = [.int j] ∧ -(2 ^ 62) ≤ j ∧ j < 2 ^ 62 ∧ ∀ Da, H1 Da = none → ∃ W : Nat → Nat → Hp → Prop, (∃ m, W 0 m (upd H1 Da (.lst []))) ∧ ∀ i m H, W i m H →
  ((Itr 0 j.toNat).stop i H ∧ Q (.ref Da) H) ∨ ((Itr 0 j.toNat).go i H ∧ ∃ Nx : Hp → Prop, (∀ H', Nx H' → ∃ m', m' < m ∧ W (i + 1) m' H') ∧ ∀ x H', (Itr 0 j.toNat).yld i H x H' → g x (wipe σ vs) H' fun σ2 H2 => wipe σ2 vs = wipe σ vs ∧ tt σ2 H2 fun b H3 =>
    if b = true then te σ2 H3 fun y H4 => ∃ acc, H4 Da = some (.lst acc) ∧ acc.length < sizeLine ∧ Nx (upd H4 Da (.lst (acc ++ [y]))) else Nx H3)
theorem r_lcR1 (q : tr σ H (kLcR1 g tt te vs σ Q)) : tLc (iRng1 tr) g tt te vs σ H Q := q
theorem r_kLcR1 {j : Int} (Pv : Addr → Nat → Hp → Prop) (hj : -1000000000 ≤ j ∧ j ≤ 1000000000) (h0 : ∀ Da H', H Da = none → Same H H' → H' Da = some (.lst []) → Pv Da 0 H')
    (hs : ∀ Da (i : Nat) H', H Da = none → (i : Int) < j → Pv Da i H' → g (.int (i : Int)) (wipe σ vs) H' (kLcG tt te vs σ Da Pv i)) (hd : ∀ Da H', H Da = none → Pv Da j.toNat H' → Q (.ref Da) H') : kLcR1 g tt te vs σ Q [.int j] H :=
  ⟨j, rfl, by omega, by omega, fun Da hD => lc_range (Pv Da) (h0 Da _ hD (Same.new hD) upd_same) (fun i H' hi p => by
    have e : (0 : Int) + (i : Int) = (i : Int) := Int.zero_add _
    rw [e]
    exact hs Da i H' hD (by omega) p) (fun H' p => hd Da H' hD p)⟩
end
end Wp
set_option Elab.async false
set_option linter.all false
set_option maxRecDepth 100000
set_option maxHeartbeats 4000000
/-! Data: lists of ints, == of data. -/
namespace Wp
open PySem PySem.Spec PyProof.Rows L2
section
variable {K : PySem.W.Frag} {H H' : Hp} {p q : Addr} {Q : VK} {as bs : List Int} {x y : V} {d e : PyData}
theorem dp_ints : ∀ ns : List Int, DpAll K H (ns.map V.int) (ns.map PyData.int)
  | [] => .nil
  | n :: r => .cons (.int n) (dp_ints r)
theorem lay_ints : ∀ ns : List Int, PyData.canLayAll0 (ns.map PyData.int) = true
  | [] => rfl
  | n :: r => by
    show (PyData.canLay0 (.int n) && PyData.canLayAll0 (r.map PyData.int)) = true
    rw [lay_ints r]
    rfl
theorem dep_ints : ∀ ns : List Int, PyData.depthAll (ns.map PyData.int) = 0
  | [] => rfl
  | n :: r => by
    show max (PyData.depth (.int n)) (PyData.depthAll (r.map PyData.int)) = 0
    rw [dep_ints r]
    rfl
theorem shp_ints (ns : List Int) : SeqAt.shaped (.list (ns.map PyData.int)) = true := by
  show (PyData.canLayAll0 (ns.map PyData.int) && decide (PyData.depthAll (ns.map PyData.int) + 1 ≤ 64)) = true
  rw [lay_ints, dep_ints]
  rfl
theorem eqv_ints : ∀ as bs : List Int, PyData.eqvAll (as.map PyData.int) (bs.map PyData.int) = decide (as = bs)
  | [], [] => by simp [PyData.eqvAll]
  | [], _ :: _ => by simp [PyData.eqvAll]
  | _ :: _, [] => by simp [PyData.eqvAll]
  | a :: r, b :: s => by
    show (PyData.eqv (.int a) (.int b) && PyData.eqvAll (r.map PyData.int) (s.map PyData.int)) = _
    rw [eqv_ints r s]
    show ((a == b) && decide (r = s)) = decide (a :: r = b :: s)
    rw [Bool.eq_iff_iff]
    simp
theorem r_neLI (h1 : SqL K H p (as.map V.int)) (h2 : SqL K H q (bs.map V.int)) (k : Q (.bl (!decide (as = bs))) H) : rNeD K (.ref p) (.ref q) H Q := by
  refine ⟨.list (as.map .int), .list (bs.map .int), .lst h1 (dp_ints as), .lst h2 (dp_ints bs), shp_ints as, shp_ints bs, ?_⟩
  show Q (.bl (!PyData.eqvAll (as.map PyData.int) (bs.map PyData.int))) H
  rw [eqv_ints]
  exact k
theorem r_eqLI (h1 : SqL K H p (as.map V.int)) (h2 : SqL K H q (bs.map V.int)) (k : Q (.bl (decide (as = bs))) H) : rEqD K (.ref p) (.ref q) H Q := by
  refine ⟨.list (as.map .int), .list (bs.map .int), .lst h1 (dp_ints as), .lst h2 (dp_ints bs), shp_ints as, shp_ints bs, ?_⟩
  show Q (.bl (PyData.eqvAll (as.map PyData.int) (bs.map PyData.int))) H
  rw [eqv_ints]
  exact k
mutual
theorem Dp.mono (e : Same H H') : ∀ {d : PyData} {v : V}, Dp K H v d → Dp K H' v d
  | _, _, .non => .non
  | _, _, .bl b => .bl b
  | _, _, .int i => .int i
  | _, _, .str x => .str x
  | _, _, .lst h r => .lst (e.seq h) (DpAll.mono e r)
  | _, _, .tup h r => .tup (Evl.ex_t e h) (DpAll.mono e r)
theorem DpAll.mono (e : Same H H') : ∀ {ds : List PyData} {vs : List V}, DpAll K H vs ds → DpAll K H' vs ds
  | _, _, .nil => .nil
  | _, _, .cons a r => .cons (Dp.mono e a) (DpAll.mono e r)
end
theorem r_popAt0 {l : Addr} {z : V} {zs : List V} (h : H l = some (.lst (z :: zs))) (k : ∀ H', But l H H' → H' l = some (.lst zs) → Q z H') : rPopAt (.ref l) [.int 0] H Q :=
  ⟨l, z :: zs, 0, 0, z, rfl, rfl, h, by decide, by decide, by simp [seqIndex?], rfl, k _ But.upd upd_same⟩
theorem at_get {α : Type} {xs : List α} {i : Int} {n : Nat} {v : α} (h0 : i = (n : Int)) (h : xs[n]? = some v) : atI xs i = some v := by
  rw [h0]
  exact atI_nat h
theorem at_last {α : Type} (xs : List α) (z : α) : atI (xs ++ [z]) (-1) = some z := by
  unfold atI ixN
  rw [if_neg (by decide)]
  have h : -(((xs ++ [z]).length : Nat) : Int) ≤ -1 := by
    rw [List.length_append]
    show -(((xs.length + 1 : Nat)) : Int) ≤ -1
    omega
  rw [if_pos h]
  have e : ((-1 : Int) + (((xs ++ [z]).length : Nat) : Int)).toNat = xs.length := by
    rw [List.length_append]
    show ((-1 : Int) + ((xs.length + 1 : Nat) : Int)).toNat = xs.length
    omega
  show ((some ((-1 : Int) + (((xs ++ [z]).length : Nat) : Int)).toNat).bind fun j => (xs ++ [z])[j]?) = some z
  rw [e]
  simp
theorem take_more {α : Type} {xs : List α} {i : Nat} {x : α} (h : xs[i]? = some x) : xs.take (i + 1) = xs.take i ++ [x] := by
  rw [List.take_succ, h]
  rfl
theorem r_eqD_eq (h1 : Dp K H x d) (h2 : Dp K H y d) (hs : SeqAt.shaped d = true) (k : Q (.bl true) H) : rEqD K x y H Q := by
  refine ⟨d, d, h1, h2, hs, hs, ?_⟩
  rw [SeqAt.eqv_refl d (SeqAt.canLay_of_shaped hs)]
  exact k
theorem r_neD_eq (h1 : Dp K H x d) (h2 : Dp K H y d) (hs : SeqAt.shaped d = true) (k : Q (.bl false) H) : rNeD K x y H Q := by
  refine ⟨d, d, h1, h2, hs, hs, ?_⟩
  rw [SeqAt.eqv_refl d (SeqAt.canLay_of_shaped hs)]
  exact k
theorem r_cat {l b : Addr} {xs ys : List V} (h1 : H l = some (.lst xs)) (h2 : H b = some (.lst ys)) (hz : xs.length + ys.length ≤ 1000000) (k : ∀ p H', H p = none → Same H H' → H' p = some (.lst (xs ++ ys)) → Q (.ref p) H') : rCat (.ref l) (.ref b) H Q :=
  ⟨l, b, xs, ys, rfl, rfl, h1, h2, sz5 hz, fun p hp => k p _ hp (Same.new hp) upd_same⟩
/-! displays of dicts -/
theorem mergeK_app : ∀ (more kvs : List (Key × V)), ((kvs ++ more).map (·.1)).Nodup → mergeK kvs more = kvs ++ more
  | [], kvs, _ => by
    rw [List.append_nil]
    rfl
  | (k, v) :: r, kvs, h => by
    have hn : valV kvs k = none := by
      cases e : valV kvs k with
      | none => rfl
      | some u =>
        have hm := valV_in e
        rw [List.map_append] at h
        exact absurd rfl ((List.nodup_append.mp h).2.2 k hm k (by simp))
    show mergeK (putK kvs k v) r = _
    rw [putK_new v hn]
    have e : (kvs ++ [(k, v)]) ++ r = kvs ++ (k, v) :: r := by simp
    rw [mergeK_app r (kvs ++ [(k, v)]) (by rw [e]; exact h), e]
theorem mergeK_nil {kvs : List (Key × V)} (h : (kvs.map (·.1)).Nodup) : mergeK [] kvs = kvs := mergeK_app kvs [] h
def kDisp (p : Addr) (Q : VK) : List (V × V) → Hp → Prop := fun ps H2 => H2 p = some (.dK []) ∧ ∃ kvs : List (Key × V), ps = kvs.map (fun kv => (kV kv.1, kv.2)) ∧ kvs.length ≤ 15 ∧ Q (.ref p) (upd H2 p (.dK (mergeK [] kvs)))
section
variable {σ : L2.St} {tk tv : TE} {trs : List (TE × TE)} {QP : List (V × V) → Hp → Prop} {kvs : List (Key × V)} {ps : List (V × V)}
theorem r_disp (q : ∀ p H', H p = none → Same H H' → H' p = some (.dK []) → tPairs trs σ H' (kDisp p Q)) : tDisp trs σ H Q := fun p hp => q p _ hp (Same.new hp) upd_same
theorem r_pnil (q : QP [] H) : tPairs [] σ H QP := q
theorem r_pcons (q : tk σ H fun x H1 => tv σ H1 fun y H2 => tPairs trs σ H2 fun ps H3 => QP ((x, y) :: ps) H3) : tPairs ((tk, tv) :: trs) σ H QP := q
theorem r_kDisp (kvs : List (Key × V)) (h : H p = some (.dK [])) (e : ps = kvs.map (fun kv => (kV kv.1, kv.2))) (hl : kvs.length ≤ 15) (hn : (kvs.map (·.1)).Nodup) (q : ∀ H', But p H H' → H' p = some (.dK kvs) → Q (.ref p) H') : kDisp p Q ps H :=
  ⟨h, kvs, e, hl, q _ But.upd (by rw [mergeK_nil hn]; exact upd_same)⟩
end
end
end Wp
set_option Elab.async false
set_option linter.all false
set_option maxRecDepth 100000
set_option maxHeartbeats 4000000
/-! Defs that call repr: they run where no repr is under way (the guards are known). repr of data. list(range(a, b, c)). -/
namespace Wp
open PySem PySem.Spec PyProof.Rows L2
/-- the promise of a def wherever no repr runs around it -/
structure FnG (P : Program) (w : World) (K : PySem.W.Frag) (mg : Str → Option Value) (base : Heap) (CX : CXT)
    (k : Nat) (f : Addr) (fd : FuncData) (ps : List Str) (sp : Sp) : Prop where
  len : ∀ vs H Q E, sp vs H Q E → vs.length = ps.length
  run : ∀ (A : Around) (outer : List Env) (s : Shared) (H : Hp) (args : Args) (us : List Value) (vs : List V) (Q : VK) (E : XK),
    Room k A → A.guards = some [] → Env0 P w K mg base A outer s H → BindsTo s fd args (ps.zip us) → Vals vs us → sp vs H Q E →
    codeAny (model P w) A (.call (.ref f) args) (CR CX outer P w H s Q E) s
section
variable {P : Program} {w : World} {K : PySem.W.Frag} {mg : Str → Option Value} {base : Heap}
theorem FnG.of {CX : CXT} {k : Nat} {f : Addr} {fd : FuncData} {ps : List Str} {sp : Sp} (F : FnOk P w K mg base CX k f fd ps sp) : FnG P w K mg base CX k f fd ps sp :=
  ⟨F.len, fun A outer s H args us vs Q E hr _ => F.run A outer s H args us vs Q E hr⟩
/-- where a def's body ends -/
theorem ends_ok {CX : CXT} {N : List Str} {qual : Str} {scope : Scope} {f : Addr} {cdv : Value} {A : Around} {outer : List Env} {s : Shared} {H : Hp} {Q : VK} {E : XK} {fl : Flow} {s' : Shared}
    (h : SP (cxOf CX P w K mg base N qual scope f cdv A outer s H E) [] { nx := fun _ H' => Q .non H', rt := Q } fl s') :
    match fl with | .ret u => CE outer P w H s Q u s' | .next => CE outer P w H s Q .none s' | _ => False := by
  cases fl with
  | ret u =>
    obtain ⟨v, τ, H2, J, rv, q⟩ := h
    exact ⟨v, H2, J.os, J.bare, J.base, J.hok, rv, q⟩
  | next =>
    obtain ⟨τ, H2, J, q⟩ := h
    exact ⟨V.non, H2, J.os, J.bare, J.base, J.hok, rfl, q⟩
  | brk =>
    obtain ⟨_, _, _, q⟩ := h
    exact q
  | cont =>
    obtain ⟨_, _, _, q⟩ := h
    exact q
end
section
variable {P : Program} {w : World} {K : PySem.W.Frag} {mg : Str → Option Value} {base : Heap} {x qual : Str} {params : Arguments} {body : List Stmt} {scope : Scope} {dvs : List V} {kws : List (Str × V)} {f : Addr} {fd : FuncData}
theorem _root_.L2.FunD.okG {CX : CXT} {N ps : List Str} {k : Nat} {sp : Sp} (F : FunD K x qual params body scope dvs kws f fd) (S : FnScope N ps scope)
    (len : ∀ vs H Q E, sp vs H Q E → vs.length = ps.length)
    (hbody : ∀ (cdv : Value) (A : Around) (outer : List Env) (s : Shared) (H : Hp) (vs : List V) (Q : VK) (E : XK),
      Room k (A.deeper (envOfC qual scope s.heap.objs.size f cdv)) → (A.deeper (envOfC qual scope s.heap.objs.size f cdv)).guards = some [] → sp vs H Q E →
      ∃ t, PSs (cxOf CX P w K mg base N qual scope f cdv A outer s H E) body t ∧ t { nx := fun _ H' => Q .non H', rt := Q } (L2.start N vs) H) :
    FnG P w K mg base CX (k + 1) f fd ps sp := by
  obtain ⟨oc, od, dV, kV, doc, pm, an, cdv, ct, osl, rfl, lk, hcd, _, _⟩ := F.ex
  refine ⟨len, ?_⟩
  intro A outer s H args us vs Q E hr hg e0 hb r hsp
  have inK : K.In s.heap := e0.mod.kin.keeps fun a ob q => (e0.bs a ob q).1
  have noLim : s.heap.NoLimit := e0.mod.nolimit.keeps fun a ob q => (e0.bs a ob q).1
  refine codeAny_call_function hr.depth (inK _ _ lk) rfl S.co S.gen rfl (PySem.W.codeRec_of inK hcd) (hb _ _ _ _ ?_)
  refine wpAny_newFunctionEnv_cells S.kind (fun y hy => ?_) fun env he s1 inC => ?_
  · rcases S.par y.1 (List.of_mem_zip hy).1 with z | z
    · exact Or.inl z
    · exact Or.inr ⟨z, PySem.W.cellsFrom_some _ _ _ (Or.inl z)⟩
  · subst he
    obtain ⟨t, ht, hq⟩ := hbody cdv A outer s H vs Q E (hr.deeper _) hg hsp
    refine ⟨noLim.keeps inC.toInCall.keep, codeAny_func ?_⟩
    refine wpAny_mono (ht.run [] s1 _ H _ (inv_start S hr.hd e0 (len _ _ _ _ hsp) r inC) hq) (fun fl s2 hs => ?_) fun _ _ z => z
    have z := ends_ok hs
    cases fl <;> first | exact z | exact z.elim
end
/-- a guarded def of the top, called by its name -/
structure Dg (P : Program) (w : World) (K : PySem.W.Frag) (mg : Str → Option Value) (base : Heap)
    (CX : CXT) (k : Nat) (x : Str) (ps : List Str) (sp : Sp) : Prop where
  ex : ∃ fd, FnG P w K mg base CX k (He.ga K x) fd ps sp ∧ Binds K fd ps []
  gm : mg x = some (.ref (He.ga K x))
  kp : PySem.W.keepIn K (.ref (He.ga K x)) = true
section
variable {X : Cx}
theorem run_fnG {CX : CXT} {k : Nat} {f : Addr} {fd : FuncData} {ps : List Str} {sp : Sp} {E : XK} {pins : List (Addr × Obj)} {σ : L2.St} {H : Hp} {s : Shared} {Q : VK} {us : List Value} {vs : List V}
    (F : FnG X.prog X.w X.K X.mg X.base CX k f fd ps sp) (hr : Room k X.A) (hG : X.A.guards = some []) (hb : Binds X.K fd ps []) (hx : Passes CX X E)
    (I : Inv X pins σ H s) (r : Vals vs us) (h : sp vs H Q E) : wpAny (model X.prog X.w) X.A (call (.ref f) us) (EP X pins σ Q) X.xe s := by
  have hl : us.length = ps.length := r.length.symm.trans (F.len _ _ _ _ h)
  have hb2 := hb s us I.kIn (by rw [List.append_nil]; exact hl)
  rw [List.append_nil] at hb2
  refine wpAny_call (codeAny_mono (F.run X.A X.stack s H ⟨us, []⟩ us vs Q E hr hG I.env0 hb2 r h) fun res s2 hq => ?_)
  cases res with
  | error e => exact hx pins σ H s e s2 I hq
  | ok fl =>
    cases fl with
    | ret u => exact I.after hq
    | next => exact hq.elim
    | brk => exact hq.elim
    | cont => exact hq.elim
theorem pe_fnG {CX : CXT} {k : Nat} {x : Str} {ps : List Str} {sp : Sp} {E : XK} {e : Expr} {es : List Expr}
    {t : TA} {p pos : Pos} (D : Dg X.prog X.w X.K X.mg X.base CX k x ps sp) (hr : Room k X.A) (hG : X.A.guards = some [])
    (hx : Passes CX X E) (ha : PA X (e :: es) t) (hg : Gl X x := by rfl)
    (hdb : (x == ("__debug__" : Str)) = false := by decide)
    (he : starEach (e :: es) X.env = (false, eval e X.env) :: starEach es X.env := by rfl)
    (hpl : (backTo pos (starEach es X.env)).any (·.1) = false := by rfl) :
    PE X (.Call (.Name x p) (e :: es) [] pos) (tFn sp E t) := by
  obtain ⟨fd, F, b⟩ := D.ex
  refine ⟨fun pins s σ H Q I h => wpAny_Call_Name_kw (ld_glob I hg D.gm ?_ hdb)⟩
  refine PySem.W.callWith_K (h₀ := X.base) I.ok.mod.kin D.kp (thn (ha.run pos pins s σ H _ I h) ?_) he hpl
  rintro us s1 ⟨vs, H1, I1, r, q⟩
  exact ⟨I1.kIn, run_fnG F hr hG b hx I1 r q⟩
end
/-! ### repr of data -/
def rRepr (K : PySem.W.Frag) : List V → Hp → VK → Prop := fun xs H Q => ∃ (v : V) (d : PyData), xs = [v] ∧ Dp K H v d ∧ d.showable = true ∧ d.depth ≤ 60 ∧ d.shown.length ≤ sizeLine ∧ d.hasDict = false ∧ Q (.str d.shown) H
theorem call_reprD {X : Cx} {k : Nat} (hG : X.A.guards = some []) (hr : Room k X.A) : CallR X (.builtin "repr") (rRepr X.K) := by
  intro pins s σ H xs us Q I r h
  obtain ⟨v, d, rfl, hd, hs, hdep, hlen, hnd, q⟩ := h
  obtain ⟨u, rfl, ru⟩ := vals1 r
  have hu : X.A.units + (d.depth + 1) < cLine := by
    have := hr.units
    omega
  obtain ⟨as, rd⟩ := Dp.reads I d v u hd ru
  have noD : d.hasDict = true → sysModules ∉ as := fun z => by rw [hnd] at z; cases z
  cases rd with
  | none => exact PySem.P.repr_of_none ⟨.str _, H, I.tok _, ⟨_, rfl⟩, q⟩
  | bool b => exact PySem.P.repr_of_bool ⟨.str _, H, I.tok _, ⟨_, rfl⟩, q⟩
  | int i t => exact PySem.P.repr_of_int (of_decide_eq_true hs) ⟨.str _, H, I.tok _, ⟨_, rfl⟩, q⟩
  | str z t => exact PySem.P.repr_of_str ⟨.str _, H, I.tok _, ⟨_, rfl⟩, q⟩ hlen
  | list h1 h2 h3 h4 =>
    exact repr_of_reads' (.list h1 h2 h3 h4) hs noD hG hu (fun _ _ z => z) (fun h' t2 tk kp => ⟨.str _, H, I.kept kp, ⟨_, rfl⟩, q⟩) hlen
  | tuple h1 h2 h3 h4 =>
    exact repr_of_reads' (.tuple h1 h2 h3 h4) hs noD hG hu (fun _ _ z => z) (fun h' t2 tk kp => ⟨.str _, H, I.kept kp, ⟨_, rfl⟩, q⟩) hlen
  | dict h1 h2 h3 h4 h5 => exact absurd hnd (by simp [PyData.hasDict])
/-! ### the law itself: run by the claim's caller, around which nothing is -/
theorem law_callG {P : Program} {w : World} {K : PySem.W.Frag} {mg mb : Str → Option Value} {CX : CXT} {k : Nat} {fa a : Addr} {fd : FuncData} {x : Str} {sp : Sp} {s1 : Shared} {us : List Value} {zs : List Int}
    (inK : K.In s1.heap) (gl : s1.heap.Ns mainGlobals mg) (bl : s1.heap.Ns builtinsNs mb) (same : ∀ x : Str, x ≠ "__name__" → mb x = bootBuiltins x) (noLim : s1.heap.NoLimit) (gens : s1.gens = #[])
    (ha : s1.heap.get? a = some { cls := .type "list", data := .seq us.toArray }) (hi : IntsAre us zs) (hl : zs.length ≤ sizeLine) (hr : Room k callerA)
    (F : ∀ base : Heap, K.In base → base.Ns mainGlobals mg → FnG P w K mg base CX k fa fd [x] sp) (bind : ∀ (s : Shared) (u : Value), BindsTo s fd ⟨[u], []⟩ [(x, u)])
    (hsp : ∀ H : Hp, Only H → SqL K H a (zs.map V.int) → sp [.ref a] H (fun v _ => v = .bl true) fun _ _ _ => False)
    (hCX : ∀ H e s', CX [] H s1 (fun _ _ _ => False) e s' → False) :
    codeAny (model P w) callerA (.call (.ref fa) ⟨[.ref a], []⟩) (fun r s' => r = .ok (.ret (.bool true)) ∧ OldK s1.heap s'.heap ∧ s'.os = s1.os ∧ AllBare s'.gens) s1 := by
  -- the abstract heap H0 tracks at most the script
  have go : ∀ H0 : Hp, Only H0 → SqL K H0 a (zs.map V.int) → HOk P w H0 s1.heap → (∀ b, H0 b ≠ none → b = a) → (H0 a ≠ none → K.lookup a = none) →
      codeAny (model P w) callerA (.call (.ref fa) ⟨[.ref a], []⟩) (fun r s' => r = .ok (.ret (.bool true)) ∧ OldK s1.heap s'.heap ∧ s'.os = s1.os ∧ AllBare s'.gens) s1 := by
    intro H0 only sq hok onlyA kA
    have dictFree : ∀ (b : Addr) (o : Obj) (es : Array DictEntry) (ep : Nat), s1.heap.get? b = some o → o.data = .dict es ep → H0 b = none := by
      intro b o es ep e d
      cases q : H0 b with
      | none => rfl
      | some u =>
        obtain rfl : b = a := onlyA b (by rw [q]; simp)
        rw [ha] at e
        cases e
        cases d
    have nsH : ∀ (b : Addr) (m : Str → Option Value), s1.heap.Ns b m → (hidT s1.heap H0).Ns b m := by
      rintro b m ⟨o, es, ep, e, d, r⟩
      exact ⟨o, es, ep, hidT_get e (dictFree b o es ep e d), d, r⟩
    have inH : K.In (hidT s1.heap H0) := by
      intro b o e
      refine hidT_get (inK b o e) ?_
      cases q : H0 b with
      | none => rfl
      | some u =>
        obtain rfl : b = a := onlyA b (by rw [q]; simp)
        rw [kA (by rw [q]; simp)] at e
        cases e
    obtain ⟨mc, l1, l2⟩ := noLim
    have md : Mod K mg (hidT s1.heap H0) := ⟨inH, nsH _ _ gl, ⟨mb, nsH _ _ bl, same⟩, ⟨mc, nsH _ _ l1, l2⟩⟩
    have e0 : Env0 P w K mg (hidT s1.heap H0) callerA [] s1 H0 :=
      ⟨rfl, md, fun b o e => of_hidT e, Nat.le_of_eq (hidT_size _ _), trivial, (fun b hb => nomatch hb), hok, .of_eq gens⟩
    have run := (F _ inH (nsH _ _ gl)).run callerA [] s1 H0 ⟨[.ref a], []⟩ [.ref a] [.ref a] _ _ hr rfl e0 (bind s1 (.ref a)) (.cons rfl .nil) (hsp H0 only sq)
    refine codeAny_mono run fun res s2 h => ?_
    cases res with
    | error e => exact (hCX H0 e s2 h).elim
    | ok fl =>
      cases fl with
      | next => exact h.elim
      | brk => exact h.elim
      | cont => exact h.elim
      | ret u =>
        obtain ⟨v, H2, os2, bare2, un, hok2, rv, q⟩ := h
        obtain rfl : v = .bl true := q
        obtain rfl : u = Value.bool true := rv
        refine ⟨rfl, OldK.of_keep fun b o e => ?_, os2, bare2⟩
        rcases only b with z | ⟨ob, xs, z⟩
        · exact un.keep b o e z (fun y => nomatch y) (fun y => nomatch y)
        · obtain ⟨g1, _⟩ := hok b _ z
          obtain ⟨g2, _⟩ := hok2 b _ (un.frzs b ob _ z)
          rw [e] at g1
          cases g1
          exact g2
  cases hk : K.lookup a with
  | some o =>
    have e := inK a o hk
    rw [ha] at e
    cases e
    exact go (fun _ => none) (fun _ => .inl rfl) (.inr ⟨_, us.toArray, _, hk, rfl, rfl, rfl, by rw [List.size_toArray, hi.length]; exact hl, by simpa using vals_ints hi⟩)
      (fun b u z => nomatch z) (fun b z => absurd rfl z) fun z => absurd rfl z
  | none =>
    let fz : HO := .frz { cls := .type "list", data := .seq us.toArray } (.lst (zs.map V.int))
    have atA : upd (fun _ => none) a fz a = some fz := upd_same
    refine go (upd (fun _ => none) a fz) (fun b => ?_) (.inl (.inr ⟨_, atA⟩)) (fun b u z => ?_) (fun b z => ?_) fun _ => hk
    · by_cases hb : b = a
      · subst hb
        exact .inr ⟨_, _, atA⟩
      · exact .inl (upd_ne hb)
    · by_cases hb : b = a
      · subst hb
        rw [atA] at z
        cases z
        exact ⟨ha, by rw [List.length_map]; exact hl, us, _, vals_ints hi, ha⟩
      · rw [upd_ne hb] at z
        cases z
    · by_cases hb : b = a
      · exact hb
      · exact absurd (upd_ne hb) z
theorem walk_ofG {l : PySem.W.OpenLaw} {n k : Nat} {q : Program} {loose : List Str} {XP : (Str → Option Value) → Heap → Prop} {YP : World → Heap → Prop} {d : DefRec} {CX : CXT} {x : Str}
    (hn : l.most = some n) (hn2 : n ≤ sizeLine) (hdf : d.params.defaults = []) (hr : Room k callerA)
    (F : ∀ (w : World) (mg : Str → Option Value) (fa : Addr) (h : Heap), YP w h → h.Ns mainGlobals mg → mg d.name = some (.ref fa) →
      ∃ (K : PySem.W.Frag) (fd : FuncData) (sp : Sp), K.In h ∧ (∀ (s : Shared) (u : Value), BindsTo s fd ⟨[u], []⟩ [(x, u)]) ∧
        (∀ (H : Hp) (a : Addr) (ns : List Int), ns.length ≤ n → Only H → SqL K H a (ns.map V.int) → sp [.ref a] H (fun v _ => v = .bl true) fun _ _ _ => False) ∧
        ∀ base : Heap, K.In base → base.Ns mainGlobals mg → FnG l.prog w K mg base CX k fa fd [x] sp)
    (hCX : ∀ (H : Hp) (s : Shared) (e : Value) (s' : Shared), CX [] H s (fun _ _ _ => False) e s' → False) :
    PySem.W.WalkO q loose XP YP l.row.toRowW d [] (fun f vs => PySem.call f vs) := by
  refine Att.attach_call hn hdf ?_
  intro w s0 s1 mg mb fa o pm cd doc a us zs G Y _ _ _ hmg hobj hints hlen hg
  obtain ⟨K, fd, sp, inK, hb, hsp, hF⟩ := F w mg fa _ Y G.T.g hmg
  exact law_callG inK G.T.g G.T.b G.T.builtins G.T.nolimit hg hobj hints (Nat.le_trans hlen hn2) hr hF hb (fun H o1 sq => hsp H a zs hlen o1 sq) fun H e s2 => hCX H s1 e s2
end Wp
set_option Elab.async false
set_option linter.all false
set_option maxRecDepth 100000
set_option maxHeartbeats 4000000
/-! The rules whose reading names the written part, with the written part as a letter of its own (so that readings within comprehensions and outside are the same). -/
namespace Wp
open PySem PySem.Spec PyProof.Rows L2
section
variable {X : Cx} {K : PySem.W.Frag}
theorem ix_listK (h : X.K = K) : IxR X (rIxL K) := by subst h; exact ix_list
theorem ix_tupK (h : X.K = K) : IxR X (rIxT K) := by subst h; exact ix_tup
theorem ix_seqK (h : X.K = K) : IxR X (rIx K) := by subst h; exact ix_seq
theorem sl_listK (h : X.K = K) : SlR X (rSlL K) := by subst h; exact sl_list
theorem sl_tupK (h : X.K = K) : SlR X (rSlT K) := by subst h; exact sl_tup
theorem c_lenK (h : X.K = K) : CallR X (.builtin "len") (rLen K) := by subst h; exact c_len
theorem c_listK (h : X.K = K) : CallR X (.type "list") (rListOf K) := by subst h; exact c_list
theorem c_isiK (h : X.K = K) : CallR X (.builtin "isinstance") (rIsi K) := by subst h; exact call_isi
theorem c_isiTK (h : X.K = K) : CallR X (.builtin "isinstance") (rIsiT K) := by subst h; exact call_isiT
theorem c_sumK (h : X.K = K) (c : X.calm = true) : CallR X (.builtin "sum") (rSum K) := by subst h; exact cr_sum c
theorem c_allK (h : X.K = K) (c : X.calm = true) : CallR X (.builtin "all") (rAll K) := by subst h; exact cr_all c
theorem c_anyK (h : X.K = K) (c : X.calm = true) : CallR X (.builtin "any") (rAny K) := by subst h; exact cr_any c
theorem c_minK (h : X.K = K) (c : X.calm = true) : CallR X (.builtin "min") (rMin K) := by subst h; exact cr_min c
theorem c_maxK (h : X.K = K) (c : X.calm = true) : CallR X (.builtin "max") (rMax K) := by subst h; exact cr_max c
theorem c_sortedK (h : X.K = K) : CallR X (.builtin "sorted") (rSorted K) := by subst h; exact cr_sorted
theorem c_sortedSK (h : X.K = K) : CallR X (.builtin "sorted") (rSortedS K) := by subst h; exact cr_sortedS
theorem c_reprK {k : Nat} (h : X.K = K) (hG : X.A.guards = some []) (hr : Room k X.A) : CallR X (.builtin "repr") (rRepr K) := by subst h; exact call_reprD hG hr
def rTupOf (K : PySem.W.Frag) : List V → Hp → VK → Prop := fun xs H Q => ∃ p ys, xs = [.ref p] ∧ ((SqL K H p ys ∧ ∀ l, H l = none → Q (.ref l) (upd H l (.tup ys))) ∨ (SqT K H p ys ∧ Q (.ref p) H))
theorem c_tupleK (h : X.K = K) : CallR X (.type "tuple") (rTupOf K) := by subst h; exact call_tuple_of
theorem in_seqK (h : X.K = K) : OpR X (compareOp .In) (rIn K false) := by subst h; exact op_in_seq
theorem notIn_seqK (h : X.K = K) : OpR X (compareOp .NotIn) (rIn K true) := by subst h; exact op_notIn_seq
theorem eqDK (h : X.K = K) (hu : X.A.units + 64 < cLine) : OpR X (compareOp .Eq) (rEqD K) := by subst h; exact op_eqD hu
theorem neDK (h : X.K = K) (hu : X.A.units + 64 < cLine) : OpR X (compareOp .NotEq) (rNeD K) := by subst h; exact op_neD hu
theorem pe_fldK {e : Expr} {f : Str} {pos : Pos} {ta : TE} (h : X.K = K) (he : PE X e ta) (hb : attributeBase e f X.env (eval e X.env) = eval e X.env := by rfl) : PE X (.Attribute e f pos) (tFld K ta f) := by
  subst h
  exact pe_fld he hb
theorem ps_fldK {o value : Expr} {f : Str} {pos pos' : Pos} {ta tv : TE} (h : X.K = K) (ha : PE X o ta) (hv : PE X value tv) (hs : swapsWith value (some (.Attribute o f pos')) pos.line X.env = pure false := by rfl) : PS X (.Assign [.Attribute o f pos'] value pos) (sFld K ta tv f) := by
  subst h
  exact ps_fld ha hv hs
theorem pg_tupK {es : List Expr} {k : Nat} {t : TGs} {n : Nat} {pos : Pos} (h : X.K = K) (hc : X.calm = true) (hh : PGs X es t)
    (hn : (assignEach es X.env).length = n := by rfl) (hst : (assignEach es X.env).findIdx? (·.1) = none := by rfl) : PG X (.Tuple es k pos) (gTup K n t) := by
  subst h
  exact pg_tup hc hh hn hst
theorem pi_listK {l tg : Expr} {tl : TE} (h : X.K = K) (hl : PE X l tl) : PI X tg l (iList K tl) := by
  subst h
  exact pi_list hl
theorem pi_tupK {l tg : Expr} {tl : TE} (h : X.K = K) (hl : PE X l tl) : PI X tg l (iTup K tl) := by
  subst h
  exact pi_tup hl
theorem pe_bmK {T : String} {name : Str} {id : String} {r : V → List V → Hp → VK → Prop} {o e : Expr} {es : List Expr} {to : TE} {t : TA} {apos cpos : Pos} (h : X.K = K) (pa : PlainAttrs T) (slot : Slot T name id) (hty : typeOf (.builtin id) = pure (.type "method_descriptor")) (hm : MtR X id r) (ho : PE X o to) (ha : PA X (e :: es) t)
    (hbase : attributeBase o name X.env (eval o X.env) = eval o X.env := by rfl)
    (hfew : ((backTo cpos (starEach (e :: es) X.env)).all (fun x => !x.1) && (backToKw cpos (keywordEach [] X.env)).all (fun x => x.1.isSome) && decide ((e :: es).length + ([] : List Keyword).length + (if ([] : List Keyword).isEmpty then 0 else 1) < 30)) = true := by rfl)
    (hline : (apos.endLine == cpos.line) = true := by rfl) (he : starEach (e :: es) X.env = (false, eval e X.env) :: starEach es X.env := by rfl) (hpl : (backTo cpos (starEach es X.env)).any (·.1) = false := by rfl) :
    PE X (.Call (.Attribute o name apos) (e :: es) [] cpos) (tBM K T r to t) := by
  subst h
  exact pe_bm pa slot hty hm ho ha hbase hfew hline he hpl
end
end Wp
set_option Elab.async false
set_option linter.all false
set_option maxRecDepth 100000
set_option maxHeartbeats 4000000
/-! Calls by keywords alone; classes called; isinstance. -/
namespace Wp
open PySem PySem.Spec PyProof.Rows L2
def swap2 {α : Type} : List α → List α
  | [a, b] => [b, a]
  | l => l
def rev3 {α : Type} : List α → List α
  | [a, b, c] => [c, b, a]
  | l => l
theorem swap2_rel {vs : List V} {us : List Value} (r : Vals vs us) : Vals (swap2 vs) (swap2 us) := by
  match vs, us, r with
  | [], _, .nil => exact .nil
  | [_], _, .cons a .nil => exact .cons a .nil
  | [_, _], _, .cons a (.cons b .nil) => exact .cons b (.cons a .nil)
  | _ :: _ :: _ :: _, _, .cons a (.cons b (.cons c d)) => exact .cons a (.cons b (.cons c d))
theorem rev3_rel {vs : List V} {us : List Value} (r : Vals vs us) : Vals (rev3 vs) (rev3 us) := by
  match vs, us, r with
  | [], _, .nil => exact .nil
  | [_], _, .cons a .nil => exact .cons a .nil
  | [_, _], _, .cons a (.cons b .nil) => exact .cons a (.cons b .nil)
  | [_, _, _], _, .cons a (.cons b (.cons c .nil)) => exact .cons c (.cons b (.cons a .nil))
  | _ :: _ :: _ :: _ :: _, _, .cons a (.cons b (.cons c (.cons d e))) => exact .cons a (.cons b (.cons c (.cons d e)))
/-- a def called by keywords ks alone; g puts their values in the parameters' order -/
structure Dq (P : Program) (w : World) (K : PySem.W.Frag) (mg : Str → Option Value) (base : Heap)
    (CX : CXT) (k : Nat) (x : Str) (ks : List Str) (g : List V → List V) (sp : Sp) : Prop where
  ex : ∃ (fd : FuncData) (ps : List Str) (gv : List Value → List Value), FnOk P w K mg base CX k (He.ga K x) fd ps sp ∧ KBn K fd ps 0 ks (fun _ ws => gv ws) (fun _ zs => g zs)
  gm : mg x = some (.ref (He.ga K x))
  kp : PySem.W.keepIn K (.ref (He.ga K x)) = true
def kFnK (n : Nat) (g : List V → List V) (sp : Sp) (E : XK) (Q : VK) : List V → Hp → Prop := fun zs H1 => zs.length = n ∧ sp (g zs) H1 Q E
def tFnK (n : Nat) (g : List V → List V) (sp : Sp) (E : XK) (tk : TA) : TE := fun σ H Q => tk σ H (kFnK n g sp E Q)
section
variable {X : Cx}
theorem pe_fnK0 {CX : CXT} {k : Nat} {x : Str} {ks : List Str} {g : List V → List V} {sp : Sp} {E : XK} {kws : List Keyword} {tk : TA} {p pos : Pos}
    (D : Dq X.prog X.w X.K X.mg X.base CX k x ks g sp) (hr : Room k X.A) (hx : Passes CX X E) (hkw : PK X kws tk) (hg : Gl X x := by rfl)
    (hall : (backToKw pos (keywordEach kws X.env)).all (·.1.isSome) = true := by rfl) (hks : (backToKw pos (keywordEach kws X.env)).filterMap (·.1) = ks := by rfl)
    (hdb : (x == ("__debug__" : Str)) = false := by decide)
    (hpl : ((backTo pos (starEach [] X.env)).any (·.1) || (backToKw pos (keywordEach kws X.env)).any (·.1.isNone)) = false := by rfl) :
    PE X (.Call (.Name x p) [] kws pos) (tFnK ks.length g sp E tk) := by
  obtain ⟨fd, ps, gv, F, b⟩ := D.ex
  refine ⟨fun pins s σ H Q I h => wpAny_Call_Name_kw (ld_glob I hg D.gm ?_ hdb)⟩
  refine PySem.W.callWith_KW0 (h₀ := X.base) I.ok.mod.kin D.kp hall (thn (hkw.run pos pins s σ H _ I h) ?_) hpl
  rintro ws s2 ⟨zs, H2, I2, rz, l2, q2⟩
  refine ⟨I2.kIn, ?_⟩
  rw [hks]
  exact run_fnN (us := []) (vs := []) F hr b hx I2 .nil rz rfl l2 q2
theorem r_fnK {n : Nat} {g : List V → List V} {sp : Sp} {E : XK} {tk : TA} {σ : L2.St} {H : Hp} {Q : VK} (q : tk σ H (kFnK n g sp E Q)) : tFnK n g sp E tk σ H Q := q
theorem r_kFnK {n : Nat} {g : List V → List V} {sp : Sp} {E : XK} {H : Hp} {Q : VK} {zs : List V} (l : zs.length = n) (q : sp (g zs) H Q E) : kFnK n g sp E Q zs H := ⟨l, q⟩
end
section
variable {P : Program} {w : World} {K : PySem.W.Frag} {mg : Str → Option Value} {base : Heap} {x qual : Str} {params : Arguments} {body : List Stmt} {scope : Scope} {dvs : List V} {kws : List (Str × V)} {f : Addr} {fd : FuncData}
/-- how keywords alone bind (a def without defaults) -/
theorem kbn_of {ps ks : List Str} {gv : List Value → List Value} {g : List V → List V} (F : FunD K x qual params body scope [] kws f fd)
    (hrel : ∀ {vs : List V} {us : List Value}, Vals vs us → Vals (g vs) (gv us))
    (h : ∀ (kV doc pm : Value) (an : Option Addr) (cdv ct : Value) (ws : List Value), ws.length = ks.length → bindArgs (PySem.W.fnOf x qual params body scope .none kV doc pm an cdv ct) ⟨[], ks.zip ws⟩ = pure (ps.zip (gv ws))) :
    KBn K fd ps 0 ks (fun _ ws => gv ws) (fun _ zs => g zs) := by
  obtain ⟨oc, od, dV, kV, doc, pm, an, cdv, ct, osl, rfl, lk, hcd, hD, hK⟩ := F.ex
  rcases hD with ⟨_, rfl⟩ | ⟨e, _⟩
  · refine ⟨fun s us ws _ l1 l2 => ?_, fun _ r => hrel r⟩
    obtain rfl : us = [] := List.length_eq_zero_iff.mp l1
    exact .of_eq (h kV doc pm an cdv ct ws l2)
  · exact absurd rfl e
end
/-! ### classes called -/
/-- what a new instance of the class at C is given to: its __init__ with the promise sp -/
def spMk (C : Addr) (sp : Sp) (dvs : List V) : Sp := fun vs H Q E => ∀ x dx, H x = none → H dx = none → dx ≠ x →
  sp (.ref x :: (vs ++ dvs)) (upd (upd H dx (.own x)) x (.ins C dx [])) (fun v H2 => v = .non ∧ Q (.ref x) H2) E
structure Dc (P : Program) (w : World) (K : PySem.W.Frag) (mg : Str → Option Value) (base : Heap)
    (CX : CXT) (k : Nat) (x : Str) (sp : Sp) : Prop where
  ex : ∃ fI fd ps spI dvs ds, Mk K (He.ga K x) fI ∧ FnOk P w K mg base CX k fI fd ps spI ∧ Binds K fd ps ds ∧ Vals dvs ds ∧ ∀ vs H Q E, sp vs H Q E → spMk (He.ga K x) spI dvs vs H Q E
  gm : mg x = some (.ref (He.ga K x))
section
variable {X : Cx}
theorem pe_mk {CX : CXT} {k : Nat} {x : Str} {sp : Sp} {E : XK} {e : Expr} {es : List Expr} {t : TA} {p pos : Pos}
    (D : Dc X.prog X.w X.K X.mg X.base CX k x sp) (hr : Room (k + 1) X.A) (hx : Passes CX X E) (ha : PA X (e :: es) t) (hg : Gl X x := by rfl)
    (hdb : (x == ("__debug__" : Str)) = false := by decide)
    (he : starEach (e :: es) X.env = (false, eval e X.env) :: starEach es X.env := by rfl)
    (hpl : (backTo pos (starEach es X.env)).any (·.1) = false := by rfl) :
    PE X (.Call (.Name x p) (e :: es) [] pos) (tFn sp E t) := by
  obtain ⟨fI, fd, ps, spI, dvs, ds, M, F, b, hd, imp⟩ := D.ex
  refine ⟨fun pins s σ H Q I h => wpAny_Call_Name_kw (ld_glob I hg D.gm ?_ hdb)⟩
  refine PySem.W.callWith_K (h₀ := X.base) I.ok.mod.kin M.kp (thn (ha.run pos pins s σ H _ I h) ?_) he hpl
  rintro us s1 ⟨vs, H1, I1, r, q⟩
  exact ⟨I1.kIn, run_make M F hr b hd hx I1 r (imp vs H1 Q E q)⟩
end
/-! ### isinstance of plain values -/
section
variable {K : PySem.W.Frag} {H : Hp} {Q : VK} {x : V} {i : Int} {b : Bool} {z : Str} {p : Addr} {xs : List V}
theorem r_isiT {a c : String} {r : Bool} (h : TyX K H x (.type a)) (hk : kitB a c = some r) (q : Q (.bl r) H) : rIsi K [x, .ty c] H Q := ⟨x, .ty c, .type a, .type c, r, rfl, .ty c, h, kit_ty hk, q⟩
theorem r_isi_ii (q : Q (.bl true) H) : rIsi K [.int i, .ty "int"] H Q := r_isiT (.base (.int i)) (by decide +kernel) q
theorem r_isi_ib (q : Q (.bl false) H) : rIsi K [.int i, .ty "bool"] H Q := r_isiT (.base (.int i)) (by decide +kernel) q
theorem r_isi_is (q : Q (.bl false) H) : rIsi K [.int i, .ty "str"] H Q := r_isiT (.base (.int i)) (by decide +kernel) q
theorem r_isi_it (q : Q (.bl false) H) : rIsi K [.int i, .ty "tuple"] H Q := r_isiT (.base (.int i)) (by decide +kernel) q
theorem r_isi_bi (q : Q (.bl true) H) : rIsi K [.bl b, .ty "int"] H Q := r_isiT (.base (.bl b)) (by decide +kernel) q
theorem r_isi_bb (q : Q (.bl true) H) : rIsi K [.bl b, .ty "bool"] H Q := r_isiT (.base (.bl b)) (by decide +kernel) q
theorem r_isi_ss (q : Q (.bl true) H) : rIsi K [.str z, .ty "str"] H Q := r_isiT (.base (.str z)) (by decide +kernel) q
theorem r_isi_tt (h : H p = some (.tup xs)) (q : Q (.bl true) H) : rIsi K [.ref p, .ty "tuple"] H Q := r_isiT (.base (.tup h)) (by decide +kernel) q
/-- is it a number -/
inductive NumV (K : PySem.W.Frag) (H : Hp) : V → Option Int → Prop
  | int (i : Int) : NumV K H (.int i) (some i)
  | no {x : V} {t : Value} {b1 b2 : Bool} : TyX K H x t → PySem.W.kitOne K t (.type "int") = some b1 → PySem.W.kitOne K t (.type "bool") = some b2 → (b1 && !b2) = false → NumV K H x none
def inB : Option Int → Int → Int → Bool
  | some i, lo, hi => decide (lo ≤ i) && decide (i ≤ hi)
  | none, _, _ => false
theorem inB_yes {i lo hi : Int} (h : lo ≤ i ∧ i ≤ hi) : inB (some i) lo hi = true := by
  simp [inB, h.1, h.2]
end
end Wp
set_option Elab.async false
set_option linter.all false
set_option maxRecDepth 100000
set_option maxHeartbeats 4000000
/-! Properties of own classes: a rule by name, and a look at their getters when the program has been run. -/
namespace Wp
open PySem PySem.Spec PyProof.Rows L2
/-- a property whose getter keeps the promise -/
structure Dpr (P : Program) (w : World) (K : PySem.W.Frag) (mg : Str → Option Value) (base : Heap) (CX : CXT) (k : Nat) (C : Addr) (f : Str) (sp : Sp) : Prop where
  ex : ∃ (p g : Addr) (fd : FuncData) (ps : List Str), PropOf K C f p g ∧ FnOk P w K mg base CX k g fd ps sp ∧ Binds K fd ps []
  cl : Cls K C
def kProp (C : Addr) (sp : Sp) (E : XK) (Q : VK) : VK := fun x H1 => ∃ a dx fs, x = .ref a ∧ H1 a = some (.ins C dx fs) ∧ sp [.ref a] H1 Q E
section
variable {X : Cx} {CX : CXT} {k : Nat} {C a dx : Addr} {f : Str} {sp : Sp} {E : XK} {e : Expr} {pos : Pos} {ta : TE} {fs : List (Str × V)}
theorem pe_propA (D : Dpr X.prog X.w X.K X.mg X.base CX k C f sp) (he : PE X e ta) (hr : Room (k + 1) X.A) (hx : Passes CX X.nox E)
    (hab : attributeBase e f X.env (eval e X.env) = eval e X.env := by rfl) : PE X (.Attribute e f pos) (tProp C sp [] E ta) := by
  obtain ⟨p, g, fd, ps, h1, h2, h3⟩ := D.ex
  exact pe_prop he D.cl h1 h2 hr h3 .nil hx hab
theorem r_prop {σ : L2.St} {H : Hp} {Q : VK} (q : ta σ H (kProp C sp E Q)) : tProp C sp [] E ta σ H Q := q
theorem r_kProp {H : Hp} {Q : VK} (h : H a = some (.ins C dx fs)) (q : sp [.ref a] H Q E) : kProp C sp E Q (.ref a) H := ⟨a, dx, fs, rfl, h, q⟩
end
/-! x += e -/
theorem r_aug {i : Nat} {te : TE} {ti : TIp} {D : Ends} {σ : L2.St} {H : Hp} {x : V} (h : σ[i]? = some (some x)) (q : te σ H fun y H1 => ti x y H1 fun z H2 => D.nx (σ.set i (some z)) H2) : tAug i te ti D σ H := ⟨x, h, q⟩
theorem r_ipI {f : Int → Int → Int} {i j : Int} {H : Hp} {Q : VK} (q : Q (.int (f i j)) H) : ipI f (.int i) (.int j) H Q := ⟨i, j, rfl, rfl, q⟩
/-! ### the look -/
/-- where the getter of the property f of class c stands -/
def gAd (K : PySem.W.Frag) (c f : Str) : Addr := match PySem.W.recIn K (He.ma K (He.ga K c) f) "property" with
  | some (.ref g :: _) => g
  | _ => 0
structure GetD where
  c : Str
  f : Str
  qual : Str
  params : Arguments
  body : List Stmt
  scope : Scope
def fnY (K : PySem.W.Frag) (d : GetD) : He.FnW := match K.lookup (gAd K d.c d.f) with
  | some ⟨_, _, .func z, _⟩ => some (z.name, z.qualname, z.params, z.body, z.scope, z.globals, z.closure, z.builtins)
  | _ => none
def GetD.val (d : GetD) : He.FnW := some (d.f, d.qual, d.params, .stmts d.body, d.scope, mainGlobals, [], builtinsNs)
def propB (K : PySem.W.Frag) (c f : Str) : Bool := He.eqO (PySem.W.findIn K (.ref (He.ga K c)) f) (some (some (.ref (He.ma K (He.ga K c) f)))) &&
  (He.eqO (PySem.W.specialIn K (.ref (He.ma K (He.ga K c) f)) "__get__") (some (some (.builtin "property.__get__"))) && (decide (PySem.W.takesIn K (.ref (He.ma K (He.ga K c) f)) = some true) &&
  (match PySem.W.recIn K (He.ma K (He.ga K c) f) "property" with
  | some (.ref _ :: _) => true
  | _ => false)))
def GetD.ok (K : PySem.W.Frag) (d : GetD) : Bool := propB K d.c d.f && (PySem.W.keepIn K (.ref (gAd K d.c d.f)) && (match K.lookup (gAd K d.c d.f) with
  | some ⟨_, _, .func z, _⟩ => PySem.W.codeIn K z.code d.qual && (He.dflB K z.defaults [] && He.kwdB K z.kwdefaults [])
  | _ => false))
theorem propB_ok {K : PySem.W.Frag} {c f : Str} (h : propB K c f = true) : PropOf K (He.ga K c) f (He.ma K (He.ga K c) f) (gAd K c f) := by
  obtain ⟨h1, h⟩ := He.ba h
  obtain ⟨h2, h⟩ := He.ba h
  obtain ⟨h3, h4⟩ := He.ba h
  refine ⟨He.eqO_ok h1, He.eqO_ok h2, of_decide_eq_true h3, ?_⟩
  unfold gAd
  cases q : PySem.W.recIn K (He.ma K (He.ga K c) f) "property" with
  | none =>
    rw [q] at h4
    cases h4
  | some l =>
    rw [q] at h4
    cases l with
    | nil => cases h4
    | cons x r =>
      cases x with
      | ref g => exact ⟨r, rfl⟩
      | _ => cases h4
theorem GetD.funD {K : PySem.W.Frag} {d : GetD} (e : fnY K d = d.val) (c : d.ok K = true) : PropOf K (He.ga K d.c) d.f (He.ma K (He.ga K d.c) d.f) (gAd K d.c d.f) ∧ ∃ fd, FunD K d.f d.qual d.params d.body d.scope [] [] (gAd K d.c d.f) fd := by
  obtain ⟨hp, c1⟩ := He.ba c
  refine ⟨propB_ok hp, ?_⟩
  obtain ⟨hk, c2⟩ := He.ba c1
  unfold fnY at e
  cases q : K.lookup (gAd K d.c d.f) with
  | none =>
    rw [q] at e
    cases e
  | some o =>
    obtain ⟨a1, a2, a3, a4⟩ := o
    rw [q] at e c2
    cases a3 with
    | func z =>
      obtain ⟨z1, z2, z3, z4, z5, z6, z7, z8, z9, z10, z11, z12, z13, z14, z15⟩ := z
      have e3 : ((z1, z2, z3, z4, z5, z6, z7, z15) : Str × Str × Arguments × FuncBody × Scope × Addr × List (Str × Addr) × Addr) = (d.f, d.qual, d.params, .stmts d.body, d.scope, mainGlobals, [], builtinsNs) := Option.some.inj e
      simp only [Prod.mk.injEq] at e3
      obtain ⟨rfl, rfl, rfl, rfl, rfl, rfl, rfl, rfl⟩ := e3
      obtain ⟨k1, k2⟩ := He.ba (a := PySem.W.codeIn K z13 d.qual) c2
      obtain ⟨k3, k4⟩ := He.ba k2
      exact ⟨_, ⟨a1, a2, z8, z9, z10, z11, z12, z13, z14, a4, rfl, q, k1, He.dflB_ok k3, He.kwdB_ok k4⟩, hk⟩
    | _ => cases e
/-- what is told besides: the getters -/
abbrev AlY : Type := He.AlX × Bool × List He.FnW
def obsY (n : Nat) (fa : List He.Fa) (fn : List He.DefD) (gs : List GetD) (ex : PySem.W.Frag → Bool) (g : Addr → Option Obj) : AlY :=
  (He.obsX n fa fn [] [] ex g, gs.all (fun d => d.ok (He.frT g (He.asD g n))), gs.map fun d => fnY (He.frT g (He.asD g n)) d)
def valY (fn : List He.DefD) (gs : List GetD) (w : World) : AlY := (He.valX fn [] w, true, gs.map GetD.val)
structure SaysY (fa : List He.Fa) (fn : List He.DefD) (gs : List GetD) (ex : PySem.W.Frag → Bool) (w : World) (h : Heap) (K : PySem.W.Frag) : Prop where
  x : He.SaysX fa fn [] [] ex w h K
  g : ∀ d ∈ gs, PropOf K (He.ga K d.c) d.f (He.ma K (He.ga K d.c) d.f) (gAd K d.c d.f) ∧ ∃ fd, FunD K d.f d.qual d.params d.body d.scope [] [] (gAd K d.c d.f) fd
theorem saysY_of {n : Nat} {fa : List He.Fa} {fn : List He.DefD} {gs : List GetD} {ex : PySem.W.Frag → Bool} {w : World} {h : Heap} (e : obsY n fa fn gs ex h.get? = valY fn gs w) : SaysY fa fn gs ex w h (He.frT h.get? (He.asD h.get? n)) := by
  have e1 : He.obsX n fa fn [] [] ex h.get? = He.valX fn [] w := congrArg (fun z : AlY => z.1) e
  have e2 : gs.all (fun d => d.ok (He.frT h.get? (He.asD h.get? n))) = true := congrArg (fun z : AlY => z.2.1) e
  have e3 : gs.map (fun d => fnY (He.frT h.get? (He.asD h.get? n)) d) = gs.map GetD.val := congrArg (fun z : AlY => z.2.2) e
  exact ⟨He.saysX_of e1, fun d hd => GetD.funD (List.map_inj_left.mp e3 d hd) (List.all_eq_true.mp e2 d hd)⟩
def hookY (n : Nat) (fa : List He.Fa) (fn : List He.DefD) (gs : List GetD) (ex : PySem.W.Frag → Bool) : PySem.W.Hook where
  α := AlY
  obs := fun s => obsY n fa fn gs ex s.heap.get?
  val := fun w => valY fn gs w
  says := fun w h => ∃ K : PySem.W.Frag, K.In h ∧ SaysY fa fn gs ex w h K
  of := fun _ _ e => ⟨_, He.frT_in, saysY_of e⟩
  keeps := fun _ _ _ ⟨K, hK, c⟩ k => ⟨K, PySem.W.Frag.In.keeps hK k, ⟨⟨c.x.t, c.x.more, c.x.hd, c.x.out, fun p hp => k _ _ (c.x.empty p hp)⟩, c.g⟩⟩
theorem obsY_eq {n : Nat} {fa : List He.Fa} {fn : List He.DefD} {gs : List GetD} {ex : PySem.W.Frag → Bool} {g : Addr → Option Obj} {s : Shared} (h : ∀ a, g a = s.heap.get? a) : obsY n fa fn gs ex g = (hookY n fa fn gs ex).obs s := by
  obtain rfl : g = s.heap.get? := funext h
  rfl
end Wp
set_option Elab.async false
set_option linter.all false
set_option maxRecDepth 100000
set_option maxHeartbeats 0
/-! A look at classes: what isinstance needs. -/
namespace Wp
open PySem PySem.Spec PyProof.Rows L2
def insB (K : PySem.W.Frag) (C : Addr) : Bool := decide (PySem.W.findIn K (.ref C) "__class__" = some (some (.builtin "object.__class__"))) && (decide (PySem.W.specialIn K (.builtin "object.__class__") "__get__" = some (some (.builtin "getset_descriptor.__get__")))
  && (decide (PySem.W.takesIn K (.builtin "object.__class__") = some true) && (decide (PySem.W.mroIn K C (.type "object") = some true) && decide (PySem.W.kitOne K (.ref C) (.ref C) = some true))))
theorem insB_ok {K : PySem.W.Frag} {C : Addr} (cl : Cls K C) (h : insB K C = true) : C8.InsC K C := by
  obtain ⟨h1, h⟩ := He.ba h
  obtain ⟨h2, h⟩ := He.ba h
  obtain ⟨h3, h⟩ := He.ba h
  obtain ⟨h4, h5⟩ := He.ba h
  exact ⟨cl, of_decide_eq_true h1, of_decide_eq_true h2, of_decide_eq_true h3, of_decide_eq_true h4, of_decide_eq_true h5⟩
end Wp
set_option Elab.async false
set_option linter.all false
set_option maxRecDepth 100000
set_option maxHeartbeats 0
namespace Wp
open PySem PySem.Spec PyProof.Rows L2
def D__law_begun : He.DefD := ⟨("_law_begun", none), "_law_begun", "_law_begun", defArgs (topS 58), defBody (topS 58), defScope (topS 58), [], []⟩
def D__law_mixed : He.DefD := ⟨("_law_mixed", none), "_law_mixed", "_law_mixed", defArgs (topS 59), defBody (topS 59), defScope (topS 59), [], []⟩
def D__law_take : He.DefD := ⟨("_law_take", none), "_law_take", "_law_take", defArgs (topS 60), defBody (topS 60), defScope (topS 60), [], []⟩
def D__law_pick : He.DefD := ⟨("_law_pick", none), "_law_pick", "_law_pick", defArgs (topS 61), defBody (topS 61), defScope (topS 61), [], []⟩
def D__law_names : He.DefD := ⟨("_law_names", none), "_law_names", "_law_names", defArgs (topS 63), defBody (topS 63), defScope (topS 63), [], []⟩
def D__law_some : He.DefD := ⟨("_law_some", none), "_law_some", "_law_some", defArgs (topS 62), defBody (topS 62), defScope (topS 62), [], []⟩
def D_is_number : He.DefD := ⟨("is_number", none), "is_number", "is_number", defArgs (topS 19), defBody (topS 19), defScope (topS 19), [], []⟩
def D_is_number_in : He.DefD := ⟨("is_number_in", none), "is_number_in", "is_number_in", defArgs (topS 20), defBody (topS 20), defScope (topS 20), [], []⟩
def D_is_list : He.DefD := ⟨("is_list", none), "is_list", "is_list", defArgs (topS 21), defBody (topS 21), defScope (topS 21), [], []⟩
def D_is_name : He.DefD := ⟨("is_name", none), "is_name", "is_name", defArgs (topS 22), defBody (topS 22), defScope (topS 22), [], []⟩
def D_are_lengths : He.DefD := ⟨("are_lengths", none), "are_lengths", "are_lengths", defArgs (topS 23), defBody (topS 23), defScope (topS 23), [], []⟩
def D_is_kind : He.DefD := ⟨("is_kind", none), "is_kind", "is_kind", defArgs (topS 24), defBody (topS 24), defScope (topS 24), [], []⟩
def D_are_kinds : He.DefD := ⟨("are_kinds", none), "are_kinds", "are_kinds", defArgs (topS 25), defBody (topS 25), defScope (topS 25), [], []⟩
def D_is_order : He.DefD := ⟨("is_order", none), "is_order", "is_order", defArgs (topS 26), defBody (topS 26), defScope (topS 26), [], []⟩
def D_Book___init__ : He.DefD := ⟨("Book", some "__init__"), "__init__", "Book.__init__", defArgs (inClass (topS 28) 0), defBody (inClass (topS 28) 0), defScope (inClass (topS 28) 0), [.int 0, .str "day", .non], []⟩
def D_Book_rate_of : He.DefD := ⟨("Book", some "rate_of"), "rate_of", "Book.rate_of", defArgs (inClass (topS 28) 10), defBody (inClass (topS 28) 10), defScope (inClass (topS 28) 10), [], []⟩
def D_Book_is_free : He.DefD := ⟨("Book", some "is_free"), "is_free", "Book.is_free", defArgs (inClass (topS 28) 11), defBody (inClass (topS 28) 11), defScope (inClass (topS 28) 11), [], []⟩
def D_Book_month_at : He.DefD := ⟨("Book", some "month_at"), "month_at", "Book.month_at", defArgs (inClass (topS 28) 12), defBody (inClass (topS 28) 12), defScope (inClass (topS 28) 12), [], []⟩
def D_Book_first_at : He.DefD := ⟨("Book", some "first_at"), "first_at", "Book.first_at", defArgs (inClass (topS 28) 13), defBody (inClass (topS 28) 13), defScope (inClass (topS 28) 13), [], []⟩
def D_Book_due_at : He.DefD := ⟨("Book", some "due_at"), "due_at", "Book.due_at", defArgs (inClass (topS 28) 14), defBody (inClass (topS 28) 14), defScope (inClass (topS 28) 14), [], []⟩
def D_need_book : He.DefD := ⟨("need_book", none), "need_book", "need_book", defArgs (topS 29), defBody (topS 29), defScope (topS 29), [], []⟩
def D_days_at : He.DefD := ⟨("days_at", none), "days_at", "days_at", defArgs (topS 42), defBody (topS 42), defScope (topS 42), [], []⟩
def D_round_of : He.DefD := ⟨("round_of", none), "round_of", "round_of", defArgs (topS 43), defBody (topS 43), defScope (topS 43), [], []⟩
def D_word_for : He.DefD := ⟨("word_for", none), "word_for", "word_for", defArgs (topS 33), defBody (topS 33), defScope (topS 33), [], []⟩
def D_reasons_of : He.DefD := ⟨("reasons_of", none), "reasons_of", "reasons_of", defArgs (topS 34), defBody (topS 34), defScope (topS 34), [], []⟩
def D_never_costs_more : He.DefD := ⟨("never_costs_more", none), "never_costs_more", "never_costs_more", defArgs (topS 35), defBody (topS 35), defScope (topS 35), [], []⟩
def D_windows_of : He.DefD := ⟨("windows_of", none), "windows_of", "windows_of", defArgs (topS 36), defBody (topS 36), defScope (topS 36), [], []⟩
def D_greatest_loss : He.DefD := ⟨("greatest_loss", none), "greatest_loss", "greatest_loss", defArgs (topS 37), defBody (topS 37), defScope (topS 37), [], []⟩
def D_is_promise : He.DefD := ⟨("is_promise", none), "is_promise", "is_promise", defArgs (topS 44), defBody (topS 44), defScope (topS 44), [], []⟩
def D_breaker : He.DefD := ⟨("breaker", none), "breaker", "breaker", defArgs (topS 45), defBody (topS 45), defScope (topS 45), [], []⟩
def D_days_in : He.DefD := ⟨("days_in", none), "days_in", "days_in", defArgs (topS 49), defBody (topS 49), defScope (topS 49), [], []⟩
def D_dearest : He.DefD := ⟨("dearest", none), "dearest", "dearest", defArgs (topS 48), defBody (topS 48), defScope (topS 48), [], []⟩
def D_candidates : He.DefD := ⟨("candidates", none), "candidates", "candidates", defArgs (topS 50), defBody (topS 50), defScope (topS 50), [], []⟩
def D_greatest_late_of : He.DefD := ⟨("greatest_late_of", none), "greatest_late_of", "greatest_late_of", defArgs (topS 51), defBody (topS 51), defScope (topS 51), [], []⟩
def D_is_count : He.DefD := ⟨("is_count", none), "is_count", "is_count", defArgs (topS 53), defBody (topS 53), defScope (topS 53), [], []⟩
def D_is_wish : He.DefD := ⟨("is_wish", none), "is_wish", "is_wish", defArgs (topS 54), defBody (topS 54), defScope (topS 54), [], []⟩
def D_does_keep : He.DefD := ⟨("does_keep", none), "does_keep", "does_keep", defArgs (topS 55), defBody (topS 55), defScope (topS 55), [], []⟩
def D_keeps : He.DefD := ⟨("keeps", none), "keeps", "keeps", defArgs (topS 56), defBody (topS 56), defScope (topS 56), [], []⟩
def D__law_model : He.DefD := ⟨("_law_model", none), "_law_model", "_law_model", defArgs (topS 64), defBody (topS 64), defScope (topS 64), [], []⟩
def D__law_made : He.DefD := ⟨("_law_made", none), "_law_made", "_law_made", defArgs (topS 65), defBody (topS 65), defScope (topS 65), [], []⟩
def D__law_first : He.DefD := ⟨("_law_first", none), "_law_first", "_law_first", defArgs (topS 66), defBody (topS 66), defScope (topS 66), [], []⟩
def D__law_month : He.DefD := ⟨("_law_month", none), "_law_month", "_law_month", defArgs (topS 67), defBody (topS 67), defScope (topS 67), [], []⟩
def D__law_due : He.DefD := ⟨("_law_due", none), "_law_due", "_law_due", defArgs (topS 68), defBody (topS 68), defScope (topS 68), [], []⟩
def D__law_can_stand : He.DefD := ⟨("_law_can_stand", none), "_law_can_stand", "_law_can_stand", defArgs (topS 69), defBody (topS 69), defScope (topS 69), [], []⟩
def D__law_is_vow : He.DefD := ⟨("_law_is_vow", none), "_law_is_vow", "_law_is_vow", defArgs (topS 70), defBody (topS 70), defScope (topS 70), [], []⟩
def D__law_broken : He.DefD := ⟨("_law_broken", none), "_law_broken", "_law_broken", defArgs (topS 71), defBody (topS 71), defScope (topS 71), [], []⟩
def D__law_odd : He.DefD := ⟨("_law_odd", none), "_law_odd", "_law_odd", defArgs (topS 72), defBody (topS 72), defScope (topS 72), [], []⟩
def D__law_why : He.DefD := ⟨("_law_why", none), "_law_why", "_law_why", defArgs (topS 73), defBody (topS 73), defScope (topS 73), [], []⟩
def D__law_all_why : He.DefD := ⟨("_law_all_why", none), "_law_all_why", "_law_all_why", defArgs (topS 74), defBody (topS 74), defScope (topS 74), [], []⟩
def D__law_greatest : He.DefD := ⟨("_law_greatest", none), "_law_greatest", "_law_greatest", defArgs (topS 75), defBody (topS 75), defScope (topS 75), [], []⟩
def D__law_rising : He.DefD := ⟨("_law_rising", none), "_law_rising", "_law_rising", defArgs (topS 76), defBody (topS 76), defScope (topS 76), [], []⟩
def D__law_stands : He.DefD := ⟨("_law_stands", none), "_law_stands", "_law_stands", defArgs (topS 77), defBody (topS 77), defScope (topS 77), [], []⟩
def D__law_greatest_late : He.DefD := ⟨("_law_greatest_late", none), "_law_greatest_late", "_law_greatest_late", defArgs (topS 78), defBody (topS 78), defScope (topS 78), [], []⟩
def D__law_is_count : He.DefD := ⟨("_law_is_count", none), "_law_is_count", "_law_is_count", defArgs (topS 79), defBody (topS 79), defScope (topS 79), [], []⟩
def D__law_is_hope : He.DefD := ⟨("_law_is_hope", none), "_law_is_hope", "_law_is_hope", defArgs (topS 80), defBody (topS 80), defScope (topS 80), [], []⟩
def D__law_hope : He.DefD := ⟨("_law_hope", none), "_law_hope", "_law_hope", defArgs (topS 81), defBody (topS 81), defScope (topS 81), [], []⟩
def D__law_does_hold : He.DefD := ⟨("_law_does_hold", none), "_law_does_hold", "_law_does_hold", defArgs (topS 82), defBody (topS 82), defScope (topS 82), [], []⟩
def D__law_near_hope : He.DefD := ⟨("_law_near_hope", none), "_law_near_hope", "_law_near_hope", defArgs (topS 83), defBody (topS 83), defScope (topS 83), [], []⟩
def D_law : He.DefD := ⟨("law", none), "law", "law", defArgs (topS 84), defBody (topS 84), defScope (topS 84), [], []⟩
def fnL : List He.DefD := [D__law_begun, D__law_mixed, D__law_take, D__law_pick, D__law_names, D__law_some, D_is_number, D_is_number_in, D_is_list, D_is_name, D_are_lengths, D_is_kind, D_are_kinds, D_is_order, D_Book___init__, D_Book_rate_of, D_Book_is_free, D_Book_month_at, D_Book_first_at, D_Book_due_at, D_need_book, D_days_at, D_round_of, D_word_for, D_reasons_of, D_never_costs_more, D_windows_of, D_greatest_loss, D_is_promise, D_breaker, D_days_in, D_dearest, D_candidates, D_greatest_late_of, D_is_count, D_is_wish, D_does_keep, D_keeps, D__law_model, D__law_made, D__law_first, D__law_month, D__law_due, D__law_can_stand, D__law_is_vow, D__law_broken, D__law_odd, D__law_why, D__law_all_why, D__law_greatest, D__law_rising, D__law_stands, D__law_greatest_late, D__law_is_count, D__law_is_hope, D__law_hope, D__law_does_hold, D__law_near_hope, D_law]
def faL : List He.Fa := ([.glo "_law_begun", .glo "_law_mixed", .glo "_law_take", .glo "_law_pick", .glo "_law_names", .glo "_law_some", .glo "is_number", .glo "is_number_in", .glo "is_list", .glo "is_name", .glo "are_lengths", .glo "is_kind", .glo "are_kinds", .glo "is_order", .glo "need_book", .glo "days_at", .glo "round_of", .glo "word_for", .glo "reasons_of", .glo "never_costs_more", .glo "windows_of", .glo "greatest_loss", .glo "is_promise", .glo "breaker", .glo "days_in", .glo "dearest", .glo "candidates", .glo "greatest_late_of", .glo "is_count", .glo "is_wish"] : List He.Fa) ++ ([.glo "does_keep", .glo "keeps", .glo "_law_model", .glo "_law_made", .glo "_law_first", .glo "_law_month", .glo "_law_due", .glo "_law_can_stand", .glo "_law_is_vow", .glo "_law_broken", .glo "_law_odd", .glo "_law_why", .glo "_law_all_why", .glo "_law_greatest", .glo "_law_rising", .glo "_law_stands", .glo "_law_greatest_late", .glo "_law_is_count", .glo "_law_is_hope", .glo "_law_hope", .glo "_law_does_hold", .glo "_law_near_hope", .glo "law", .glo "CreditError", .glo "BadBook", .glo "BadNumber", .glo "BadPromise", .glo "BadWish", .glo "Book", .free "all"] : List He.Fa) ++ ([.free "bool", .free "dict", .free "enumerate", .free "int", .free "isinstance", .free "len", .free "list", .free "max", .free "min", .free "range", .free "repr", .free "sorted", .free "str", .free "sum", .free "super", .free "tuple", .str "DAY" "day", .str "EACH" "each", .str "FREE" "free", .str "LETTERS" "abcdefghijklmnopqrstuvwxyz", .int "LONGEST" 31, .int "MOST_CAP" 1000000, .int "MOST_DAY" 2000, .int "MOST_DAYS" 100, .int "MOST_KINDS" 6, .int "MOST_LENGTHS" 4, .int "MOST_MEMORY" 2, .int "MOST_NAME" 8, .int "MOST_RATE" 1000, .str "RATE" "rate"] : List He.Fa) ++ ([.int "SHORTEST" 2, .str "SOME" "some", .str "STATEMENT" "statement", .cls "Book", .mkr "Book", .noat "Book" "b_lengths", .noat "Book" "b_due", .noat "Book" "b_kinds", .noat "Book" "b_memory", .noat "Book" "b_begins", .noat "Book" "b_laid", .meth "Book" "rate_of", .meth "Book" "is_free", .meth "Book" "month_at", .meth "Book" "first_at", .meth "Book" "due_at"] : List He.Fa)
def exB (K : PySem.W.Frag) : Bool := insB K (He.ga K "Book") && true
abbrev Rw : PySem.W.OpenRow := PySem.W.OpenLaw.row PySem.Challenge.rw_wholepaid_k53_wishes_that_books_keep
def G_Book_lengths : GetD := ⟨"Book", "lengths", "Book.lengths", defArgs (inClass (topS 28) 1), defBody (inClass (topS 28) 1), defScope (inClass (topS 28) 1)⟩
def G_Book_due : GetD := ⟨"Book", "due", "Book.due", defArgs (inClass (topS 28) 2), defBody (inClass (topS 28) 2), defScope (inClass (topS 28) 2)⟩
def G_Book_kinds : GetD := ⟨"Book", "kinds", "Book.kinds", defArgs (inClass (topS 28) 3), defBody (inClass (topS 28) 3), defScope (inClass (topS 28) 3)⟩
def G_Book_memory : GetD := ⟨"Book", "memory", "Book.memory", defArgs (inClass (topS 28) 4), defBody (inClass (topS 28) 4), defScope (inClass (topS 28) 4)⟩
def G_Book_begins : GetD := ⟨"Book", "begins", "Book.begins", defArgs (inClass (topS 28) 5), defBody (inClass (topS 28) 5), defScope (inClass (topS 28) 5)⟩
def G_Book_laid : GetD := ⟨"Book", "laid", "Book.laid", defArgs (inClass (topS 28) 6), defBody (inClass (topS 28) 6), defScope (inClass (topS 28) 6)⟩
def gsL : List GetD := [G_Book_lengths, G_Book_due, G_Book_kinds, G_Book_memory, G_Book_begins, G_Book_laid]
abbrev hkL : PySem.W.Hook := hookY 6 faL fnL gsL exB
def obL (s : PySem.W.SharedT) : AlY := obsY 6 faL fnL gsL exB (HandSHeadRun.getT s)
theorem obL_eq (s : PySem.W.SharedT) : obL s = hkL.obs s.abs := obsY_eq (HandSHeadRun.getT_eq s)
def looseL : List Str := (["_wall", "CreditError", "BadBook", "BadNumber", "BadPromise", "BadWish", "LETTERS", "MOST_NAME", "MOST_KINDS", "MOST_RATE", "MOST_LENGTHS", "SHORTEST", "LONGEST", "MOST_MEMORY", "MOST_DAY", "DAY", "STATEMENT", "is_number", "is_number_in", "is_list", "is_name", "are_lengths", "is_kind", "are_kinds", "is_order", "need_number", "Book", "need_book", "RATE", "FREE"] : List Str) ++ (["word_for", "reasons_of", "never_costs_more", "windows_of", "greatest_loss", "EACH", "SOME", "MOST_DAYS", "days_at", "round_of", "is_promise", "breaker", "MOST_CAP", "dearest", "days_in", "candidates", "greatest_late_of", "is_count", "is_wish", "does_keep", "keeps", "_law_begun", "_law_mixed", "_law_take", "_law_pick", "_law_some", "_law_names", "_law_model", "_law_made", "_law_first"] : List Str) ++ (["_law_month", "_law_due", "_law_can_stand", "_law_is_vow", "_law_broken", "_law_odd", "_law_why", "_law_all_why", "_law_greatest", "_law_rising", "_law_stands", "_law_greatest_late", "_law_is_count", "_law_is_hope", "_law_hope", "_law_does_hold", "_law_near_hope"] : List Str)
theorem runL (w : World) : HandSHeadRun.RunEq Rw (PySem.W.view Rw.prog [84]) hkL obL 16000 looseL w := by
  intro os
  kernel_rfl

end Wp
set_option Elab.async false
set_option linter.all false
set_option maxRecDepth 100000
set_option maxHeartbeats 4000000
namespace Wp
open PySem PySem.Spec PyProof.Rows L2
abbrev s__law_begun : Stmt := topS 58
abbrev s__law_mixed : Stmt := topS 59
abbrev s__law_take : Stmt := topS 60
abbrev s__law_pick : Stmt := topS 61

/-! ### the source of draws: a dict of four entries -/
def dkv (l c : Addr) (r t : Int) : List (Key × V) :=
  [(Sum.inr ("large" : Str), .ref l), (Sum.inr ("cells" : Str), .ref c), (Sum.inr ("rest" : Str), .int r), (Sum.inr ("turn" : Str), .int t)]
theorem k13 : ¬ (Sum.inr ("large" : Str) : Key) = Sum.inr ("cells" : Str) := by decide +kernel
theorem k12 : ¬ (Sum.inr ("large" : Str) : Key) = Sum.inr ("rest" : Str) := by decide +kernel
theorem k22 : ¬ (Sum.inr ("cells" : Str) : Key) = Sum.inr ("rest" : Str) := by decide +kernel
theorem k32 : ¬ (Sum.inr ("turn" : Str) : Key) = Sum.inr ("rest" : Str) := by decide +kernel
theorem k14 : ¬ (Sum.inr ("large" : Str) : Key) = Sum.inr ("turn" : Str) := by decide +kernel
theorem k24 : ¬ (Sum.inr ("cells" : Str) : Key) = Sum.inr ("turn" : Str) := by decide +kernel
theorem k34 : ¬ (Sum.inr ("rest" : Str) : Key) = Sum.inr ("turn" : Str) := by decide +kernel
section
variable {l c : Addr} {r t r' t' : Int}
theorem dkv_nd : ((dkv l c r t).map (·.1)).Nodup := (by decide +kernel : ([Sum.inr ("large" : Str), Sum.inr ("cells" : Str), Sum.inr ("rest" : Str), Sum.inr ("turn" : Str)] : List Key).Nodup)
theorem v_large : valV (dkv l c r t) (Sum.inr ("large" : Str)) = some (.ref l) := valV_pos rfl
theorem v_cells : valV (dkv l c r t) (Sum.inr ("cells" : Str)) = some (.ref c) := by
  unfold dkv
  rw [valV_neg k13, valV_pos rfl]
theorem v_rest : valV (dkv l c r t) (Sum.inr ("rest" : Str)) = some (.int r) := by
  unfold dkv
  rw [valV_neg k12, valV_neg k22, valV_pos rfl]
theorem v_turn : valV (dkv l c r t) (Sum.inr ("turn" : Str)) = some (.int t) := by
  unfold dkv
  rw [valV_neg k14, valV_neg k24, valV_neg k34, valV_pos rfl]
theorem p_rest : putK (dkv l c r t) (Sum.inr ("rest" : Str)) (.int r') = dkv l c r' t := by
  have a : ((dkv l c r t).any fun kv => decide (kv.1 = Sum.inr ("rest" : Str))) = true := by
    rw [valV_any, v_rest] <;> rfl
  unfold putK
  rw [if_pos a]
  simp only [dkv, List.map_cons, List.map_nil, if_neg k12, if_neg k22, if_neg k32, if_pos trivial]
theorem p_turn : putK (dkv l c r t) (Sum.inr ("turn" : Str)) (.int t') = dkv l c r t' := by
  have a : ((dkv l c r t).any fun kv => decide (kv.1 = Sum.inr ("turn" : Str))) = true := by
    rw [valV_any, v_turn] <;> rfl
  unfold putK
  rw [if_pos a]
  simp only [dkv, List.map_cons, List.map_nil, if_neg k14, if_neg k24, if_neg k34, if_pos trivial]
end

/-- the source of draws stands at st: its large cells at l, the script's copy at c -/
structure DS (st l c : Addr) (cs : List Int) (B : Int) (H : Hp) : Prop where
  d : ∃ r t, 0 ≤ r ∧ 0 ≤ t ∧ t ≤ B ∧ H st = some (.dK (dkv l c r t))
  lg : ∃ zs : List Int, (∀ z ∈ zs, 0 ≤ z) ∧ H l = some (.lst (zs.map V.int))
  cl : H c = some (.lst (cs.map V.int))
  n1 : c ≠ l
theorem DS.ne {st l c : Addr} {cs : List Int} {B : Int} {H : Hp} (D : DS st l c cs B H) : c ≠ st ∧ l ≠ st := by
  obtain ⟨r, t, _, _, _, h⟩ := D.d
  obtain ⟨zs, _, h2⟩ := D.lg
  exact ⟨ne_of D.cl h (by intro z; cases z), ne_of h2 h (by intro z; cases z)⟩
/-- all but the source of draws is as it was -/
def Kp (st l : Addr) (H H' : Hp) : Prop := ∀ b o, H b = some o → b ≠ st → b ≠ l → H' b = some o
theorem Kp.refl {st l : Addr} {H : Hp} : Kp st l H H := fun _ _ h _ _ => h
theorem Kp.trans {st l : Addr} {H H1 H2 : Hp} (a : Kp st l H H1) (b : Kp st l H1 H2) : Kp st l H H2 :=
  fun x o h n1 n2 => b x o (a x o h n1 n2) n1 n2
theorem Kp.of {st l : Addr} {H H' : Hp} (a : Same H H') : Kp st l H H' := fun x o h _ _ => a x o h
theorem DS.keep {st l c : Addr} {cs : List Int} {B : Int} {H H' : Hp} (D : DS st l c cs B H) (e : Same H H') : DS st l c cs B H' := by
  obtain ⟨⟨r, t, hr, h0, h1, h⟩, ⟨zs, hz, h2⟩, h3, n⟩ := D
  exact ⟨⟨r, t, hr, h0, h1, e _ _ h⟩, ⟨zs, hz, e _ _ h2⟩, e _ _ h3, n⟩
theorem DS.mono {st l c : Addr} {cs : List Int} {B B' : Int} {H : Hp} (D : DS st l c cs B H) (h : B ≤ B') : DS st l c cs B' H := by
  obtain ⟨⟨r, t, hr, h0, h1, h⟩, h2, h3, n⟩ := D
  exact ⟨⟨r, t, hr, h0, by omega, h⟩, h2, h3, n⟩

def sp_mixed : Sp := fun vs H Q _ => ∃ (st l c : Addr) (cs : List Int) (B : Int), vs = [.ref st] ∧ B ≤ 35184372088832 ∧ DS st l c cs B H ∧
  ∀ (k : Int) (H' : Hp), 0 ≤ k → DS st l c cs (B + 1) H' → Kp st l H H' → Q (.int k) H'
def sp_take : Sp := fun vs H Q _ => ∃ (st l c : Addr) (cs : List Int) (B n : Int), vs = [.ref st, .int n] ∧ 0 < n ∧ n < 1073741824 ∧ B ≤ 35184372088832 ∧ DS st l c cs B H ∧
  ∀ (k : Int) (H' : Hp), 0 ≤ k → k < n → DS st l c cs (B + 1) H' → Kp st l H H' → Q (.int k) H'
/-- pick: an item of a list -/
def sp_pick : Sp := fun vs H Q _ => ∃ (st l c p : Addr) (cs : List Int) (B : Int) (xs : List V), vs = [.ref st, .ref p] ∧ B ≤ 35184372088832 ∧ DS st l c cs B H ∧ H p = some (.lst xs) ∧ xs ≠ [] ∧ xs.length < 1000000 ∧ p ≠ l ∧
  ∀ (i : Nat) (x : V) (H' : Hp), xs[i]? = some x → DS st l c cs (B + 1) H' → Kp st l H H' → Q x H'
def sp_begun (K : PySem.W.Frag) : Sp := fun vs H Q _ => ∃ (a : Addr) (cs : List Int), vs = [.ref a] ∧ SqL K H a (cs.map V.int) ∧ cs.length ≤ 63 ∧
  ∀ (st l c : Addr) (H' : Hp), H st = none → H l = none → H c = none → Same H H' → DS st l c cs 0 H' → Q (.ref st) H'

structure Tx (K : PySem.W.Frag) (mg : Str → Option Value) : Prop where
  b_all : mg "all" = none
  b_bool : mg "bool" = none
  b_dict : mg "dict" = none
  b_enumerate : mg "enumerate" = none
  b_int : mg "int" = none
  b_isinstance : mg "isinstance" = none
  b_len : mg "len" = none
  b_list : mg "list" = none
  b_max : mg "max" = none
  b_min : mg "min" = none
  b_range : mg "range" = none
  b_repr : mg "repr" = none
  b_sorted : mg "sorted" = none
  b_str : mg "str" = none
  b_sum : mg "sum" = none
  b_super : mg "super" = none
  b_tuple : mg "tuple" = none
  c_DAY : ∃ t, mg "DAY" = some (.str "day" t)
  c_EACH : ∃ t, mg "EACH" = some (.str "each" t)
  c_FREE : ∃ t, mg "FREE" = some (.str "free" t)
  c_LETTERS : ∃ t, mg "LETTERS" = some (.str "abcdefghijklmnopqrstuvwxyz" t)
  c_LONGEST : ∃ t, mg "LONGEST" = some (.int 31 t)
  c_MOST_CAP : ∃ t, mg "MOST_CAP" = some (.int 1000000 t)
  c_MOST_DAY : ∃ t, mg "MOST_DAY" = some (.int 2000 t)
  c_MOST_DAYS : ∃ t, mg "MOST_DAYS" = some (.int 100 t)
  c_MOST_KINDS : ∃ t, mg "MOST_KINDS" = some (.int 6 t)
  c_MOST_LENGTHS : ∃ t, mg "MOST_LENGTHS" = some (.int 4 t)
  c_MOST_MEMORY : ∃ t, mg "MOST_MEMORY" = some (.int 2 t)
  c_MOST_NAME : ∃ t, mg "MOST_NAME" = some (.int 8 t)
  c_MOST_RATE : ∃ t, mg "MOST_RATE" = some (.int 1000 t)
  c_RATE : ∃ t, mg "RATE" = some (.str "rate" t)
  c_SHORTEST : ∃ t, mg "SHORTEST" = some (.int 2 t)
  c_SOME : ∃ t, mg "SOME" = some (.str "some" t)
  c_STATEMENT : ∃ t, mg "STATEMENT" = some (.str "statement" t)
  g_CreditError : mg "CreditError" = some (.ref (He.ga K "CreditError"))
  g_BadBook : mg "BadBook" = some (.ref (He.ga K "BadBook"))
  g_BadNumber : mg "BadNumber" = some (.ref (He.ga K "BadNumber"))
  g_BadPromise : mg "BadPromise" = some (.ref (He.ga K "BadPromise"))
  g_BadWish : mg "BadWish" = some (.ref (He.ga K "BadWish"))
  g_Book : mg "Book" = some (.ref (He.ga K "Book"))

local macro_rules | `(tactic| walk_at "val") => `(tactic| assumption)
local macro_rules | `(tactic| walk_at "rd1") => `(tactic| first
  | with_reducible refine r_seq ?_ | with_reducible refine r_next ?_ | with_reducible refine r_if ?_ | with_reducible refine r_asg ?_ | with_reducible refine r_gname ?_
  | with_reducible refine r_ret ?_ | with_reducible refine r_retN ?_ | with_reducible refine r_drop ?_ | with_reducible refine r_par ?_ | with_reducible refine r_kPar ?_
  | ((with_reducible refine' r_var ?hv ?_); (case hv => exact rfl)) | with_reducible refine r_c ?_ | with_reducible refine r_nil ?_ | with_reducible refine r_cons ?_
  | with_reducible refine r_fn ?_ | with_reducible refine r_cb ?_ | with_reducible refine r_op ?_ | with_reducible refine r_un ?_ | with_reducible refine r_I0 ?_
  | with_reducible refine r_pow5 ?_ | with_reducible refine r_pow6 ?_ | with_reducible refine r_pow7 ?_ | with_reducible refine r_pow9 ?_ | with_reducible refine r_pow18 ?_ | with_reducible refine r_pow20 ?_ | with_reducible refine r_pow30 ?_
  | with_reducible refine r_isN_non ?_ | with_reducible refine r_isN_ref ?_ | with_reducible refine r_isN_int ?_ | with_reducible refine r_isN_str ?_ | with_reducible refine r_isN_bl ?_ | with_reducible refine r_notN_non ?_ | with_reducible refine r_notN_ref ?_ | with_reducible refine r_notN_int ?_ | with_reducible refine r_notN_str ?_ | with_reducible refine r_notN_bl ?_
  | ((with_reducible refine r_I ?hc ?_); (case hc => walk_at "side")) | with_reducible refine r_U ?_
  | with_reducible refine r_eqI ?_ | with_reducible refine r_neI ?_ | with_reducible refine r_eqS ?_ | with_reducible refine r_neS ?_ | with_reducible refine r_eqB ?_ | with_reducible refine r_neB ?_
  | with_reducible refine r_chain ?_ | with_reducible refine r_test ?_ | with_reducible refine r_tB ?_ | with_reducible refine r_kTest ?_ | with_reducible refine r_not ?_
  | with_reducible refine r_and ?_ | with_reducible refine r_or ?_ | with_reducible refine r_tif ?_ | with_reducible refine r_andV ?_ | with_reducible refine r_orV ?_ | with_reducible refine r_notV ?_
  | with_reducible refine r_kAndV ?_ | with_reducible refine r_kOrV ?_ | with_reducible refine r_kNotV ?_
  | with_reducible refine w_T ?_ | with_reducible refine w_F ?_ | with_reducible refine w_NT ?_ | with_reducible refine w_NF ?_
  | with_reducible refine r_tup ?_ | with_reducible refine r_lst ?_ | with_reducible refine r_fld ?_ | with_reducible refine r_prop ?_ | ((with_reducible refine' r_aug ?h1 ?_); (case h1 => exact rfl)) | with_reducible refine r_ipI ?_ | with_reducible refine r_dget ?_ | with_reducible refine r_dput ?_ | with_reducible refine r_bm ?_
  | ((with_reducible refine' r_kDGetS ?h1 ?h2 ?_); (case h1 => assumption); (case h2 => walk_at "val"))
  | ((with_reducible refine' r_kBML ?h1 ?_); (case h1 => assumption))
  | with_reducible refine r_forL ?_ | with_reducible refine r_forR1 ?_ | with_reducible refine r_forR2 ?_ | with_reducible refine r_forT ?_ | with_reducible refine r_lcL ?_ | with_reducible refine r_lcR1 ?_
  | ((with_reducible refine r_kLcG ?hw ?_); (case hw => exact rfl)) | with_reducible refine r_kLcT ?_ | with_reducible refine r_yes ?_
  | with_reducible refine r_pnil ?_ | with_reducible refine r_pcons ?_
  | with_reducible refine r_fnK ?_ | ((with_reducible refine r_kFnK ?hl ?_); (case hl => exact rfl))
  | with_reducible refine r_isi_ii ?_ | with_reducible refine r_isi_ib ?_ | with_reducible refine r_isi_bi ?_ | with_reducible refine r_isi_bb ?_ | with_reducible refine r_isi_ss ?_ | with_reducible refine r_isi_is ?_ | with_reducible refine r_isi_it ?_
  | ((with_reducible refine' r_isi_tt ?h1 ?_); (case h1 => assumption))
  | with_reducible refine r_sfld ?_ | with_reducible refine r_gnil ?_ | with_reducible refine r_gcons ?_
  | ((with_reducible refine' r_gtup ?h1 ?h2 ?_); (case h1 => exact SqT.of (by assumption)); (case h2 => exact rfl))
  | with_reducible refine r_sl ?_ | with_reducible refine r_noPart ?_ | with_reducible refine r_part ?_ | with_reducible refine r_kPart ?_ | with_reducible refine r_m1 ?_ | with_reducible refine r_kM1 ?_ | with_reducible refine r_forS ?_ | with_reducible refine r_lcS ?_ | with_reducible refine r_lcTu ?_ | with_reducible refine r_lcK ?_ | with_reducible refine r_dcL ?_ | with_reducible refine r_dcK ?_ | with_reducible refine r_lc2L ?_ | with_reducible refine r_kLc2TL ?_ | with_reducible refine r_dcEn ?_ | with_reducible refine r_gslc ?_ | with_reducible refine r_lcEn ?_ | with_reducible refine r_lcEl ?_ | with_reducible refine r_lcR2 ?_ | with_reducible refine r_rg1 ?_ | with_reducible refine r_forET ?_ | with_reducible refine r_lenD ?_
  | ((with_reducible refine r_kDcG ?hw ?_); (case hw => exact rfl)) | with_reducible refine r_kDcT ?_
  | with_reducible refine r_fldaug ?_ | with_reducible refine r_daug ?_ | with_reducible refine r_rAdd ?_ | with_reducible refine r_rSub ?_ | with_reducible refine r_ddel ?_ | with_reducible refine r_bmF ?_ | with_reducible refine r_dget2 ?_ | with_reducible refine r_listItems ?_ | with_reducible refine r_bm0 ?_ | with_reducible refine r_lc2E ?_ | ((with_reducible refine r_kLc2G ?hw ?_); (case hw => exact rfl)) | with_reducible refine r_kLc2T ?_ | with_reducible refine r_forE ?_ | with_reducible refine r_orT ?_ | with_reducible refine r_din ?_ | with_reducible refine r_augS ?_ | with_reducible refine r_dnotin ?_ | with_reducible refine r_lcIT ?_ | with_reducible refine r_cont ?_ | with_reducible refine r_meth ?_ | with_reducible refine r_frz ?_ | with_reducible refine r_par3 ?_ | with_reducible refine r_kPar3 ?_ | with_reducible refine r_dz ?_ | with_reducible refine r_revL ?_ | with_reducible refine r_star ?_ | with_reducible refine r_int1 ?_ | with_reducible refine r_int1b ?_ | with_reducible refine r_min2 ?_ | with_reducible refine r_max2 ?_ | with_reducible refine r_gsub ?_)
local macro_rules | `(tactic| walk_at "rd") => `(tactic| repeat walk_at "rd1")
local macro_rules | `(tactic| walk_at "side") => `(tactic| first | assumption | exact Or.inr ⟨by decide, by decide⟩ | exact Or.inl ⟨by decide, by decide⟩ | (constructor <;> omega) | omega | decide | (refine Or.inl ⟨?_, ?_⟩ <;> omega) | (refine Or.inr ⟨?_, ?_⟩ <;> omega) | (refine ⟨?_, ?_, ?_⟩ <;> first | decide | omega))
local macro_rules | `(tactic| walk_at "val") => `(tactic| first | exact v_rest | exact v_turn | exact v_large | exact v_cells)
section
variable {P : Program} {w : World} {K : PySem.W.Frag} {mg : Str → Option Value} {base : Heap}
theorem primes_mem {x : V} (h : x ∈ [V.int 2147483629, V.int 2147483587, V.int 2147483579, V.int 2147483563, V.int 2147483549, V.int 2147483543]) : ∃ q : Int, x = .int q ∧ 2000000000 < q ∧ q < 2147483648 := by
  simp only [List.mem_cons, List.not_mem_nil, or_false] at h
  rcases h with h | h | h | h | h | h <;> exact ⟨_, h, by decide, by decide⟩
theorem ints_get {xs : List Int} {i : Nat} {x : V} (h : (xs.map V.int)[i]? = some x) : ∃ z, x = .int z ∧ xs[i]? = some z := by
  rw [List.getElem?_map] at h
  cases e : xs[i]? with
  | none => rw [e] at h; cases h
  | some z => rw [e] at h; exact ⟨z, (Option.some.inj h).symm, rfl⟩
theorem ok__law_mixed {f : Addr} {fd : FuncData} (T : Tx K mg) (F : FnP K "_law_mixed" s__law_mixed f fd) :
    FnOk P w K mg base CX0 1 f fd ["_law_state"] sp_mixed := by
  have sc : FnScope ["_law_state", "_law_found", "_law_prime", "_law_blend", "_law_cell"] ["_law_state"] (defScope s__law_mixed) := ⟨rfl, rfl, rfl, by decide +kernel, rfl, by decide +kernel, by decide +kernel⟩
  refine F.ok sc (by rintro vs H Q E ⟨_, _, _, _, _, rfl, _⟩; rfl) (fun cdv A outer s H vs Q E hr h => ⟨_, PSs.nox ((pss_cons (ps_dput (hu_of hr) (pv 0) pe_str (pe_op op_add (pe_dget (hu_of hr) (pv 0) pe_str (fun _ _ => rfl)) pe_int) rfl)
      (pss_cons (ps_set (i := 1) sc.nd rfl (by first | exact Or.inl rfl | exact Or.inr rfl) pe_int)
      (pss_cons (ps_for PassesOwn.never rfl (pi_listK (K := K) rfl (pe_lst (pa_cons pe_int (pa_cons pe_int (pa_cons pe_int (pa_cons pe_int (pa_cons pe_int (pa_cons pe_int pa_nil)))))))) (pg_name (i := 2) sc.nd rfl (by first | exact Or.inl rfl | exact Or.inr rfl)) (pss_cons (ps_set (i := 3) sc.nd rfl (by first | exact Or.inl rfl | exact Or.inr rfl) (pe_op op_add (pe_op op_mul pe_int (pe_dget (hu_of hr) (pv 0) pe_str (fun _ _ => rfl))) (pe_op op_fdiv (pv 2) pe_int)))
      (pss_cons (ps_for PassesOwn.never rfl (pi_listK (K := K) rfl (pe_dget (hu_of hr) (pv 0) pe_str (fun _ _ => rfl))) (pg_name (i := 4) sc.nd rfl (by first | exact Or.inl rfl | exact Or.inr rfl)) (pss_one (ps_set (i := 3) sc.nd rfl (by first | exact Or.inl rfl | exact Or.inr rfl) (pe_op op_mod (pe_callTy c_int1 (by rfl) T.b_int (by decide +kernel) (pa_cons (pe_op op_add (pe_op op_mul (pv 3) pe_int) (pv 4)) pa_nil)) (pv 2)))))
      (pss_one (ps_set (i := 1) sc.nd rfl (by first | exact Or.inl rfl | exact Or.inr rfl) (pe_op op_add (pe_op op_mul (pv 1) pe_int) (pe_op op_mod (pe_callTy c_int1 (by rfl) T.b_int (by decide +kernel) (pa_cons (pe_op op_pow (pv 3) pe_int) pa_nil)) (pv 2))))))))
      (pss_one (ps_ret (pv 1))))))), ?_⟩)
  obtain ⟨st, l, c, cs, B, rfl, hB, D, k⟩ := h
  obtain ⟨⟨r, t, hr0, ht0, htB, hd⟩, ⟨zs, hz, hl⟩, hc, n1⟩ := id D
  obtain ⟨n2, n3⟩ := D.ne
  walk_at "rd"
  refine r_kDPutS hd (show 4 < 1000000 by decide) fun H1 b1 hd1 => ?_
  rw [p_turn] at hd1
  have hc1 := b1 _ _ hc n2
  walk_at "rd"
  refine r_kLst fun p H2 np e2 hp => ?_
  replace hd1 := e2 _ _ hd1
  replace hc1 := e2 _ _ hc1
  refine r_kForL (xs := [V.int 2147483629, V.int 2147483587, V.int 2147483579, V.int 2147483563, V.int 2147483549, V.int 2147483543])
    (fun _ σ' H' => H2 = H' ∧ ∃ (z : Int) (x y u : Option V), σ' = [some (.ref st), some (.int z), x, y, u] ∧ 0 ≤ z) (SqL.of hp) ⟨rfl, _, _, _, _, rfl, Int.le_refl 0⟩ (fun _ σ' H' ⟨e, _⟩ => by rw [← e]; exact SqL.of hp) ?_ ?_
  · rintro i x σ' H' hx ⟨rfl, z, x2, x3, x4, rfl, hz0⟩
    obtain ⟨q, rfl, hq1, hq2⟩ := primes_mem (List.mem_of_getElem? hx)
    walk_at "rd"
    refine r_kForL (xs := cs.map V.int) (fun _ σ' H' => H2 = H' ∧ ∃ (y : Int) (u : Option V), σ' = [some (.ref st), some (.int z), some (.int q), some (.int y), u] ∧ -18446744073709551616 < y ∧ y < 18446744073709551616)
      (SqL.of hc1) ⟨rfl, _, _, rfl, by omega, by omega⟩ (fun _ σ' H' ⟨e, _⟩ => by rw [← e]; exact SqL.of hc1) ?_ ?_
    · rintro j x σ' H' hx ⟨rfl, y, u, rfl, hy1, hy2⟩
      obtain ⟨z', rfl, _⟩ := ints_get hx
      walk_at "rd"
      have h1 := Int.emod_nonneg (y * 48271 + z') (b := q) (by omega)
      have h2 := Int.emod_lt_of_pos (y * 48271 + z') (b := q) (by omega)
      exact ⟨rfl, _, _, rfl, by omega, by omega⟩
    · rintro σ' H' ⟨rfl, y, u, rfl, hy1, hy2⟩
      walk_at "rd"
      have h1 := Int.emod_nonneg (y ^ (5 : Int).toNat) (b := q) (by omega)
      exact ⟨rfl, _, _, _, _, rfl, by omega⟩
  · rintro σ' H' ⟨rfl, z, x2, x3, x4, rfl, hz0⟩
    walk_at "rd"
    refine k z H2 hz0 ⟨⟨r, t + 1, hr0, by omega, by omega, hd1⟩, ⟨zs, hz, e2 _ _ (b1 _ _ hl n3)⟩, hc1, n1⟩ fun b o hb m1 m2 => e2 _ _ (b1 _ _ hb m1)
theorem ok__law_take {f : Addr} {fd : FuncData} (T : Tx K mg) (F : FnP K "_law_take" s__law_take f fd)
    (d__law_mixed : Dn P w K mg base CX0 1 "_law_mixed" ["_law_state"] sp_mixed) :
    FnOk P w K mg base CX0 2 f fd ["_law_state", "_law_size"] sp_take := by
  have sc : FnScope ["_law_state", "_law_size", "_law_found"] ["_law_state", "_law_size"] (defScope s__law_take) := ⟨rfl, rfl, rfl, by decide +kernel, rfl, by decide +kernel, by decide +kernel⟩
  refine F.ok sc (by rintro vs H Q E ⟨_, _, _, _, _, _, rfl, _⟩; rfl) (fun cdv A outer s H vs Q E hr h => ⟨_, PSs.nox ((Evl.pss_cut (ps_if (pt_cmpR op_eq (pe_dget (hu_of hr) (pv 0) pe_str (fun _ _ => rfl)) pe_int (nomark _)) (pss_one (ps_dput (hu_of hr) (pv 0) pe_str (pe_ifExp (pt_cmpR (neDK (K := K) rfl hr.units) (pe_dget (hu_of hr) (pv 0) pe_str (fun _ _ => rfl)) (pe_lst pa_nil) (nomark _)) (pe_bmK (K := K) rfl PySem.F.plainAttrs_list PySem.F.slot_list_pop PySem.F.type_list_pop mt_popAt (pe_dget (hu_of hr) (pv 0) pe_str (fun _ _ => rfl)) (pa_cons pe_int pa_nil)) (pe_fn d__law_mixed (hr.mono (by decide)) pass0 (pa_cons (pv 0) pa_nil))) rfl)) pss_nil)
      (pss_cons (ps_set (i := 2) sc.nd rfl (by first | exact Or.inl rfl | exact Or.inr rfl) (pe_op op_mod (pe_callTy c_int1 (by rfl) T.b_int (by decide +kernel) (pa_cons (pe_dget (hu_of hr) (pv 0) pe_str (fun _ _ => rfl)) pa_nil)) (pv 1)))
      (pss_cons (ps_dput (hu_of hr) (pv 0) pe_str (pe_op op_fdiv (pe_dget (hu_of hr) (pv 0) pe_str (fun _ _ => rfl)) (pv 1)) rfl)
      (pss_one (ps_ret (pv 2))))))), ?_⟩)
  obtain ⟨st, l, c, cs, B, n, rfl, hn, hn2, hB, D, k⟩ := h
  refine r_cut (fun σ' H' => σ' = [some (.ref st), some (.int n), none] ∧ DS st l c cs (B + 1) H' ∧ Kp st l H H') ?_ ?_
  · obtain ⟨⟨r, t, hr0, ht0, htB, hd⟩, ⟨zs, hz, hl⟩, hc, n1⟩ := id D
    obtain ⟨n2, n3⟩ := D.ne
    walk_at "rd"
    refine w_dec (fun h0 => ?_) (fun h0 => ?_)
    · walk_at "rd"
      refine r_kLst fun p H1 np e1 hp => ?_
      refine r_neLI (as := zs) (bs := []) (SqL.of (e1 _ _ hl)) (SqL.of hp) ?_
      walk_at "rd"
      replace hd := e1 _ _ hd
      replace hl := e1 _ _ hl
      replace hc := e1 _ _ hc
      refine w_ndec (fun hn => ?_) (fun hn => ?_)
      · cases zs with
        | nil => exact absurd rfl hn
        | cons z zs =>
          walk_at "rd"
          refine r_popAt0 hl fun H2 b2 hl2 => ?_
          walk_at "rd"
          have hd2 := b2 _ _ hd n3.symm
          refine r_kDPutS hd2 (show 4 < 1000000 by decide) fun H3 b3 hd3 => ?_
          rw [p_rest] at hd3
          refine ⟨rfl, ⟨⟨z, t, hz z (List.mem_cons_self ..), ht0, by omega, hd3⟩, ⟨zs, fun y hy => hz y (List.mem_cons_of_mem _ hy), b3 _ _ hl2 n3⟩, b3 _ _ (b2 _ _ hc n1) n2, n1⟩, fun b o hb m1 m2 => b3 _ _ (b2 _ _ (e1 _ _ hb) m2) m1⟩
      · walk_at "rd"
        refine ⟨st, l, c, cs, B, rfl, hB, D.keep e1, fun m H2 hm D2 k2 => ?_⟩
        obtain ⟨⟨r2, t2, hr2, ht2, htB2, hd2⟩, ⟨zs2, hz2, hl2⟩, hc2, _⟩ := id D2
        walk_at "rd"
        refine r_kDPutS hd2 (show 4 < 1000000 by decide) fun H3 b3 hd3 => ?_
        rw [p_rest] at hd3
        exact ⟨rfl, ⟨⟨m, t2, hm, ht2, htB2, hd3⟩, ⟨zs2, hz2, b3 _ _ hl2 n3⟩, b3 _ _ hc2 n2, n1⟩, fun b o hb m1 m2 => b3 _ _ (k2 _ _ (e1 _ _ hb) m1 m2) m1⟩
    · walk_at "rd"
      exact ⟨rfl, D.mono (by omega), Kp.refl⟩
  · rintro σ' H' ⟨rfl, D2, k2⟩
    obtain ⟨⟨r, t, hr0, ht0, htB, hd⟩, ⟨zs, hz, hl⟩, hc, n1⟩ := id D2
    obtain ⟨n2, n3⟩ := D2.ne
    walk_at "rd"
    refine r_kDPutS hd (show 4 < 1000000 by decide) fun H3 b3 hd3 => ?_
    rw [p_rest] at hd3
    walk_at "rd"
    refine k (r % n) H3 (Int.emod_nonneg _ (by omega)) (Int.emod_lt_of_pos _ hn) ⟨⟨_, t, Int.ediv_nonneg hr0 (Int.le_of_lt hn), ht0, htB, hd3⟩, ⟨zs, hz, b3 _ _ hl n3⟩, b3 _ _ hc n2, n1⟩ fun b o hb m1 m2 => b3 _ _ (k2 _ _ hb m1 m2) m1
theorem ok__law_pick {f : Addr} {fd : FuncData} (T : Tx K mg) (F : FnP K "_law_pick" s__law_pick f fd)
    (d__law_take : Dn P w K mg base CX0 2 "_law_take" ["_law_state", "_law_size"] sp_take) :
    FnOk P w K mg base CX0 3 f fd ["_law_state", "_law_some_here"] sp_pick := by
  have sc : FnScope ["_law_state", "_law_some_here"] ["_law_state", "_law_some_here"] (defScope s__law_pick) := ⟨rfl, rfl, rfl, by decide +kernel, rfl, by decide +kernel, by decide +kernel⟩
  refine F.ok sc (by rintro vs H Q E ⟨_, _, _, _, _, _, _, rfl, _⟩; rfl) (fun cdv A outer s H vs Q E hr h => ⟨_, PSs.nox ((pss_one (ps_ret (pe_ix (ix_listK (K := K) rfl) (pv 1) (pe_fn d__law_take (hr.mono (by decide)) pass0 (pa_cons (pv 0) (pa_cons (pe_callB (c_lenK (K := K) rfl) (by rfl) T.b_len (by decide +kernel) (pa_cons (pv 1) pa_nil)) pa_nil))) (fun _ _ => rfl))))), ?_⟩)
  obtain ⟨st, l, c, p, cs, B, xs, rfl, hB, D, hp, hne, hlen, npl, k⟩ := h
  have h0 : 0 < xs.length := List.length_pos_iff.mpr hne
  have npst : p ≠ st := by
    obtain ⟨r, t, _, _, _, h⟩ := D.d
    exact ne_of hp h (by intro z; cases z)
  walk_at "rd"
  refine r_lenL (SqL.of hp) ?_
  walk_at "rd"
  refine ⟨st, l, c, cs, B, _, rfl, by omega, by omega, hB, D, fun m H1 hm hm2 D1 k1 => ?_⟩
  have hi : m.toNat < xs.length := by omega
  refine r_ixL (SqL.of (k1 _ _ hp npst npl)) (at_get (n := m.toNat) (by omega) (List.getElem?_eq_getElem hi)) ?_
  exact k m.toNat _ H1 (List.getElem?_eq_getElem hi) D1 k1
theorem ok__law_begun {f : Addr} {fd : FuncData} (T : Tx K mg) (F : FnP K "_law_begun" s__law_begun f fd) :
    FnOk P w K mg base CX0 1 f fd ["_law_script"] (sp_begun K) := by
  have sc : FnScope ["_law_script", "_law_large", "_law_cell"] ["_law_script"] (defScope s__law_begun) := ⟨rfl, rfl, rfl, by decide +kernel, rfl, by decide +kernel, by decide +kernel⟩
  refine F.ok sc (by rintro vs H Q E ⟨_, _, rfl, _⟩; rfl) (fun cdv A outer s H vs Q E hr h => ⟨_, PSs.nox ((pss_cons (ps_setLc (i := 1) (own := [("_law_cell", 2)]) (by rfl) sc.nd rfl rfl (sw_true rfl rfl rfl (by decide +kernel)) (pi_listK (K := K) rfl (pv 0)) (blkOk_by (own := [("_law_cell", 2)]) (N := ["_law_script", "_law_large", "_law_cell"]) (sc := defScope s__law_begun) (by decide +kernel)) (fun _ _ _ _ _ => (pg_name (i := 2) sc.nd rfl (by first | exact Or.inl rfl | exact Or.inr rfl))) (fun _ _ _ _ _ => (pts_one (pt_cmpR op_ge (pv 2) (pe_op op_pow pe_int pe_int) (nomark _)))) (fun _ _ _ _ _ => (pe_op op_sub (pv 2) (pe_op op_pow pe_int pe_int))))
      (pss_one (ps_ret (pe_disp (pps_cons pe_str (pv 1) (pps_cons pe_str (pe_callTy (c_listK (K := K) rfl) (by rfl) T.b_list (by decide +kernel) (pa_cons (pv 0) pa_nil)) (pps_cons pe_str pe_int (pps_cons pe_str pe_int pps_nil)))) (by rfl) (by rfl) (fun z => by cases z) (by decide)))))), ?_⟩)
  obtain ⟨a, cs, rfl, hS, hlen, k⟩ := h
  walk_at "rd"
  refine r_kLcL (xs := cs.map V.int) (fun Da i H' => Same H H' ∧ ∃ zs : List Int, (∀ z ∈ zs, 0 ≤ z) ∧ zs.length ≤ i ∧ H' Da = some (.lst (zs.map V.int))) hS (fun Da H' hD e h => ⟨e, [], (fun z hz => nomatch hz), Nat.le_refl _, h⟩)
    (fun Da i H' ⟨e, _⟩ => e.seq hS) ?_ ?_
  · rintro Da i x H' hD hx ⟨e, zs, hz, hl, hDa⟩
    obtain ⟨z, rfl, hz2⟩ := ints_get hx
    have hi : i < cs.length := (List.getElem?_eq_some_iff.mp hz2).1
    walk_at "rd"
    refine w_dec (fun h1 => ?_) (fun h1 => ?_)
    · walk_at "rd"
      refine r_kLcE hDa (by rw [List.length_map]; omega) fun H2 b2 h2 => ⟨Same.mut e b2 hD, zs ++ [z - 1000000000000000000], ?_, by rw [List.length_append]; show zs.length + 1 ≤ i + 1; omega, by rw [List.map_append]; exact h2⟩
      intro y hy
      rcases List.mem_append.mp hy with hy | hy
      · exact hz y hy
      · rw [List.mem_singleton.mp hy]
        omega
    · exact ⟨e, zs, hz, by omega, hDa⟩
  · rintro Da H1 hD ⟨e1, zs, hz, hl, hDa⟩
    walk_at "rd"
    refine r_disp fun p H2 np e2 hp => ?_
    walk_at "rd"
    refine r_listL (e2.seq (e1.seq hS)) fun q H3 nq e3 hq => ?_
    walk_at "rd"
    refine r_kDisp (dkv Da q 0 0) (e3 _ _ hp) rfl (show 4 ≤ 15 by decide) dkv_nd fun H4 b4 h4 => ?_
    have hDa3 := e3 _ _ (e2 _ _ hDa)
    have npq : q ≠ p := ne_of hq (e3 _ _ hp) (by intro z; cases z)
    have npD : Da ≠ p := ne_of hDa3 (e3 _ _ hp) (by intro z; cases z)
    have nqD : q ≠ Da := (ne_of_none (e2 _ _ hDa) nq).symm
    have s03 : Same H H3 := (e1.trans e2).trans e3
    have np0 : H p = none := e1.free np
    refine k p Da q H4 np0 hD ((e1.trans e2).free nq) (Same.mut s03 b4 np0) ⟨⟨0, 0, Int.le_refl _, Int.le_refl _, Int.le_refl _, h4⟩, ⟨zs, hz, b4 _ _ hDa3 npD⟩, b4 _ _ hq npq, nqD⟩
end
end Wp
set_option Elab.async false
set_option linter.all false
set_option maxRecDepth 100000
set_option maxHeartbeats 4000000
namespace Wp
open PySem PySem.Spec PyProof.Rows L2
abbrev s_is_number : Stmt := topS 19
abbrev s_is_number_in : Stmt := topS 20
local macro_rules | `(tactic| walk_at "val") => `(tactic| assumption)
local macro_rules | `(tactic| walk_at "rd1") => `(tactic| first
  | with_reducible refine r_seq ?_ | with_reducible refine r_next ?_ | with_reducible refine r_if ?_ | with_reducible refine r_asg ?_ | with_reducible refine r_gname ?_
  | with_reducible refine r_ret ?_ | with_reducible refine r_retN ?_ | with_reducible refine r_drop ?_ | with_reducible refine r_par ?_ | with_reducible refine r_kPar ?_
  | ((with_reducible refine' r_var ?hv ?_); (case hv => exact rfl)) | with_reducible refine r_c ?_ | with_reducible refine r_nil ?_ | with_reducible refine r_cons ?_
  | with_reducible refine r_fn ?_ | with_reducible refine r_cb ?_ | with_reducible refine r_op ?_ | with_reducible refine r_un ?_ | with_reducible refine r_I0 ?_
  | with_reducible refine r_pow5 ?_ | with_reducible refine r_pow6 ?_ | with_reducible refine r_pow7 ?_ | with_reducible refine r_pow9 ?_ | with_reducible refine r_pow18 ?_ | with_reducible refine r_pow20 ?_ | with_reducible refine r_pow30 ?_
  | with_reducible refine r_isN_non ?_ | with_reducible refine r_isN_ref ?_ | with_reducible refine r_isN_int ?_ | with_reducible refine r_isN_str ?_ | with_reducible refine r_isN_bl ?_ | with_reducible refine r_notN_non ?_ | with_reducible refine r_notN_ref ?_ | with_reducible refine r_notN_int ?_ | with_reducible refine r_notN_str ?_ | with_reducible refine r_notN_bl ?_
  | ((with_reducible refine r_I ?hc ?_); (case hc => walk_at "side")) | with_reducible refine r_U ?_
  | with_reducible refine r_eqI ?_ | with_reducible refine r_neI ?_ | with_reducible refine r_eqS ?_ | with_reducible refine r_neS ?_ | with_reducible refine r_eqB ?_ | with_reducible refine r_neB ?_
  | with_reducible refine r_chain ?_ | with_reducible refine r_test ?_ | with_reducible refine r_tB ?_ | with_reducible refine r_kTest ?_ | with_reducible refine r_not ?_
  | with_reducible refine r_and ?_ | with_reducible refine r_or ?_ | with_reducible refine r_tif ?_ | with_reducible refine r_andV ?_ | with_reducible refine r_orV ?_ | with_reducible refine r_notV ?_
  | with_reducible refine r_kAndV ?_ | with_reducible refine r_kOrV ?_ | with_reducible refine r_kNotV ?_
  | with_reducible refine w_T ?_ | with_reducible refine w_F ?_ | with_reducible refine w_NT ?_ | with_reducible refine w_NF ?_
  | with_reducible refine r_tup ?_ | with_reducible refine r_lst ?_ | with_reducible refine r_fld ?_ | with_reducible refine r_prop ?_ | ((with_reducible refine' r_aug ?h1 ?_); (case h1 => exact rfl)) | with_reducible refine r_ipI ?_ | with_reducible refine r_dget ?_ | with_reducible refine r_dput ?_ | with_reducible refine r_bm ?_
  | ((with_reducible refine' r_kDGetS ?h1 ?h2 ?_); (case h1 => assumption); (case h2 => walk_at "val"))
  | ((with_reducible refine' r_kBML ?h1 ?_); (case h1 => assumption))
  | with_reducible refine r_forL ?_ | with_reducible refine r_forR1 ?_ | with_reducible refine r_forR2 ?_ | with_reducible refine r_forT ?_ | with_reducible refine r_lcL ?_ | with_reducible refine r_lcR1 ?_
  | ((with_reducible refine r_kLcG ?hw ?_); (case hw => exact rfl)) | with_reducible refine r_kLcT ?_ | with_reducible refine r_yes ?_
  | with_reducible refine r_pnil ?_ | with_reducible refine r_pcons ?_
  | with_reducible refine r_fnK ?_ | ((with_reducible refine r_kFnK ?hl ?_); (case hl => exact rfl))
  | with_reducible refine r_isi_ii ?_ | with_reducible refine r_isi_ib ?_ | with_reducible refine r_isi_bi ?_ | with_reducible refine r_isi_bb ?_ | with_reducible refine r_isi_ss ?_ | with_reducible refine r_isi_is ?_ | with_reducible refine r_isi_it ?_
  | ((with_reducible refine' r_isi_tt ?h1 ?_); (case h1 => assumption))
  | with_reducible refine r_sfld ?_ | with_reducible refine r_gnil ?_ | with_reducible refine r_gcons ?_
  | ((with_reducible refine' r_gtup ?h1 ?h2 ?_); (case h1 => exact SqT.of (by assumption)); (case h2 => exact rfl))
  | with_reducible refine r_sl ?_ | with_reducible refine r_noPart ?_ | with_reducible refine r_part ?_ | with_reducible refine r_kPart ?_ | with_reducible refine r_m1 ?_ | with_reducible refine r_kM1 ?_ | with_reducible refine r_forS ?_ | with_reducible refine r_lcS ?_ | with_reducible refine r_lcTu ?_ | with_reducible refine r_lcK ?_ | with_reducible refine r_dcL ?_ | with_reducible refine r_dcK ?_ | with_reducible refine r_lc2L ?_ | with_reducible refine r_kLc2TL ?_ | with_reducible refine r_dcEn ?_ | with_reducible refine r_gslc ?_ | with_reducible refine r_lcEn ?_ | with_reducible refine r_lcEl ?_ | with_reducible refine r_lcR2 ?_ | with_reducible refine r_rg1 ?_ | with_reducible refine r_forET ?_ | with_reducible refine r_lenD ?_
  | ((with_reducible refine r_kDcG ?hw ?_); (case hw => exact rfl)) | with_reducible refine r_kDcT ?_
  | with_reducible refine r_fldaug ?_ | with_reducible refine r_daug ?_ | with_reducible refine r_rAdd ?_ | with_reducible refine r_rSub ?_ | with_reducible refine r_ddel ?_ | with_reducible refine r_bmF ?_ | with_reducible refine r_dget2 ?_ | with_reducible refine r_listItems ?_ | with_reducible refine r_bm0 ?_ | with_reducible refine r_lc2E ?_ | ((with_reducible refine r_kLc2G ?hw ?_); (case hw => exact rfl)) | with_reducible refine r_kLc2T ?_ | with_reducible refine r_forE ?_ | with_reducible refine r_orT ?_ | with_reducible refine r_din ?_ | with_reducible refine r_augS ?_ | with_reducible refine r_dnotin ?_ | with_reducible refine r_lcIT ?_ | with_reducible refine r_cont ?_ | with_reducible refine r_meth ?_ | with_reducible refine r_frz ?_ | with_reducible refine r_par3 ?_ | with_reducible refine r_kPar3 ?_ | with_reducible refine r_dz ?_ | with_reducible refine r_revL ?_ | with_reducible refine r_star ?_ | with_reducible refine r_int1 ?_ | with_reducible refine r_int1b ?_ | with_reducible refine r_min2 ?_ | with_reducible refine r_max2 ?_ | with_reducible refine r_gsub ?_)
local macro_rules | `(tactic| walk_at "rd") => `(tactic| repeat walk_at "rd1")
local macro_rules | `(tactic| walk_at "side") => `(tactic| first | assumption | exact Or.inr ⟨by decide, by decide⟩ | exact Or.inl ⟨by decide, by decide⟩ | (constructor <;> omega) | omega | decide | (refine Or.inl ⟨?_, ?_⟩ <;> omega) | (refine Or.inr ⟨?_, ?_⟩ <;> omega) | (refine ⟨?_, ?_, ?_⟩ <;> first | decide | omega))
def sp_is_number (K : PySem.W.Frag) : Sp := fun vs H Q _ => ∃ (x : V) (o : Option Int), vs = [x] ∧ NumV K H x o ∧ Q (.bl o.isSome) H
def sp_is_number_in (K : PySem.W.Frag) : Sp := fun vs H Q _ => ∃ (x : V) (o : Option Int) (lo hi : Int), vs = [x, .int lo, .int hi] ∧ NumV K H x o ∧ Q (.bl (inB o lo hi)) H
theorem u_in {K : PySem.W.Frag} {H : Hp} {Q : VK} {E : XK} {i lo hi : Int} (h : lo ≤ i ∧ i ≤ hi) (q : Q (.bl true) H) : sp_is_number_in K [.int i, .int lo, .int hi] H Q E := ⟨_, _, _, _, rfl, .int i, by rw [inB_yes h]; exact q⟩
section
variable {P : Program} {w : World} {K : PySem.W.Frag} {mg : Str → Option Value} {base : Heap}
theorem ok_is_number {f : Addr} {fd : FuncData} (T : Tx K mg) (F : FnP K "is_number" s_is_number f fd) : FnOk P w K mg base CX0 1 f fd ["value"] (sp_is_number K) := by
  have sc : FnScope ["value"] ["value"] (defScope s_is_number) := ⟨rfl, rfl, rfl, by decide +kernel, rfl, by decide +kernel, by decide +kernel⟩
  refine F.ok sc (by rintro vs H Q E ⟨_, _, rfl, _⟩; rfl) (fun cdv A outer s H vs Q E hr h => ⟨_, PSs.nox ((pss_one (ps_ret (pe_and (pe_callB (c_isiK (K := K) rfl) (by rfl) T.b_isinstance (by decide +kernel) (pa_cons (pv 0) (pa_cons (pe_bltn (v := .ty "int") (by rfl) T.b_int (by decide +kernel) rfl) pa_nil))) (pe_one (pe_not (pe_callB (c_isiK (K := K) rfl) (by rfl) T.b_isinstance (by decide +kernel) (pa_cons (pv 0) (pa_cons (pe_bltn (v := .ty "bool") (by rfl) T.b_bool (by decide +kernel) rfl) pa_nil))))))))), ?_⟩)
  obtain ⟨x, o, rfl, hx, q⟩ := h
  walk_at "rd"
  cases hx with
  | int i =>
    walk_at "rd"
    exact q
  | @no _ t b1 b2 ht h1 h2 h3 =>
    refine r_isi (.ty "int") ht h1 ?_
    walk_at "rd"
    cases b1 with
    | false =>
      walk_at "rd"
      exact q
    | true =>
      walk_at "rd"
      refine r_isi (.ty "bool") ht h2 ?_
      walk_at "rd"
      have e : (!b2) = false := h3
      rw [e]
      exact q
theorem ok_is_number_in {f : Addr} {fd : FuncData} (T : Tx K mg) (F : FnP K "is_number_in" s_is_number_in f fd) (d_is_number : Dn P w K mg base CX0 1 "is_number" ["value"] (sp_is_number K)) :
    FnOk P w K mg base CX0 2 f fd ["value", "least", "most"] (sp_is_number_in K) := by
  have sc : FnScope ["value", "least", "most"] ["value", "least", "most"] (defScope s_is_number_in) := ⟨rfl, rfl, rfl, by decide +kernel, rfl, by decide +kernel, by decide +kernel⟩
  refine F.ok sc (by rintro vs H Q E ⟨_, _, _, _, rfl, _⟩; rfl) (fun cdv A outer s H vs Q E hr h => ⟨_, PSs.nox ((pss_one (ps_ret (pe_and (pe_fn d_is_number (hr.mono (by decide)) pass0 (pa_cons (pv 0) pa_nil)) (pe_one (pe_chain op_le op_le (pv 1) (pv 0) (pv 2))))))), ?_⟩)
  obtain ⟨x, o, lo, hi, rfl, hx, q⟩ := h
  walk_at "rd"
  refine ⟨x, o, rfl, hx, ?_⟩
  walk_at "rd"
  cases hx with
  | int i =>
    refine w_yes rfl ?_
    walk_at "rd"
    refine r_kChain (fun h1 => ?_) (fun h1 => ?_)
    · walk_at "rd"
      have e : inB (some i) lo hi = decide (i ≤ hi) := by
        show (decide (lo ≤ i) && decide (i ≤ hi)) = _
        rw [h1]
        rfl
      rw [← e]
      exact q
    · have e : inB (some i) lo hi = false := by
        show (decide (lo ≤ i) && decide (i ≤ hi)) = _
        rw [h1]
        rfl
      rw [← e]
      exact q
  | no ht h1 h2 h3 =>
    walk_at "rd"
    exact q
end
end Wp
set_option Elab.async false
set_option linter.all false
set_option maxRecDepth 100000
set_option maxHeartbeats 4000000
/-! Readings of texts, slices, dicts, loops over any source. -/
namespace Wp
open PySem PySem.Spec PyProof.Rows L2
section
variable {t u tw : TS} {D : Ends} {σ : L2.St} {H : Hp} {te ta tb tl tk tv td : TE} {tt : TT} {tr : TA} {g : TG} {Q : VK} {v x y : V} {n : Nat} {b : Bool} {K : PySem.W.Frag} {a p q : Addr} {xs ys : List V} {vs : List Nat} {z : Str} {i : Int} {J : It}
/-! slices -/
theorem r_sl {r : V → Option Int → Option Int → Hp → VK → Prop} {tlo thi : TO} (h : te σ H fun x H1 => tlo σ H1 fun l H2 => thi σ H2 fun u H3 => r x l u H3 Q) : tSl r te tlo thi σ H Q := h
theorem r_noPart {QO : Option Int → Hp → Prop} (h : QO none H) : tNoPart σ H QO := h
def kPart (QO : Option Int → Hp → Prop) : VK := fun x H1 => ∃ i, x = .int i ∧ QO (some i) H1
theorem r_part {QO : Option Int → Hp → Prop} (h : te σ H (kPart QO)) : tPart te σ H QO := h
theorem r_kPart {QO : Option Int → Hp → Prop} (h : QO (some i) H) : kPart QO (.int i) H := ⟨i, rfl, h⟩
theorem r_slS {lo hi : Option Int} (hz : z.length ≤ 1000000) (h : Q (.str (cutS z lo hi)) H) : rSlS (.str z) lo hi H Q := ⟨z, rfl, sz5 hz, h⟩
theorem r_slL {lo hi : Option Int} (hl : SqL K H p xs) (h : ∀ q H', H q = none → Same H H' → H' q = some (.lst (cutV xs lo hi)) → Q (.ref q) H') : rSlL K (.ref p) lo hi H Q :=
  ⟨p, xs, rfl, hl, fun q hq => h q _ hq (Same.new hq) upd_same⟩
/-! texts -/
def kM1 (r : V → List V → Hp → VK → Prop) (te : TE) (σ : L2.St) (Q : VK) : VK := fun x H1 => (∃ a, x = .str a) ∧ te σ H1 fun y H2 => r x [y] H2 Q
theorem r_m1 {r : V → List V → Hp → VK → Prop} (h : ta σ H (kM1 r te σ Q)) : tM1 r ta te σ H Q := h
theorem r_kM1 {r : V → List V → Hp → VK → Prop} (h : te σ H fun y H2 => r (.str z) [y] H2 Q) : kM1 r te σ Q (.str z) H := ⟨⟨z, rfl⟩, h⟩
theorem r_ixS {c : Nat} (hz : z.length ≤ 1000000) (e : atI z.cps.toList i = some c) (h : Q (.str ⟨#[c]⟩) H) : rIxS (.str z) (.int i) H Q := ⟨z, i, c, rfl, rfl, sz5 hz, e, h⟩
theorem r_lenS (hz : z.length ≤ 1000000) (h : Q (.int (z.length : Nat)) H) : rLen K [.str z] H Q := ⟨_, _, rfl, ⟨sz5 hz, rfl⟩, h⟩
/-! loops over any source -/
def LoopW (J : It) (g : TG) (tw : TS) (D : Ends) (σ : L2.St) (H1 : Hp) : Prop := ∃ W : Nat → Nat → L2.St → Hp → Prop, (∃ m, W 0 m σ H1) ∧ ∀ i m σ H, W i m σ H →
  (J.stop i H ∧ D.nx σ H) ∨ (J.go i H ∧ ∃ N : L2.St → Hp → Prop, (∀ σ' H', N σ' H' → ∃ m', m' < m ∧ W (i + 1) m' σ' H') ∧ ∀ x H', J.yld i H x H' → g x σ H' fun σ2 H2 => tw { D with nx := N, ct := N, bk := D.nx } σ2 H2)
theorem loop_it (n : Nat) (Pv : Nat → L2.St → Hp → Prop) (h0 : Pv 0 σ H) (hgo : ∀ i σ' H', i < n → Pv i σ' H' → J.go i H') (hst : ∀ σ' H', Pv n σ' H' → J.stop n H')
    (hs : ∀ i x σ' H' H2, i < n → Pv i σ' H' → J.yld i H' x H2 → g x σ' H2 fun σ2 H3 => tw { D with nx := Pv (i + 1), ct := Pv (i + 1), bk := D.nx } σ2 H3)
    (hd : ∀ σ' H', Pv n σ' H' → D.nx σ' H') : LoopW J g tw D σ H := by
  refine ⟨fun i m σ H => m = n - i ∧ i ≤ n ∧ Pv i σ H, ⟨n, by simp, Nat.zero_le _, h0⟩, ?_⟩
  rintro i m σ H ⟨rfl, hi, p⟩
  by_cases hlt : i < n
  · exact .inr ⟨hgo i σ H hlt p, Pv (i + 1), fun σ' H' p' => ⟨n - (i + 1), by omega, rfl, hlt, p'⟩, fun x H' y => hs i x σ H H' hlt p y⟩
  · obtain rfl : i = n := by omega
    exact .inl ⟨hst σ H p, hd σ H p⟩
def LcW (J : It) (g : TG) (tt : TT) (te : TE) (vs : List Nat) (σ : L2.St) (Q : VK) (H1 : Hp) : Prop := ∀ D, H1 D = none → ∃ W : Nat → Nat → Hp → Prop, (∃ m, W 0 m (upd H1 D (.lst []))) ∧ ∀ i m H, W i m H →
  (J.stop i H ∧ Q (.ref D) H) ∨ (J.go i H ∧ ∃ Nx : Hp → Prop, (∀ H', Nx H' → ∃ m', m' < m ∧ W (i + 1) m' H') ∧ ∀ x H', J.yld i H x H' → g x (wipe σ vs) H' fun σ2 H2 => wipe σ2 vs = wipe σ vs ∧ tt σ2 H2 fun b H3 =>
    if b = true then te σ2 H3 fun y H4 => ∃ acc, H4 D = some (.lst acc) ∧ acc.length < sizeLine ∧ Nx (upd H4 D (.lst (acc ++ [y]))) else Nx H3)
theorem lc_it (n : Nat) (Pv : Addr → Nat → Hp → Prop) (h0 : ∀ Da H', H Da = none → Same H H' → H' Da = some (.lst []) → Pv Da 0 H') (hgo : ∀ Da i H', H Da = none → i < n → Pv Da i H' → J.go i H') (hst : ∀ Da H', H Da = none → Pv Da n H' → J.stop n H')
    (hs : ∀ Da i x H' H2, H Da = none → i < n → Pv Da i H' → J.yld i H' x H2 → g x (wipe σ vs) H2 (kLcG tt te vs σ Da Pv i)) (hd : ∀ Da H', H Da = none → Pv Da n H' → Q (.ref Da) H') : LcW J g tt te vs σ Q H := by
  intro Da hD
  refine ⟨fun i m H' => m = n - i ∧ i ≤ n ∧ Pv Da i H', ⟨n, by simp, Nat.zero_le _, h0 Da _ hD (Same.new hD) upd_same⟩, ?_⟩
  rintro i m H' ⟨rfl, hi, p⟩
  by_cases hlt : i < n
  · exact .inr ⟨hgo Da i H' hD hlt p, Pv Da (i + 1), fun H'' p' => ⟨n - (i + 1), by omega, rfl, hlt, p'⟩, fun x H'' y => hs Da i x H' H'' hD hlt p y⟩
  · obtain rfl : i = n := by omega
    exact .inl ⟨hst Da H' hD p, hd Da H' hD p⟩
def DcW (J : It) (g : TG) (tt : TT) (tk tv : TE) (vs : List Nat) (σ : L2.St) (Q : VK) (H1 : Hp) : Prop := ∀ D, H1 D = none → ∃ W : Nat → Nat → Hp → Prop, (∃ m, W 0 m (upd H1 D (.dK []))) ∧ ∀ i m H, W i m H →
  (J.stop i H ∧ Q (.ref D) H) ∨ (J.go i H ∧ ∃ Nx : Hp → Prop, (∀ H', Nx H' → ∃ m', m' < m ∧ W (i + 1) m' H') ∧ ∀ x H', J.yld i H x H' → g x (wipe σ vs) H' fun σ2 H2 => wipe σ2 vs = wipe σ vs ∧ tt σ2 H2 fun b H3 =>
    if b = true then tk σ2 H3 fun y H4 => tv σ2 H4 fun z H5 => ∃ kvs k, y = kV k ∧ H5 D = some (.dK kvs) ∧ kvs.length < sizeLine ∧ Nx (upd H5 D (.dK (putK kvs k z))) else Nx H3)
def kDcE (Da : Addr) (Pv : Addr → Nat → Hp → Prop) (i : Nat) (y : V) : VK := fun z H5 => ∃ kvs k, y = kV k ∧ H5 Da = some (.dK kvs) ∧ kvs.length < sizeLine ∧ Pv Da (i + 1) (upd H5 Da (.dK (putK kvs k z)))
def kDcT (tk tv : TE) (σ2 : L2.St) (Da : Addr) (Pv : Addr → Nat → Hp → Prop) (i : Nat) : Bool → Hp → Prop := fun b H3 => if b = true then tk σ2 H3 fun y H4 => tv σ2 H4 (kDcE Da Pv i y) else Pv Da (i + 1) H3
def kDcG (tt : TT) (tk tv : TE) (vs : List Nat) (σ : L2.St) (Da : Addr) (Pv : Addr → Nat → Hp → Prop) (i : Nat) : L2.St → Hp → Prop := fun σ2 H2 => wipe σ2 vs = wipe σ vs ∧ tt σ2 H2 (kDcT tk tv σ2 Da Pv i)
theorem r_kDcG {Da : Addr} {Pv : Addr → Nat → Hp → Prop} {i : Nat} {σ2 : L2.St} (h : wipe σ2 vs = wipe σ vs) (q : tt σ2 H (kDcT tk tv σ2 Da Pv i)) : kDcG tt tk tv vs σ Da Pv i σ2 H := ⟨h, q⟩
theorem r_kDcT {Da : Addr} {Pv : Addr → Nat → Hp → Prop} {i : Nat} {σ2 : L2.St} (q : if b = true then tk σ2 H fun y H4 => tv σ2 H4 (kDcE Da Pv i y) else Pv Da (i + 1) H) : kDcT tk tv σ2 Da Pv i b H := q
theorem r_kDcE {Da : Addr} {Pv : Addr → Nat → Hp → Prop} {i : Nat} {kvs : List (Key × V)} {kx : Key} {zv : V} (h : H Da = some (.dK kvs)) (hz : kvs.length < 1000000) (q : ∀ H', But Da H H' → H' Da = some (.dK (putK kvs kx zv)) → Pv Da (i + 1) H') : kDcE Da Pv i (kV kx) zv H :=
  ⟨kvs, kx, rfl, h, sz6 hz, q _ But.upd upd_same⟩
theorem dc_it (n : Nat) (Pv : Addr → Nat → Hp → Prop) (h0 : ∀ Da H', H Da = none → Same H H' → H' Da = some (.dK []) → Pv Da 0 H') (hgo : ∀ Da i H', H Da = none → i < n → Pv Da i H' → J.go i H') (hst : ∀ Da H', H Da = none → Pv Da n H' → J.stop n H')
    (hs : ∀ Da i x H' H2, H Da = none → i < n → Pv Da i H' → J.yld i H' x H2 → g x (wipe σ vs) H2 (kDcG tt tk tv vs σ Da Pv i)) (hd : ∀ Da H', H Da = none → Pv Da n H' → Q (.ref Da) H') : DcW J g tt tk tv vs σ Q H := by
  intro Da hD
  refine ⟨fun i m H' => m = n - i ∧ i ≤ n ∧ Pv Da i H', ⟨n, by simp, Nat.zero_le _, h0 Da _ hD (Same.new hD) upd_same⟩, ?_⟩
  rintro i m H' ⟨rfl, hi, p⟩
  by_cases hlt : i < n
  · exact .inr ⟨hgo Da i H' hD hlt p, Pv Da (i + 1), fun H'' p' => ⟨n - (i + 1), by omega, rfl, hlt, p'⟩, fun x H'' y => hs Da i x H' H'' hD hlt p y⟩
  · obtain rfl : i = n := by omega
    exact .inl ⟨hst Da H' hD p, hd Da H' hD p⟩
/-! over a text -/
def kForS (g : TG) (tw : TS) (D : Ends) (σ : L2.St) : VK := fun v H1 => ∃ x, v = .str x ∧ LoopW (Its x) g tw D σ H1
theorem r_forS (h : te σ H (kForS g tw D σ)) : tFor (iStr te) g tw D σ H := h
theorem r_kForS (Pv : Nat → L2.St → Hp → Prop) (h0 : Pv 0 σ H) (hs : ∀ i c σ' H', z.cps[i]? = some c → Pv i σ' H' → g (.str ⟨#[c]⟩) σ' H' fun σ2 H3 => tw { D with nx := Pv (i + 1), ct := Pv (i + 1), bk := D.nx } σ2 H3)
    (hd : ∀ σ' H', Pv z.cps.size σ' H' → D.nx σ' H') : kForS g tw D σ (.str z) H :=
  ⟨z, rfl, loop_it z.cps.size Pv h0 (fun i _ _ hi _ => hi) (fun _ _ _ => Nat.le_refl _) (fun i x σ' H' H2 _ p y => by
    obtain ⟨rfl, c, hc, rfl⟩ := y
    exact hs i c σ' _ hc p) hd⟩
def kLcS (g : TG) (tt : TT) (te : TE) (vs : List Nat) (σ : L2.St) (Q : VK) : VK := fun v H1 => ∃ x, v = .str x ∧ LcW (Its x) g tt te vs σ Q H1
theorem r_lcS (h : ta σ H (kLcS g tt te vs σ Q)) : tLc (iStr ta) g tt te vs σ H Q := h
theorem r_kLcS (Pv : Addr → Nat → Hp → Prop) (h0 : ∀ Da H', H Da = none → Same H H' → H' Da = some (.lst []) → Pv Da 0 H')
    (hs : ∀ Da i c H', H Da = none → z.cps[i]? = some c → Pv Da i H' → g (.str ⟨#[c]⟩) (wipe σ vs) H' (kLcG tt te vs σ Da Pv i)) (hd : ∀ Da H', H Da = none → Pv Da z.cps.size H' → Q (.ref Da) H') : kLcS g tt te vs σ Q (.str z) H :=
  ⟨z, rfl, lc_it z.cps.size Pv h0 (fun _ i _ _ hi _ => hi) (fun _ _ _ _ => Nat.le_refl _) (fun Da i x H' H2 hD _ p y => by
    obtain ⟨rfl, c, hc, rfl⟩ := y
    exact hs Da i c _ hD hc p) hd⟩
/-! over a tuple, in a block -/
def kLcTu (K : PySem.W.Frag) (g : TG) (tt : TT) (te : TE) (vs : List Nat) (σ : L2.St) (Q : VK) : VK := fun x H1 => ∃ a, x = .ref a ∧ (∃ xs, SqT K H1 a xs) ∧ LcW (Itt K a) g tt te vs σ Q H1
theorem r_lcTu (q : tl σ H (kLcTu K g tt te vs σ Q)) : tLc (iTup K tl) g tt te vs σ H Q := q
theorem r_kLcTu (Pv : Addr → Nat → Hp → Prop) (hl : SqT K H a xs) (h0 : ∀ Da H', H Da = none → Same H H' → H' Da = some (.lst []) → Pv Da 0 H') (hk : ∀ Da i H', Pv Da i H' → SqT K H' a xs)
    (hs : ∀ Da i x H', H Da = none → xs[i]? = some x → Pv Da i H' → g x (wipe σ vs) H' (kLcG tt te vs σ Da Pv i)) (hd : ∀ Da H', H Da = none → Pv Da xs.length H' → Q (.ref Da) H') : kLcTu K g tt te vs σ Q (.ref a) H :=
  ⟨a, rfl, ⟨xs, hl⟩, fun Da hD => lc_tup (Pv Da) (h0 Da _ hD (Same.new hD) upd_same) (fun i H' _ p => hk Da i H' p) (fun i x H' hx p => hs Da i x H' hD hx p) (fun H' p => hd Da H' hD p)⟩
end
end Wp
set_option Elab.async false
set_option linter.all false
set_option maxRecDepth 100000
set_option maxHeartbeats 4000000
/-! One rule or another; things locked while they are gone through; sums of tuples. -/
namespace Wp
open PySem PySem.Spec PyProof.Rows L2
/-! ### either -/
def iEither (a b : TI) : TI := fun σ H R => a σ H R ∨ b σ H R
theorem pi_either {X : Cx} {tg l : Expr} {a b : TI} (ha : PI X tg l a) (hb : PI X tg l b) : PI X tg l (iEither a b) :=
  ⟨fun pins s σ H R I h => h.elim (fun h => ha.run pins s σ H R I h) (fun h => hb.run pins s σ H R I h)⟩
def rEither (a b : List V → Hp → VK → Prop) : List V → Hp → VK → Prop := fun xs H Q => a xs H Q ∨ b xs H Q
theorem c_either {X : Cx} {f : Value} {a b : List V → Hp → VK → Prop} (ha : CallR X f a) (hb : CallR X f b) : CallR X f (rEither a b) :=
  fun pins s σ H xs us Q I r h => h.elim (fun h => ha pins s σ H xs us Q I r h) (fun h => hb pins s σ H xs us Q I r h)
/-- code that is not reached -/
theorem pe_dead {X : Cx} {e : Expr} : PE X e (fun _ _ _ => False) := ⟨fun _ _ _ _ _ _ h => h.elim⟩
theorem pt_dead {X : Cx} {e : Expr} : PT X e (fun _ _ _ => False) := ⟨fun _ _ _ _ _ _ h => h.elim⟩
/-- a list or a tuple -/
def SeqV (K : PySem.W.Frag) (H : Hp) (p : Addr) (xs : List V) : Prop := SqL K H p xs ∨ SqT K H p xs
section
variable {K : PySem.W.Frag} {H : Hp} {Q : VK} {p d : Addr} {xs : List V} {σ : L2.St} {g : TG} {tt : TT} {te tk tv ta tl : TE} {vs : List Nat} {i j : Nat}
theorem r_lenSeq (h : SeqV K H p xs) (q : Q (.int (xs.length : Nat)) H) : rLen K [.ref p] H Q := h.elim (fun h => r_lenL h q) (fun h => r_lenT h q)
theorem r_lcEither (hl : SeqV K H p xs) (h : σ[i]? = some (some (.ref p))) (Pv : Addr → Nat → Hp → Prop) (h0 : ∀ Da H', H Da = none → Same H H' → H' Da = some (.lst []) → Pv Da 0 H') (hk : ∀ Da i H', Pv Da i H' → SeqV K H' p xs ∧ Same H H')
    (hs : ∀ Da i x H', H Da = none → xs[i]? = some x → Pv Da i H' → g x (wipe σ vs) H' (kLcG tt te vs σ Da Pv i)) (hd : ∀ Da H', H Da = none → Pv Da xs.length H' → Q (.ref Da) H')
    (keepL : ∀ H', Same H H' → SqL K H p xs → SqL K H' p xs) (keepT : ∀ H', Same H H' → SqT K H p xs → SqT K H' p xs) :
    tLc (iEither (iList K (tVar i)) (iTup K (tVar i))) g tt te vs σ H Q := by
  rcases hl with hl | hl
  · exact .inl (r_lcL (r_var h (r_kLcL Pv hl h0 (fun Da i H' p => keepL H' (hk Da i H' p).2 hl) hs hd)))
  · exact .inr (r_lcTu (r_var h (r_kLcTu Pv hl h0 (fun Da i H' p => keepT H' (hk Da i H' p).2 hl) hs hd)))
theorem SqL.same {H' : Hp} (e : Same H H') (h : SqL K H p xs) : SqL K H' p xs := by
  rcases h with (h | ⟨o, h⟩) | h
  · exact .inl (.inl (e _ _ h))
  · exact .inl (.inr ⟨o, e _ _ h⟩)
  · exact .inr h
theorem SqT.same {H' : Hp} (e : Same H H') (h : SqT K H p xs) : SqT K H' p xs := by
  rcases h with (h | ⟨o, h⟩) | h
  · exact .inl (.inl (e _ _ h))
  · exact .inl (.inr ⟨o, e _ _ h⟩)
  · exact .inr h
theorem SeqV.same {H' : Hp} (e : Same H H') (h : SeqV K H p xs) : SeqV K H' p xs := h.elim (fun h => .inl (SqL.same e h)) (fun h => .inr (SqT.same e h))
/-! ### locks -/
def kLock (d : Addr) (od : Obj) (u : HO) (Q : VK) : VK := fun v H' => H' d = some (.frz od u) ∧ Q v (upd H' d u)
theorem r_lockD {kvs : List (Key × V)} {t : TE} (h : H d = some (.dK kvs)) (q : ∀ od H1, H1 d = some (.frz od (.dK kvs)) → (∀ b o, H b = some o → b ≠ d → H1 b = some o) → (∀ b, H1 b = none → H b = none) → t σ H1 (kLock d od (.dK kvs) Q)) : tLockE t σ H Q :=
  ⟨d, .dK kvs, h, True.intro, fun od => q od _ upd_same (fun b o e n => by rw [upd_ne n]; exact e) (fun b e => by
    by_cases hb : b = d
    · rw [hb, upd_same] at e
      cases e
    · rw [upd_ne hb] at e
      exact e)⟩
theorem r_kLock {od : Obj} {u : HO} {v : V} {H0 H1 : Hp} (h0 : H0 d = some u) (h1 : ∀ b o, H0 b = some o → b ≠ d → H1 b = some o) (hd : H1 d = some (.frz od u)) (e : Same H1 H) (q : ∀ H', Same H0 H' → (∀ b o, H b = some o → b ≠ d → H' b = some o) → Q v H') : kLock d od u Q v H :=
  ⟨e _ _ hd, q _ (fun b o hb => by
    by_cases hbd : b = d
    · rw [hbd] at hb ⊢
      rw [upd_same, ← h0, hb]
    · rw [upd_ne hbd]
      exact e _ _ (h1 b o hb hbd)) (fun b o hb n => by rw [upd_ne n]; exact hb)⟩
def kLcK (g : TG) (tt : TT) (te : TE) (vs : List Nat) (σ : L2.St) (Q : VK) : VK := fun x H1 => ∃ d o, x = .ref d ∧ ((∃ kvs, H1 d = some (.frz o (.dK kvs)) ∧ LcW (Itk d o kvs) g tt te vs σ Q H1) ∨ ∃ kvs, H1 d = some (.frz o (.dT kvs)) ∧ LcW (Itkt d o kvs) g tt te vs σ Q H1)
theorem r_lcK (h : ta σ H (kLcK g tt te vs σ Q)) : tLc (iKeys ta) g tt te vs σ H Q := h
theorem r_kLcK {o : Obj} {kvs : List (Key × V)} (hd : H d = some (.frz o (.dK kvs))) (Pv : Addr → Nat → Hp → Prop) (h0 : ∀ Da H', H Da = none → Same H H' → H' Da = some (.lst []) → Pv Da 0 H') (hk : ∀ Da i H', Pv Da i H' → H' d = some (.frz o (.dK kvs)))
    (hs : ∀ Da i k v H', H Da = none → kvs[i]? = some (k, v) → Pv Da i H' → g (kV k) (wipe σ vs) H' (kLcG tt te vs σ Da Pv i)) (hf : ∀ Da H', H Da = none → Pv Da kvs.length H' → Q (.ref Da) H') : kLcK g tt te vs σ Q (.ref d) H :=
  ⟨d, o, rfl, .inl ⟨kvs, hd, lc_it kvs.length Pv h0 (fun Da i H' _ hi p => ⟨hk Da i H' p, hi⟩) (fun Da H' _ p => ⟨hk Da _ H' p, Nat.le_refl _⟩) (fun Da i x H' H2 hD _ p y => by
    obtain ⟨rfl, k, v, e, rfl⟩ := y
    exact hs Da i k v _ hD e p) hf⟩⟩
theorem r_kDGetF {a : Addr} {kvs : List (Key × V)} {o : Obj} {z : Str} {v : V} (h1 : H a = some (.frz o (.dK kvs))) (h2 : valV kvs (Sum.inr z) = some v) (q : Q v H) : kDGet Q (.ref a) (.str z) H :=
  ⟨a, v, rfl, .inl ⟨kvs, Sum.inr z, .inr ⟨o, h1⟩, rfl, h2.symm⟩, q⟩
def rLenD : List V → Hp → VK → Prop := fun xs H Q => ∃ a kvs, xs = [V.ref a] ∧ H a = some (.dK kvs) ∧ Q (.int kvs.length) H
theorem c_lenD {X : Cx} : CallR X (.builtin "len") rLenD := call_lenD
theorem r_lenD {kvs : List (Key × V)} (h : H d = some (.dK kvs)) (q : Q (.int kvs.length) H) : rLenD [.ref d] H Q := ⟨d, kvs, rfl, h, q⟩
/-! a dict made in a block, over a list -/
def kDcL (K : PySem.W.Frag) (g : TG) (tt : TT) (tk tv : TE) (vs : List Nat) (σ : L2.St) (Q : VK) : VK := fun x H1 => ∃ a, x = .ref a ∧ (∃ xs, SqL K H1 a xs) ∧ DcW (Itl K a) g tt tk tv vs σ Q H1
theorem r_dcL (h : tl σ H (kDcL K g tt tk tv vs σ Q)) : tDc (iList K tl) g tt tk tv vs σ H Q := h
theorem r_kDcL (hl : SqL K H p xs) (Pv : Addr → Nat → Hp → Prop) (h0 : ∀ Da H', H Da = none → Same H H' → H' Da = some (.dK []) → Pv Da 0 H') (hk : ∀ Da i H', Pv Da i H' → SqL K H' p xs)
    (hs : ∀ Da i x H', H Da = none → xs[i]? = some x → Pv Da i H' → g x (wipe σ vs) H' (kDcG tt tk tv vs σ Da Pv i)) (hd : ∀ Da H', H Da = none → Pv Da xs.length H' → Q (.ref Da) H') : kDcL K g tt tk tv vs σ Q (.ref p) H :=
  ⟨p, rfl, ⟨xs, hl⟩, dc_it xs.length Pv h0 (fun Da i H' _ hi p => ⟨xs, xs[i], hk Da i H' p, by simp [hi]⟩) (fun Da H' _ p => ⟨xs, hk Da _ H' p, Nat.le_refl _⟩) (fun Da i x H' H2 hD _ p y => by
    obtain ⟨rfl, y⟩ := y
    exact hs Da i x _ hD (y xs (hk Da i _ p)) p) hd⟩
end
end Wp
set_option Elab.async false
set_option linter.all false
set_option maxRecDepth 100000
set_option maxHeartbeats 4000000
/-! sum, min and max of a tuple of ints. -/
namespace Wp
open PySem PySem.Spec PyProof.Rows L2
section
variable {P : Program} {w : World} {A : Around} {E : Value → Shared → Prop} {s : Shared} {t : Addr} {us : List Value} {ns : List Int}
theorem begin_tup {items : Array Value} {R : Value → Shared → Prop} (ht : s.heap.IsTuple t items)
    (k : ∀ h2 : Heap, (h2.IsTupleIter s.heap.objs.size t 0 ∧ h2.IsTuple t items) → (∀ b ∈ [s.heap.objs.size, t], b < h2.objs.size) → t ≠ s.heap.objs.size →
      (∀ b o, s.heap.get? b = some o → h2.get? b = some o ∧ b ∉ [s.heap.objs.size]) → R (.ref s.heap.objs.size) { s with heap := h2 }) : wpAny (model P w) A (pyIter (.ref t)) R E s := by
  have lt : t < s.heap.objs.size := by
    obtain ⟨_, e, _⟩ := ht
    exact Heap.lt_size e
  refine wpAny_pyIter_tuple ht (k _ ⟨⟨_, Heap.get?_push_size _ rfl, rfl, rfl⟩, Heap.IsTuple.push ht _⟩ (fun b hb => ?_) (Nat.ne_of_lt lt) fun b o e => ⟨Heap.get?_push_of_some _ e, fun hm => ?_⟩)
  · rw [Heap.size_push]
    rcases List.mem_cons.mp hb with hb | hb
    · rw [hb]
      exact Nat.lt_succ_self _
    · rw [List.mem_singleton.mp hb]
      exact Nat.lt_succ_of_lt lt
  · have h1 : b < s.heap.objs.size := Heap.lt_size e
    have h2 : b = s.heap.objs.size := List.mem_singleton.mp hm
    rw [h2] at h1
    exact Nat.lt_irrefl _ h1
theorem tup_sum {R : Value → Shared → Prop} (hh : A.handled = none) (ht : s.heap.IsTuple t us.toArray) (hi : IntsAre us ns)
    (k : ∀ h' tk t', (∀ b o, s.heap.get? b = some o → h'.get? b = some o) → R (.int ns.sum t') { s with heap := h', toks := tk }) : wpAny (model P w) A (call (.builtin "sum") [.ref t]) R E s := by
  obtain ⟨xs, ex⟩ := hi.allInts.items
  have en : numsOf (intItems xs).toList = ns := by
    rw [← ex]
    exact hi.numsOf
  rw [nums_intItems] at en
  rw [ex] at ht
  refine call_sum_walkG (begin_tup ht fun h2 st fp ne old => ?_)
  refine ⟨_, _, _, _, _, _, numAt xs, rfl, Walks.tuple (A := A.in1) hh _ t ne (intItems xs), st, fp, (fun _ _ => intItems_at), fun h' tk t' hk => ?_⟩
  have z := k h' tk t' fun b o e => hk b o (old b o e).2 (old b o e).1
  rw [preSum_eq, List.take_of_length_le (by simp [intItems]), en]
  exact z
theorem tup_min {R : Value → Shared → Prop} (hh : A.handled = none) (ht : s.heap.IsTuple t us.toArray) (hi : IntsAre us ns) (hne : 0 < ns.length)
    (k : ∀ h' tk m t', (∀ b o, s.heap.get? b = some o → h'.get? b = some o) → m ∈ ns → (∀ a, a ∈ ns → m ≤ a) → R (.int m t') { s with heap := h', toks := tk }) : wpAny (model P w) A (call (.builtin "min") [.ref t]) R E s := by
  obtain ⟨xs, ex⟩ := hi.allInts.items
  have en : numsOf (intItems xs).toList = ns := by
    rw [← ex]
    exact hi.numsOf
  rw [nums_intItems] at en
  subst en
  rw [ex] at ht
  have pos : 0 < xs.size := by simpa using hne
  refine call_min_walk (begin_tup ht fun h2 st fp ne old => ?_)
  refine ⟨_, _, _, _, _, _, _, rfl, Walks.tuple (A := A.in1) hh _ t ne (intItems xs), st, fp, by simpa [intItems] using pos, CmpOf.ints_lt (numAt xs) (fun _ _ => intItems_at), fun v h' tk hP hk => ?_⟩
  obtain ⟨t', rfl⟩ := intItems_at (by simpa [intItems] using hP)
  obtain ⟨b1, b2⟩ := argBest_lt (numAt xs) (xs.size - 1)
  refine k h' tk _ t' (fun b o e => hk b o (old b o e).2 (old b o e).1) ?_ fun a ha => ?_
  · rw [numAt_eq]
    refine PySem.getD_mem ?_
    rw [List.length_map, Array.length_toList]
    omega
  · obtain ⟨j, hj, rfl⟩ := mem_getD ha
    rw [List.length_map, Array.length_toList] at hj
    rw [← numAt_eq]
    exact b2 j (by omega)
end
section
variable {X : Cx} {K : PySem.W.Frag}
def rSumT (K : PySem.W.Frag) : List V → Hp → VK → Prop := fun vs H Q => ∃ (a : Addr) (ns : List Int), vs = [V.ref a] ∧ SqT K H a (ns.map V.int) ∧ Q (.int ns.sum) H
def rMinT (K : PySem.W.Frag) : List V → Hp → VK → Prop := fun vs H Q => ∃ (a : Addr) (ns : List Int), vs = [V.ref a] ∧ SqT K H a (ns.map V.int) ∧ 0 < ns.length ∧ ∀ m, m ∈ ns → (∀ y, y ∈ ns → m ≤ y) → Q (.int m) H
theorem c_sumT (h : X.K = K) (hc : X.calm = true) : CallR X (.builtin "sum") (rSumT K) := by
  subst h
  rintro pins s σ H vs us Q I r ⟨a, ns, rfl, hs, q⟩
  obtain ⟨its, rv, hl, _⟩ := I.tuple hs
  rw [Vals.ref1 r]
  exact tup_sum (I.ok.hd hc) hl rv.ints fun h' tk t' hk => ⟨.int _, H, I.kept hk, ⟨_, rfl⟩, q⟩
theorem c_minT (h : X.K = K) (hc : X.calm = true) : CallR X (.builtin "min") (rMinT K) := by
  subst h
  rintro pins s σ H vs us Q I r ⟨a, ns, rfl, hs, hne, q⟩
  obtain ⟨its, rv, hl, _⟩ := I.tuple hs
  rw [Vals.ref1 r]
  exact tup_min (I.ok.hd hc) hl rv.ints hne fun h' tk m t' hk h1 h2 => ⟨.int _, H, I.kept hk, ⟨_, rfl⟩, q m h1 h2⟩
end
end Wp
set_option Elab.async false
set_option linter.all false
set_option maxRecDepth 100000
set_option maxHeartbeats 4000000
/-! Lists and tuples by their kind; all of bools; slices. -/
namespace Wp
open PySem PySem.Spec PyProof.Rows L2
section
variable {K : PySem.W.Frag} {H : Hp} {Q : VK} {p : Addr} {xs : List V}
theorem SqL.ty (h : SqL K H p xs) : TyX K H (.ref p) (.type "list") := by
  rcases h with (h | ⟨o, h⟩) | ⟨o, its, n, h, hc, _⟩
  · exact .base (.lst h)
  · exact .base (.frz h)
  · exact .kList h hc
theorem SqT.ty (h : SqT K H p xs) : TyX K H (.ref p) (.type "tuple") := by
  rcases h with (h | ⟨o, h⟩) | ⟨o, its, n, h, hc, _⟩
  · exact .base (.tup h)
  · exact .fTuple h
  · exact .kTuple h hc
theorem r_isSeq {tp : Addr} (h : SeqV K H p xs) (ht : H tp = some (.tup [.ty "list", .ty "tuple"])) (q : Q (.bl true) H) : rIsiT K [.ref p, .ref tp] H Q := by
  rcases h with h | h
  · exact ⟨_, tp, _, _, [.type "list", .type "tuple"], true, rfl, ht, .cons (.ty _) (.cons (.ty _) .nil), SqL.ty h, kitAny_cons (kit_ty (r := true) (by decide +kernel)) (fun e => by cases e) (fun _ => rfl), q⟩
  · exact ⟨_, tp, _, _, [.type "list", .type "tuple"], true, rfl, ht, .cons (.ty _) (.cons (.ty _) .nil), SqT.ty h, kitAny_cons (kit_ty (r := false) (by decide +kernel)) (fun _ => kitAny_cons (kit_ty (r := true) (by decide +kernel)) (fun e => by cases e) (fun _ => rfl)) (fun e => by cases e), q⟩
theorem r_inSign {c : Nat} {z : Str} (q : Q (.bl (decide (c ∈ z.cps.toList))) H) : ∃ (c' : Nat) (z' : Str), V.str ⟨#[c]⟩ = .str ⟨#[c']⟩ ∧ V.str z = .str z' ∧ Q (.bl (decide (c' ∈ z'.cps.toList))) H := ⟨c, z, rfl, rfl, q⟩
theorem r_all {bs : List Bool} (h : SqL K H p (bs.map V.bl)) (q : Q (.bl (bs.all id)) H) : rAll K [.ref p] H Q := ⟨p, bs, rfl, h, q⟩
theorem all_rep : ∀ n, (List.replicate n true).all id = true
  | 0 => rfl
  | n + 1 => by rw [List.replicate_succ, List.all_cons, all_rep n]; rfl
theorem rep_more (n : Nat) : (List.replicate (n + 1) true).map V.bl = (List.replicate n true).map V.bl ++ [V.bl true] := by
  rw [List.replicate_succ', List.map_append]
  rfl
theorem r_isiDict {kvs : List (Key × V)} (h : H p = some (.dK kvs)) (q : Q (.bl true) H) : rIsi K [.ref p, .ty "dict"] H Q := r_isiT (.base (.dK h)) (by decide +kernel) q
end
theorem cutV_m1 (xs : List V) : cutV xs none (some (-1)) = xs.dropLast := by
  have e : HT.sIx xs.length xs.length (some (-1)) = xs.length - 1 := by
    show (if (-1 : Int) < 0 then ((-1 : Int) + (xs.length : Int)).toNat else min (-1 : Int).toNat xs.length) = _
    rw [if_pos (by decide)]
    omega
  unfold cutV
  rw [e, List.dropLast_eq_take]
  rfl
end Wp
set_option Elab.async false
set_option linter.all false
set_option maxRecDepth 100000
set_option maxHeartbeats 4000000
/-! dict(zip(t, u)) of two tuples. -/
namespace Wp
open PySem PySem.Spec PyProof.Rows L2
open PySem.Sem (wp)
/-- an iterator over the items xs: S k says that k of them are taken -/
structure Nx (prog : Program) (w : World) (it l : Addr) (xs : Array Value) (S : Nat → Heap → Prop) : Prop where
  step : ∀ {A : Around} {E : Value → Shared → Prop} {s : Shared} {k : Nat} {x : Value} {Q : Value → Shared → Prop}, S k s.heap → xs[k]? = some x →
    (∀ g, S (k + 1) g → Heap.SameBut it s.heap g → Q x { s with heap := g }) → wpAny (model prog w) A (Builtin.SmallTypes.nextOf (.ref it)) Q E s
  stop : ∀ {A : Around} {E : Value → Shared → Prop} {s : Shared} {k : Nat} {Q : Value → Shared → Prop}, A.handled = none → S k s.heap → xs[k]? = none →
    (∀ g e, Heap.ExtBut it s.heap g → (∃ o, g.get? e = some o ∧ o.cls = .type "StopIteration") → E (.ref e) { s with heap := g }) → wpAny (model prog w) A (Builtin.SmallTypes.nextOf (.ref it)) Q E s
  keep : ∀ {k : Nat} {h g : Heap}, S k h → (∀ b, b = it ∨ b = l → ∀ o, h.get? b = some o → g.get? b = some o) → S k g
/-- of a tuple -/
def St (it l : Addr) (xs : Array Value) (k : Nat) (h : Heap) : Prop := h.IsTupleIter it l k ∧ h.IsTuple l xs
theorem nx_tup (prog : Program) (w : World) {it l : Addr} {xs : Array Value} (ne : l ≠ it) : Nx prog w it l xs (St it l xs) where
  step := fun ⟨a, b⟩ hx q => RZ.nextOf_tuple_item a b hx fun g a' sb => q g ⟨a', b.at fun o e => sb.extBut _ _ ne e⟩ sb
  stop := fun hh ⟨a, b⟩ hx q => RZ.nextOf_tuple_end hh a b hx q
  keep := fun ⟨a, b⟩ k => ⟨a.at fun o e => k _ (.inl rfl) o e, b.at fun o e => k _ (.inr rfl) o e⟩
section
variable {prog : Program} {w : World} {A : Around} {E : Value → Shared → Prop} {s : Shared} {z TI TO T i1 i2 l1 l2 : Addr} {f : Bool} {ob : Obj} {k : Nat} {xs ys : Array Value} {x y : Value} {S1 S2 : Nat → Heap → Prop}
/-- a zip whose pair is still held hands out a new one -/
theorem held_next {Q : Value → Shared → Prop} (N1 : Nx prog w i1 l1 xs S1) (N2 : Nx prog w i2 l2 ys S2) (D : ZipApart z TI TO i1 i2 l1 l2) (hz : IsZipHeld s.heap z TI TO T f) (hT : s.heap.get? T = some ob)
    (hp : IsPair s.heap TI (.ref i1) (.ref i2)) (c1 : S1 k s.heap) (c2 : S2 k s.heap) (ex : xs[k]? = some x) (ey : ys[k]? = some y)
    (q : ∀ g, IsZipHeld g z TI TO T true → S1 (k + 1) g → S2 (k + 1) g → IsPair g s.heap.objs.size x y → (∀ c o, c ≠ z → c ≠ i1 → c ≠ i2 → s.heap.get? c = some o → g.get? c = some o) → Q (.ref s.heap.objs.size) { s with heap := g }) :
    wpAny (model prog w) A (Builtin.«zip.__next__» ⟨[.ref z], []⟩) (fun r t => ∃ v, r = .done (.ret v) ∧ Q v t) E s := by
  show wpAny (model prog w) A (field (.ref z) 2 >>= _) _ E s
  refine wpAny_bind (wpAny_field hz rfl (x := .bool false) rfl ?_)
  show wpAny (model prog w) A (field (.ref z) 3 >>= _) _ E s
  refine wpAny_bind (wpAny_field hz rfl (x := .ref TI) rfl (wpAny_bind (wpAny_seqItems hp rfl ?_)))
  show wpAny (model prog w) A (Builtin.SmallTypes.ownedTupleIsFree (.ref z) >>= _) _ E s
  refine wpAny_bind (wpAny_tupleHeld_zip hz hT fun ga za sa => ?_)
  simp only [Bool.false_eq_true, if_false]
  refine wpAny_bind ?_
  rw [← Array.forIn_toList]
  simp only [List.forIn_cons, List.forIn_nil]
  have c1a : S1 k ga := N1.keep c1 fun b hb o e => sa.extBut _ _ (by rcases hb with rfl | rfl; exact D.i1z; exact D.l1z) e
  have c2a : S2 k ga := N2.keep c2 fun b hb o e => sa.extBut _ _ (by rcases hb with rfl | rfl; exact D.i2z; exact D.l2z) e
  refine wpAny_bind (wpAny_bind (wpAny_holding ?_))
  show wpAny (model prog w) A (Builtin.SmallTypes.nextOf (.ref i1) >>= _) _ E { s with heap := ga }
  refine wpAny_bind (N1.step (s := { s with heap := ga }) c1a ex fun gb c1b sb => wpAny_pure (wpAny_pure ?_))
  have c2b : S2 k gb := N2.keep c2a fun b hb o e => sb.extBut _ _ (by rcases hb with rfl | rfl; exact D.i12.symm; exact D.l2i1) e
  refine wpAny_bind (wpAny_bind (wpAny_holding ?_))
  show wpAny (model prog w) A (Builtin.SmallTypes.nextOf (.ref i2) >>= _) _ E { s with heap := gb }
  refine wpAny_bind (N2.step (s := { s with heap := gb }) c2b ey fun gc c2c sc => wpAny_pure (wpAny_pure (wpAny_pure ?_)))
  have c1c : S1 (k + 1) gc := N1.keep c1b fun b hb o e => sc.extBut _ _ (by rcases hb with rfl | rfl; exact D.i12; exact D.l1i2) e
  show wpAny (model prog w) A (newTuple [x, y] >>= _) _ E { s with heap := gc }
  refine wpAny_bind (wpAny_newTuple (wpAny_pure ⟨_, rfl, ?_⟩))
  show Q (.ref gc.objs.size) _
  have sz : gc.objs.size = s.heap.objs.size := sc.1.trans (sb.1.trans sa.1)
  have zc : IsZipHeld gc z TI TO T true := sc.extBut _ _ D.i2z.symm (sb.extBut _ _ D.i1z.symm za)
  have up : ∀ c o, gc.get? c = some o → (gc.push { cls := .type "tuple", data := .seq #[x, y] }).get? c = some o := fun c o e => Heap.get?_push_of_some _ e
  have pr : IsPair (gc.push { cls := .type "tuple", data := .seq #[x, y] }) gc.objs.size x y := Heap.get?_push_size _ rfl
  have fin := q (gc.push { cls := .type "tuple", data := .seq #[x, y] }) (up _ _ zc) (N1.keep c1c fun b _ o e => up b o e) (N2.keep c2c fun b _ o e => up b o e) (by rw [← sz]; exact pr)
    fun c o n1 n2 n3 e => up _ _ (sc.extBut _ _ n3 (sb.extBut _ _ n2 (sa.extBut _ _ n1 e)))
  rw [← sz] at fin
  exact fin
/-- .. or ends -/
theorem held_end {Q : PySem.Fin → Shared → Prop} (hh : A.handled = none) (N1 : Nx prog w i1 l1 xs S1) (N2 : Nx prog w i2 l2 ys S2) (D : ZipApart z TI TO i1 i2 l1 l2) (hz : IsZipHeld s.heap z TI TO T f) (hT : s.heap.get? T = some ob)
    (hp : IsPair s.heap TI (.ref i1) (.ref i2)) (c1 : S1 k s.heap) (ex : xs[k]? = none)
    (q : ∀ g e, (∀ c o, c ≠ z → c ≠ i1 → c ≠ i2 → s.heap.get? c = some o → g.get? c = some o) → (∃ o, g.get? e = some o ∧ o.cls = .type "StopIteration") → E (.ref e) { s with heap := g }) :
    wpAny (model prog w) A (Builtin.«zip.__next__» ⟨[.ref z], []⟩) Q E s := by
  show wpAny (model prog w) A (field (.ref z) 2 >>= _) _ E s
  refine wpAny_bind (wpAny_field hz rfl (x := .bool false) rfl ?_)
  show wpAny (model prog w) A (field (.ref z) 3 >>= _) _ E s
  refine wpAny_bind (wpAny_field hz rfl (x := .ref TI) rfl (wpAny_bind (wpAny_seqItems hp rfl ?_)))
  show wpAny (model prog w) A (Builtin.SmallTypes.ownedTupleIsFree (.ref z) >>= _) _ E s
  refine wpAny_bind (wpAny_tupleHeld_zip hz hT fun ga za sa => ?_)
  simp only [Bool.false_eq_true, if_false]
  refine wpAny_bind ?_
  rw [← Array.forIn_toList]
  simp only [List.forIn_cons, List.forIn_nil]
  have c1a : S1 k ga := N1.keep c1 fun b hb o e => sa.extBut _ _ (by rcases hb with rfl | rfl; exact D.i1z; exact D.l1z) e
  refine wpAny_bind (wpAny_bind (wpAny_holding ?_))
  show wpAny (model prog w) A (Builtin.SmallTypes.nextOf (.ref i1) >>= _) _ E { s with heap := ga }
  exact wpAny_bind (N1.stop (s := { s with heap := ga }) hh c1a ex fun gb e sb he => q gb e (fun c o n1 n2 _ h => sb _ _ n2 (sa.extBut _ _ n1 h)) he)
theorem held_item {Q : Option Value → Shared → Prop} (N1 : Nx prog w i1 l1 xs S1) (N2 : Nx prog w i2 l2 ys S2) (D : ZipApart z TI TO i1 i2 l1 l2) (hz : IsZipHeld s.heap z TI TO T f) (hT : s.heap.get? T = some ob)
    (hp : IsPair s.heap TI (.ref i1) (.ref i2)) (c1 : S1 k s.heap) (c2 : S2 k s.heap) (ex : xs[k]? = some x) (ey : ys[k]? = some y)
    (q : ∀ g, IsZipHeld g z TI TO T true → S1 (k + 1) g → S2 (k + 1) g → IsPair g s.heap.objs.size x y → (∀ c o, c ≠ z → c ≠ i1 → c ≠ i2 → s.heap.get? c = some o → g.get? c = some o) → Q (some (.ref s.heap.objs.size)) { s with heap := g }) :
    wpAny (model prog w) A (pyNext (.ref z)) Q E s := by
  have ty : s.TypeIs (.ref z) "zip" := ⟨_, hz, rfl⟩
  unfold pyNext
  refine wpAny_bind (wpAny_attempt (wpAny_callSpecial?_slot (name := Str.ofString "__next__") ty F.slot_zip_next (wpAny_call_entry F.slot_zip_next ty F.entry_zip_next ?_ (F.args_zip_next_1 _))))
  exact held_next N1 N2 D hz hT hp c1 c2 ex ey fun g p1 p2 p3 p4 p5 => wpAny_pure (q g p1 p2 p3 p4 p5)
theorem held_none {Q : Option Value → Shared → Prop} (hh : A.handled = none) (N1 : Nx prog w i1 l1 xs S1) (N2 : Nx prog w i2 l2 ys S2) (D : ZipApart z TI TO i1 i2 l1 l2) (hz : IsZipHeld s.heap z TI TO T f) (hT : s.heap.get? T = some ob)
    (hp : IsPair s.heap TI (.ref i1) (.ref i2)) (c1 : S1 k s.heap) (ex : xs[k]? = none)
    (q : ∀ g, (∀ c o, c ≠ z → c ≠ i1 → c ≠ i2 → s.heap.get? c = some o → g.get? c = some o) → Q none { s with heap := g }) : wpAny (model prog w) A (pyNext (.ref z)) Q E s := by
  have ty : s.TypeIs (.ref z) "zip" := ⟨_, hz, rfl⟩
  unfold pyNext
  refine wpAny_bind (wpAny_attempt (wpAny_callSpecial?_slot (name := Str.ofString "__next__") ty F.slot_zip_next (wpAny_call_entry F.slot_zip_next ty F.entry_zip_next (held_end hh N1 N2 D hz hT hp c1 ex fun g e kp he => ?_) (F.args_zip_next_1 _))))
  obtain ⟨o, ho, hc⟩ := he
  exact wpAny_bind (wpAny_isInstance (T := "StopIteration") (b := true) ⟨o, ho, hc⟩ isSubtype_stop (wpAny_pure (q _ kp)))
/-- what stands while the pairs of two tuples of one length are drawn -/
def ZSt (z TI TO i1 i2 l1 l2 d : Addr) (xs ys : Array Value) (i : Nat) (h : Heap) : Prop := IsPair h TI (.ref i1) (.ref i2) ∧ St i1 l1 xs i h ∧ St i2 l2 ys i h ∧
  ((IsZip h z TI TO .none ∧ ∃ a b, IsPair h TO a b) ∨ ∃ T f ob, IsZipHeld h z TI TO T f ∧ h.get? T = some ob ∧ T ≠ z ∧ T ≠ i1 ∧ T ≠ i2 ∧ T ≠ d)
theorem zip_src {d : Addr} (hh : A.handled = none) (D : ZipApart z TI TO i1 i2 l1 l2) (hl : xs.size = ys.size) (nd : d ≠ z ∧ d ≠ TI ∧ d ≠ TO ∧ d ≠ i1 ∧ d ≠ i2 ∧ d ≠ l1 ∧ d ≠ l2) :
    PairSrc prog w A z d [z, TO, i1, i2] xs.size (fun i a b => xs[i]? = some a ∧ ys[i]? = some b) (ZSt z TI TO i1 i2 l1 l2 d xs ys) := by
  obtain ⟨dz, dTI, dTO, di1, di2, dl1, dl2⟩ := nd
  have M1 := nx_tup prog w (it := i1) (l := l1) (xs := xs) D.l1i1
  have M2 := nx_tup prog w (it := i2) (l := l2) (xs := ys) D.l2i2
  refine ⟨by simp [dz, dTO, di1, di2], ?_, ?_, ?_⟩
  · rintro i h g ⟨hp, c1, c2, hz⟩ kp
    refine ⟨kp _ _ dTI.symm hp, M1.keep c1 fun b hb o e => kp _ _ (by rcases hb with rfl | rfl; exact di1.symm; exact dl1.symm) e, M2.keep c2 fun b hb o e => kp _ _ (by rcases hb with rfl | rfl; exact di2.symm; exact dl2.symm) e, ?_⟩
    rcases hz with ⟨hz, a, b, hTO⟩ | ⟨T, f, ob, hz, hT, r1, r2, r3, r4⟩
    · exact .inl ⟨kp _ _ dz.symm hz, a, b, kp _ _ dTO.symm hTO⟩
    · exact .inr ⟨T, f, ob, kp _ _ dz.symm hz, kp _ _ r4 hT, r1, r2, r3, r4⟩
  · rintro i s Q E hi ⟨hp, c1, c2, hz⟩ hds q
    have ex := Array.getElem?_eq_getElem hi
    have ey := Array.getElem?_eq_getElem (hl ▸ hi : i < ys.size)
    have new : ∀ {c o}, s.heap.get? c = some o → s.heap.objs.size ≠ c := fun e => Nat.ne_of_gt (Heap.lt_size e)
    have n1 : s.heap.objs.size ≠ i1 := let ⟨_, e, _⟩ := c1.1; new e
    have n2 : s.heap.objs.size ≠ i2 := let ⟨_, e, _⟩ := c2.1; new e
    have out : ∀ {c : Addr}, c ∉ [z, TO, i1, i2] → c ≠ z ∧ c ≠ TO ∧ c ≠ i1 ∧ c ≠ i2 := fun h => by simpa using h
    rcases hz with ⟨hz, a, b, hTO⟩ | ⟨T, f, ob, hz, hT, r1, r2, r3, r4⟩
    · refine RZ.pyNext_zipT_item D hz hp hTO c1.1 c2.1 c1.2 c2.2 ex ey fun g z1 z2 z3 z4 z5 z6 kp => ?_
      refine q _ _ _ g s.toks ⟨ex, ey⟩ (.inl ⟨_, z5, rfl, _, rfl⟩) ⟨kp _ _ D.TIz D.TITO D.TIi1 D.TIi2 hp, ⟨z3, c1.2.at fun o e => kp _ _ D.l1z D.l1TO D.l1i1 D.l1i2 e⟩, ⟨z4, c2.2.at fun o e => kp _ _ D.l2z D.l2TO D.l2i1 D.l2i2 e⟩, .inr ⟨_, false, _, z1, z5, new hz, n1, n2, Nat.ne_of_gt hds⟩⟩ fun c o hc e => ?_
      obtain ⟨o1, o2, o3, o4⟩ := out hc
      exact kp _ _ o1 o2 o3 o4 e
    · refine held_item M1 M2 D hz hT hp c1 c2 ex ey fun g z1 z2 z3 z4 kp => ?_
      refine q _ _ _ g s.toks ⟨ex, ey⟩ (.inl ⟨_, z4, rfl, _, rfl⟩) ⟨kp _ _ D.TIz D.TIi1 D.TIi2 hp, z2, z3, .inr ⟨T, true, ob, z1, kp _ _ r1 r2 r3 hT, r1, r2, r3, r4⟩⟩ fun c o hc e => ?_
      obtain ⟨o1, o2, o3, o4⟩ := out hc
      exact kp _ _ o1 o3 o4 e
  · rintro s Q E ⟨hp, c1, c2, hz⟩ q
    have ex : xs[xs.size]? = none := Array.getElem?_eq_none (Nat.le_refl _)
    have out : ∀ {c : Addr}, c ∉ [z, TO, i1, i2] → c ≠ z ∧ c ≠ TO ∧ c ≠ i1 ∧ c ≠ i2 := fun h => by simpa using h
    rcases hz with ⟨hz, a, b, hTO⟩ | ⟨T, f, ob, hz, hT, r1, r2, r3, r4⟩
    · refine RZ.pyNext_zipT_end hh D hz hp hTO c1.1 c2.1 c1.2 c2.2 (.inl ex) fun g kp => q g s.toks fun c o hc e => ?_
      obtain ⟨o1, o2, o3, o4⟩ := out hc
      exact kp _ _ o1 o2 o3 o4 e
    · refine held_none hh M1 M2 D hz hT hp c1 ex fun g kp => q g s.toks fun c o hc e => ?_
      obtain ⟨o1, o2, o3, o4⟩ := out hc
      exact kp _ _ o1 o3 o4 e
theorem zip_arg (D : ZipApart z TI TO i1 i2 l1 l2) (hl : xs.size = ys.size) : PairArg prog w "zip" z [z, TI, TO, i1, i2, l1, l2] [z, TO, i1, i2] xs.size (fun i a b => xs[i]? = some a ∧ ys[i]? = some b)
    (fun h => IsZip h z TI TO .none ∧ IsPair h TI (.ref i1) (.ref i2) ∧ (∃ a b, IsPair h TO a b) ∧ St i1 l1 xs 0 h ∧ St i2 l2 ys 0 h) where
  type := fun s ok => ⟨_, ok.1, rfl⟩
  notDict := by decide
  keep := fun h g ⟨p1, p2, ⟨a, b, p3⟩, p4, p5⟩ kp => ⟨kp _ _ p1, kp _ _ p2, ⟨a, b, kp _ _ p3⟩, (nx_tup prog w D.l1i1).keep p4 fun b _ o e => kp b o e, (nx_tup prog w D.l2i2).keep p5 fun b _ o e => kp b o e⟩
  there := fun h ⟨p1, p2, ⟨a, c, p3⟩, ⟨⟨_, q1, _⟩, ⟨_, q2, _⟩⟩, ⟨⟨_, q3, _⟩, ⟨_, q4, _⟩⟩⟩ b hb => by
    simp only [List.mem_cons, List.not_mem_nil, or_false] at hb
    rcases hb with rfl | rfl | rfl | rfl | rfl | rfl | rfl
    · exact ⟨_, p1⟩
    · exact ⟨_, p2⟩
    · exact ⟨_, p3⟩
    · exact ⟨_, q1⟩
    · exact ⟨_, q3⟩
    · exact ⟨_, q2⟩
    · exact ⟨_, q4⟩
  sub := fun b hb => by
    simp only [List.mem_cons, List.not_mem_nil, or_false] at hb ⊢
    rcases hb with rfl | rfl | rfl | rfl <;> simp
  noKeys := fun A s Q E hA ok q => getAttrOr_miss_zip ok.1 rfl rfl rfl zip_no_keys (by decide +kernel) hA q
  iter := fun A s d Q E hA ⟨p1, p2, p3, p4, p5⟩ hd nd q => by
    simp only [List.mem_cons, List.not_mem_nil, or_false, not_or] at nd
    exact wpAny_pyIter_zip p1 (q z _ _ s.heap s.toks (zip_src hA D hl nd) ⟨p2, p4, p5, .inl ⟨p1, p3⟩⟩ (fun _ _ e => e) fun b hb => .inl hb)
end
/-- dict(zip(t, u)) -/
def kDZ (K : PySem.W.Frag) (Q : VK) : List V → Hp → Prop := fun vs H1 => ∃ (a b : Addr) (ks : List Key) (ys : List V), vs = [.ref a, .ref b] ∧ SqT K H1 a (ks.map kV) ∧ SqT K H1 b ys ∧ ks.length = ys.length ∧ ks.length ≤ 1000 ∧
  ∀ q, H1 q = none → Q (.ref q) (upd H1 q (.dK (mergeK [] (ks.zip ys))))
def tDZ (K : PySem.W.Frag) (ta : TA) : TE := fun σ H Q => ta σ H (kDZ K Q)
theorem keys_is : ∀ {ks : List Key} {us : List Value}, Vals (ks.map kV) us → ∀ {i : Nat} {u : Value}, us[i]? = some u → ∃ k, ks[i]? = some k ∧ keyIs k u = true
  | [], _, .nil, i, u, h => by simp at h
  | k :: ks, _, .cons r rr, 0, u, h => by
    have e := Option.some.inj h
    subst e
    refine ⟨k, rfl, ?_⟩
    cases k with
    | inl i =>
      obtain ⟨t, rfl⟩ := (show ∃ t, _ = Value.int i t from r)
      exact keyIs_int i t
    | inr x =>
      obtain ⟨t, rfl⟩ := (show ∃ t, _ = Value.str x t from r)
      exact keyIs_str x t
  | _ :: ks, _, .cons r rr, i + 1, u, h => keys_is (ks := ks) rr (i := i) h
theorem kv_zip : ∀ {ks : List Key} {ys : List V} {us : List Value}, Vals ys us → KV (ks.zip ys) (ks.zip us)
  | [], _, _, _ => .nil
  | _ :: _, _, _, .nil => .nil
  | k :: ks, _, _, .cons r rr => .cons ⟨rfl, r⟩ (kv_zip rr)
section
variable {X : Cx} {K : PySem.W.Frag} {a b : Expr} {ta : TA} {p p2 pos pos2 : Pos}
theorem pe_dictZip (hK : X.K = K) (hc : X.calm = true) (hd : Gl X "dict") (md : X.mg "dict" = none) (hz : Gl X "zip") (mz : X.mg "zip" = none) (ha : PA X [a, b] ta)
    (hs : starEach [a, b] X.env = (false, eval a X.env) :: starEach [b] X.env := by rfl) (hpl : (backTo pos2 (starEach [b] X.env)).any (·.1) = false := by rfl)
    (na : starEach [.Call (.Name "zip" p2) [a, b] [] pos2] X.env = (false, eval (.Call (.Name "zip" p2) [a, b] [] pos2) X.env) :: starEach [] X.env := by rfl) :
    PE X (.Call (.Name "dict" p) [.Call (.Name "zip" p2) [a, b] [] pos2] [] pos) (tDZ K ta) := by
  subst hK
  refine ⟨fun pins s σ H Q I h => ?_⟩
  have inner : wpAny (model X.prog X.w) X.A (eval (.Call (.Name "zip" p2) [a, b] [] pos2) X.env)
      (fun v t => ∃ (s1 : Shared) (H1 : Hp) (g : Heap) (l1 l2 : Addr) (ks : List Key) (ys : List V) (xa ya : List Value), Inv X pins σ H1 s1 ∧ t = { s1 with heap := g } ∧ v = .ref (s1.heap.objs.size + 4) ∧
        Vals (ks.map kV) xa ∧ Vals ys ya ∧ ks.length = ys.length ∧ ks.length ≤ 1000 ∧ (∀ q, H1 q = none → Q (.ref q) (upd H1 q (.dK (mergeK [] (ks.zip ys))))) ∧ l1 < s1.heap.objs.size ∧ l2 < s1.heap.objs.size ∧
        (∀ c o, s1.heap.get? c = some o → g.get? c = some o) ∧ g.objs.size = s1.heap.objs.size + 5 ∧ IsZip g (s1.heap.objs.size + 4) (s1.heap.objs.size + 2) (s1.heap.objs.size + 3) .none ∧
        IsPair g (s1.heap.objs.size + 2) (.ref s1.heap.objs.size) (.ref (s1.heap.objs.size + 1)) ∧ IsPair g (s1.heap.objs.size + 3) .none .none ∧
        St s1.heap.objs.size l1 xa.toArray 0 g ∧ St (s1.heap.objs.size + 1) l2 ya.toArray 0 g) X.xe s := by
    refine Call_ (ld_blt I hz mz PyProof.Rows.boot_zip (PyProof.Rows.callWith_type1 (thn (ha.run pos2 pins s σ H _ I h) ?_) hs hpl))
    rintro us s1 ⟨vs, H1, I1, r1, l1, l2, ks, ys, ev, t1, t2, el, e1000, q⟩
    subst ev
    match us, r1 with
    | _, .cons r (.cons r' .nil) =>
      obtain rfl := (show _ = Value.ref l1 from r)
      obtain rfl := (show _ = Value.ref l2 from r')
      obtain ⟨xa, rv, p1, _⟩ := I1.tuple t1
      obtain ⟨ya, rv2, p2, _⟩ := I1.tuple t2
      have q1 : s1.heap.IsTuple l1 xa.toArray := p1
      have q2 : s1.heap.IsTuple l2 ya.toArray := p2
      obtain ⟨o1, ho1, _⟩ := id q1
      obtain ⟨o2, ho2, _⟩ := id q2
      refine RZ.call_zipT q1 q2 fun g z1 z2 z3 z4 z5 z6 kp => ?_
      exact ⟨s1, H1, g, l1, l2, ks, ys, xa, ya, I1, rfl, rfl, rv, rv2, el, e1000, q, Heap.lt_size ho1, Heap.lt_size ho2, kp, z6, z1, z2, z3, ⟨z4, q1.at fun o e => kp _ _ e⟩, ⟨z5, q2.at fun o e => kp _ _ e⟩⟩
  refine Call_ (ld_blt I hd md PyProof.Rows.boot_dict (PyProof.Rows.callWith_type1 (args_cons (thn inner ?_) na) na))
  rintro v t ⟨s1, H1, g, l1, l2, ks, ys, xa, ya, I1, rfl, rfl, rv, rv2, el, e1000, q, lt1, lt2, kp, sz, z1, z2, z3, c1, c2⟩
  refine args_nil ?_
  have lx : xa.length = ks.length := by rw [← rv.length, List.length_map]
  have ly : ya.length = ks.length := by rw [← rv2.length, el]
  have D := PySem.W.ktu_apart s1.heap.objs.size l1 l2 lt1 lt2
  refine PySem.call_dict_pairs (knd := mixKind X.prog X.w) (kvs := ks.zip ya) (s := { s1 with heap := g }) (zip_arg D (by simp [lx, ly])) (I1.ok.hd hc) ⟨z1, z2, ⟨_, _, z3⟩, c1, c2⟩ ⟨?_, ?_⟩ (by simp [lx]; exact sz5 (by omega)) fun g2 tk dct kp2 => ?_
  · simp [lx, ly]
  · rintro i key v ⟨e1, e2⟩
    rw [List.getElem?_toArray] at e1 e2
    obtain ⟨k, hk, kis⟩ := keys_is rv e1
    exact ⟨k, by rw [List.getElem?_zip_eq_some]; exact ⟨hk, e2⟩, kis⟩
  · have sg : g.objs.size = s1.heap.objs.size + 5 := sz
    have big : s1.heap.objs.size ≤ g.objs.size := by omega
    have hm : (g.objs.size == sysModules) = false := beq_eq_false_iff_ne.mpr (Nat.ne_of_gt (Nat.lt_of_lt_of_le I1.big big))
    have hlen : (mergeK [] (ks.zip ys)).length ≤ sizeLine := by
      refine Nat.le_trans (length_mergeK _ []) ?_
      rw [List.length_nil, List.length_zip]
      exact sz5 (by omega)
    have kpt : ∀ c o, s1.heap.get? c = some o → g2.get? c = some o := fun c o e => by
      have hlt := Heap.lt_size e
      refine kp2 c o (fun hm => ?_) (kp _ _ e)
      simp only [List.mem_cons, List.not_mem_nil, or_false] at hm
      rcases hm with z | z | z | z
      · exact absurd (z ▸ hlt) (Nat.not_lt.mpr (Nat.le_add_right _ _))
      · exact absurd (z ▸ hlt) (Nat.not_lt.mpr (Nat.le_add_right _ _))
      · exact absurd (z ▸ hlt) (Nat.lt_irrefl _)
      · exact absurd (z ▸ hlt) (Nat.not_lt.mpr (Nat.le_add_right _ _))
    exact ⟨.ref g.objs.size, upd H1 g.objs.size (.dK (mergeK [] (ks.zip ys))), I1.laid (t' := tk) kpt big (show ObjOk X.prog X.w _ _ _ (.dK (mergeK [] (ks.zip ys))) from ⟨hlen, hm, merged [] (ks.zip ya), KV.merge (kv_zip rv2) .nil, dct⟩), rfl, q _ (I1.hok.fresh big)⟩
theorem r_dz {σ : L2.St} {H : Hp} {Q : VK} (q : ta σ H (kDZ K Q)) : tDZ K ta σ H Q := q
theorem r_kDZ {H : Hp} {Q : VK} {a b : Addr} {ks : List Key} {ys : List V} (h1 : SqT K H a (ks.map kV)) (h2 : SqT K H b ys) (hl : ks.length = ys.length) (hz : ks.length ≤ 1000) (nd : ks.Nodup)
    (q : ∀ p H', H p = none → Same H H' → H' p = some (.dK (ks.zip ys)) → Q (.ref p) H') : kDZ K Q [.ref a, .ref b] H := by
  refine ⟨a, b, ks, ys, rfl, h1, h2, hl, hz, fun p hp => ?_⟩
  have e : mergeK [] (ks.zip ys) = ks.zip ys := mergeK_nil (by
    rw [List.map_fst_zip (by omega)]
    exact nd)
  rw [e]
  exact q p _ hp (Same.new hp) upd_same
end
end Wp
set_option Elab.async false
set_option linter.all false
set_option maxRecDepth 100000
set_option maxHeartbeats 4000000
/-! Lists of texts: what is in them. -/
namespace Wp
open PySem PySem.Spec PyProof.Rows L2
section
variable {X : Cx} {K : PySem.W.Frag} {H : Hp} {Q : VK} {p : Addr} {z : Str}
theorem flat_strs : ∀ xs : List Str, (xs.map V.str).all flatV = true
  | [] => rfl
  | _ :: r => by rw [List.map_cons, List.all_cons, flat_strs r]; rfl
theorem in_strs (x : Str) : ∀ xs : List Str, inV (.str x) (xs.map V.str) = decide (x ∈ xs)
  | [] => by simp [inV]
  | y :: r => by
    have ih := in_strs x r
    unfold inV at ih ⊢
    rw [List.map_cons, List.any_cons, ih]
    have e : eqV (.str y) (.str x) = decide (y = x) := rfl
    rw [e]
    by_cases h : y = x
    · simp [h]
    · have h' : ¬ x = y := fun z => h z.symm
      simp [h, h']
theorem r_notInS {x : Str} {xs : List Str} (h : SqL K H p (xs.map V.str)) (q : Q (.bl (!decide (x ∈ xs))) H) : rIn K true (.str x) (.ref p) H Q :=
  ⟨p, xs.map V.str, rfl, .inl h, rfl, flat_strs xs, by rw [in_strs]; exact q⟩
theorem r_inS {x : Str} {xs : List Str} (h : SqL K H p (xs.map V.str)) (q : Q (.bl (decide (x ∈ xs))) H) : rIn K false (.str x) (.ref p) H Q :=
  ⟨p, xs.map V.str, rfl, .inl h, rfl, flat_strs xs, by rw [in_strs]; exact q⟩
theorem strs_get {xs : List Str} {i : Nat} {x : V} (h : (xs.map V.str)[i]? = some x) : ∃ s, x = .str s ∧ xs[i]? = some s := by
  rw [List.getElem?_map] at h
  obtain ⟨s, hs, rfl⟩ := Option.map_eq_some_iff.mp h
  exact ⟨s, rfl, hs⟩
end
end Wp
set_option Elab.async false
set_option linter.all false
set_option maxRecDepth 100000
set_option maxHeartbeats 4000000
/-! Methods by their names; texts in tuples; sorted, list and dict of a dict; xs[::-1]; stars. -/
namespace Wp
open PySem PySem.Spec PyProof.Rows L2
/-- a method that keeps the promise -/
structure Dm (P : Program) (w : World) (K : PySem.W.Frag) (mg : Str → Option Value) (base : Heap) (CX : CXT) (k : Nat) (C : Addr) (m : Str) (sp : Sp) : Prop where
  ex : ∃ (f : Addr) (fd : FuncData) (ps : List Str), Meth K C m f ∧ FnOk P w K mg base CX k f fd ps sp ∧ Binds K fd ps []
  cl : Cls K C
def kMeth (C : Addr) (m : Str) (sp : Sp) (E : XK) (t : TA) (σ : L2.St) (Q : VK) : VK := fun x H1 => ∃ a dx fs, x = .ref a ∧ H1 a = some (.ins C dx fs) ∧ fs.lookup m = none ∧ t σ H1 fun vs H2 => sp (x :: (vs ++ [])) H2 Q E
section
variable {X : Cx} {CX : CXT} {k : Nat} {C a dx : Addr} {m : Str} {sp : Sp} {E : XK} {o e : Expr} {es : List Expr} {apos pos : Pos} {ta : TE} {t : TA} {fs : List (Str × V)}
theorem pe_mt {pl : Sem Bool} (D : Dm X.prog X.w X.K X.mg X.base CX k C m sp) (hr : Room k X.A) (hx : Passes CX X E) (ho : PE X o ta) (ha : PA X (e :: es) t)
    (hst : starEach (e :: es) X.env = (false, eval e X.env) :: starEach es X.env := by rfl) (hpl : (backTo pos (starEach es X.env)).any (·.1) = false := by rfl)
    (ht : eval (.Call (.Attribute o m apos) (e :: es) [] pos) X.env = (do
      let ov ← eval o X.env
      standAt apos.atName
      let (f, first) ← holding [ov] (getMethod ov m pl)
      callWith pos f first (backTo pos (starEach (e :: es) X.env)) (backToKw pos (keywordEach [] X.env))) := by rfl) :
    PE X (.Call (.Attribute o m apos) (e :: es) [] pos) (tMeth C m sp [] E ta t) := by
  obtain ⟨f, fd, ps, h1, h2, h3⟩ := D.ex
  exact pe_meth ho D.cl h1 h2 hr h3 .nil hx ha hst hpl ht
theorem pe_mt0 {pl : Sem Bool} (D : Dm X.prog X.w X.K X.mg X.base CX k C m sp) (hr : Room k X.A) (hx : Passes CX X E) (ho : PE X o ta)
    (ht : eval (.Call (.Attribute o m apos) [] [] pos) X.env = (do
      let ov ← eval o X.env
      standAt apos.atName
      let (f, first) ← holding [ov] (getMethod ov m pl)
      callWith pos f first (backTo pos (starEach [] X.env)) (backToKw pos (keywordEach [] X.env))) := by rfl) :
    PE X (.Call (.Attribute o m apos) [] [] pos) (tMeth C m sp [] E ta tNil) := by
  obtain ⟨f, fd, ps, h1, h2, h3⟩ := D.ex
  exact pe_meth0 ho D.cl h1 h2 hr h3 .nil hx ht
theorem r_meth {σ : L2.St} {H : Hp} {Q : VK} (q : ta σ H (kMeth C m sp E t σ Q)) : tMeth C m sp [] E ta t σ H Q := q
theorem r_kMeth {σ : L2.St} {H : Hp} {Q : VK} (h : H a = some (.ins C dx fs)) (l : fs.lookup m = none) (q : t σ H fun vs H2 => sp (.ref a :: vs) H2 Q E) : kMeth C m sp E t σ Q (.ref a) H := by
  refine ⟨a, dx, fs, rfl, h, l, ?_⟩
  have e : (fun (vs : List V) (H2 : Hp) => sp (.ref a :: (vs ++ [])) H2 Q E) = fun vs H2 => sp (.ref a :: vs) H2 Q E := by
    funext vs H2
    rw [List.append_nil]
  rw [e]
  exact q
end
section
variable {K : PySem.W.Frag} {H : Hp} {Q : VK} {p q : Addr} {x : Str} {xs ys : List Str} {kvs : List (Key × V)}
theorem r_notInTS (h : SqT K H p (xs.map V.str)) (k : Q (.bl (!decide (x ∈ xs))) H) : rIn K true (.str x) (.ref p) H Q := by
  refine ⟨p, _, rfl, .inr h, rfl, flat_strs xs, ?_⟩
  rw [in_strs]
  exact k
theorem r_inTS (h : SqT K H p (xs.map V.str)) (k : Q (.bl (decide (x ∈ xs))) H) : rIn K false (.str x) (.ref p) H Q := by
  refine ⟨p, _, rfl, .inr h, rfl, flat_strs xs, ?_⟩
  rw [in_strs]
  exact k
/-! sorted, list, dict of a dict -/
def rSortedD : List V → Hp → VK → Prop := fun vs H Q => ∃ (a : Addr) (kvs : List (Key × V)) (ks : List Str), vs = [.ref a] ∧ Rd H a (.dK kvs) ∧ kvs.map (·.1) = ks.map Sum.inr ∧ ks.length < 64 ∧
  ∀ ys p, ys.Perm ks → sortedS ys = true → H p = none → Q (.ref p) (upd H p (.lst (ys.map V.str)))
theorem c_sortedD {X : Cx} (hc : X.calm = true) : CallR X (.builtin "sorted") rSortedD := call_sortedD hc
theorem r_sortedD {ks : List Str} (h : H p = some (.dK kvs)) (e : kvs.map (·.1) = ks.map Sum.inr) (hl : ks.length < 64) (k : ∀ ys q H', ys.Perm ks → sortedS ys = true → H q = none → Same H H' → H' q = some (.lst (ys.map V.str)) → Q (.ref q) H') : rSortedD [.ref p] H Q :=
  ⟨p, kvs, ks, rfl, .inl h, e, hl, fun ys q h1 h2 hq => k ys q _ h1 h2 hq (Same.new hq) upd_same⟩
def rListD' : List V → Hp → VK → Prop := fun vs H Q => ∃ (a : Addr) (kvs : List (Key × V)), vs = [.ref a] ∧ Rd H a (.dK kvs) ∧ ∀ p, H p = none → Q (.ref p) (upd H p (.lst (kvs.map fun kv => kV kv.1)))
theorem c_listD {X : Cx} (hc : X.calm = true) : CallR X (.type "list") rListD' := call_listD hc
theorem r_listD (h : H p = some (.dK kvs)) (k : ∀ q H', H q = none → Same H H' → H' q = some (.lst (kvs.map fun kv => kV kv.1)) → Q (.ref q) H') : rListD' [.ref p] H Q :=
  ⟨p, kvs, rfl, .inl h, fun q hq => k q _ hq (Same.new hq) upd_same⟩
def rDictD' : List V → Hp → VK → Prop := fun vs H Q => ∃ (a : Addr) (kvs : List (Key × V)), vs = [.ref a] ∧ Rd H a (.dK kvs) ∧ ∀ p, H p = none → Q (.ref p) (upd H p (.dK kvs))
theorem c_dictD {X : Cx} : CallR X (.type "dict") rDictD' := call_dictD
theorem r_dictD (h : H p = some (.dK kvs)) (k : ∀ q H', H q = none → Same H H' → H' q = some (.dK kvs) → Q (.ref q) H') : rDictD' [.ref p] H Q :=
  ⟨p, kvs, rfl, .inl h, fun q hq => k q _ hq (Same.new hq) upd_same⟩
theorem r_sumT {zs : List Int} (h : SqT K H p (zs.map V.int)) (k : Q (.int zs.sum) H) : rSumT K [.ref p] H Q := ⟨p, zs, rfl, h, k⟩
end
section
variable {X : Cx} {K : PySem.W.Frag} {H : Hp} {Q : VK} {a : Addr} {xs : List V} {σ : L2.St} {te : TE} {tr : TA}
/-! xs[::-1] -/
def kRevL (K : PySem.W.Frag) (Q : VK) : VK := fun x H1 => ∃ a xs, x = .ref a ∧ SqL K H1 a xs ∧ ∀ p, H1 p = none → Q (.ref p) (upd H1 p (.lst xs.reverse))
theorem pe_revLK {e : Expr} {k : Nat} {p1 p2 p3 pos : Pos} (h : X.K = K) (he : PE X e te) : PE X (.Subscript e (.Slice none none (some (.UnaryOp .USub (.Constant (.int 1) k p1) p2)) p3) pos) (tRevL K te) := by
  subst h
  exact pe_revL he
theorem r_revL (q : te σ H (kRevL K Q)) : tRevL K te σ H Q := q
theorem r_kRevL (h : SqL K H a xs) (q : ∀ p H', H p = none → Same H H' → H' p = some (.lst xs.reverse) → Q (.ref p) H') : kRevL K Q (.ref a) H := ⟨a, xs, rfl, h, fun p hp => q p _ hp (Same.new hp) upd_same⟩
/-! stars -/
def kStar (K : PySem.W.Frag) (t : TA) (σ : L2.St) (QA : List V → Hp → Prop) : VK := fun x H1 => ∃ p xs, x = V.ref p ∧ (SqT K H1 p xs ∨ SqL K H1 p xs) ∧ t σ H1 fun ys H2 => QA (xs ++ ys) H2
theorem pa_starK {e : Expr} {es : List Expr} {p : Pos} (h : X.K = K) (he : PE X e te) (hr : PA X es tr) (hs : starEach (.Starred e p :: es) X.env = (true, eval e X.env) :: starEach es X.env := by rfl) : PA X (.Starred e p :: es) (StX.tStar K te tr) := by
  subst h
  exact StX.pa_star he hr hs
theorem r_star {QA : List V → Hp → Prop} (q : te σ H (kStar K tr σ QA)) : StX.tStar K te tr σ H QA := q
theorem r_kStarL {QA : List V → Hp → Prop} (h : SqL K H a xs) (q : tr σ H fun ys H2 => QA (xs ++ ys) H2) : kStar K tr σ QA (.ref a) H := ⟨a, xs, rfl, .inr h, q⟩
theorem r_kStarT {QA : List V → Hp → Prop} (h : SqT K H a xs) (q : tr σ H fun ys H2 => QA (xs ++ ys) H2) : kStar K tr σ QA (.ref a) H := ⟨a, xs, rfl, .inl h, q⟩
end
/-! == of texts and of tuples of ints -/
section
variable {K : PySem.W.Frag} {H : Hp} {Q : VK} {p q : Addr}
theorem dp_strs : ∀ ns : List Str, DpAll K H (ns.map V.str) (ns.map PyData.str)
  | [] => .nil
  | n :: r => .cons (.str n) (dp_strs r)
theorem r_eqTI {as bs : List Int} (h1 : SqT K H p (as.map V.int)) (h2 : SqT K H q (bs.map V.int)) (k : Q (.bl (decide (as = bs))) H) : rEqD K (.ref p) (.ref q) H Q := by
  have shp : ∀ ns : List Int, SeqAt.shaped (.tuple (ns.map PyData.int)) = true := fun ns => by
    show (PyData.canLayAll0 (ns.map PyData.int) && decide (PyData.depthAll (ns.map PyData.int) + 1 ≤ 64)) = true
    rw [lay_ints, dep_ints]
    rfl
  refine ⟨.tuple (as.map .int), .tuple (bs.map .int), .tup h1 (dp_ints as), .tup h2 (dp_ints bs), shp as, shp bs, ?_⟩
  show Q (.bl (PyData.eqvAll (as.map PyData.int) (bs.map PyData.int))) H
  rw [eqv_ints]
  exact k
end
end Wp
set_option linter.all false
/-! Names: one to eight small letters (plain Lean). -/
namespace Wp
open PySem PyProof.Rows L2
def Low (s : Str) : Prop := ∀ c ∈ s.cps.toList, 97 ≤ c ∧ c ≤ 122
structure NameOk (s : Str) : Prop where
  lo : 1 ≤ s.length
  hi : s.length ≤ 8
  low : Low s
def abc : Str := "abcdefghijklmnopqrstuvwxyz"
def pool : List Str := ["a", "b", "buy", "pay", "cash", "end", "free", "day", "laid", "zzzzzzzz", "rate", "statement"]
theorem abc_list : abc.cps.toList = [97, 98, 99, 100, 101, 102, 103, 104, 105, 106, 107, 108, 109, 110, 111, 112, 113, 114, 115, 116, 117, 118, 119, 120, 121, 122] := by decide +kernel
theorem abc_mem {c : Nat} : c ∈ abc.cps.toList ↔ 97 ≤ c ∧ c ≤ 122 := by
  rw [abc_list]
  simp only [List.mem_cons, List.not_mem_nil, or_false]
  omega
theorem abc_len : abc.length = 26 := by decide +kernel
theorem abc_at {i : Nat} {c : Nat} (h : abc.cps.toList[i]? = some c) : 97 ≤ c ∧ c ≤ 122 := abc_mem.mp (List.mem_of_getElem? h)
theorem split_pool : Txt.split "a b buy pay cash end free day laid zzzzzzzz rate statement" " " = pool := by decide +kernel
def lowB (s : Str) : Bool := decide (1 ≤ s.length) && s.cps.toList.all fun c => decide (97 ≤ c) && decide (c ≤ 122)
theorem lowB_ok {s : Str} (h : lowB s = true) : 1 ≤ s.length ∧ Low s := by
  simp only [lowB, Bool.and_eq_true, decide_eq_true_eq, List.all_eq_true] at h
  exact ⟨h.1, fun c hc => h.2 c hc⟩
theorem pool_ok : ∀ s ∈ pool, lowB s = true := by decide +kernel
theorem pool_len : ∀ s ∈ pool, s.length ≤ 9 := by decide +kernel
theorem cut_list (z : Str) (k : Nat) : (cutS z none (some (k : Int))).cps.toList = z.cps.toList.take k := by
  have h : z.length = z.cps.toList.length := by simp [Str.length]
  have e : HT.sIx z.length z.length (some (k : Int)) = min k z.length := by
    unfold HT.sIx
    simp only
    split <;> omega
  unfold cutS
  rw [e]
  have e0 : HT.sIx z.length 0 none = 0 := rfl
  rw [e0, List.drop_zero, Nat.sub_zero, List.toList_toArray, h, ← List.take_eq_take_min]
theorem cut_len (z : Str) (k : Nat) : (cutS z none (some (k : Int))).length = min k z.length := by
  have h : ∀ s : Str, s.length = s.cps.toList.length := fun s => by simp [Str.length]
  rw [h, cut_list, List.length_take, ← h]
theorem cut_low {z : Str} (k : Nat) (h : Low z) : Low (cutS z none (some (k : Int))) := fun c hc => by
  rw [cut_list] at hc
  exact h c (List.mem_of_mem_take hc)
theorem cut8 {z : Str} (h : 1 ≤ z.length) (hl : Low z) : NameOk (cutS z none (some 8)) :=
  have e : (cutS z none (some 8)).length = min 8 z.length := cut_len z 8
  ⟨by omega, by omega, cut_low 8 hl⟩
/-- the label's first seven signs and a letter -/
def near (z : Str) (c : Nat) : Str := cutS z none (some 7) ++ ⟨#[c]⟩
theorem near_list (z : Str) (c : Nat) : (near z c).cps.toList = z.cps.toList.take 7 ++ [c] := by
  unfold near
  rw [Str.cps_append, Array.toList_append, show (cutS z none (some 7)).cps.toList = z.cps.toList.take 7 from cut_list z 7]
theorem near_inj {z : Str} {c d : Nat} (h : near z c = near z d) : c = d := by
  have e := congrArg (fun s : Str => s.cps.toList) h
  simp only [near_list] at e
  have := List.append_cancel_left e
  simpa using this
theorem near_ok {z : Str} {c : Nat} (hl : Low z) (hc : 97 ≤ c ∧ c ≤ 122) : NameOk (near z c) := by
  have h : (near z c).length = (z.cps.toList.take 7).length + 1 := by
    have : (near z c).length = (near z c).cps.toList.length := by simp [Str.length]
    rw [this, near_list, List.length_append]
    rfl
  rw [List.length_take] at h
  refine ⟨by omega, by omega, fun d hd => ?_⟩
  rw [near_list] at hd
  rcases List.mem_append.mp hd with hd | hd
  · exact hl d (List.mem_of_mem_take hd)
  · rw [List.mem_singleton.mp hd]
    exact hc
theorem nodup_le {α : Type} [DecidableEq α] : ∀ {xs ys : List α}, xs.Nodup → (∀ x ∈ xs, x ∈ ys) → xs.length ≤ ys.length
  | [], _, _, _ => Nat.zero_le _
  | x :: xs, ys, hn, hs => by
    have hx := hs x (List.mem_cons_self ..)
    have h1 := (List.nodup_cons.mp hn).1
    have h2 := nodup_le (xs := xs) (ys := ys.erase x) (List.nodup_cons.mp hn).2 fun y hy => by
      refine (List.mem_erase_of_ne ?_).mpr (hs y (List.mem_cons_of_mem _ hy))
      rintro rfl
      exact h1 hy
    rw [List.length_erase_of_mem hx] at h2
    have : 0 < ys.length := List.length_pos_of_mem hx
    simp only [List.length_cons]
    omega
/-- one of the twenty-six is new -/
theorem near_new {z : Str} {found : List Str} (h : found.length < 26) : ∃ c, c ∈ abc.cps.toList ∧ near z c ∉ found := by
  by_cases hc : ∃ c, c ∈ abc.cps.toList ∧ near z c ∉ found
  · exact hc
  · have hall : ∀ s ∈ abc.cps.toList.map (near z), s ∈ found := by
      intro s hs
      obtain ⟨c, hc1, rfl⟩ := List.mem_map.mp hs
      by_cases hm : near z c ∈ found
      · exact hm
      · exact absurd ⟨c, hc1, hm⟩ hc
    have hnd : (abc.cps.toList.map (near z)).Nodup := by
      refine List.pairwise_map.mpr ?_
      have h0 : abc.cps.toList.Nodup := by
        rw [abc_list]
        decide
      exact List.Pairwise.imp (fun hne e => hne (near_inj e)) h0
    have := nodup_le hnd hall
    rw [List.length_map, abc_list] at this
    simp at this
    omega
theorem join_signs (cs : List Nat) : (Txt.join ⟨#[]⟩ (cs.map fun c => (⟨#[c]⟩ : Str))) = ⟨cs.toArray⟩ := by
  have h := join_nil_signs (⟨cs.toArray⟩ : Str)
  unfold Txt.join
  rw [PySem.StrLaws.glued_eq_join]
  exact h
theorem join_ok {cs : List Nat} (h1 : 1 ≤ cs.length) (h2 : cs.length ≤ 8) (hl : ∀ c ∈ cs, 97 ≤ c ∧ c ≤ 122) : NameOk (⟨cs.toArray⟩ : Str) := by
  have e : (⟨cs.toArray⟩ : Str).length = cs.length := by simp [Str.length]
  exact ⟨by omega, by omega, fun c hc => hl c (by simpa using hc)⟩
/-- names, all unlike -/
structure NamesOk (xs : List Str) : Prop where
  ok : ∀ x ∈ xs, NameOk x
  nd : xs.Nodup
theorem NamesOk.nil : NamesOk [] := ⟨fun _ h => (by cases h), List.nodup_nil⟩
theorem NamesOk.snoc {xs : List Str} {x : Str} (h : NamesOk xs) (hx : NameOk x) (hn : x ∉ xs) : NamesOk (xs ++ [x]) :=
  ⟨fun y hy => by
    rcases List.mem_append.mp hy with hy | hy
    · exact h.ok y hy
    · rw [List.mem_singleton.mp hy]
      exact hx, by
    refine List.nodup_append.mpr ⟨h.nd, by simp, fun a ha b hb => ?_⟩
    rw [List.mem_singleton.mp hb]
    rintro rfl
    exact hn ha⟩
end Wp
set_option Elab.async false
set_option linter.all false
set_option maxRecDepth 100000
set_option maxHeartbeats 4000000
/-! Books: their parts, the dict of parts, slices of lengths. -/
namespace Wp
open PySem PySem.Spec PyProof.Rows L2
/-- kinds: a dict of names, each to a rate and whether it is free -/
inductive KAt (H : Hp) : List (Key × V) → List (Str × Int × Bool) → Prop
  | nil : KAt H [] []
  | cons {n : Str} {r : Int} {b : Bool} {t : Addr} {kvs : List (Key × V)} {ks : List (Str × Int × Bool)} : H t = some (.tup [.int r, .bl b]) → KAt H kvs ks → KAt H ((Sum.inr n, .ref t) :: kvs) ((n, r, b) :: ks)
theorem KAt.keep {H H' : Hp} {kvs : List (Key × V)} {ks : List (Str × Int × Bool)} (h : KAt H kvs ks) (e : ∀ t xs, H t = some (.tup xs) → H' t = some (.tup xs)) : KAt H' kvs ks := by
  induction h with
  | nil => exact .nil
  | cons h _ ih => exact .cons (e _ _ h) ih
theorem KAt.len {H : Hp} {kvs : List (Key × V)} {ks : List (Str × Int × Bool)} (h : KAt H kvs ks) : kvs.length = ks.length := by
  induction h with
  | nil => rfl
  | cons _ _ ih => simp [ih]
theorem KAt.keys {H : Hp} {kvs : List (Key × V)} {ks : List (Str × Int × Bool)} (h : KAt H kvs ks) : kvs.map (·.1) = (ks.map (·.1)).map Sum.inr := by
  induction h with
  | nil => rfl
  | cons _ _ ih => simp [ih]
theorem KAt.get {H : Hp} {kvs : List (Key × V)} {ks : List (Str × Int × Bool)} (h : KAt H kvs ks) : ∀ {i : Nat} {k : Key} {v : V}, kvs[i]? = some (k, v) → ∃ n r b t, k = Sum.inr n ∧ v = .ref t ∧ H t = some (.tup [.int r, .bl b]) ∧ ks[i]? = some (n, r, b) := by
  induction h with
  | nil => intro i k v e; simp at e
  | @cons n r b t kvs ks h _ ih =>
    intro i k v e
    cases i with
    | zero =>
      have e := Option.some.inj e
      cases e
      exact ⟨n, r, b, t, rfl, rfl, h, rfl⟩
    | succ i =>
      obtain ⟨n', r', b', t', h1, h2, h3, h4⟩ := ih (i := i) (by simpa using e)
      exact ⟨n', r', b', t', h1, h2, h3, by simpa using h4⟩
theorem KAt.val {H : Hp} {kvs : List (Key × V)} {ks : List (Str × Int × Bool)} (h : KAt H kvs ks) (nd : (ks.map (·.1)).Nodup) : ∀ {n : Str} {r : Int} {b : Bool}, (n, r, b) ∈ ks → ∃ t, valV kvs (Sum.inr n) = some (.ref t) ∧ H t = some (.tup [.int r, .bl b]) := by
  induction h with
  | nil => intro n r b e; cases e
  | @cons n r b t kvs ks h _ ih =>
    intro n' r' b' e
    rw [List.map_cons, List.nodup_cons] at nd
    rcases List.mem_cons.mp e with e | e
    · cases e
      exact ⟨t, by simp [valV], h⟩
    · obtain ⟨t', h1, h2⟩ := ih nd.2 e
      have hne : n ≠ n' := by
        rintro rfl
        exact nd.1 (List.mem_map.mpr ⟨_, e, rfl⟩)
      exact ⟨t', by rw [valV_neg (fun z => hne (Sum.inr.inj z))]; exact h1, h2⟩
theorem KAt.snoc {H : Hp} {kvs : List (Key × V)} {ks : List (Str × Int × Bool)} {n : Str} {r : Int} {b : Bool} {t : Addr} (h : KAt H kvs ks) (ht : H t = some (.tup [.int r, .bl b])) : KAt H (kvs ++ [(Sum.inr n, .ref t)]) (ks ++ [(n, r, b)]) := by
  induction h with
  | nil => exact .cons ht .nil
  | cons h _ ih => exact .cons h ih
theorem KAt.fresh {H : Hp} {kvs : List (Key × V)} {ks : List (Str × Int × Bool)} {n : Str} (h : KAt H kvs ks) (hn : n ∉ ks.map (·.1)) : valV kvs (Sum.inr n) = none := by
  induction h with
  | nil => rfl
  | @cons n' r b t kvs ks h _ ih =>
    rw [List.map_cons, List.mem_cons, not_or] at hn
    rw [valV_neg (fun z => hn.1 (Sum.inr.inj z).symm)]
    exact ih hn.2
structure KindsOk (ks : List (Str × Int × Bool)) : Prop where
  lo : 1 ≤ ks.length
  hi : ks.length ≤ 6
  nm : NamesOk (ks.map (·.1))
  rt : ∀ k ∈ ks, 0 ≤ k.2.1 ∧ k.2.1 ≤ 1000
/-- a book -/
structure Bk where
  ls : List Int
  due : Int
  ks : List (Str × Int × Bool)
  mem : Int
  beg : Str
  laid : Option (List Str)
structure Bk.Ok (B : Bk) : Prop where
  l1 : 1 ≤ B.ls.length
  l2 : B.ls.length ≤ 4
  l3 : ∀ n ∈ B.ls, 2 ≤ n ∧ n ≤ 31
  d0 : 0 ≤ B.due
  d1 : ∀ n ∈ B.ls, B.due < n
  kn : KindsOk B.ks
  m0 : 0 ≤ B.mem
  m1 : B.mem ≤ 2
  bg : B.beg = "day" ∨ B.beg = "statement"
def fBook (tl kd : Addr) (B : Bk) (lv : V) : List (Str × V) := [("b_lengths", .ref tl), ("b_due", .int B.due), ("b_kinds", .ref kd), ("b_memory", .int B.mem), ("b_begins", .str B.beg), ("b_laid", lv)]
/-- a tuple that is known to have no dict of its own: its methods can be called -/
def FrzT (H : Hp) (t : Addr) (xs : List V) : Prop := ∃ o : Obj, o.dict = none ∧ H t = some (.frz o (.tup xs))
theorem FrzT.keep {H H' : Hp} {t : Addr} {xs : List V} (h : FrzT H t xs) (e : ∀ t o xs, H t = some (.frz o (.tup xs)) → H' t = some (.frz o (.tup xs))) : FrzT H' t xs := by
  obtain ⟨o, h1, h2⟩ := h
  exact ⟨o, h1, e _ _ _ h2⟩
theorem FrzT.same {H H' : Hp} {t : Addr} {xs : List V} (h : FrzT H t xs) (e : Same H H') : FrzT H' t xs := h.keep fun t o xs q => e _ _ q
theorem FrzT.sq {K : PySem.W.Frag} {H : Hp} {t : Addr} {xs : List V} (h : FrzT H t xs) : SqT K H t xs := by
  obtain ⟨o, _, h2⟩ := h
  exact .inl (.inr ⟨o, h2⟩)
/-- tuple(list), with what is known of the new object -/
def rTupF (K : PySem.W.Frag) : List V → Hp → VK → Prop := fun xs H Q => ∃ p ys, xs = [.ref p] ∧ SqL K H p ys ∧ ∀ (l : Addr) (o : Obj), H l = none → o.dict = none → Q (.ref l) (upd H l (.frz o (.tup ys)))
theorem c_tupleF {X : Cx} {K : PySem.W.Frag} (h : X.K = K) : CallR X (.type "tuple") (rTupF K) := by
  subst h
  intro pins s σ H xs us Q I r h
  obtain ⟨p, ys, rfl, hq, q⟩ := h
  obtain ⟨u, rfl, rx⟩ := vals1 r
  cases rx
  obtain ⟨its, r', pl, hz⟩ := I.list hq
  have hlen := r'.length
  refine call_tuple_list pl.isList (fun h' kp => ?_) (by simp only [List.size_toArray] <;> omega)
  have I1 : Inv X pins σ H { s with heap := h' } := I.kept (t' := s.toks) kp
  have I2 : Inv X pins σ (upd H h'.objs.size (.frz { cls := .type "tuple", data := .seq its.toArray } (.tup ys))) { s with heap := h'.push { cls := .type "tuple", data := .seq its.toArray } } :=
    I1.laid (t' := s.toks) (fun b o e => Heap.get?_push_of_some _ e) (Nat.le_refl _) (show ObjOk X.prog X.w _ _ _ (.frz _ (.tup ys)) from ⟨Heap.get?_push_size _ rfl, hz, its, r', IsTup.new _ _⟩)
  exact ⟨.ref h'.objs.size, _, I2, rfl, q _ _ (I1.hok.fresh (Nat.le_refl _)) rfl⟩
theorem r_tupF {K : PySem.W.Frag} {H : Hp} {Q : VK} {p : Addr} {xs : List V} (h : SqL K H p xs) (k : ∀ t H', H t = none → Same H H' → FrzT H' t xs → Q (.ref t) H') : rTupF K [.ref p] H Q :=
  ⟨p, xs, rfl, h, fun t o ht ho => k t _ ht (Same.new ht) ⟨o, ho, upd_same⟩⟩
def LaidV (H : Hp) : Option (List Str) → V → Prop
  | none, v => v = .non
  | some ns, v => ∃ t, v = .ref t ∧ FrzT H t (ns.map V.str)
theorem LaidV.keep {H H' : Hp} {o : Option (List Str)} {v : V} (h : LaidV H o v) (e : ∀ t o xs, H t = some (.frz o (.tup xs)) → H' t = some (.frz o (.tup xs))) : LaidV H' o v := by
  cases o with
  | none => exact h
  | some ns =>
    obtain ⟨t, rfl, ht⟩ := h
    exact ⟨t, rfl, ht.keep e⟩
/-- a book stands at p, its parts at tl, kd and lv -/
structure BookIn (C : Addr) (H : Hp) (p : Addr) (B : Bk) (dx tl kd : Addr) (lv : V) (kvs : List (Key × V)) : Prop where
  i : H p = some (.ins C dx (fBook tl kd B lv))
  l : H tl = some (.tup (B.ls.map V.int))
  k : H kd = some (.dK kvs)
  a : KAt H kvs B.ks
  d : LaidV H B.laid lv
def BookAt (C : Addr) (H : Hp) (p : Addr) (B : Bk) : Prop := ∃ dx tl kd lv kvs, BookIn C H p B dx tl kd lv kvs
theorem BookIn.keep {C p dx tl kd : Addr} {H H' : Hp} {B : Bk} {lv : V} {kvs : List (Key × V)} (h : BookIn C H p B dx tl kd lv kvs) (e : Same H H') : BookIn C H' p B dx tl kd lv kvs :=
  ⟨e _ _ h.i, e _ _ h.l, e _ _ h.k, h.a.keep fun t xs q => e _ _ q, h.d.keep fun t o xs q => e _ _ q⟩
theorem BookAt.keep {C p : Addr} {H H' : Hp} {B : Bk} (h : BookAt C H p B) (e : Same H H') : BookAt C H' p B := by
  obtain ⟨dx, tl, kd, lv, kvs, h⟩ := h
  exact ⟨dx, tl, kd, lv, kvs, h.keep e⟩
/-! the dict of the six parts -/
def wkv (a b c d e f : V) : List (Key × V) := [(Sum.inr ("lengths" : Str), a), (Sum.inr ("due" : Str), b), (Sum.inr ("kinds" : Str), c), (Sum.inr ("memory" : Str), d), (Sum.inr ("begins" : Str), e), (Sum.inr ("laid" : Str), f)]
def wks : List Key := [Sum.inr ("lengths" : Str), Sum.inr ("due" : Str), Sum.inr ("kinds" : Str), Sum.inr ("memory" : Str), Sum.inr ("begins" : Str), Sum.inr ("laid" : Str)]
theorem wks_nd : wks.Nodup := by decide +kernel
theorem kne {x y : Str} (h : decide (x = y) = false) : ¬ (Sum.inr x : Key) = Sum.inr y := fun z => of_decide_eq_false h (Sum.inr.inj z)
section
variable {a b c d e f x : V}
theorem wz_zip : wks.zip [a, b, c, d, e, f] = wkv a b c d e f := rfl
theorem wv1 : valV (wkv a b c d e f) (Sum.inr ("lengths" : Str)) = some a := valV_pos rfl
theorem wv2 : valV (wkv a b c d e f) (Sum.inr ("due" : Str)) = some b := by
  unfold wkv
  rw [valV_neg (kne (by decide +kernel)), valV_pos rfl]
theorem wv3 : valV (wkv a b c d e f) (Sum.inr ("kinds" : Str)) = some c := by
  unfold wkv
  rw [valV_neg (kne (by decide +kernel)), valV_neg (kne (by decide +kernel)), valV_pos rfl]
theorem wv4 : valV (wkv a b c d e f) (Sum.inr ("memory" : Str)) = some d := by
  unfold wkv
  rw [valV_neg (kne (by decide +kernel)), valV_neg (kne (by decide +kernel)), valV_neg (kne (by decide +kernel)), valV_pos rfl]
theorem wv5 : valV (wkv a b c d e f) (Sum.inr ("begins" : Str)) = some e := by
  unfold wkv
  rw [valV_neg (kne (by decide +kernel)), valV_neg (kne (by decide +kernel)), valV_neg (kne (by decide +kernel)), valV_neg (kne (by decide +kernel)), valV_pos rfl]
theorem wv6 : valV (wkv a b c d e f) (Sum.inr ("laid" : Str)) = some f := by
  unfold wkv
  rw [valV_neg (kne (by decide +kernel)), valV_neg (kne (by decide +kernel)), valV_neg (kne (by decide +kernel)), valV_neg (kne (by decide +kernel)), valV_neg (kne (by decide +kernel)), valV_pos rfl]
theorem wput {k : Key} (h : (valV (wkv a b c d e f) k).isSome = true) : putK (wkv a b c d e f) k x = (wkv a b c d e f).map (fun kv => if kv.1 = k then (kv.1, x) else kv) := by
  unfold putK
  rw [if_pos (by rw [valV_any]; exact h)]
theorem wp1 : putK (wkv a b c d e f) (Sum.inr ("lengths" : Str)) x = wkv x b c d e f := by
  rw [wput (by rw [wv1]; rfl)]
  simp only [wkv, List.map_cons, List.map_nil, if_pos trivial, if_neg (kne (x := "due") (y := "lengths") (by decide +kernel)), if_neg (kne (x := "kinds") (y := "lengths") (by decide +kernel)), if_neg (kne (x := "memory") (y := "lengths") (by decide +kernel)), if_neg (kne (x := "begins") (y := "lengths") (by decide +kernel)), if_neg (kne (x := "laid") (y := "lengths") (by decide +kernel))]
theorem wp2 : putK (wkv a b c d e f) (Sum.inr ("due" : Str)) x = wkv a x c d e f := by
  rw [wput (by rw [wv2]; rfl)]
  simp only [wkv, List.map_cons, List.map_nil, if_pos trivial, if_neg (kne (x := "lengths") (y := "due") (by decide +kernel)), if_neg (kne (x := "kinds") (y := "due") (by decide +kernel)), if_neg (kne (x := "memory") (y := "due") (by decide +kernel)), if_neg (kne (x := "begins") (y := "due") (by decide +kernel)), if_neg (kne (x := "laid") (y := "due") (by decide +kernel))]
theorem wp3 : putK (wkv a b c d e f) (Sum.inr ("kinds" : Str)) x = wkv a b x d e f := by
  rw [wput (by rw [wv3]; rfl)]
  simp only [wkv, List.map_cons, List.map_nil, if_pos trivial, if_neg (kne (x := "lengths") (y := "kinds") (by decide +kernel)), if_neg (kne (x := "due") (y := "kinds") (by decide +kernel)), if_neg (kne (x := "memory") (y := "kinds") (by decide +kernel)), if_neg (kne (x := "begins") (y := "kinds") (by decide +kernel)), if_neg (kne (x := "laid") (y := "kinds") (by decide +kernel))]
theorem wp4 : putK (wkv a b c d e f) (Sum.inr ("memory" : Str)) x = wkv a b c x e f := by
  rw [wput (by rw [wv4]; rfl)]
  simp only [wkv, List.map_cons, List.map_nil, if_pos trivial, if_neg (kne (x := "lengths") (y := "memory") (by decide +kernel)), if_neg (kne (x := "due") (y := "memory") (by decide +kernel)), if_neg (kne (x := "kinds") (y := "memory") (by decide +kernel)), if_neg (kne (x := "begins") (y := "memory") (by decide +kernel)), if_neg (kne (x := "laid") (y := "memory") (by decide +kernel))]
theorem wp5 : putK (wkv a b c d e f) (Sum.inr ("begins" : Str)) x = wkv a b c d x f := by
  rw [wput (by rw [wv5]; rfl)]
  simp only [wkv, List.map_cons, List.map_nil, if_pos trivial, if_neg (kne (x := "lengths") (y := "begins") (by decide +kernel)), if_neg (kne (x := "due") (y := "begins") (by decide +kernel)), if_neg (kne (x := "kinds") (y := "begins") (by decide +kernel)), if_neg (kne (x := "memory") (y := "begins") (by decide +kernel)), if_neg (kne (x := "laid") (y := "begins") (by decide +kernel))]
theorem wp6 : putK (wkv a b c d e f) (Sum.inr ("laid" : Str)) x = wkv a b c d e x := by
  rw [wput (by rw [wv6]; rfl)]
  simp only [wkv, List.map_cons, List.map_nil, if_pos trivial, if_neg (kne (x := "lengths") (y := "laid") (by decide +kernel)), if_neg (kne (x := "due") (y := "laid") (by decide +kernel)), if_neg (kne (x := "kinds") (y := "laid") (by decide +kernel)), if_neg (kne (x := "memory") (y := "laid") (by decide +kernel)), if_neg (kne (x := "begins") (y := "laid") (by decide +kernel))]
end
/-- a permutation of images is the image of a permutation -/
theorem perm_lift {α β : Type} [DecidableEq α] (f : α → β) : ∀ (ys : List β) (ks : List α), ys.Perm (ks.map f) → ∃ ms : List α, ms.Perm ks ∧ ms.map f = ys
  | [], ks, h => by
    have e : ks = [] := List.map_eq_nil_iff.mp (List.Perm.nil_eq h).symm
    subst e
    exact ⟨[], .nil, rfl⟩
  | y :: r, ks, h => by
    obtain ⟨k, hk, rfl⟩ := List.mem_map.mp (h.mem_iff.mp (List.mem_cons_self ..))
    have h2 : (f k :: r).Perm (f k :: (ks.erase k).map f) := h.trans (((List.perm_cons_erase hk).map f))
    obtain ⟨ms, p, e⟩ := perm_lift f r (ks.erase k) (List.Perm.cons_inv h2)
    exact ⟨k :: ms, (p.cons k).trans (List.perm_cons_erase hk).symm, by rw [List.map_cons, e]⟩
/-! slices and sums of lengths -/
theorem cutV_take {xs : List V} {i : Int} (h0 : 0 ≤ i) : cutV xs none (some i) = xs.take i.toNat := by
  have e : HT.sIx xs.length xs.length (some i) = min i.toNat xs.length := by
    show (if i < 0 then (i + (xs.length : Int)).toNat else min i.toNat xs.length) = _
    rw [if_neg (by omega)]
  unfold cutV
  rw [e]
  show (xs.drop 0).take (min i.toNat xs.length - 0) = _
  rw [List.drop_zero, Nat.sub_zero]
  by_cases h : i.toNat ≤ xs.length
  · rw [Nat.min_eq_left h]
  · rw [Nat.min_eq_right (by omega), List.take_length, List.take_of_length_le (by omega)]
section
variable {K : PySem.W.Frag} {H : Hp} {Q : VK} {p : Addr} {xs : List V}
theorem r_slT_take {i : Int} (h : SqT K H p xs) (h0 : 0 ≤ i) (h1 : i < xs.length) (q : ∀ t H', H t = none → Same H H' → H' t = some (.tup (xs.take i.toNat)) → Q (.ref t) H') : rSlT K (.ref p) none (some i) H Q := by
  refine ⟨p, xs, rfl, h, ?_, fun t ht => ?_⟩
  · rintro ⟨_, e⟩
    have e2 : (if i < 0 then (i + (xs.length : Int)).toNat else min i.toNat xs.length) = xs.length := e
    rw [if_neg (by omega)] at e2
    omega
  · rw [cutV_take h0]
    exact q t _ ht (Same.new ht) upd_same
theorem r_minSeq {ns : List Int} (h : SeqV K H p (ns.map V.int)) (h0 : 0 < ns.length) (k : ∀ m, m ∈ ns → (∀ y ∈ ns, m ≤ y) → Q (.int m) H) : rEither (rMin K) (rMinT K) [.ref p] H Q := by
  rcases h with h | h
  · exact .inl ⟨p, ns, rfl, h, h0, fun m hm hy => k m hm hy⟩
  · exact .inr ⟨p, ns, rfl, h, h0, fun m hm hy => k m hm hy⟩
theorem r_tupOf (h : H p = some (.lst xs) ∨ H p = some (.tup xs)) (k : ∀ t H', Same H H' → H' t = some (.tup xs) → Q (.ref t) H') : rTupOf K [.ref p] H Q := by
  rcases h with h | h
  · exact ⟨p, xs, rfl, .inl ⟨SqL.of h, fun t ht => k t _ (Same.new ht) upd_same⟩⟩
  · exact ⟨p, xs, rfl, .inr ⟨SqT.of h, k p H (Same.refl _) h⟩⟩
end
namespace Bk
/-- the first day of a month -/
def first (B : Bk) (m : Int) : Int := m / (B.ls.length : Int) * B.ls.sum + (B.ls.take (m % (B.ls.length : Int)).toNat).sum
def rateOf (B : Bk) (n : Str) : Int := ((B.ks.find? fun k => decide (k.1 = n)).map (·.2.1)).getD 0
def freeOf (B : Bk) (n : Str) : Bool := ((B.ks.find? fun k => decide (k.1 = n)).map (·.2.2)).getD false
theorem find_of : ∀ {ks : List (Str × Int × Bool)} {n : Str} {r : Int} {b : Bool}, (ks.map (·.1)).Nodup → (n, r, b) ∈ ks → (ks.find? fun k => decide (k.1 = n)) = some (n, r, b)
  | [], _, _, _, _, h => by cases h
  | k :: ks, n, r, b, nd, h => by
    rw [List.map_cons, List.nodup_cons] at nd
    rcases List.mem_cons.mp h with e | e
    · subst e
      simp
    · have hne : ¬ k.1 = n := fun z => nd.1 (by rw [z]; exact List.mem_map.mpr ⟨_, e, rfl⟩)
      rw [List.find?_cons, decide_eq_false hne]
      exact find_of nd.2 e
end Bk
end Wp
set_option Elab.async false
set_option linter.all false
set_option maxRecDepth 100000
set_option maxHeartbeats 4000000
namespace Wp
open PySem PySem.Spec PyProof.Rows L2
abbrev s_is_list : Stmt := topS 21
abbrev s_is_name : Stmt := topS 22
abbrev s_are_lengths : Stmt := topS 23
abbrev s_is_kind : Stmt := topS 24
abbrev s_are_kinds : Stmt := topS 25
local macro_rules | `(tactic| walk_at "val") => `(tactic| assumption)
local macro_rules | `(tactic| walk_at "rd1") => `(tactic| first
  | with_reducible refine r_seq ?_ | with_reducible refine r_next ?_ | with_reducible refine r_if ?_ | with_reducible refine r_asg ?_ | with_reducible refine r_gname ?_
  | with_reducible refine r_ret ?_ | with_reducible refine r_retN ?_ | with_reducible refine r_drop ?_ | with_reducible refine r_par ?_ | with_reducible refine r_kPar ?_
  | ((with_reducible refine' r_var ?hv ?_); (case hv => exact rfl)) | with_reducible refine r_c ?_ | with_reducible refine r_nil ?_ | with_reducible refine r_cons ?_
  | with_reducible refine r_fn ?_ | with_reducible refine r_cb ?_ | with_reducible refine r_op ?_ | with_reducible refine r_un ?_ | with_reducible refine r_I0 ?_
  | with_reducible refine r_pow5 ?_ | with_reducible refine r_pow6 ?_ | with_reducible refine r_pow7 ?_ | with_reducible refine r_pow9 ?_ | with_reducible refine r_pow18 ?_ | with_reducible refine r_pow20 ?_ | with_reducible refine r_pow30 ?_
  | with_reducible refine r_isN_non ?_ | with_reducible refine r_isN_ref ?_ | with_reducible refine r_isN_int ?_ | with_reducible refine r_isN_str ?_ | with_reducible refine r_isN_bl ?_ | with_reducible refine r_notN_non ?_ | with_reducible refine r_notN_ref ?_ | with_reducible refine r_notN_int ?_ | with_reducible refine r_notN_str ?_ | with_reducible refine r_notN_bl ?_
  | ((with_reducible refine r_I ?hc ?_); (case hc => walk_at "side")) | with_reducible refine r_U ?_
  | with_reducible refine r_eqI ?_ | with_reducible refine r_neI ?_ | with_reducible refine r_eqS ?_ | with_reducible refine r_neS ?_ | with_reducible refine r_eqB ?_ | with_reducible refine r_neB ?_
  | with_reducible refine r_chain ?_ | with_reducible refine r_test ?_ | with_reducible refine r_tB ?_ | with_reducible refine r_kTest ?_ | with_reducible refine r_not ?_
  | with_reducible refine r_and ?_ | with_reducible refine r_or ?_ | with_reducible refine r_tif ?_ | with_reducible refine r_andV ?_ | with_reducible refine r_orV ?_ | with_reducible refine r_notV ?_
  | with_reducible refine r_kAndV ?_ | with_reducible refine r_kOrV ?_ | with_reducible refine r_kNotV ?_
  | with_reducible refine w_T ?_ | with_reducible refine w_F ?_ | with_reducible refine w_NT ?_ | with_reducible refine w_NF ?_
  | with_reducible refine r_tup ?_ | with_reducible refine r_lst ?_ | with_reducible refine r_fld ?_ | with_reducible refine r_prop ?_ | ((with_reducible refine' r_aug ?h1 ?_); (case h1 => exact rfl)) | with_reducible refine r_ipI ?_ | with_reducible refine r_dget ?_ | with_reducible refine r_dput ?_ | with_reducible refine r_bm ?_
  | ((with_reducible refine' r_kDGetS ?h1 ?h2 ?_); (case h1 => assumption); (case h2 => walk_at "val"))
  | ((with_reducible refine' r_kBML ?h1 ?_); (case h1 => assumption))
  | with_reducible refine r_forL ?_ | with_reducible refine r_forR1 ?_ | with_reducible refine r_forR2 ?_ | with_reducible refine r_forT ?_ | with_reducible refine r_lcL ?_ | with_reducible refine r_lcR1 ?_
  | ((with_reducible refine r_kLcG ?hw ?_); (case hw => exact rfl)) | with_reducible refine r_kLcT ?_ | with_reducible refine r_yes ?_
  | with_reducible refine r_pnil ?_ | with_reducible refine r_pcons ?_
  | with_reducible refine r_fnK ?_ | ((with_reducible refine r_kFnK ?hl ?_); (case hl => exact rfl))
  | with_reducible refine r_isi_ii ?_ | with_reducible refine r_isi_ib ?_ | with_reducible refine r_isi_bi ?_ | with_reducible refine r_isi_bb ?_ | with_reducible refine r_isi_ss ?_ | with_reducible refine r_isi_is ?_ | with_reducible refine r_isi_it ?_
  | ((with_reducible refine' r_isi_tt ?h1 ?_); (case h1 => assumption))
  | with_reducible refine r_sfld ?_ | with_reducible refine r_gnil ?_ | with_reducible refine r_gcons ?_
  | ((with_reducible refine' r_gtup ?h1 ?h2 ?_); (case h1 => exact SqT.of (by assumption)); (case h2 => exact rfl))
  | with_reducible refine r_sl ?_ | with_reducible refine r_noPart ?_ | with_reducible refine r_part ?_ | with_reducible refine r_kPart ?_ | with_reducible refine r_m1 ?_ | with_reducible refine r_kM1 ?_ | with_reducible refine r_forS ?_ | with_reducible refine r_lcS ?_ | with_reducible refine r_lcTu ?_ | with_reducible refine r_lcK ?_ | with_reducible refine r_dcL ?_ | with_reducible refine r_dcK ?_ | with_reducible refine r_lc2L ?_ | with_reducible refine r_kLc2TL ?_ | with_reducible refine r_dcEn ?_ | with_reducible refine r_gslc ?_ | with_reducible refine r_lcEn ?_ | with_reducible refine r_lcEl ?_ | with_reducible refine r_lcR2 ?_ | with_reducible refine r_rg1 ?_ | with_reducible refine r_forET ?_ | with_reducible refine r_lenD ?_
  | ((with_reducible refine r_kDcG ?hw ?_); (case hw => exact rfl)) | with_reducible refine r_kDcT ?_
  | with_reducible refine r_fldaug ?_ | with_reducible refine r_daug ?_ | with_reducible refine r_rAdd ?_ | with_reducible refine r_rSub ?_ | with_reducible refine r_ddel ?_ | with_reducible refine r_bmF ?_ | with_reducible refine r_dget2 ?_ | with_reducible refine r_listItems ?_ | with_reducible refine r_bm0 ?_ | with_reducible refine r_lc2E ?_ | ((with_reducible refine r_kLc2G ?hw ?_); (case hw => exact rfl)) | with_reducible refine r_kLc2T ?_ | with_reducible refine r_forE ?_ | with_reducible refine r_orT ?_ | with_reducible refine r_din ?_ | with_reducible refine r_augS ?_ | with_reducible refine r_dnotin ?_ | with_reducible refine r_lcIT ?_ | with_reducible refine r_cont ?_ | with_reducible refine r_meth ?_ | with_reducible refine r_frz ?_ | with_reducible refine r_par3 ?_ | with_reducible refine r_kPar3 ?_ | with_reducible refine r_dz ?_ | with_reducible refine r_revL ?_ | with_reducible refine r_star ?_ | with_reducible refine r_int1 ?_ | with_reducible refine r_int1b ?_ | with_reducible refine r_min2 ?_ | with_reducible refine r_max2 ?_ | with_reducible refine r_gsub ?_)
local macro_rules | `(tactic| walk_at "rd") => `(tactic| repeat walk_at "rd1")
local macro_rules | `(tactic| walk_at "side") => `(tactic| first | assumption | exact Or.inr ⟨by decide, by decide⟩ | exact Or.inl ⟨by decide, by decide⟩ | (constructor <;> omega) | omega | decide | (refine Or.inl ⟨?_, ?_⟩ <;> omega) | (refine Or.inr ⟨?_, ?_⟩ <;> omega) | (refine ⟨?_, ?_, ?_⟩ <;> first | decide | omega))
def sp_is_list (K : PySem.W.Frag) : Sp := fun vs H Q _ => ∃ (p : Addr) (xs : List V), vs = [.ref p] ∧ SeqV K H p xs ∧ ∀ H', Same H H' → Q (.bl true) H'
def sp_is_name : Sp := fun vs H Q _ => ∃ (z : Str), vs = [.str z] ∧ NameOk z ∧ ∀ H', Same H H' → Q (.bl true) H'
def sp_are_lengths (K : PySem.W.Frag) : Sp := fun vs H Q _ => ∃ (p : Addr) (ns : List Int), vs = [.ref p] ∧ SeqV K H p (ns.map V.int) ∧ 1 ≤ ns.length ∧ ns.length ≤ 4 ∧ (∀ n ∈ ns, 2 ≤ n ∧ n ≤ 31) ∧ ∀ H', Same H H' → Q (.bl true) H'
def sp_is_kind : Sp := fun vs H Q _ => ∃ (t : Addr) (r : Int) (b : Bool), vs = [.ref t] ∧ H t = some (.tup [.int r, .bl b]) ∧ 0 ≤ r ∧ r ≤ 1000 ∧ Q (.bl true) H
def sp_are_kinds : Sp := fun vs H Q _ => ∃ (a : Addr) (kvs : List (Key × V)) (ks : List (Str × Int × Bool)), vs = [.ref a] ∧ H a = some (.dK kvs) ∧ KAt H kvs ks ∧ KindsOk ks ∧ ∀ H', Same H H' → Q (.bl true) H'
section
variable {P : Program} {w : World} {K : PySem.W.Frag} {mg : Str → Option Value} {base : Heap}
theorem ok_is_list {f : Addr} {fd : FuncData} (T : Tx K mg) (F : FnP K "is_list" s_is_list f fd) : FnOk P w K mg base CX0 1 f fd ["value"] (sp_is_list K) := by
  have sc : FnScope ["value"] ["value"] (defScope s_is_list) := ⟨rfl, rfl, rfl, by decide +kernel, rfl, by decide +kernel, by decide +kernel⟩
  refine F.ok sc (by rintro vs H Q E ⟨_, _, rfl, _⟩; rfl) (fun cdv A outer s H vs Q E hr h => ⟨_, PSs.nox ((pss_one (ps_ret (pe_callB (c_isiTK (K := K) rfl) (by rfl) T.b_isinstance (by decide +kernel) (pa_cons (pv 0) (pa_cons (pe_tup (pa_cons (pe_bltn (v := .ty "list") (by rfl) T.b_list (by decide +kernel) rfl) (pa_cons (pe_bltn (v := .ty "tuple") (by rfl) T.b_tuple (by decide +kernel) rfl) pa_nil))) pa_nil)))))), ?_⟩)
  obtain ⟨p, xs, rfl, h, k⟩ := h
  walk_at "rd"
  refine r_kTup fun tp H1 np e1 hp => ?_
  walk_at "rd"
  exact r_isSeq (h.same e1) hp (k H1 e1)
theorem ok_is_name {f : Addr} {fd : FuncData} (T : Tx K mg) (F : FnP K "is_name" s_is_name f fd) : FnOk P w K mg base CX0 1 f fd ["value"] sp_is_name := by
  have sc : FnScope ["value", "sign"] ["value"] (defScope s_is_name) := ⟨rfl, rfl, rfl, by decide +kernel, rfl, by decide +kernel, by decide +kernel⟩
  refine F.ok sc (by rintro vs H Q E ⟨_, rfl, _⟩; rfl) (fun cdv A outer s H vs Q E hr h => ⟨_, PSs.nox ((pss_one (ps_ret (pe_and (pe_callB (c_isiK (K := K) rfl) (by rfl) T.b_isinstance (by decide +kernel) (pa_cons (pv 0) (pa_cons (pe_bltn (v := .ty "str") (by rfl) T.b_str (by decide +kernel) rfl) pa_nil))) (pe_and (pe_chain op_le op_le pe_int (pe_callB (c_lenK (K := K) rfl) (by rfl) T.b_len (by decide +kernel) (pa_cons (pv 0) pa_nil)) (pe_glob (v := .int 8) (by rfl) T.c_MOST_NAME.choose_spec ⟨_, rfl⟩)) (pe_one (pe_callB (c_allK (K := K) rfl rfl) (by rfl) T.b_all (by decide +kernel) (pa_cons (pe_lc (own := [("sign", 1)]) (by rfl) sc.nd (pi_str (pv 0)) (blkOk_by (own := [("sign", 1)]) (N := ["value", "sign"]) (sc := defScope s_is_name) (by decide +kernel)) (fun _ _ _ _ _ => (pg_name (i := 1) sc.nd rfl (by first | exact Or.inl rfl | exact Or.inr rfl))) (fun _ _ _ _ _ => pts_nil) (fun _ _ _ _ _ => (pe_cmpR op_in_sign (pv 1) (pe_glob (v := .str "abcdefghijklmnopqrstuvwxyz") (by rfl) T.c_LETTERS.choose_spec ⟨_, rfl⟩) (by rfl)))) pa_nil)))))))), ?_⟩)
  obtain ⟨z, rfl, ok, k⟩ := h
  have h1 := ok.lo
  have h2 := ok.hi
  walk_at "rd"
  refine r_lenS (by omega) ?_
  walk_at "rd"
  refine r_kChain (fun _ => ?_) (fun hf => absurd (of_decide_eq_false hf) (by omega))
  walk_at "rd"
  refine w_yes (decide_eq_true (by omega)) ?_
  walk_at "rd"
  refine r_kLcS (fun Da i H' => Same H H' ∧ H' Da = some (.lst ((List.replicate i true).map V.bl))) (fun Da H' _ e h => ⟨e, h⟩) ?_ ?_
  · rintro Da i c H' hD hc ⟨e, h⟩
    walk_at "rd"
    refine r_inSign ?_
    have hcl : i < z.cps.size := (Array.getElem?_eq_some_iff.mp hc).1
    have hzl : z.length = z.cps.size := rfl
    have hm : c ∈ abc.cps.toList := abc_mem.mpr (ok.low c (by
      have : z.cps.toList[i]? = some c := by rw [Array.getElem?_toList]; exact hc
      exact List.mem_of_getElem? this))
    rw [decide_eq_true (show c ∈ (Str.ofString "abcdefghijklmnopqrstuvwxyz").cps.toList from hm)]
    refine r_kLcE h (by rw [List.length_map, List.length_replicate]; omega) fun H1 b1 h1 => ⟨Same.mut e b1 hD, ?_⟩
    rw [rep_more]
    exact h1
  · rintro Da H' hD ⟨e, h⟩
    walk_at "rd"
    refine r_all (SqL.of h) ?_
    rw [all_rep]
    exact k H' e
theorem ok_are_lengths {f : Addr} {fd : FuncData} (T : Tx K mg) (F : FnP K "are_lengths" s_are_lengths f fd) (d_is_list : Dn P w K mg base CX0 1 "is_list" ["value"] (sp_is_list K)) (d_is_number_in : Dn P w K mg base CX0 2 "is_number_in" ["value", "least", "most"] (sp_is_number_in K)) :
    FnOk P w K mg base CX0 3 f fd ["value"] (sp_are_lengths K) := by
  have sc : FnScope ["value", "length"] ["value"] (defScope s_are_lengths) := ⟨rfl, rfl, rfl, by decide +kernel, rfl, by decide +kernel, by decide +kernel⟩
  refine F.ok sc (by rintro vs H Q E ⟨_, _, rfl, _⟩; rfl) (fun cdv A outer s H vs Q E hr h => ⟨_, PSs.nox ((pss_cons (ps_if (PW.pt (pw_or (pt_not (pt_val (pe_fn d_is_list (hr.mono (by decide)) pass0 (pa_cons (pv 0) pa_nil)))) (pw_or1 (pt_not (pt_chain op_le op_le pe_int (pe_callB (c_lenK (K := K) rfl) (by rfl) T.b_len (by decide +kernel) (pa_cons (pv 0) pa_nil)) (pe_glob (v := .int 4) (by rfl) T.c_MOST_LENGTHS.choose_spec ⟨_, rfl⟩)))))) (pss_one (ps_ret pe_bl)) pss_nil)
      (pss_one (ps_ret (pe_callB (c_allK (K := K) rfl rfl) (by rfl) T.b_all (by decide +kernel) (pa_cons (pe_lc (own := [("length", 1)]) (by rfl) sc.nd (pi_either (pi_listK (K := K) rfl (pv 0)) (pi_tupK (K := K) rfl (pv 0))) (blkOk_by (own := [("length", 1)]) (N := ["value", "length"]) (sc := defScope s_are_lengths) (by decide +kernel)) (fun _ _ _ _ _ => (pg_name (i := 1) sc.nd rfl (by first | exact Or.inl rfl | exact Or.inr rfl))) (fun _ _ _ _ _ => pts_nil) (fun _ _ _ _ _ => (pe_fn d_is_number_in (hr.mono (by decide)) pass0 (pa_cons (pv 1) (pa_cons (pe_glob (v := .int 2) (by rfl) T.c_SHORTEST.choose_spec ⟨_, rfl⟩) (pa_cons (pe_glob (v := .int 31) (by rfl) T.c_LONGEST.choose_spec ⟨_, rfl⟩) pa_nil)))))) pa_nil)))))), ?_⟩)
  obtain ⟨p, ns, rfl, hS, h1, h2, hn, k⟩ := h
  walk_at "rd"
  refine ⟨p, _, rfl, hS, fun H1 e1 => ?_⟩
  walk_at "rd"
  refine r_lenSeq (hS.same e1) ?_
  rw [List.length_map]
  walk_at "rd"
  refine r_kChain (fun _ => ?_) (fun hf => absurd (of_decide_eq_false hf) (by omega))
  walk_at "rd"
  refine w_no (by rw [decide_eq_true (by omega)]; rfl) ?_
  walk_at "rd"
  refine r_lcEither (xs := ns.map V.int) (hS.same e1) rfl (fun Da i H' => Same H1 H' ∧ H' Da = some (.lst ((List.replicate i true).map V.bl))) (fun Da H' _ e h => ⟨e, h⟩) (fun Da i H' h => ⟨(hS.same e1).same h.1, h.1⟩) ?_ ?_ (fun H' e h => SqL.same e h) (fun H' e h => SqT.same e h)
  · rintro Da i x H' hD hx ⟨e, h⟩
    obtain ⟨n, rfl, hi⟩ := ints_get hx
    have hm := hn n (List.mem_of_getElem? hi)
    have hil := (List.getElem?_eq_some_iff.mp hi).1
    walk_at "rd"
    refine u_in hm ?_
    refine r_kLcE h (by rw [List.length_map, List.length_replicate]; omega) fun H2 b2 h2 => ⟨Same.mut e b2 hD, ?_⟩
    rw [rep_more]
    exact h2
  · rintro Da H' hD ⟨e, h⟩
    walk_at "rd"
    refine r_all (SqL.of h) ?_
    rw [all_rep]
    exact k H' (e1.trans e)
theorem ok_is_kind {f : Addr} {fd : FuncData} (T : Tx K mg) (F : FnP K "is_kind" s_is_kind f fd) (d_is_number_in : Dn P w K mg base CX0 2 "is_number_in" ["value", "least", "most"] (sp_is_number_in K)) :
    FnOk P w K mg base CX0 3 f fd ["value"] sp_is_kind := by
  have sc : FnScope ["value"] ["value"] (defScope s_is_kind) := ⟨rfl, rfl, rfl, by decide +kernel, rfl, by decide +kernel, by decide +kernel⟩
  refine F.ok sc (by rintro vs H Q E ⟨_, _, _, rfl, _⟩; rfl) (fun cdv A outer s H vs Q E hr h => ⟨_, PSs.nox ((pss_cons (ps_if (PW.pt (pw_or (pt_not (pt_val (pe_callB (c_isiK (K := K) rfl) (by rfl) T.b_isinstance (by decide +kernel) (pa_cons (pv 0) (pa_cons (pe_bltn (v := .ty "tuple") (by rfl) T.b_tuple (by decide +kernel) rfl) pa_nil))))) (pw_or1 (pt_cmpR op_ne (pe_callB (c_lenK (K := K) rfl) (by rfl) T.b_len (by decide +kernel) (pa_cons (pv 0) pa_nil)) pe_int (nomark _))))) (pss_one (ps_ret pe_bl)) pss_nil)
      (pss_one (ps_ret (pe_and (pe_fn d_is_number_in (hr.mono (by decide)) pass0 (pa_cons (pe_ix (ix_tupK (K := K) rfl) (pv 0) pe_int (fun _ _ => rfl)) (pa_cons pe_int (pa_cons (pe_glob (v := .int 1000) (by rfl) T.c_MOST_RATE.choose_spec ⟨_, rfl⟩) pa_nil)))) (pe_one (pe_callB (c_isiK (K := K) rfl) (by rfl) T.b_isinstance (by decide +kernel) (pa_cons (pe_ix (ix_tupK (K := K) rfl) (pv 0) pe_int (fun _ _ => rfl)) (pa_cons (pe_bltn (v := .ty "bool") (by rfl) T.b_bool (by decide +kernel) rfl) pa_nil))))))))), ?_⟩)
  obtain ⟨t, r, b, rfl, ht, h0, h1, q⟩ := h
  walk_at "rd"
  refine r_lenT (SqT.of ht) ?_
  walk_at "rd"
  refine w_ndec (fun hne => absurd rfl hne) (fun _ => ?_)
  walk_at "rd"
  refine r_ixT (SqT.of ht) (at_get (n := 0) rfl rfl) ?_
  walk_at "rd"
  refine u_in ⟨h0, h1⟩ ?_
  walk_at "rd"
  refine r_ixT (SqT.of ht) (at_get (n := 1) rfl rfl) ?_
  walk_at "rd"
  exact q
theorem ok_are_kinds {f : Addr} {fd : FuncData} (T : Tx K mg) (F : FnP K "are_kinds" s_are_kinds f fd) (d_is_name : Dn P w K mg base CX0 1 "is_name" ["value"] sp_is_name) (d_is_kind : Dn P w K mg base CX0 3 "is_kind" ["value"] sp_is_kind) :
    FnOk P w K mg base CX0 4 f fd ["value"] sp_are_kinds := by
  have sc : FnScope ["value", "name"] ["value"] (defScope s_are_kinds) := ⟨rfl, rfl, rfl, by decide +kernel, rfl, by decide +kernel, by decide +kernel⟩
  refine F.ok sc (by rintro vs H Q E ⟨_, _, _, rfl, _⟩; rfl) (fun cdv A outer s H vs Q E hr h => ⟨_, PSs.nox ((pss_cons (ps_if (PW.pt (pw_or (pt_not (pt_val (pe_callB (c_isiK (K := K) rfl) (by rfl) T.b_isinstance (by decide +kernel) (pa_cons (pv 0) (pa_cons (pe_bltn (v := .ty "dict") (by rfl) T.b_dict (by decide +kernel) rfl) pa_nil))))) (pw_or1 (pt_not (pt_chain op_le op_le pe_int (pe_callB c_lenD (by rfl) T.b_len (by decide +kernel) (pa_cons (pv 0) pa_nil)) (pe_glob (v := .int 6) (by rfl) T.c_MOST_KINDS.choose_spec ⟨_, rfl⟩)))))) (pss_one (ps_ret pe_bl)) pss_nil)
      (pss_one (ps_ret (pe_callB (c_allK (K := K) rfl rfl) (by rfl) T.b_all (by decide +kernel) (pa_cons (pe_lock (pe_lc (own := [("name", 1)]) (by rfl) sc.nd (pi_keys (pv 0)) (blkOk_by (own := [("name", 1)]) (N := ["value", "name"]) (sc := defScope s_are_kinds) (by decide +kernel)) (fun _ _ _ _ _ => (pg_name (i := 1) sc.nd rfl (by first | exact Or.inl rfl | exact Or.inr rfl))) (fun _ _ _ _ _ => pts_nil) (fun _ _ _ _ _ => (pe_and (pe_fn d_is_name (hr.mono (by decide)) pass0 (pa_cons (pv 1) pa_nil)) (pe_one (pe_fn d_is_kind (hr.mono (by decide)) pass0 (pa_cons (pe_dget (hu_of hr) (pv 0) (pv 1) (fun _ _ => rfl)) pa_nil))))))) pa_nil)))))), ?_⟩)
  obtain ⟨a, kvs, ks, rfl, ha, hK, ok, k⟩ := h
  have hl := hK.len
  have h1 := ok.lo
  have h2 := ok.hi
  walk_at "rd"
  refine r_isiDict ha ?_
  walk_at "rd"
  refine r_lenD ha ?_
  walk_at "rd"
  refine r_kChain (fun _ => ?_) (fun hf => absurd (of_decide_eq_false hf) (by omega))
  walk_at "rd"
  refine w_no (by rw [decide_eq_true (by omega)]; rfl) ?_
  walk_at "rd"
  refine r_lockD ha fun od H1 hd1 ho1 hn1 => ?_
  walk_at "rd"
  refine r_kLcK hd1 (fun Da i H' => Same H1 H' ∧ H' Da = some (.lst ((List.replicate i true).map V.bl))) (fun Da H' _ e h => ⟨e, h⟩) (fun Da i H' h => h.1 _ _ hd1) ?_ ?_
  · rintro Da i key v H' hD hi ⟨e, h⟩
    obtain ⟨n, r, b, t, rfl, rfl, ht, hks⟩ := hK.get hi
    have hmem := List.mem_of_getElem? hks
    have hil := (List.getElem?_eq_some_iff.mp hks).1
    have nok : NameOk n := ok.nm.ok n (List.mem_map.mpr ⟨_, hmem, rfl⟩)
    obtain ⟨t', hv, ht'⟩ := hK.val ok.nm.nd hmem
    have hne : t' ≠ a := ne_of ht' ha (by intro z; cases z)
    walk_at "rd"
    refine ⟨n, rfl, nok, fun H2 e2 => ?_⟩
    walk_at "rd"
    refine r_kDGetF (e2 _ _ (e _ _ hd1)) hv ?_
    walk_at "rd"
    refine ⟨t', r, b, rfl, e2 _ _ (e _ _ (ho1 _ _ ht' hne)), (ok.rt _ hmem).1, (ok.rt _ hmem).2, ?_⟩
    refine r_kLcE (e2 _ _ h) (by rw [List.length_map, List.length_replicate]; omega) fun H3 b3 h3 => ⟨Same.mut (e.trans e2) b3 hD, ?_⟩
    rw [rep_more]
    exact h3
  · rintro Da H' hD ⟨e, h⟩
    walk_at "rd"
    have hDa : Da ≠ a := by
      rintro rfl
      rw [hd1] at hD
      cases hD
    refine r_kLock ha ho1 hd1 e fun H2 e2 k2 => ?_
    walk_at "rd"
    refine r_all (SqL.of (k2 _ _ h hDa)) ?_
    rw [all_rep]
    exact k H2 e2
end
end Wp
set_option Elab.async false
set_option linter.all false
set_option maxRecDepth 100000
set_option maxHeartbeats 4000000
/-! sorted of a list or a tuple of data that are alike: one list. -/
namespace Wp
open PySem PySem.Spec PyProof.Rows L2
section
variable {prog : Program} {w : World} {A : Around} {E : Value → Shared → Prop} {s : Shared} {l : Addr} {vs : List Value}
theorem collectT {Q : List Value → Shared → Prop} (hl : s.heap.IsTuple l vs.toArray) (hz : vs.length ≤ sizeLine)
    (h : Q vs { s with heap := (s.heap.push (seqObj "list" #[] 0)).update s.heap.objs.size (Obj.mapSeq (· ++ vs.toArray)) }) : wpAny (model prog w) A (collect (.ref l)) Q E s := by
  obtain ⟨o, ho, hc, n, hd⟩ := hl
  have up := Heap.get?_push_of_some (seqObj "list" #[] 0) ho
  have own : (s.heap.push (seqObj "list" #[] 0)).get? s.heap.objs.size = some (seqObj "list" #[] 0) := Heap.get?_push_size _ rfl
  unfold collect
  refine wpAny_bind (wpAny_runValue (codeAny_builtin entry_proto_collect' ?_))
  show wpAny (model prog w) A.in1 (do again (.builtin "list.__iadd__" ⟨[← newList [], .ref l], []⟩)) _ _ s
  refine wpAny_bind (wpAny_newList (wpAny_pure ⟨Code.quiet_builtin _ (by decide +kernel), codeAny_builtin entry_list_iadd' ?_⟩))
  show wpAny (model prog w) _ (Builtin.List.listExtendWith (.ref s.heap.objs.size) (.ref l) (.ref s.heap.objs.size)) _ _ { s with heap := s.heap.push (seqObj "list" #[] 0) }
  unfold Builtin.List.listExtendWith
  refine wpAny_bind (wpAny_typeOf (T := "tuple") ⟨o, up, hc⟩ ?_)
  have tt : (Value.type "tuple" == Value.type "tuple") = true := by rfl
  rw [if_pos (by rw [tt, Bool.or_true])]
  refine wpAny_bind (listItems_at up hd (wpAny_bind (listItems_at (n := 0) own rfl ?_)))
  rw [if_neg (by simp)]
  refine wpAny_bind (listUpdate_at (n := 0) own rfl (wpAny_pure ?_) (Nat.zero_le _) ?_)
  · show wpAny (model prog w) A (load s.heap.objs.size >>= fun o => match o.data with | .seq xs _ => pure xs.toList | _ => unsupported "internal:collect") Q E _
    refine wpAny_bind (wpAny_load (get?_update_seq own _) ?_)
    have e : ((#[] : Array Value) ++ vs.toArray).toList = vs := by simp
    show wpAny (model prog w) A (pure ((#[] : Array Value) ++ vs.toArray).toList) Q E _
    rw [e]
    exact wpAny_pure h
  · show ((#[] : Array Value) ++ vs.toArray).size ≤ sizeLine + 1
    simp
    omega
theorem sortedT_of {Q : Value → Shared → Prop} (hl : s.heap.IsTuple l vs.toArray) (hz : vs.length ≤ sizeLine)
    (body : ∀ E' : Value → Shared → Prop, wpAny (model prog w) A.in1.in1 (Builtin.«list.sort» ⟨[.ref (s.heap.objs.size + 1)], []⟩) (fun r t => r = .done (.ret .none) ∧ Q (.ref (s.heap.objs.size + 1)) t) E' { s with heap := PySem.W.copyHeap s.heap vs }) :
    wpAny (model prog w) A (call (.builtin "sorted") [.ref l]) Q E s := by
  refine Calls.call_function_entry kind_sorted plain_sorted entry_sorted (args_sorted1 _) ?_
  unfold Builtin.«sorted»
  refine wpAny_bind (m := checkCount "sorted" 1 1 _) (wpAny_pure (wpAny_bind (collectT hl hz (wpAny_bind (wpAny_newList ?_ hz)))))
  have sz : ((s.heap.push (seqObj "list" #[] 0)).update s.heap.objs.size (Obj.mapSeq (· ++ vs.toArray))).objs.size = s.heap.objs.size + 1 := by
    rw [Heap.size_update, size_push']
  show wpAny (model prog w) _ _ _ _ { s with heap := PySem.W.copyHeap s.heap vs }
  rw [sz]
  refine wpAny_bind (wpAny_holding (wpAny_call_entry slot_list_sort ⟨_, PySem.W.copyHeap_at s.heap vs, rfl⟩ entry_list_sort ?_ (args_list_sort _)))
  refine wpAny_mono (body _) (fun r t hr => ?_) fun _ _ e => e
  obtain ⟨rfl, q⟩ := hr
  exact ⟨_, rfl, wpAny_pure ⟨_, rfl, q⟩⟩
theorem sortedT_data {β : Type} {R : Value → β → Prop} {enc : β → PyData} {bs : List β} {Q : Value → Shared → Prop} (hl : s.heap.IsTuple l vs.toArray) (e : PySem.W.EachIs R vs bs) (er : PySem.W.EachIs (fun v b => ∃ as, Reads s.heap v (enc b) as) vs bs) (hal : PySem.W.AllAlike (bs.map enc)) (hk : PySem.W.Sortable (bs.map enc)) (hL : bs.length ≤ sizeLine)
    (hu : ∀ b, b ∈ bs → A.units + 2 + (enc b).depth < cLine) (h : ∀ out, out.length = bs.length → PySem.W.EachIs R out (bs.mergeSort (PySem.W.dataLe false enc)) → Q (.ref (s.heap.objs.size + 1)) { s with heap := sortedAll s.heap vs (List.toArray out) }) :
    wpAny (model prog w) A (call (.builtin "sorted") [.ref l]) Q E s := by
  have hL2 : vs.length ≤ sizeLine := by rw [e.length]; exact hL
  have er2 : PySem.W.EachIs (fun v b => ∃ as, Reads (PySem.W.sortingHeap (PySem.W.copyHeap s.heap vs) (s.heap.objs.size + 1) vs) v (enc b) as) vs bs := er.mono fun _ _ ⟨as, r⟩ => ⟨as, PyProof.Rows.Reads.keeps (fun _ _ => PySem.W.sorting_copy_old) r⟩
  have S := PySem.W.SortsAt.data (prog := prog) (w := w) (A := A.in1.in1) (s := { s with heap := PySem.W.sortingHeap (PySem.W.copyHeap s.heap vs) (s.heap.objs.size + 1) vs }) (PySem.W.each_map (R := fun v d => ∃ as, Reads (PySem.W.sortingHeap (PySem.W.copyHeap s.heap vs) (s.heap.objs.size + 1) vs) v d as) enc er2) hal hk (PySem.W.bound_map hu)
  refine sortedT_of hl hL2 fun _ => PySem.W.list_sort_vals (s := { s with heap := PySem.W.copyHeap s.heap vs }) (PySem.W.copyHeap_at s.heap vs) S hL2 ⟨rfl, ?_⟩
  exact h _ (by rw [PySem.W.sortVals_length false rfl]; exact e.length) (PySem.W.sortVals_data false e er2 hal)
end
/-- sorted of alike data -/
def srtV (xs : List V) (ds : List PyData) : List V := ((xs.zip ds).mergeSort (PySem.W.dataLe false (·.2))).map (·.1)
def rSortD (K : PySem.W.Frag) : List V → Hp → VK → Prop := fun vs H Q => ∃ (a : Addr) (xs : List V) (ds : List PyData), vs = [.ref a] ∧ SeqV K H a xs ∧ DpAll K H xs ds ∧ PySem.W.AllAlike ds ∧ PySem.W.Sortable ds ∧ xs.length ≤ 1000000 ∧ (∀ d ∈ ds, d.depth ≤ 20) ∧
  ∀ p, H p = none → Q (.ref p) (upd H p (.lst (srtV xs ds)))
theorem dpAll_len {K : PySem.W.Frag} {H : Hp} : ∀ {xs : List V} {ds : List PyData}, DpAll K H xs ds → xs.length = ds.length
  | _, _, .nil => rfl
  | _, _, .cons _ r => by simp [dpAll_len r]
theorem each_rel {X : Cx} {pins : List (Addr × Obj)} {σ : L2.St} {H : Hp} {s : Shared} (I : Inv X pins σ H s) : ∀ {xs : List V} {ds : List PyData} {us : List Value}, Vals xs us → DpAll X.K H xs ds →
    PySem.W.EachIs (fun (v : Value) (b : V × PyData) => RelV b.1 v) us (xs.zip ds) ∧ PySem.W.EachIs (fun (v : Value) (b : V × PyData) => ∃ as, Reads s.heap v b.2 as) us (xs.zip ds)
  | _, _, _, .nil, .nil => ⟨.nil, .nil⟩
  | _, _, _, .cons r rr, .cons d dd => by
    obtain ⟨h1, h2⟩ := each_rel I rr dd
    exact ⟨.cons r h1, .cons (Dp.reads I _ _ _ d r) h2⟩
theorem vals_each : ∀ {bs : List (V × PyData)} {us : List Value}, PySem.W.EachIs (fun (v : Value) (b : V × PyData) => RelV b.1 v) us bs → Vals (bs.map (·.1)) us
  | _, _, .nil => .nil
  | _, _, .cons r rr => .cons r (vals_each rr)
theorem map_snd_zip {xs : List V} {ds : List PyData} (h : xs.length = ds.length) : (xs.zip ds).map (fun b => b.2) = ds := List.map_snd_zip (by omega)
theorem c_sortD {X : Cx} {K : PySem.W.Frag} {k : Nat} (hK : X.K = K) (hr : Room k X.A) : CallR X (.builtin "sorted") (rSortD K) := by
  subst hK
  intro pins s σ H vs us Q I r h
  obtain ⟨a, xs, ds, rfl, hs, hd, al, so, hz, hdep, q⟩ := h
  have hlen := dpAll_len hd
  obtain ⟨u, rfl, ru⟩ := vals1 r
  obtain rfl : u = Value.ref a := ru
  have hu := hr.units
  have fin : ∀ (its : List Value), its.length = xs.length → ∀ out, out.length = (xs.zip ds).length → PySem.W.EachIs (fun (v : Value) (b : V × PyData) => RelV b.1 v) out ((xs.zip ds).mergeSort (PySem.W.dataLe false (·.2))) →
      EP X pins σ Q (.ref (s.heap.objs.size + 1)) { s with heap := sortedAll s.heap its (List.toArray out) } := by
    intro its hil out ho he
    obtain ⟨ep, at_⟩ := sortedAll_at s.heap its out.toArray
    refine ⟨.ref _, upd H (s.heap.objs.size + 1) (.lst (srtV xs ds)), I.laid (t' := s.toks) (fun _ _ => sortedAll_old) (Nat.le_succ _) ⟨?_, out, ep, vals_each he, at_⟩, rfl, q _ (I.hok.fresh (Nat.le_succ _))⟩
    unfold srtV
    rw [List.length_map, List.length_mergeSort, List.length_zip]
    exact sz5 (by omega)
  have al' : PySem.W.AllAlike ((xs.zip ds).map (fun b => b.2)) := by rw [map_snd_zip hlen]; exact al
  have so' : PySem.W.Sortable ((xs.zip ds).map (fun b => b.2)) := by rw [map_snd_zip hlen]; exact so
  have hL : (xs.zip ds).length ≤ sizeLine := by rw [List.length_zip]; exact sz5 (by omega)
  have hu2 : ∀ b, b ∈ xs.zip ds → X.A.units + 2 + b.2.depth < cLine := fun b hb => by
    have := hdep b.2 (List.of_mem_zip hb).2
    omega
  rcases hs with hs | hs
  · obtain ⟨its, rv, pl, _⟩ := I.list hs
    obtain ⟨e1, e2⟩ := each_rel I rv hd
    exact PySem.W.sorted_data pl.isList e1 e2 al' so' hL hu2 (fin its rv.length.symm)
  · obtain ⟨its, rv, pl, _⟩ := I.tuple hs
    obtain ⟨e1, e2⟩ := each_rel I rv hd
    exact sortedT_data (show s.heap.IsTuple a its.toArray from pl) e1 e2 al' so' hL hu2 (fin its rv.length.symm)
end Wp
set_option Elab.async false
set_option linter.all false
set_option maxRecDepth 100000
set_option maxHeartbeats 4000000
/-! What sorted makes of texts and of other data. -/
namespace Wp
open PySem PySem.Spec PyProof.Rows L2
theorem zip_maps {β : Type} (v : β → V) (e : β → PyData) : ∀ bs : List β, (bs.map v).zip (bs.map e) = bs.map fun b => (v b, e b)
  | [] => rfl
  | b :: r => by simp [zip_maps v e r]
theorem srt_map {β : Type} (bs : List β) (v : β → V) (e : β → PyData) : srtV (bs.map v) (bs.map e) = (bs.mergeSort (PySem.W.dataLe false e)).map v := by
  unfold srtV
  rw [zip_maps, ← List.map_mergeSort (r := PySem.W.dataLe false e) (s := PySem.W.dataLe false (fun b : V × PyData => b.2)) (f := fun b => (v b, e b)) (fun a _ b _ => rfl), List.map_map]
  rfl
def leS (a b : Str) : Bool := decide (a.cps.toList ≤ b.cps.toList)
theorem leS_eq : PySem.W.dataLe false PyData.str = leS := PySem.W.dataLe_str (fun b : Str => b)
theorem leS_trans (a b c : Str) (h1 : leS a b = true) (h2 : leS b c = true) : leS a c = true := decide_eq_true (List.le_trans (of_decide_eq_true h1) (of_decide_eq_true h2))
theorem leS_total (a b : Str) : (leS a b || leS b a) = true := by
  rcases List.le_total a.cps.toList b.cps.toList with h | h
  · rw [show leS a b = true from decide_eq_true h]
    rfl
  · rw [show leS b a = true from decide_eq_true h, Bool.or_true]
theorem leS_anti {a b : Str} (h1 : leS a b = true) (h2 : leS b a = true) : a = b := PySem.W.str_of_cps (List.le_antisymm (of_decide_eq_true h1) (of_decide_eq_true h2))
def srtS (xs : List Str) : List Str := xs.mergeSort leS
theorem srtS_perm (xs : List Str) : (srtS xs).Perm xs := List.mergeSort_perm xs leS
theorem srtS_asc (xs : List Str) : (srtS xs).Pairwise (fun a b => leS a b = true) := List.pairwise_mergeSort leS_trans leS_total xs
/-- two ascending arrangements are one -/
theorem asc_uniq {xs ys : List Str} (h1 : xs.Pairwise (fun a b => leS a b = true)) (h2 : ys.Pairwise (fun a b => leS a b = true)) (p : xs.Perm ys) : xs = ys := List.Perm.eq_of_pairwise (fun _ _ _ _ a b => leS_anti a b) h1 h2 p
theorem srtS_eq {xs ys : List Str} (h : xs.Perm ys) : srtS xs = srtS ys := asc_uniq (srtS_asc xs) (srtS_asc ys) ((srtS_perm xs).trans (h.trans (srtS_perm ys).symm))
theorem rising_asc : ∀ (p : Str) (l : List Str), risingS p l = true → (p :: l).Pairwise (fun a b => leS a b = true)
  | p, [], _ => List.pairwise_singleton _ _
  | p, x :: r, h => by
    have h : (!ltCps x.cps.toList p.cps.toList && risingS x r) = true := h
    obtain ⟨h1, h2⟩ := Bool.and_eq_true_iff.mp h
    have ih := rising_asc x r h2
    have hpx : leS p x = true := by
      have e : ltCps x.cps.toList p.cps.toList = false := by simpa using h1
      rw [ltCps_eq] at e
      exact decide_eq_true (List.not_lt.mp (of_decide_eq_false e))
    refine List.pairwise_cons.mpr ⟨fun y hy => ?_, ih⟩
    rcases List.mem_cons.mp hy with rfl | hy
    · exact hpx
    · exact leS_trans _ _ _ hpx ((List.pairwise_cons.mp ih).1 y hy)
theorem sortedS_asc {l : List Str} (h : sortedS l = true) : l.Pairwise (fun a b => leS a b = true) := by
  cases l with
  | nil => exact .nil
  | cons p r => exact rising_asc p r h
theorem sortedS_uniq {xs ys : List Str} (h1 : sortedS xs = true) (h2 : sortedS ys = true) (p : xs.Perm ys) : xs = ys := asc_uniq (sortedS_asc h1) (sortedS_asc h2) p
section
variable {K : PySem.W.Frag} {H : Hp} {Q : VK} {p : Addr} {xs : List Str}
theorem alike_strs (xs : List Str) : PySem.W.AllAlike (xs.map PyData.str) := PySem.W.AllAlike.of fun _ _ => rfl
theorem sortable_strs (xs : List Str) : PySem.W.Sortable (xs.map PyData.str) := PySem.W.Sortable.others fun b => ⟨(fun z => by cases z), fun ys z => by cases z⟩
theorem depth_strs (xs : List Str) : ∀ d ∈ xs.map PyData.str, d.depth ≤ 20 := fun d hd => by
  obtain ⟨z, _, rfl⟩ := List.mem_map.mp hd
  simp [PyData.depth]
theorem r_sortS (h : SeqV K H p (xs.map V.str)) (hz : xs.length ≤ 1000000) (q : ∀ t H', H t = none → Same H H' → H' t = some (.lst ((srtS xs).map V.str)) → Q (.ref t) H') : rSortD K [.ref p] H Q := by
  refine ⟨p, _, xs.map .str, rfl, h, dp_strs xs, alike_strs xs, sortable_strs xs, by rw [List.length_map]; exact hz, depth_strs xs, fun t ht => ?_⟩
  rw [srt_map, leS_eq]
  exact q t _ ht (Same.new ht) upd_same
theorem lay_strs : ∀ l : List Str, (∀ z ∈ l, PyData.strOk z = true) → PyData.canLayAll0 (l.map PyData.str) = true ∧ PyData.depthAll (l.map PyData.str) = 0
  | [], _ => ⟨rfl, rfl⟩
  | a :: r, h => by
    obtain ⟨i1, i2⟩ := lay_strs r fun z hz => h z (List.mem_cons_of_mem _ hz)
    refine ⟨?_, ?_⟩
    · rw [List.map_cons, PyData.canLayAll0, i1]
      simp [PyData.canLay0, h a (List.mem_cons_self ..)]
    · rw [List.map_cons, PyData.depthAll, i2]
      simp [PyData.depth]
theorem shp_strs {l : List Str} (h : ∀ z ∈ l, PyData.strOk z = true) : SeqAt.shaped (.list (l.map PyData.str)) = true := by
  obtain ⟨y1, y2⟩ := lay_strs l h
  show (PyData.canLayAll0 _ && decide (PyData.depthAll _ + 1 ≤ 64)) = true
  rw [y1, y2]
  rfl
end
end Wp
set_option Elab.async false
set_option linter.all false
set_option maxRecDepth 100000
set_option maxHeartbeats 4000000
/-! A new dict that is walked and then left; three at once; max of three. -/
namespace Wp
open PySem PySem.Spec PyProof.Rows L2
def kFrz (Q : VK) : VK := fun x H1 => ∃ d kvs, x = .ref d ∧ H1 d = some (.dK kvs) ∧ ∀ od, Q (.ref d) (upd H1 d (.frz od (.dK kvs)))
def tFrz (t : TE) : TE := fun σ H Q => t σ H (kFrz Q)
section
variable {X : Cx} {e : Expr} {t : TE} {σ : L2.St} {H : Hp} {Q : VK} {d : Addr} {kvs : List (Key × V)}
theorem pe_frz (h : PE X e t) : PE X e (tFrz t) := by
  refine ⟨fun pins s σ H Q I hw => thn (h.run pins s σ H _ I hw) fun v s1 ⟨x, H1, I1, r, d, kvs, ex, hd, q⟩ => ?_⟩
  obtain ⟨od, I2⟩ := I1.lock hd True.intro
  exact ⟨.ref d, _, I2, by rw [← ex]; exact r, q od⟩
theorem r_frz (q : t σ H (kFrz Q)) : tFrz t σ H Q := q
theorem r_kFrz (h : H d = some (.dK kvs)) (q : ∀ od H', H' d = some (.frz od (.dK kvs)) → But d H H' → (∀ b, H' b = none → H b = none) → Q (.ref d) H') : kFrz Q (.ref d) H :=
  ⟨d, kvs, rfl, h, fun od => q od _ upd_same But.upd fun b e => by
    by_cases hb : b = d
    · rw [hb, upd_same] at e
      cases e
    · rw [upd_ne hb] at e
      exact e⟩
end
section
variable {ta : TA} {D : Ends} {σ : L2.St} {H : Hp} {i j l : Nat} {x y z : V} {Q : VK}
def kPar3 (i j l : Nat) (D : Ends) (σ : L2.St) : List V → Hp → Prop := fun vs H1 => ∃ u v w, vs = [u, v, w] ∧ D.nx (((σ.set i (some u)).set j (some v)).set l (some w)) H1
theorem r_par3 (q : ta σ H (kPar3 i j l D σ)) : tPar3 i j l ta D σ H := q
theorem r_kPar3 (q : D.nx (((σ.set i (some x)).set j (some y)).set l (some z)) H) : kPar3 i j l D σ [x, y, z] H := ⟨x, y, z, rfl, q⟩
theorem r_max3 {a b c : Int} (q : ∀ m : Int, Q (.int m) H) : rNuC3 nuMax3 [.int a, .int b, .int c] H Q := by
  have h2 : ∀ a b : Int, ∃ m : Int, nuMax2 (.int a) (.int b) = some (.int m) := fun a b => by
    have e : nuMax2 (.int a) (.int b) = some (if decide (a < b) = true then V.int b else V.int a) := rfl
    rw [e]
    by_cases h : a < b
    · exact ⟨b, by rw [if_pos (decide_eq_true h)]⟩
    · exact ⟨a, by rw [if_neg (by rw [decide_eq_false h]; decide)]⟩
  obtain ⟨m, hm⟩ := h2 a b
  obtain ⟨n, hn⟩ := h2 m c
  exact ⟨_, _, _, _, rfl, by show (nuMax2 (.int a) (.int b)).bind _ = _; rw [hm]; exact hn, q n⟩
end
/-! data that can stand in lists that are compared -/
structure GoodD (K : PySem.W.Frag) (H : Hp) (v : V) (d : PyData) : Prop where
  p : Dp K H v d
  l : PyData.canLay0 d = true
  h : d.depth ≤ 20
theorem GoodD.keep {K : PySem.W.Frag} {H H' : Hp} {v : V} {d : PyData} (g : GoodD K H v d) (e : Same H H') : GoodD K H' v d := ⟨Dp.mono e g.p, g.l, g.h⟩
/-- a list of such data -/
inductive GoodL (K : PySem.W.Frag) (H : Hp) : List V → List PyData → Prop
  | nil : GoodL K H [] []
  | cons {v : V} {d : PyData} {vs : List V} {ds : List PyData} : GoodD K H v d → GoodL K H vs ds → GoodL K H (v :: vs) (d :: ds)
section
variable {K : PySem.W.Frag} {H H' : Hp} {vs : List V} {ds : List PyData} {p q : Addr} {Q : VK} {v : V} {d : PyData}
theorem GoodL.dp (g : GoodL K H vs ds) : DpAll K H vs ds ∧ PyData.canLayAll0 ds = true ∧ PyData.depthAll ds ≤ 20 ∧ vs.length = ds.length := by
  induction g with
  | nil => exact ⟨.nil, rfl, Nat.zero_le _, rfl⟩
  | @cons v d vs ds h _ ih =>
    obtain ⟨h1, h2, h3, h4⟩ := ih
    refine ⟨.cons h.p h1, ?_, ?_, by simp [h4]⟩
    · rw [PyData.canLayAll0, h.l, h2]
      rfl
    · rw [PyData.depthAll]
      have := h.h
      omega
theorem GoodL.keep (g : GoodL K H vs ds) (e : Same H H') : GoodL K H' vs ds := by
  induction g with
  | nil => exact .nil
  | cons h _ ih => exact .cons (h.keep e) ih
theorem GoodL.snoc (g : GoodL K H vs ds) (h : GoodD K H v d) : GoodL K H (vs ++ [v]) (ds ++ [d]) := by
  induction g with
  | nil => exact .cons h .nil
  | cons h' _ ih => exact .cons h' ih
theorem GoodD.int (i : Int) : GoodD K H (.int i) (.int i) := ⟨.int i, rfl, by simp [PyData.depth]⟩
theorem GoodD.str {z : Str} (h : PyData.strOk z = true) : GoodD K H (.str z) (.str z) := ⟨.str z, h, by simp [PyData.depth]⟩
/-- a tuple, a list of good data, not too deep -/
theorem GoodL.tup (g : GoodL K H vs ds) (h : PyData.depthAll ds ≤ 18) (hp : H p = some (.tup vs)) : GoodD K H (.ref p) (.tuple ds) := by
  obtain ⟨h1, h2, _, _⟩ := g.dp
  exact ⟨.tup (SqT.of hp) h1, h2, by rw [PyData.depth]; omega⟩
theorem GoodL.lst (g : GoodL K H vs ds) (h : PyData.depthAll ds ≤ 18) (hp : H p = some (.lst vs)) : GoodD K H (.ref p) (.list ds) := by
  obtain ⟨h1, h2, _, _⟩ := g.dp
  exact ⟨.lst (SqL.of hp) h1, h2, by rw [PyData.depth]; omega⟩
/-- xs != [] -/
theorem r_neNil (g : GoodL K H vs ds) (hp : H p = some (.lst vs)) (hq : H q = some (.lst [])) (k : Q (.bl (!decide (vs = []))) H) : rNeD K (.ref p) (.ref q) H Q := by
  obtain ⟨h1, h2, h3, h4⟩ := g.dp
  refine ⟨.list ds, .list [], .lst (SqL.of hp) h1, .lst (SqL.of hq) .nil, ?_, by decide +kernel, ?_⟩
  · show (PyData.canLayAll0 ds && decide (PyData.depthAll ds + 1 ≤ 64)) = true
    rw [h2, decide_eq_true (by omega)]
    rfl
  · have e : PyData.eqv (.list ds) (.list []) = decide (vs = []) := by
      show PyData.eqvAll ds [] = _
      cases ds with
      | nil =>
        have : vs = [] := List.length_eq_zero_iff.mp h4
        rw [this]
        rfl
      | cons a r =>
        cases vs with
        | nil => cases h4
        | cons b s =>
          show PyData.eqvAll (a :: r) [] = _
          simp [PyData.eqvAll]
    rw [e]
    exact k
end
/-! a list, whatever is in it, against [] -/
def rNeNil (K : PySem.W.Frag) : R2 := fun x y H Q => ∃ (p q : Addr) (xs : List V), x = .ref p ∧ y = .ref q ∧ SqL K H p xs ∧ SqL K H q [] ∧ Q (.bl (!decide (xs = []))) H
def rEqNil (K : PySem.W.Frag) : R2 := fun x y H Q => ∃ (p q : Addr) (xs : List V), x = .ref p ∧ y = .ref q ∧ SqL K H p xs ∧ SqL K H q [] ∧ Q (.bl (decide (xs = []))) H
section
variable {X : Cx} {K : PySem.W.Frag} {H : Hp} {Q : VK} {p q : Addr} {xs : List V}
theorem nil_cmp (hu : X.A.units < cLine) {pins : List (Addr × Obj)} {s : Shared} {σ : L2.St} (I : Inv X pins σ H s) (h1 : SqL X.K H p xs) (h2 : SqL X.K H q []) :
    (∀ (R : Value → Shared → Prop) (E : Value → Shared → Prop), R (.bool (decide (xs = []))) s → wpAny (model X.prog X.w) X.A (compareOp .Eq (.ref p) (.ref q)) R E s) ∧
    (∀ (R : Value → Shared → Prop) (E : Value → Shared → Prop), R (.bool (!decide (xs = []))) s → wpAny (model X.prog X.w) X.A (compareOp .NotEq (.ref p) (.ref q)) R E s) := by
  obtain ⟨us, rv, p1, _⟩ := I.list h1
  obtain ⟨ws, rw2, p2, _⟩ := I.list h2
  have e2 : ws = [] := by
    cases rw2
    rfl
  subst e2
  cases xs with
  | nil =>
    have e1 : us = [] := by
      cases rv
      rfl
    subst e1
    refine ⟨fun R E hR => ?_, fun R E hR => ?_⟩
    · exact SeqAt.eq_listAt (e := fun _ => true) p1.isList p2.isList rfl hu (fun j h => absurd h (by simp)) (by simpa using hR)
    · exact SeqAt.RcNeAt.lists (e := fun _ => true) p1.isList p2.isList rfl hu (fun j h => absurd h (by simp)) X.prog X.w E R (by simpa using hR)
  | cons v vs =>
    have hz : (us.toArray.size != ([] : List Value).toArray.size) = true := by
      have := rv.length
      cases us with
      | nil => cases this
      | cons a r => simp
    refine ⟨fun R E hR => ?_, fun R E hR => ?_⟩
    · exact SeqAt.eq_list_lengthsAt p1.isList p2.isList hz hu (by simpa using hR)
    · exact SeqAt.RcNeAt.lists_lengths p1.isList p2.isList hz hu X.prog X.w E R (by simpa using hR)
theorem neNilK (h : X.K = K) (hu : X.A.units + 64 < cLine) : OpR X (compareOp .NotEq) (rNeNil K) := by
  subst h
  intro pins s σ H x y v u Q I rx ry h
  obtain ⟨p, q, xs, rfl, rfl, h1, h2, k⟩ := h
  obtain rfl : v = .ref p := rx
  obtain rfl : u = .ref q := ry
  exact (nil_cmp (by omega) I h1 h2).2 _ _ ⟨.bl _, H, I, rfl, k⟩
theorem eqNilK (h : X.K = K) (hu : X.A.units + 64 < cLine) : OpR X (compareOp .Eq) (rEqNil K) := by
  subst h
  intro pins s σ H x y v u Q I rx ry h
  obtain ⟨p, q, xs, rfl, rfl, h1, h2, k⟩ := h
  obtain rfl : v = .ref p := rx
  obtain rfl : u = .ref q := ry
  exact (nil_cmp (by omega) I h1 h2).1 _ _ ⟨.bl _, H, I, rfl, k⟩
theorem r_neNilA (h1 : SqL K H p xs) (h2 : SqL K H q []) (k : Q (.bl (!decide (xs = []))) H) : rNeNil K (.ref p) (.ref q) H Q := ⟨p, q, xs, rfl, rfl, h1, h2, k⟩
theorem r_eqNilA (h1 : SqL K H p xs) (h2 : SqL K H q []) (k : Q (.bl (decide (xs = []))) H) : rEqNil K (.ref p) (.ref q) H Q := ⟨p, q, xs, rfl, rfl, h1, h2, k⟩
end
end Wp
set_option Elab.async false
set_option linter.all false
set_option maxRecDepth 100000
set_option maxHeartbeats 4000000
/-! Books held against each other: why one is dearer; days of the first months. -/
namespace Wp
open PySem PySem.Spec PyProof.Rows L2
def whyF (B1 B2 : Bk) (r1 : Int) (f1 : Bool) (r2 : Int) (f2 : Bool) : Str :=
  if r1 = 0 then "" else if r1 > r2 then "rate" else if f2 = false then "" else
  if B2.beg = "statement" ∧ (f1 = false ∨ B1.beg = "day") then "begin" else if f1 = false then "free" else
  if B1.due < B2.due then "due" else if B1.mem > B2.mem ∧ (B1.beg = "day" ∨ B2.due > 0) then "memory" else ""
section
variable {B1 B2 : Bk} {r1 r2 : Int} {f1 f2 : Bool}
theorem sn1 : ¬ ("" : Str) = "rate" := by decide +kernel
theorem sn2 : ¬ ("" : Str) = "begin" := by decide +kernel
theorem sn3 : ¬ ("" : Str) = "free" := by decide +kernel
theorem sn4 : ¬ ("" : Str) = "due" := by decide +kernel
theorem sn5 : ¬ ("" : Str) = "memory" := by decide +kernel
theorem why_rate (h : whyF B1 B2 r1 f1 r2 f2 = "rate") : r1 > r2 := by
  unfold whyF at h
  by_cases h1 : r1 = 0
  · rw [if_pos h1] at h
    exact absurd h sn1
  · rw [if_neg h1] at h
    by_cases h2 : r1 > r2
    · exact h2
    · rw [if_neg h2] at h
      repeat (split at h; first | exact absurd h (by decide +kernel) | skip)
      all_goals exact absurd h (by decide +kernel)
theorem why_ne (h : ¬ whyF B1 B2 r1 f1 r2 f2 = "") : r1 ≠ 0 := by
  intro z
  unfold whyF at h
  rw [if_pos z] at h
  exact h rfl
theorem why_memory (h : whyF B1 B2 r1 f1 r2 f2 = "memory") : B1.beg = "day" ∨ B2.due > 0 := by
  unfold whyF at h
  by_cases h7 : B1.mem > B2.mem ∧ (B1.beg = "day" ∨ B2.due > 0)
  · exact h7.2
  · rw [if_neg h7] at h
    repeat (split at h; first | exact absurd h (by decide +kernel) | skip)
    all_goals exact absurd h (by decide +kernel)
theorem why_cases : whyF B1 B2 r1 f1 r2 f2 = "" ∨ whyF B1 B2 r1 f1 r2 f2 = "rate" ∨ whyF B1 B2 r1 f1 r2 f2 = "begin" ∨ whyF B1 B2 r1 f1 r2 f2 = "free" ∨ whyF B1 B2 r1 f1 r2 f2 = "due" ∨ whyF B1 B2 r1 f1 r2 f2 = "memory" := by
  unfold whyF
  repeat (split; first | exact .inl rfl | exact .inr (.inl rfl) | exact .inr (.inr (.inl rfl)) | exact .inr (.inr (.inr (.inl rfl))) | exact .inr (.inr (.inr (.inr (.inl rfl)))) | exact .inr (.inr (.inr (.inr (.inr rfl)))))
  exact .inl rfl
end
namespace Bk
/-- how long the months are -/
theorem first_gap {B : Bk} (ok : B.Ok) {m : Int} (h0 : 0 ≤ m) (h3 : m ≤ 3) : 2 ≤ B.first (m + 1) - B.first m ∧ B.first (m + 1) - B.first m ≤ 31 := by
  have l1 := ok.l1
  have l2 := ok.l2
  have l3 := ok.l3
  unfold first
  generalize B.ls = l at *
  have hm : m = 0 ∨ m = 1 ∨ m = 2 ∨ m = 3 := by omega
  match l, l1, l2, l3 with
  | [a], _, _, l3 =>
    have ha := l3 a (by simp)
    rcases hm with rfl | rfl | rfl | rfl <;> simp <;> omega
  | [a, b], _, _, l3 =>
    have ha := l3 a (by simp)
    have hb := l3 b (by simp)
    rcases hm with rfl | rfl | rfl | rfl <;> simp <;> omega
  | [a, b, c], _, _, l3 =>
    have ha := l3 a (by simp)
    have hb := l3 b (by simp)
    have hc := l3 c (by simp)
    rcases hm with rfl | rfl | rfl | rfl <;> simp <;> omega
  | [a, b, c, d], _, _, l3 =>
    have ha := l3 a (by simp)
    have hb := l3 b (by simp)
    have hc := l3 c (by simp)
    have hd := l3 d (by simp)
    rcases hm with rfl | rfl | rfl | rfl <;> simp <;> omega
theorem first0 {B : Bk} (ok : B.Ok) : B.first 0 = 0 := by
  unfold first
  simp
theorem first1 {B : Bk} (ok : B.Ok) : 2 ≤ B.first 1 ∧ B.first 1 ≤ 31 := by
  have h := first_gap ok (Int.le_refl 0) (by decide)
  rw [first0 ok] at h
  have e : (0 : Int) + 1 = 1 := rfl
  rw [e] at h
  omega
theorem due_le {B : Bk} (ok : B.Ok) : B.due ≤ 30 := by
  have l1 := ok.l1
  obtain ⟨a, ha⟩ : ∃ a, a ∈ B.ls := List.exists_mem_of_length_pos (by omega)
  have h1 := ok.d1 a ha
  have h2 := ok.l3 a ha
  omega
end Bk
theorem name_strOk {z : Str} (h : NameOk z) : PyData.strOk z = true := by
  have hl := h.low
  unfold PyData.strOk
  rw [Array.all_eq_true']
  intro c hc
  have := hl c (Array.mem_toList_iff.mpr hc)
  exact decide_eq_true (by omega)
theorem strOk_buy : PyData.strOk "buy" = true := by decide +kernel
theorem strOk_pay : PyData.strOk "pay" = true := by decide +kernel
section
variable {K : PySem.W.Frag} {H : Hp} {t : Addr} {n : Str} {a b : Int}
theorem good_buy (h : PyData.strOk n = true) (ht : H t = some (.tup [.str "buy", .int a, .str n, .int b])) : GoodD K H (.ref t) (.tuple [.str "buy", .int a, .str n, .int b]) :=
  GoodL.tup (.cons (.str strOk_buy) (.cons (.int _) (.cons (.str h) (.cons (.int _) .nil)))) (by simp [PyData.depthAll, PyData.depth]) ht
theorem good_pay (ht : H t = some (.tup [.str "pay", .int a, .int b])) : GoodD K H (.ref t) (.tuple [.str "pay", .int a, .int b]) :=
  GoodL.tup (.cons (.str strOk_pay) (.cons (.int _) (.cons (.int _) .nil))) (by simp [PyData.depthAll, PyData.depth]) ht
end
/-- what course_for hands back -/
def CrsV (K : PySem.W.Frag) (H : Hp) (s : Str) (v : V) : Prop := (s = "" ∧ v = .non) ∨ (¬ s = "" ∧ ∃ t d, v = .ref t ∧ GoodD K H (.ref t) d)
theorem CrsV.keep {K : PySem.W.Frag} {H H' : Hp} {s : Str} {v : V} (h : CrsV K H s v) (e : Same H H') : CrsV K H' s v := by
  rcases h with h | ⟨h1, t, d, h2, h3⟩
  · exact .inl h
  · exact .inr ⟨h1, t, d, h2, h3.keep e⟩
end Wp
set_option Elab.async false
set_option linter.all false
set_option maxRecDepth 100000
set_option maxHeartbeats 4000000
namespace Wp
open PySem PySem.Spec PyProof.Rows L2
abbrev s_is_order : Stmt := topS 26
abbrev s_Book___init__ : Stmt := inClass (topS 28) 0
abbrev s_need_book : Stmt := topS 29
local macro_rules | `(tactic| walk_at "val") => `(tactic| assumption)
local macro_rules | `(tactic| walk_at "rd1") => `(tactic| first
  | with_reducible refine r_seq ?_ | with_reducible refine r_next ?_ | with_reducible refine r_if ?_ | with_reducible refine r_asg ?_ | with_reducible refine r_gname ?_
  | with_reducible refine r_ret ?_ | with_reducible refine r_retN ?_ | with_reducible refine r_drop ?_ | with_reducible refine r_par ?_ | with_reducible refine r_kPar ?_
  | ((with_reducible refine' r_var ?hv ?_); (case hv => exact rfl)) | with_reducible refine r_c ?_ | with_reducible refine r_nil ?_ | with_reducible refine r_cons ?_
  | with_reducible refine r_fn ?_ | with_reducible refine r_cb ?_ | with_reducible refine r_op ?_ | with_reducible refine r_un ?_ | with_reducible refine r_I0 ?_
  | with_reducible refine r_pow5 ?_ | with_reducible refine r_pow6 ?_ | with_reducible refine r_pow7 ?_ | with_reducible refine r_pow9 ?_ | with_reducible refine r_pow18 ?_ | with_reducible refine r_pow20 ?_ | with_reducible refine r_pow30 ?_
  | with_reducible refine r_isN_non ?_ | with_reducible refine r_isN_ref ?_ | with_reducible refine r_isN_int ?_ | with_reducible refine r_isN_str ?_ | with_reducible refine r_isN_bl ?_ | with_reducible refine r_notN_non ?_ | with_reducible refine r_notN_ref ?_ | with_reducible refine r_notN_int ?_ | with_reducible refine r_notN_str ?_ | with_reducible refine r_notN_bl ?_
  | ((with_reducible refine r_I ?hc ?_); (case hc => walk_at "side")) | with_reducible refine r_U ?_
  | with_reducible refine r_eqI ?_ | with_reducible refine r_neI ?_ | with_reducible refine r_eqS ?_ | with_reducible refine r_neS ?_ | with_reducible refine r_eqB ?_ | with_reducible refine r_neB ?_
  | with_reducible refine r_chain ?_ | with_reducible refine r_test ?_ | with_reducible refine r_tB ?_ | with_reducible refine r_kTest ?_ | with_reducible refine r_not ?_
  | with_reducible refine r_and ?_ | with_reducible refine r_or ?_ | with_reducible refine r_tif ?_ | with_reducible refine r_andV ?_ | with_reducible refine r_orV ?_ | with_reducible refine r_notV ?_
  | with_reducible refine r_kAndV ?_ | with_reducible refine r_kOrV ?_ | with_reducible refine r_kNotV ?_
  | with_reducible refine w_T ?_ | with_reducible refine w_F ?_ | with_reducible refine w_NT ?_ | with_reducible refine w_NF ?_
  | with_reducible refine r_tup ?_ | with_reducible refine r_lst ?_ | with_reducible refine r_fld ?_ | with_reducible refine r_prop ?_ | ((with_reducible refine' r_aug ?h1 ?_); (case h1 => exact rfl)) | with_reducible refine r_ipI ?_ | with_reducible refine r_dget ?_ | with_reducible refine r_dput ?_ | with_reducible refine r_bm ?_
  | ((with_reducible refine' r_kDGetS ?h1 ?h2 ?_); (case h1 => assumption); (case h2 => walk_at "val"))
  | ((with_reducible refine' r_kBML ?h1 ?_); (case h1 => assumption))
  | with_reducible refine r_forL ?_ | with_reducible refine r_forR1 ?_ | with_reducible refine r_forR2 ?_ | with_reducible refine r_forT ?_ | with_reducible refine r_lcL ?_ | with_reducible refine r_lcR1 ?_
  | ((with_reducible refine r_kLcG ?hw ?_); (case hw => exact rfl)) | with_reducible refine r_kLcT ?_ | with_reducible refine r_yes ?_
  | with_reducible refine r_pnil ?_ | with_reducible refine r_pcons ?_
  | with_reducible refine r_fnK ?_ | ((with_reducible refine r_kFnK ?hl ?_); (case hl => exact rfl))
  | with_reducible refine r_isi_ii ?_ | with_reducible refine r_isi_ib ?_ | with_reducible refine r_isi_bi ?_ | with_reducible refine r_isi_bb ?_ | with_reducible refine r_isi_ss ?_ | with_reducible refine r_isi_is ?_ | with_reducible refine r_isi_it ?_
  | ((with_reducible refine' r_isi_tt ?h1 ?_); (case h1 => assumption))
  | with_reducible refine r_sfld ?_ | with_reducible refine r_gnil ?_ | with_reducible refine r_gcons ?_
  | ((with_reducible refine' r_gtup ?h1 ?h2 ?_); (case h1 => exact SqT.of (by assumption)); (case h2 => exact rfl))
  | with_reducible refine r_sl ?_ | with_reducible refine r_noPart ?_ | with_reducible refine r_part ?_ | with_reducible refine r_kPart ?_ | with_reducible refine r_m1 ?_ | with_reducible refine r_kM1 ?_ | with_reducible refine r_forS ?_ | with_reducible refine r_lcS ?_ | with_reducible refine r_lcTu ?_ | with_reducible refine r_lcK ?_ | with_reducible refine r_dcL ?_ | with_reducible refine r_dcK ?_ | with_reducible refine r_lc2L ?_ | with_reducible refine r_kLc2TL ?_ | with_reducible refine r_dcEn ?_ | with_reducible refine r_gslc ?_ | with_reducible refine r_lcEn ?_ | with_reducible refine r_lcEl ?_ | with_reducible refine r_lcR2 ?_ | with_reducible refine r_rg1 ?_ | with_reducible refine r_forET ?_ | with_reducible refine r_lenD ?_
  | ((with_reducible refine r_kDcG ?hw ?_); (case hw => exact rfl)) | with_reducible refine r_kDcT ?_
  | with_reducible refine r_fldaug ?_ | with_reducible refine r_daug ?_ | with_reducible refine r_rAdd ?_ | with_reducible refine r_rSub ?_ | with_reducible refine r_ddel ?_ | with_reducible refine r_bmF ?_ | with_reducible refine r_dget2 ?_ | with_reducible refine r_listItems ?_ | with_reducible refine r_bm0 ?_ | with_reducible refine r_lc2E ?_ | ((with_reducible refine r_kLc2G ?hw ?_); (case hw => exact rfl)) | with_reducible refine r_kLc2T ?_ | with_reducible refine r_forE ?_ | with_reducible refine r_orT ?_ | with_reducible refine r_din ?_ | with_reducible refine r_augS ?_ | with_reducible refine r_dnotin ?_ | with_reducible refine r_lcIT ?_ | with_reducible refine r_cont ?_ | with_reducible refine r_meth ?_ | with_reducible refine r_frz ?_ | with_reducible refine r_par3 ?_ | with_reducible refine r_kPar3 ?_ | with_reducible refine r_dz ?_ | with_reducible refine r_revL ?_ | with_reducible refine r_star ?_ | with_reducible refine r_int1 ?_ | with_reducible refine r_int1b ?_ | with_reducible refine r_min2 ?_ | with_reducible refine r_max2 ?_ | with_reducible refine r_gsub ?_)
local macro_rules | `(tactic| walk_at "rd") => `(tactic| repeat walk_at "rd1")
local macro_rules | `(tactic| walk_at "side") => `(tactic| first | assumption | exact Or.inr ⟨by decide, by decide⟩ | exact Or.inl ⟨by decide, by decide⟩ | (constructor <;> omega) | omega | decide | (refine Or.inl ⟨?_, ?_⟩ <;> omega) | (refine Or.inr ⟨?_, ?_⟩ <;> omega) | (refine ⟨?_, ?_, ?_⟩ <;> first | decide | omega))
/-- a list or a tuple of ints stands at a -/
def LsAt (H : Hp) (a : Addr) (ls : List Int) : Prop := H a = some (.lst (ls.map V.int)) ∨ H a = some (.tup (ls.map V.int))
theorem LsAt.keep {H H' : Hp} {a : Addr} {ls : List Int} (h : LsAt H a ls) (e : Same H H') : LsAt H' a ls := h.elim (fun h => .inl (e _ _ h)) fun h => .inr (e _ _ h)
theorem LsAt.seq {K : PySem.W.Frag} {H : Hp} {a : Addr} {ls : List Int} (h : LsAt H a ls) : SeqV K H a (ls.map V.int) := h.elim (fun h => .inl (SqL.of h)) fun h => .inr (SqT.of h)
/-- an order of the kinds, if there is one -/
def Bk.LaidOk (B : Bk) : Prop := ∀ ns, B.laid = some ns → ns.Perm (B.ks.map (·.1))
def sp_is_order : Sp := fun vs H Q _ => ∃ (p q : Addr) (xs ys : List Str), vs = [.ref p, .ref q] ∧ H p = some (.lst (xs.map V.str)) ∧ FrzT H q (ys.map V.str) ∧ ys.Perm xs ∧ (∀ z ∈ xs, NameOk z) ∧ xs.length ≤ 100 ∧ ∀ H', Same H H' → Q (.bl true) H'
def sp_Book_init (C : Addr) : Sp := fun vs H Q _ => ∃ (p dx a kd : Addr) (B : Bk) (lv : V) (kvs : List (Key × V)), vs = [.ref p, .ref a, .int B.due, .ref kd, .int B.mem, .str B.beg, lv] ∧ B.Ok ∧ B.LaidOk ∧ LaidV H B.laid lv ∧ H p = some (.ins C dx []) ∧
  LsAt H a B.ls ∧ H kd = some (.dK kvs) ∧ KAt H kvs B.ks ∧ ∀ H' ks, But p H H' → ks.Perm B.ks → sortedS (ks.map (·.1)) = true → BookAt C H' p { B with ks := ks } → Q .non H'
def sp_Book (C : Addr) : Sp := fun vs H Q _ => ∃ (a kd : Addr) (B : Bk) (lv : V) (kvs : List (Key × V)), vs = [.ref a, .int B.due, .ref kd, .int B.mem, .str B.beg, lv] ∧ B.Ok ∧ B.LaidOk ∧ LaidV H B.laid lv ∧
  LsAt H a B.ls ∧ H kd = some (.dK kvs) ∧ KAt H kvs B.ks ∧ ∀ p H' ks, H p = none → Same H H' → ks.Perm B.ks → sortedS (ks.map (·.1)) = true → BookAt C H' p { B with ks := ks } → Q (.ref p) H'
theorem KAt.keepT {H H' : Hp} {kvs : List (Key × V)} {ks : List (Str × Int × Bool)} (h : KAt H kvs ks) (e : Same H H') : KAt H' kvs ks := h.keep fun t xs q => e _ _ q
theorem imp_Book {C : Addr} (vs : List V) (H : Hp) (Q : VK) (E : XK) (h : sp_Book C vs H Q E) : spMk C (sp_Book_init C) [] vs H Q E := by
  obtain ⟨a, kd, B, lv, kvs, rfl, ok, lo, hl, ha, hk, hK, k⟩ := h
  intro x dx nx nd ne
  have up : ∀ c o, H c = some o → upd (upd H dx (.own x)) x (.ins C dx []) c = some o := fun c o hc => by
    rw [upd_ne (ne_of_none hc nx), upd_ne (ne_of_none hc nd)]
    exact hc
  refine ⟨x, dx, a, kd, B, lv, kvs, rfl, ok, lo, hl.keep fun t o xs ht => up _ _ ht, upd_same, ha.keep up, up _ _ hk, hK.keepT up, fun H' ks b p1 p2 hB => ⟨rfl, k x H' ks nx (fun c o hc => ?_) p1 p2 hB⟩⟩
  exact b _ _ (up _ _ hc) (ne_of_none hc nx)
theorem pfl {f : Str} {v : V} : ∀ {fs : List (Str × V)} {n : Nat}, fs.length ≤ n → (putF f v fs).length ≤ n + 1
  | [], n, _ => by simp [putF]
  | (g, x) :: r, n, h => by
    unfold putF
    split
    · simp only [List.length_cons] at *
      omega
    · simp only [List.length_cons] at *
      have := pfl (f := f) (v := v) (fs := r) (n := n - 1) (by omega)
      omega
theorem pf0 : ([] : List (Str × V)).length ≤ 0 := Nat.le_refl _
theorem pf9 {n m : Nat} (h : n ≤ m) (hm : m < 1000 := by decide) : n < 1000 := by omega
def sp_need_book (C : Addr) : Sp := fun vs H Q _ => ∃ (p : Addr) (B : Bk), vs = [.ref p] ∧ BookAt C H p B ∧ Q .non H
/-- what the class must have for its fields -/
structure BkC (K : PySem.W.Frag) (C : Addr) : Prop where
  cl : Cls K C
  n1 : NoAttr K C "b_lengths"
  n2 : NoAttr K C "b_due"
  n3 : NoAttr K C "b_kinds"
  n4 : NoAttr K C "b_memory"
  n5 : NoAttr K C "b_begins"
  n6 : NoAttr K C "b_laid"
section
variable {P : Program} {w : World} {K : PySem.W.Frag} {mg : Str → Option Value} {base : Heap}
theorem ok_need_book {f : Addr} {fd : FuncData} (T : Tx K mg) (I_Book : C8.InsC K (He.ga K "Book")) (F : FnP K "need_book" s_need_book f fd) : FnOk P w K mg base CX0 1 f fd ["value"] (sp_need_book (He.ga K "Book")) := by
  have sc : FnScope ["value"] ["value"] (defScope s_need_book) := ⟨rfl, rfl, rfl, by decide +kernel, rfl, by decide +kernel, by decide +kernel⟩
  refine F.ok sc (by rintro vs H Q E ⟨_, _, rfl, _⟩; rfl) (fun cdv A outer s H vs Q E hr h => ⟨_, PSs.nox ((pss_one (ps_if (pt_not (pt_val (pe_callB (C8.call_isC I_Book) (by rfl) T.b_isinstance (by decide +kernel) (pa_cons (pv 0) (pa_cons (pe_glob (v := .ref (He.ga K "Book")) (by rfl) T.g_Book rfl) pa_nil))))) (pss_one ps_never) pss_nil))), ?_⟩)
  obtain ⟨p, B, rfl, ⟨dx, tl, kd, lv, kvs, hB⟩, q⟩ := h
  walk_at "rd"
  refine ⟨p, dx, _, rfl, hB.i, ?_⟩
  walk_at "rd"
  exact q
theorem ok_is_order {f : Addr} {fd : FuncData} (T : Tx K mg) (F : FnP K "is_order" s_is_order f fd) (d_is_name : Dn P w K mg base CX0 1 "is_name" ["value"] sp_is_name) : FnOk P w K mg base CX0 2 f fd ["names", "value"] sp_is_order := by
  have sc : FnScope ["names", "value", "name"] ["names", "value"] (defScope s_is_order) := ⟨rfl, rfl, rfl, by decide +kernel, rfl, by decide +kernel, by decide +kernel⟩
  refine F.ok sc (by rintro vs H Q E ⟨_, _, _, _, rfl, _⟩; rfl) (fun cdv A outer s H vs Q E hr h => ⟨_, PSs.nox ((pss_cons (ps_if (PW.pt (pw_or (pt_not (pt_val (pe_callB (c_isiK (K := K) rfl) (by rfl) T.b_isinstance (by decide +kernel) (pa_cons (pv 1) (pa_cons (pe_bltn (v := .ty "tuple") (by rfl) T.b_tuple (by decide +kernel) rfl) pa_nil))))) (pw_or1 (pt_not (pt_val (pe_callB (c_allK (K := K) rfl rfl) (by rfl) T.b_all (by decide +kernel) (pa_cons (pe_lc (own := [("name", 2)]) (by rfl) sc.nd (pi_tupK (K := K) rfl (pv 1)) (blkOk_by (own := [("name", 2)]) (N := ["names", "value", "name"]) (sc := defScope s_is_order) (by decide +kernel)) (fun _ _ _ _ _ => (pg_name (i := 2) sc.nd rfl (by first | exact Or.inl rfl | exact Or.inr rfl))) (fun _ _ _ _ _ => pts_nil) (fun _ _ _ _ _ => (pe_fn d_is_name (hr.mono (by decide)) pass0 (pa_cons (pv 2) pa_nil)))) pa_nil))))))) (pss_one (ps_ret pe_bl)) pss_nil)
      (pss_one (ps_ret (pe_cmpR (eqDK (K := K) rfl hr.units) (pe_callB (c_sortD (K := K) rfl hr) (by rfl) T.b_sorted (by decide +kernel) (pa_cons (pv 1) pa_nil)) (pe_callB (c_sortD (K := K) rfl hr) (by rfl) T.b_sorted (by decide +kernel) (pa_cons (pv 0) pa_nil)) (nomark _)))))), ?_⟩)
  obtain ⟨p, q, xs, ys, rfl, hp, hq, pm, nm, hl, k⟩ := h
  have hyl : ys.length = xs.length := pm.length_eq
  have nmy : ∀ z ∈ ys, NameOk z := fun z hz => nm z (pm.mem_iff.mp hz)
  walk_at "rd"
  refine r_isiT (r := true) (SqT.ty hq.sq) (by decide +kernel) ?_
  walk_at "rd"
  refine r_kLcTu (xs := ys.map V.str) (fun Da i H' => Same H H' ∧ H' Da = some (.lst ((List.replicate i true).map V.bl))) hq.sq (fun Da H' _ e h => ⟨e, h⟩) (fun Da i H' h => (hq.same h.1).sq) ?_ ?_
  · rintro Da i x H' hD hx ⟨e, h⟩
    obtain ⟨z, rfl, hz⟩ := strs_get hx
    have hil := (List.getElem?_eq_some_iff.mp hz).1
    walk_at "rd"
    refine ⟨z, rfl, nmy z (List.mem_of_getElem? hz), fun H2 e2 => ?_⟩
    refine r_kLcE (e2 _ _ h) (by rw [List.length_map, List.length_replicate]; omega) fun H3 b3 h3 => ⟨Same.mut (e.trans e2) b3 hD, ?_⟩
    rw [rep_more]
    exact h3
  · rintro Da H1 hD ⟨e1, h1⟩
    walk_at "rd"
    refine r_all (SqL.of h1) ?_
    rw [all_rep]
    walk_at "rd"
    refine r_sortS (.inr (hq.same e1).sq) (by omega) fun t1 H2 _ e2 ht1 => ?_
    walk_at "rd"
    refine r_sortS (.inl (SqL.of (e2 _ _ (e1 _ _ hp)))) (by omega) fun t2 H3 _ e3 ht2 => ?_
    rw [← srtS_eq pm] at ht2
    refine r_eqD_eq (d := .list ((srtS ys).map .str)) (.lst (SqL.of (e3 _ _ ht1)) (dp_strs _)) (.lst (SqL.of ht2) (dp_strs _)) (shp_strs fun z hz => name_strOk (nmy z ((srtS_perm ys).mem_iff.mp hz))) ?_
    exact k H3 ((e1.trans e2).trans e3)
theorem ok_Book_init {f C : Addr} {fd : FuncData} (T : Tx K mg) (bc : BkC K C) (F : FunD K "__init__" "Book.__init__" (defArgs s_Book___init__) (defBody s_Book___init__) (defScope s_Book___init__) [.int 0, .str "day", .non] [] f fd)
    (d_is_number_in : Dn P w K mg base CX0 2 "is_number_in" ["value", "least", "most"] (sp_is_number_in K)) (d_are_lengths : Dn P w K mg base CX0 3 "are_lengths" ["value"] (sp_are_lengths K)) (d_are_kinds : Dn P w K mg base CX0 4 "are_kinds" ["value"] sp_are_kinds) (d_is_order : Dn P w K mg base CX0 2 "is_order" ["names", "value"] sp_is_order) :
    FnOk P w K mg base CX0 5 f fd ["self", "lengths", "due", "kinds", "memory", "begins", "laid"] (sp_Book_init C) := by
  have sc : FnScope ["self", "lengths", "due", "kinds", "memory", "begins", "laid", "name"] ["self", "lengths", "due", "kinds", "memory", "begins", "laid"] (defScope s_Book___init__) := ⟨rfl, rfl, rfl, by decide +kernel, rfl, by decide +kernel, by decide +kernel⟩
  refine F.ok sc (by rintro vs H Q E ⟨_, _, _, _, _, _, _, rfl, _⟩; rfl) (fun cdv A outer s H vs Q E hr h => ⟨_, PSs.nox ((pss_cons (ps_if (pt_not (pt_val (pe_fn d_are_lengths (hr.mono (by decide)) pass0 (pa_cons (pv 1) pa_nil)))) (pss_one ps_never) pss_nil)
      (pss_cons (ps_if (pt_not (pt_val (pe_fn d_is_number_in (hr.mono (by decide)) pass0 (pa_cons (pv 2) (pa_cons pe_int (pa_cons (pe_op op_sub (pe_callB (c_either (c_minK (K := K) rfl rfl) (c_minT (K := K) rfl rfl)) (by rfl) T.b_min (by decide +kernel) (pa_cons (pv 1) pa_nil)) pe_int) pa_nil)))))) (pss_one ps_never) pss_nil)
      (pss_cons (ps_if (pt_not (pt_val (pe_fn d_are_kinds (hr.mono (by decide)) pass0 (pa_cons (pv 3) pa_nil)))) (pss_one ps_never) pss_nil)
      (pss_cons (ps_if (pt_not (pt_val (pe_fn d_is_number_in (hr.mono (by decide)) pass0 (pa_cons (pv 4) (pa_cons pe_int (pa_cons (pe_glob (v := .int 2) (by rfl) T.c_MOST_MEMORY.choose_spec ⟨_, rfl⟩) pa_nil)))))) (pss_one ps_never) pss_nil)
      (pss_cons (ps_if (PW.pt (pw_or (pt_not (pt_val (pe_callB (c_isiK (K := K) rfl) (by rfl) T.b_isinstance (by decide +kernel) (pa_cons (pv 5) (pa_cons (pe_bltn (v := .ty "str") (by rfl) T.b_str (by decide +kernel) rfl) pa_nil))))) (pw_or1 (pt_cmpR (notIn_seqK (K := K) rfl) (pv 5) (pe_tup (pa_cons (pe_glob (v := .str "day") (by rfl) T.c_DAY.choose_spec ⟨_, rfl⟩) (pa_cons (pe_glob (v := .str "statement") (by rfl) T.c_STATEMENT.choose_spec ⟨_, rfl⟩) pa_nil))) (by rfl))))) (pss_one ps_never) pss_nil)
      (Evl.pss_cut (ps_if (PW.pt (pw_and (pt_cmpR op_notN1 (pv 6) pe_non (nomark _)) (pw_and1 (pt_not (pt_val (pe_fn d_is_order (hr.mono (by decide)) pass0 (pa_cons (pe_callTy (c_listD rfl) (by rfl) T.b_list (by decide +kernel) (pa_cons (pv 3) pa_nil)) (pa_cons (pv 6) pa_nil)))))))) (pss_one ps_never) pss_nil)
      (pss_cons (ps_fldK (K := K) rfl (pv 0) (pe_callTy (c_tupleK (K := K) rfl) (by rfl) T.b_tuple (by decide +kernel) (pa_cons (pv 1) pa_nil)))
      (pss_cons (ps_fldK (K := K) rfl (pv 0) (pv 2))
      (pss_cons (ps_fldK (K := K) rfl (pv 0) (pe_dc (own := [("name", 7)]) (by rfl) sc.nd (pi_listK (K := K) rfl (pe_callB (c_sortedD rfl) (by rfl) T.b_sorted (by decide +kernel) (pa_cons (pv 3) pa_nil))) (blkOk_by (own := [("name", 7)]) (N := ["self", "lengths", "due", "kinds", "memory", "begins", "laid", "name"]) (sc := defScope s_Book___init__) (by decide +kernel)) (fun _ _ _ _ _ => (pg_name (i := 7) sc.nd rfl (by first | exact Or.inl rfl | exact Or.inr rfl))) (fun _ _ _ _ _ => pts_nil) (fun _ _ _ _ _ => (pv 7)) (fun _ _ _ _ _ => (pe_dget (hu_of hr) (pv 3) (pv 7) (fun _ _ => rfl)))))
      (pss_cons (ps_fldK (K := K) rfl (pv 0) (pv 4))
      (pss_cons (ps_fldK (K := K) rfl (pv 0) (pv 5))
      (pss_one (ps_fldK (K := K) rfl (pv 0) (pv 6))))))))))))))), ?_⟩)
  obtain ⟨p, dx, a, kd, B, lv, kvs, rfl, ok, lok, hlv, hp, ha, hk, hK, k⟩ := h
  have hl1 := ok.l1
  walk_at "rd"
  refine ⟨a, B.ls, rfl, ha.seq, ok.l1, ok.l2, ok.l3, fun H1 e1 => ?_⟩
  walk_at "rd"
  refine r_minSeq (ha.keep e1).seq (by omega) fun m hm hmin => ?_
  have hdm := ok.d1 m hm
  walk_at "rd"
  refine u_in ⟨ok.d0, by omega⟩ ?_
  walk_at "rd"
  refine ⟨kd, kvs, B.ks, rfl, e1 _ _ hk, hK.keepT e1, ok.kn, fun H2 e2 => ?_⟩
  have e02 := e1.trans e2
  walk_at "rd"
  refine u_in ⟨ok.m0, ok.m1⟩ ?_
  walk_at "rd"
  refine r_kTup fun t H3 nt e3 ht => ?_
  have e03 := e02.trans e3
  refine r_notInTS (xs := ["day", "statement"]) (SqT.of ht) ?_
  have hb : B.beg ∈ (["day", "statement"] : List Str) := by
    rcases ok.bg with h | h <;> rw [h] <;> simp
  rw [decide_eq_true hb]
  walk_at "rd"
  refine r_cut (fun σ' H' => σ' = [some (.ref p), some (.ref a), some (.int B.due), some (.ref kd), some (.int B.mem), some (.str B.beg), some lv, none] ∧ Same H H') ?_ ?_
  · walk_at "rd"
    cases hB : B.laid with
    | none =>
      rw [hB] at hlv
      obtain rfl : lv = .non := hlv
      walk_at "rd"
      exact ⟨rfl, e03⟩
    | some ns =>
      rw [hB] at hlv
      obtain ⟨tn, rfl, htn⟩ := hlv
      walk_at "rd"
      refine r_listD (e03 _ _ hk) fun l1 H9 _ e9 hl1 => ?_
      have hn : (kvs.map fun kv => kV kv.1) = (B.ks.map (·.1)).map V.str := by
        have e := congrArg (List.map kV) hK.keys
        rw [List.map_map, List.map_map] at e
        exact e
      rw [hn] at hl1
      walk_at "rd"
      refine ⟨l1, tn, B.ks.map (·.1), ns, rfl, hl1, (htn.same e03).same e9, lok ns hB, ok.kn.nm.ok, by rw [List.length_map]; have := ok.kn.hi; omega, fun H10 e10 => ?_⟩
      walk_at "rd"
      exact ⟨rfl, (e03.trans e9).trans e10⟩
  rintro σ' H3 ⟨rfl, e03⟩
  walk_at "rd"
  refine r_tupOf (ha.keep e03) fun tl H4 e4 htl => ?_
  have e04 := e03.trans e4
  have ntp : ∀ {u : Addr} {xs : List V} {G : Hp} {fs : List (Str × V)}, G u = some (.tup xs) → G p = some (.ins C dx fs) → u ≠ p := fun h1 h2 => ne_of h1 h2 (by intro z; cases z)
  walk_at "rd"
  refine r_kSFld (e04 _ _ hp) bc.cl bc.n1 (by decide) fun H5 b5 h5 => ?_
  have htl5 := b5 _ _ htl (ntp htl (e04 _ _ hp))
  walk_at "rd"
  refine r_kSFld h5 bc.cl bc.n2 (pf9 (pfl pf0)) fun H6 b6 h6 => ?_
  have htl6 := b6 _ _ htl5 (ntp htl5 h5)
  have nkp : kd ≠ p := ne_of hk hp (by intro z; cases z)
  have hk6 := b6 _ _ (b5 _ _ (e04 _ _ hk) nkp) nkp
  have kp06 : But p H H6 := fun b o hb hn => b6 _ _ (b5 _ _ (e04 _ _ hb) hn) hn
  have hK6 : KAt H6 kvs B.ks := by
    refine hK.keep fun u xs hu => kp06 _ _ hu (ntp hu hp)
  have hlen : B.ks.length < 64 := by
    have := ok.kn.hi
    omega
  walk_at "rd"
  refine r_sortedD (ks := B.ks.map (·.1)) hk6 hK6.keys (by rw [List.length_map]; exact hlen) fun ys q H7 py sy nq e7 hq => ?_
  obtain ⟨ms, pm, em⟩ := perm_lift (·.1) ys B.ks py
  have hk7 := e7 _ _ hk6
  have hK7 := hK6.keepT e7
  have nd := ok.kn.nm.nd
  have ndm : (ms.map (·.1)).Nodup := (pm.map (·.1)).nodup_iff.mpr nd
  have lm : ms.length ≤ 6 := by
    rw [pm.length_eq]
    exact ok.kn.hi
  have eys : ys.map V.str = ms.map fun m => V.str m.1 := by rw [← em, List.map_map]; rfl
  walk_at "rd"
  refine r_kDcL (xs := ys.map V.str) (SqL.of hq) (fun Da i H' => Same H7 H' ∧ ∃ kv, H' Da = some (.dK kv) ∧ KAt H' kv (ms.take i)) (fun Da H' _ e h => ⟨e, [], h, .nil⟩) (fun Da i H' h => SqL.of (h.1 _ _ hq)) ?_ ?_
  · rintro Da i y H' hD hy ⟨e8, kv, hDa, hkv⟩
    rw [eys] at hy
    obtain ⟨mm, hm, rfl⟩ : ∃ mm, ms[i]? = some mm ∧ y = V.str mm.1 := by
      rw [List.getElem?_map] at hy
      obtain ⟨mm, h1, h2⟩ := Option.map_eq_some_iff.mp hy
      exact ⟨mm, h1, h2.symm⟩
    obtain ⟨n, r, b⟩ := mm
    have hil := (List.getElem?_eq_some_iff.mp hm).1
    obtain ⟨t', hv, ht'⟩ := hK7.val nd (pm.mem_iff.mp (List.mem_of_getElem? hm))
    have hfresh : n ∉ (ms.take i).map (·.1) := fun z => by
      have e : ms.take (i + 1) = ms.take i ++ [(n, r, b)] := take_more hm
      have nd2 : ((ms.take (i + 1)).map (·.1)).Nodup := (ndm.sublist ((List.take_sublist _ _).map _))
      rw [e, List.map_append, List.nodup_append] at nd2
      exact nd2.2.2 n z n (by simp) rfl
    walk_at "rd"
    refine r_kDGetS (e8 _ _ hk7) hv ?_
    refine r_kDcE (kx := Sum.inr n) hDa (by rw [hkv.len, List.length_take]; omega) fun H9 b9 h9 => ?_
    rw [putK_new _ (hkv.fresh hfresh)] at h9
    have kp9 : ∀ u xs, H' u = some (.tup xs) → H9 u = some (.tup xs) := fun u xs hu => b9 _ _ hu (ne_of hu hDa (by intro z; cases z))
    refine ⟨Same.mut e8 b9 hD, _, h9, ?_⟩
    rw [take_more hm]
    exact (hkv.keep kp9).snoc (kp9 _ _ (e8 _ _ ht'))
  · rintro Da H8 hD ⟨e8, kv, hDa, hkv⟩
    have hfull : ms.take (ys.map V.str).length = ms := by
      rw [eys, List.length_map]
      exact List.take_length
    rw [hfull] at hkv
    have h8 := e8 _ _ (e7 _ _ h6)
    have ntD : Da ≠ p := ne_of hDa h8 (by intro z; cases z)
    walk_at "rd"
    refine r_kSFld h8 bc.cl bc.n3 (pf9 (pfl (pfl pf0))) fun H9 b9 h9 => ?_
    walk_at "rd"
    refine r_kSFld h9 bc.cl bc.n4 (pf9 (pfl (pfl (pfl pf0)))) fun H10 b10 h10 => ?_
    walk_at "rd"
    refine r_kSFld h10 bc.cl bc.n5 (pf9 (pfl (pfl (pfl (pfl pf0))))) fun H11 b11 h11 => ?_
    walk_at "rd"
    refine r_kSFld h11 bc.cl bc.n6 (pf9 (pfl (pfl (pfl (pfl (pfl pf0)))))) fun H12 b12 h12 => ?_
    have kp : But p H8 H12 := fun b o hb hn => b12 _ _ (b11 _ _ (b10 _ _ (b9 _ _ hb hn) hn) hn) hn
    have kpt : But p H H12 := fun b o hb hn => kp _ _ (e8 _ _ (e7 _ _ (kp06 _ _ hb hn))) hn
    have htl8 := e8 _ _ (e7 _ _ htl6)
    refine k H12 ms kpt pm (by rw [em]; exact sy) ⟨dx, tl, Da, lv, kv, ⟨h12, kp _ _ htl8 (ntp htl8 h8), kp _ _ hDa ntD, hkv.keep fun u xs hu => kp _ _ hu (ntp hu h8), ?_⟩⟩
    exact hlv.keep fun u o xs hu => kpt _ _ hu (ne_of hu hp (by intro z; cases z))
end
end Wp
set_option Elab.async false
set_option linter.all false
set_option maxRecDepth 100000
set_option maxHeartbeats 4000000
namespace Wp
open PySem PySem.Spec PyProof.Rows L2
abbrev s_Book_lengths : Stmt := inClass (topS 28) 1
abbrev s_Book_due : Stmt := inClass (topS 28) 2
abbrev s_Book_kinds : Stmt := inClass (topS 28) 3
abbrev s_Book_memory : Stmt := inClass (topS 28) 4
abbrev s_Book_begins : Stmt := inClass (topS 28) 5
abbrev s_Book_laid : Stmt := inClass (topS 28) 6
local macro_rules | `(tactic| walk_at "val") => `(tactic| assumption)
local macro_rules | `(tactic| walk_at "rd1") => `(tactic| first
  | with_reducible refine r_seq ?_ | with_reducible refine r_next ?_ | with_reducible refine r_if ?_ | with_reducible refine r_asg ?_ | with_reducible refine r_gname ?_
  | with_reducible refine r_ret ?_ | with_reducible refine r_retN ?_ | with_reducible refine r_drop ?_ | with_reducible refine r_par ?_ | with_reducible refine r_kPar ?_
  | ((with_reducible refine' r_var ?hv ?_); (case hv => exact rfl)) | with_reducible refine r_c ?_ | with_reducible refine r_nil ?_ | with_reducible refine r_cons ?_
  | with_reducible refine r_fn ?_ | with_reducible refine r_cb ?_ | with_reducible refine r_op ?_ | with_reducible refine r_un ?_ | with_reducible refine r_I0 ?_
  | with_reducible refine r_pow5 ?_ | with_reducible refine r_pow6 ?_ | with_reducible refine r_pow7 ?_ | with_reducible refine r_pow9 ?_ | with_reducible refine r_pow18 ?_ | with_reducible refine r_pow20 ?_ | with_reducible refine r_pow30 ?_
  | with_reducible refine r_isN_non ?_ | with_reducible refine r_isN_ref ?_ | with_reducible refine r_isN_int ?_ | with_reducible refine r_isN_str ?_ | with_reducible refine r_isN_bl ?_ | with_reducible refine r_notN_non ?_ | with_reducible refine r_notN_ref ?_ | with_reducible refine r_notN_int ?_ | with_reducible refine r_notN_str ?_ | with_reducible refine r_notN_bl ?_
  | ((with_reducible refine r_I ?hc ?_); (case hc => walk_at "side")) | with_reducible refine r_U ?_
  | with_reducible refine r_eqI ?_ | with_reducible refine r_neI ?_ | with_reducible refine r_eqS ?_ | with_reducible refine r_neS ?_ | with_reducible refine r_eqB ?_ | with_reducible refine r_neB ?_
  | with_reducible refine r_chain ?_ | with_reducible refine r_test ?_ | with_reducible refine r_tB ?_ | with_reducible refine r_kTest ?_ | with_reducible refine r_not ?_
  | with_reducible refine r_and ?_ | with_reducible refine r_or ?_ | with_reducible refine r_tif ?_ | with_reducible refine r_andV ?_ | with_reducible refine r_orV ?_ | with_reducible refine r_notV ?_
  | with_reducible refine r_kAndV ?_ | with_reducible refine r_kOrV ?_ | with_reducible refine r_kNotV ?_
  | with_reducible refine w_T ?_ | with_reducible refine w_F ?_ | with_reducible refine w_NT ?_ | with_reducible refine w_NF ?_
  | with_reducible refine r_tup ?_ | with_reducible refine r_lst ?_ | with_reducible refine r_fld ?_ | with_reducible refine r_prop ?_ | ((with_reducible refine' r_aug ?h1 ?_); (case h1 => exact rfl)) | with_reducible refine r_ipI ?_ | with_reducible refine r_dget ?_ | with_reducible refine r_dput ?_ | with_reducible refine r_bm ?_
  | ((with_reducible refine' r_kDGetS ?h1 ?h2 ?_); (case h1 => assumption); (case h2 => walk_at "val"))
  | ((with_reducible refine' r_kBML ?h1 ?_); (case h1 => assumption))
  | with_reducible refine r_forL ?_ | with_reducible refine r_forR1 ?_ | with_reducible refine r_forR2 ?_ | with_reducible refine r_forT ?_ | with_reducible refine r_lcL ?_ | with_reducible refine r_lcR1 ?_
  | ((with_reducible refine r_kLcG ?hw ?_); (case hw => exact rfl)) | with_reducible refine r_kLcT ?_ | with_reducible refine r_yes ?_
  | with_reducible refine r_pnil ?_ | with_reducible refine r_pcons ?_
  | with_reducible refine r_fnK ?_ | ((with_reducible refine r_kFnK ?hl ?_); (case hl => exact rfl))
  | with_reducible refine r_isi_ii ?_ | with_reducible refine r_isi_ib ?_ | with_reducible refine r_isi_bi ?_ | with_reducible refine r_isi_bb ?_ | with_reducible refine r_isi_ss ?_ | with_reducible refine r_isi_is ?_ | with_reducible refine r_isi_it ?_
  | ((with_reducible refine' r_isi_tt ?h1 ?_); (case h1 => assumption))
  | with_reducible refine r_sfld ?_ | with_reducible refine r_gnil ?_ | with_reducible refine r_gcons ?_
  | ((with_reducible refine' r_gtup ?h1 ?h2 ?_); (case h1 => exact SqT.of (by assumption)); (case h2 => exact rfl))
  | with_reducible refine r_sl ?_ | with_reducible refine r_noPart ?_ | with_reducible refine r_part ?_ | with_reducible refine r_kPart ?_ | with_reducible refine r_m1 ?_ | with_reducible refine r_kM1 ?_ | with_reducible refine r_forS ?_ | with_reducible refine r_lcS ?_ | with_reducible refine r_lcTu ?_ | with_reducible refine r_lcK ?_ | with_reducible refine r_dcL ?_ | with_reducible refine r_dcK ?_ | with_reducible refine r_lc2L ?_ | with_reducible refine r_kLc2TL ?_ | with_reducible refine r_dcEn ?_ | with_reducible refine r_gslc ?_ | with_reducible refine r_lcEn ?_ | with_reducible refine r_lcEl ?_ | with_reducible refine r_lcR2 ?_ | with_reducible refine r_rg1 ?_ | with_reducible refine r_forET ?_ | with_reducible refine r_lenD ?_
  | ((with_reducible refine r_kDcG ?hw ?_); (case hw => exact rfl)) | with_reducible refine r_kDcT ?_
  | with_reducible refine r_fldaug ?_ | with_reducible refine r_daug ?_ | with_reducible refine r_rAdd ?_ | with_reducible refine r_rSub ?_ | with_reducible refine r_ddel ?_ | with_reducible refine r_bmF ?_ | with_reducible refine r_dget2 ?_ | with_reducible refine r_listItems ?_ | with_reducible refine r_bm0 ?_ | with_reducible refine r_lc2E ?_ | ((with_reducible refine r_kLc2G ?hw ?_); (case hw => exact rfl)) | with_reducible refine r_kLc2T ?_ | with_reducible refine r_forE ?_ | with_reducible refine r_orT ?_ | with_reducible refine r_din ?_ | with_reducible refine r_augS ?_ | with_reducible refine r_dnotin ?_ | with_reducible refine r_lcIT ?_ | with_reducible refine r_cont ?_ | with_reducible refine r_meth ?_ | with_reducible refine r_frz ?_ | with_reducible refine r_par3 ?_ | with_reducible refine r_kPar3 ?_ | with_reducible refine r_dz ?_ | with_reducible refine r_revL ?_ | with_reducible refine r_star ?_ | with_reducible refine r_int1 ?_ | with_reducible refine r_int1b ?_ | with_reducible refine r_min2 ?_ | with_reducible refine r_max2 ?_ | with_reducible refine r_gsub ?_)
local macro_rules | `(tactic| walk_at "rd") => `(tactic| repeat walk_at "rd1")
local macro_rules | `(tactic| walk_at "side") => `(tactic| first | assumption | exact Or.inr ⟨by decide, by decide⟩ | exact Or.inl ⟨by decide, by decide⟩ | (constructor <;> omega) | omega | decide | (refine Or.inl ⟨?_, ?_⟩ <;> omega) | (refine Or.inr ⟨?_, ?_⟩ <;> omega) | (refine ⟨?_, ?_, ?_⟩ <;> first | decide | omega))
def sp_g_lengths (C : Addr) : Sp := fun vs H Q _ => ∃ (p : Addr) (B : Bk), vs = [.ref p] ∧ BookAt C H p B ∧ ∀ tl, H tl = some (.tup (B.ls.map V.int)) → Q (.ref tl) H
def sp_g_due (C : Addr) : Sp := fun vs H Q _ => ∃ (p : Addr) (B : Bk), vs = [.ref p] ∧ BookAt C H p B ∧ Q (.int B.due) H
def sp_g_memory (C : Addr) : Sp := fun vs H Q _ => ∃ (p : Addr) (B : Bk), vs = [.ref p] ∧ BookAt C H p B ∧ Q (.int B.mem) H
def sp_g_begins (C : Addr) : Sp := fun vs H Q _ => ∃ (p : Addr) (B : Bk), vs = [.ref p] ∧ BookAt C H p B ∧ Q (.str B.beg) H
def sp_g_laid (C : Addr) : Sp := fun vs H Q _ => ∃ (p : Addr) (B : Bk), vs = [.ref p] ∧ BookAt C H p B ∧ ∀ lv, LaidV H B.laid lv → Q lv H
def sp_g_kinds (C : Addr) : Sp := fun vs H Q _ => ∃ (p : Addr) (B : Bk), vs = [.ref p] ∧ BookAt C H p B ∧ ∀ q H' kvs, H q = none → Same H H' → H' q = some (.dK kvs) → KAt H' kvs B.ks → Q (.ref q) H'
section
variable {P : Program} {w : World} {K : PySem.W.Frag} {mg : Str → Option Value} {base : Heap}
theorem ok_Book_lengths {f C : Addr} {fd : FuncData} (T : Tx K mg) (bc : BkC K C) (F : FunD K "lengths" "Book.lengths" (defArgs s_Book_lengths) (defBody s_Book_lengths) (defScope s_Book_lengths) [] [] f fd) : FnOk P w K mg base CX0 1 f fd ["self"] (sp_g_lengths C) := by
  have sc : FnScope ["self"] ["self"] (defScope s_Book_lengths) := ⟨rfl, rfl, rfl, by decide +kernel, rfl, by decide +kernel, by decide +kernel⟩
  refine F.ok sc (by rintro vs H Q E ⟨_, _, rfl, _⟩; rfl) (fun cdv A outer s H vs Q E hr h => ⟨_, PSs.nox ((pss_one (ps_ret (pe_fldK (K := K) rfl (pv 0))))), ?_⟩)
  obtain ⟨p, B, rfl, ⟨dx, tl, kd, lv, kvs, hB⟩, k⟩ := h
  walk_at "rd"
  exact r_kFld hB.i bc.cl bc.n1 rfl (k tl hB.l)
theorem ok_Book_due {f C : Addr} {fd : FuncData} (T : Tx K mg) (bc : BkC K C) (F : FunD K "due" "Book.due" (defArgs s_Book_due) (defBody s_Book_due) (defScope s_Book_due) [] [] f fd) : FnOk P w K mg base CX0 1 f fd ["self"] (sp_g_due C) := by
  have sc : FnScope ["self"] ["self"] (defScope s_Book_due) := ⟨rfl, rfl, rfl, by decide +kernel, rfl, by decide +kernel, by decide +kernel⟩
  refine F.ok sc (by rintro vs H Q E ⟨_, _, rfl, _⟩; rfl) (fun cdv A outer s H vs Q E hr h => ⟨_, PSs.nox ((pss_one (ps_ret (pe_fldK (K := K) rfl (pv 0))))), ?_⟩)
  obtain ⟨p, B, rfl, ⟨dx, tl, kd, lv, kvs, hB⟩, k⟩ := h
  walk_at "rd"
  exact r_kFld hB.i bc.cl bc.n2 rfl k
theorem ok_Book_memory {f C : Addr} {fd : FuncData} (T : Tx K mg) (bc : BkC K C) (F : FunD K "memory" "Book.memory" (defArgs s_Book_memory) (defBody s_Book_memory) (defScope s_Book_memory) [] [] f fd) : FnOk P w K mg base CX0 1 f fd ["self"] (sp_g_memory C) := by
  have sc : FnScope ["self"] ["self"] (defScope s_Book_memory) := ⟨rfl, rfl, rfl, by decide +kernel, rfl, by decide +kernel, by decide +kernel⟩
  refine F.ok sc (by rintro vs H Q E ⟨_, _, rfl, _⟩; rfl) (fun cdv A outer s H vs Q E hr h => ⟨_, PSs.nox ((pss_one (ps_ret (pe_fldK (K := K) rfl (pv 0))))), ?_⟩)
  obtain ⟨p, B, rfl, ⟨dx, tl, kd, lv, kvs, hB⟩, k⟩ := h
  walk_at "rd"
  exact r_kFld hB.i bc.cl bc.n4 rfl k
theorem ok_Book_begins {f C : Addr} {fd : FuncData} (T : Tx K mg) (bc : BkC K C) (F : FunD K "begins" "Book.begins" (defArgs s_Book_begins) (defBody s_Book_begins) (defScope s_Book_begins) [] [] f fd) : FnOk P w K mg base CX0 1 f fd ["self"] (sp_g_begins C) := by
  have sc : FnScope ["self"] ["self"] (defScope s_Book_begins) := ⟨rfl, rfl, rfl, by decide +kernel, rfl, by decide +kernel, by decide +kernel⟩
  refine F.ok sc (by rintro vs H Q E ⟨_, _, rfl, _⟩; rfl) (fun cdv A outer s H vs Q E hr h => ⟨_, PSs.nox ((pss_one (ps_ret (pe_fldK (K := K) rfl (pv 0))))), ?_⟩)
  obtain ⟨p, B, rfl, ⟨dx, tl, kd, lv, kvs, hB⟩, k⟩ := h
  walk_at "rd"
  exact r_kFld hB.i bc.cl bc.n5 rfl k
theorem ok_Book_laid {f C : Addr} {fd : FuncData} (T : Tx K mg) (bc : BkC K C) (F : FunD K "laid" "Book.laid" (defArgs s_Book_laid) (defBody s_Book_laid) (defScope s_Book_laid) [] [] f fd) : FnOk P w K mg base CX0 1 f fd ["self"] (sp_g_laid C) := by
  have sc : FnScope ["self"] ["self"] (defScope s_Book_laid) := ⟨rfl, rfl, rfl, by decide +kernel, rfl, by decide +kernel, by decide +kernel⟩
  refine F.ok sc (by rintro vs H Q E ⟨_, _, rfl, _⟩; rfl) (fun cdv A outer s H vs Q E hr h => ⟨_, PSs.nox ((pss_one (ps_ret (pe_fldK (K := K) rfl (pv 0))))), ?_⟩)
  obtain ⟨p, B, rfl, ⟨dx, tl, kd, lv, kvs, hB⟩, k⟩ := h
  walk_at "rd"
  exact r_kFld hB.i bc.cl bc.n6 rfl (k lv hB.d)
theorem ok_Book_kinds {f C : Addr} {fd : FuncData} (T : Tx K mg) (bc : BkC K C) (F : FunD K "kinds" "Book.kinds" (defArgs s_Book_kinds) (defBody s_Book_kinds) (defScope s_Book_kinds) [] [] f fd) : FnOk P w K mg base CX0 1 f fd ["self"] (sp_g_kinds C) := by
  have sc : FnScope ["self"] ["self"] (defScope s_Book_kinds) := ⟨rfl, rfl, rfl, by decide +kernel, rfl, by decide +kernel, by decide +kernel⟩
  refine F.ok sc (by rintro vs H Q E ⟨_, _, rfl, _⟩; rfl) (fun cdv A outer s H vs Q E hr h => ⟨_, PSs.nox ((pss_one (ps_ret (pe_callTy c_dictD (by rfl) T.b_dict (by decide +kernel) (pa_cons (pe_fldK (K := K) rfl (pv 0)) pa_nil))))), ?_⟩)
  obtain ⟨p, B, rfl, ⟨dx, tl, kd, lv, kvs, hB⟩, k⟩ := h
  walk_at "rd"
  refine r_kFld hB.i bc.cl bc.n3 rfl ?_
  walk_at "rd"
  exact r_dictD hB.k fun q H1 nq e1 hq => k q H1 kvs nq e1 hq (hB.a.keepT e1)
end
end Wp
set_option Elab.async false
set_option linter.all false
set_option maxRecDepth 100000
set_option maxHeartbeats 4000000
namespace Wp
open PySem PySem.Spec PyProof.Rows L2
abbrev s_Book_rate_of : Stmt := inClass (topS 28) 10
abbrev s_Book_is_free : Stmt := inClass (topS 28) 11
local macro_rules | `(tactic| walk_at "val") => `(tactic| assumption)
local macro_rules | `(tactic| walk_at "rd1") => `(tactic| first
  | with_reducible refine r_seq ?_ | with_reducible refine r_next ?_ | with_reducible refine r_if ?_ | with_reducible refine r_asg ?_ | with_reducible refine r_gname ?_
  | with_reducible refine r_ret ?_ | with_reducible refine r_retN ?_ | with_reducible refine r_drop ?_ | with_reducible refine r_par ?_ | with_reducible refine r_kPar ?_
  | ((with_reducible refine' r_var ?hv ?_); (case hv => exact rfl)) | with_reducible refine r_c ?_ | with_reducible refine r_nil ?_ | with_reducible refine r_cons ?_
  | with_reducible refine r_fn ?_ | with_reducible refine r_cb ?_ | with_reducible refine r_op ?_ | with_reducible refine r_un ?_ | with_reducible refine r_I0 ?_
  | with_reducible refine r_pow5 ?_ | with_reducible refine r_pow6 ?_ | with_reducible refine r_pow7 ?_ | with_reducible refine r_pow9 ?_ | with_reducible refine r_pow18 ?_ | with_reducible refine r_pow20 ?_ | with_reducible refine r_pow30 ?_
  | with_reducible refine r_isN_non ?_ | with_reducible refine r_isN_ref ?_ | with_reducible refine r_isN_int ?_ | with_reducible refine r_isN_str ?_ | with_reducible refine r_isN_bl ?_ | with_reducible refine r_notN_non ?_ | with_reducible refine r_notN_ref ?_ | with_reducible refine r_notN_int ?_ | with_reducible refine r_notN_str ?_ | with_reducible refine r_notN_bl ?_
  | ((with_reducible refine r_I ?hc ?_); (case hc => walk_at "side")) | with_reducible refine r_U ?_
  | with_reducible refine r_eqI ?_ | with_reducible refine r_neI ?_ | with_reducible refine r_eqS ?_ | with_reducible refine r_neS ?_ | with_reducible refine r_eqB ?_ | with_reducible refine r_neB ?_
  | with_reducible refine r_chain ?_ | with_reducible refine r_test ?_ | with_reducible refine r_tB ?_ | with_reducible refine r_kTest ?_ | with_reducible refine r_not ?_
  | with_reducible refine r_and ?_ | with_reducible refine r_or ?_ | with_reducible refine r_tif ?_ | with_reducible refine r_andV ?_ | with_reducible refine r_orV ?_ | with_reducible refine r_notV ?_
  | with_reducible refine r_kAndV ?_ | with_reducible refine r_kOrV ?_ | with_reducible refine r_kNotV ?_
  | with_reducible refine w_T ?_ | with_reducible refine w_F ?_ | with_reducible refine w_NT ?_ | with_reducible refine w_NF ?_
  | with_reducible refine r_tup ?_ | with_reducible refine r_lst ?_ | with_reducible refine r_fld ?_ | with_reducible refine r_prop ?_ | ((with_reducible refine' r_aug ?h1 ?_); (case h1 => exact rfl)) | with_reducible refine r_ipI ?_ | with_reducible refine r_dget ?_ | with_reducible refine r_dput ?_ | with_reducible refine r_bm ?_
  | ((with_reducible refine' r_kDGetS ?h1 ?h2 ?_); (case h1 => assumption); (case h2 => walk_at "val"))
  | ((with_reducible refine' r_kBML ?h1 ?_); (case h1 => assumption))
  | with_reducible refine r_forL ?_ | with_reducible refine r_forR1 ?_ | with_reducible refine r_forR2 ?_ | with_reducible refine r_forT ?_ | with_reducible refine r_lcL ?_ | with_reducible refine r_lcR1 ?_
  | ((with_reducible refine r_kLcG ?hw ?_); (case hw => exact rfl)) | with_reducible refine r_kLcT ?_ | with_reducible refine r_yes ?_
  | with_reducible refine r_pnil ?_ | with_reducible refine r_pcons ?_
  | with_reducible refine r_fnK ?_ | ((with_reducible refine r_kFnK ?hl ?_); (case hl => exact rfl))
  | with_reducible refine r_isi_ii ?_ | with_reducible refine r_isi_ib ?_ | with_reducible refine r_isi_bi ?_ | with_reducible refine r_isi_bb ?_ | with_reducible refine r_isi_ss ?_ | with_reducible refine r_isi_is ?_ | with_reducible refine r_isi_it ?_
  | ((with_reducible refine' r_isi_tt ?h1 ?_); (case h1 => assumption))
  | with_reducible refine r_sfld ?_ | with_reducible refine r_gnil ?_ | with_reducible refine r_gcons ?_
  | ((with_reducible refine' r_gtup ?h1 ?h2 ?_); (case h1 => exact SqT.of (by assumption)); (case h2 => exact rfl))
  | with_reducible refine r_sl ?_ | with_reducible refine r_noPart ?_ | with_reducible refine r_part ?_ | with_reducible refine r_kPart ?_ | with_reducible refine r_m1 ?_ | with_reducible refine r_kM1 ?_ | with_reducible refine r_forS ?_ | with_reducible refine r_lcS ?_ | with_reducible refine r_lcTu ?_ | with_reducible refine r_lcK ?_ | with_reducible refine r_dcL ?_ | with_reducible refine r_dcK ?_ | with_reducible refine r_lc2L ?_ | with_reducible refine r_kLc2TL ?_ | with_reducible refine r_dcEn ?_ | with_reducible refine r_gslc ?_ | with_reducible refine r_lcEn ?_ | with_reducible refine r_lcEl ?_ | with_reducible refine r_lcR2 ?_ | with_reducible refine r_rg1 ?_ | with_reducible refine r_forET ?_ | with_reducible refine r_lenD ?_
  | ((with_reducible refine r_kDcG ?hw ?_); (case hw => exact rfl)) | with_reducible refine r_kDcT ?_
  | with_reducible refine r_fldaug ?_ | with_reducible refine r_daug ?_ | with_reducible refine r_rAdd ?_ | with_reducible refine r_rSub ?_ | with_reducible refine r_ddel ?_ | with_reducible refine r_bmF ?_ | with_reducible refine r_dget2 ?_ | with_reducible refine r_listItems ?_ | with_reducible refine r_bm0 ?_ | with_reducible refine r_lc2E ?_ | ((with_reducible refine r_kLc2G ?hw ?_); (case hw => exact rfl)) | with_reducible refine r_kLc2T ?_ | with_reducible refine r_forE ?_ | with_reducible refine r_orT ?_ | with_reducible refine r_din ?_ | with_reducible refine r_augS ?_ | with_reducible refine r_dnotin ?_ | with_reducible refine r_lcIT ?_ | with_reducible refine r_cont ?_ | with_reducible refine r_meth ?_ | with_reducible refine r_frz ?_ | with_reducible refine r_par3 ?_ | with_reducible refine r_kPar3 ?_ | with_reducible refine r_dz ?_ | with_reducible refine r_revL ?_ | with_reducible refine r_star ?_ | with_reducible refine r_int1 ?_ | with_reducible refine r_int1b ?_ | with_reducible refine r_min2 ?_ | with_reducible refine r_max2 ?_ | with_reducible refine r_gsub ?_)
local macro_rules | `(tactic| walk_at "rd") => `(tactic| repeat walk_at "rd1")
local macro_rules | `(tactic| walk_at "side") => `(tactic| first | assumption | exact Or.inr ⟨by decide, by decide⟩ | exact Or.inl ⟨by decide, by decide⟩ | (constructor <;> omega) | omega | decide | (refine Or.inl ⟨?_, ?_⟩ <;> omega) | (refine Or.inr ⟨?_, ?_⟩ <;> omega) | (refine ⟨?_, ?_, ?_⟩ <;> first | decide | omega))
def sp_rate_of (C : Addr) : Sp := fun vs H Q _ => ∃ (p : Addr) (B : Bk) (n : Str) (r : Int) (b : Bool), vs = [.ref p, .str n] ∧ BookAt C H p B ∧ (B.ks.map (·.1)).Nodup ∧ (n, r, b) ∈ B.ks ∧ Q (.int r) H
def sp_is_free (C : Addr) : Sp := fun vs H Q _ => ∃ (p : Addr) (B : Bk) (n : Str) (r : Int) (b : Bool), vs = [.ref p, .str n] ∧ BookAt C H p B ∧ (B.ks.map (·.1)).Nodup ∧ (n, r, b) ∈ B.ks ∧ Q (.bl b) H
section
variable {P : Program} {w : World} {K : PySem.W.Frag} {mg : Str → Option Value} {base : Heap}
theorem ok_Book_rate_of {f C : Addr} {fd : FuncData} (T : Tx K mg) (bc : BkC K C) (F : FunD K "rate_of" "Book.rate_of" (defArgs s_Book_rate_of) (defBody s_Book_rate_of) (defScope s_Book_rate_of) [] [] f fd) :
    FnOk P w K mg base CX0 1 f fd ["self", "kind"] (sp_rate_of C) := by
  have sc : FnScope ["self", "kind"] ["self", "kind"] (defScope s_Book_rate_of) := ⟨rfl, rfl, rfl, by decide +kernel, rfl, by decide +kernel, by decide +kernel⟩
  refine F.ok sc (by rintro vs H Q E ⟨_, _, _, _, _, rfl, _⟩; rfl) (fun cdv A outer s H vs Q E hr h => ⟨_, PSs.nox ((pss_one (ps_ret (pe_ix (ix_tupK (K := K) rfl) (pe_dget (hu_of hr) (pe_fldK (K := K) rfl (pv 0)) (pv 1) (fun _ _ => rfl)) pe_int (fun _ _ => rfl))))), ?_⟩)
  obtain ⟨p, B, n, r, b, rfl, ⟨dx, tl, kd, lv, kvs, hB⟩, nd, hm, q⟩ := h
  obtain ⟨t, hv, ht⟩ := hB.a.val nd hm
  walk_at "rd"
  refine r_kFld hB.i bc.cl bc.n3 rfl ?_
  walk_at "rd"
  refine r_kDGetS hB.k hv ?_
  walk_at "rd"
  exact r_ixT (SqT.of ht) (at_get (n := 0) rfl rfl) q
theorem ok_Book_is_free {f C : Addr} {fd : FuncData} (T : Tx K mg) (bc : BkC K C) (F : FunD K "is_free" "Book.is_free" (defArgs s_Book_is_free) (defBody s_Book_is_free) (defScope s_Book_is_free) [] [] f fd) :
    FnOk P w K mg base CX0 1 f fd ["self", "kind"] (sp_is_free C) := by
  have sc : FnScope ["self", "kind"] ["self", "kind"] (defScope s_Book_is_free) := ⟨rfl, rfl, rfl, by decide +kernel, rfl, by decide +kernel, by decide +kernel⟩
  refine F.ok sc (by rintro vs H Q E ⟨_, _, _, _, _, rfl, _⟩; rfl) (fun cdv A outer s H vs Q E hr h => ⟨_, PSs.nox ((pss_one (ps_ret (pe_ix (ix_tupK (K := K) rfl) (pe_dget (hu_of hr) (pe_fldK (K := K) rfl (pv 0)) (pv 1) (fun _ _ => rfl)) pe_int (fun _ _ => rfl))))), ?_⟩)
  obtain ⟨p, B, n, r, b, rfl, ⟨dx, tl, kd, lv, kvs, hB⟩, nd, hm, q⟩ := h
  obtain ⟨t, hv, ht⟩ := hB.a.val nd hm
  walk_at "rd"
  refine r_kFld hB.i bc.cl bc.n3 rfl ?_
  walk_at "rd"
  refine r_kDGetS hB.k hv ?_
  walk_at "rd"
  exact r_ixT (SqT.of ht) (at_get (n := 1) rfl rfl) q
end
end Wp
set_option Elab.async false
set_option linter.all false
set_option maxRecDepth 100000
set_option maxHeartbeats 4000000
/-! repr of data: how long it is at most. -/
namespace Wp
open PySem PySem.Spec PyProof.Rows L2
mutual
/-- no dicts, ints below 10 ^ 60 -/
def smI : PyData → Bool
  | .none => true
  | .bool _ => true
  | .int i => decide (i.natAbs < 10 ^ 60)
  | .str x => x.cps.toList.all fun c => decide (c < 16 ^ 8)
  | .list xs => smAll xs
  | .tuple xs => smAll xs
  | .dict _ => false
def smAll : List PyData → Bool
  | [] => true
  | x :: xs => smI x && smAll xs
end
mutual
def wz : PyData → Nat
  | .none => 4
  | .bool _ => 5
  | .int _ => 61
  | .str x => 10 * x.cps.size + 8
  | .list xs => wzAll xs + 3
  | .tuple xs => wzAll xs + 3
  | .dict _ => 0
def wzAll : List PyData → Nat
  | [] => 0
  | x :: xs => wz x + 2 + wzAll xs
end
theorem smAll_cons {x : PyData} {xs : List PyData} : smAll (x :: xs) = (smI x && smAll xs) := by rw [smAll]
theorem shownAll_len : ∀ xs : List PyData, (PyData.shownAll xs).length = xs.length
  | [] => by simp [PyData.shownAll]
  | x :: xs => by simp [PyData.shownAll, shownAll_len xs]
mutual
theorem shown_wz : ∀ d : PyData, smI d = true → d.shown.length ≤ wz d
  | .none, _ => by
    simp only [PyData.shown, wz]
    decide
  | .bool b, _ => by
    simp only [PyData.shown, wz]
    cases b <;> decide
  | .int i, h => by
    have e := int_text_length_le10 (k := 60) (by decide) (of_decide_eq_true (by simpa [smI] using h))
    simp only [PyData.shown, wz]
    rw [PySem.ofString_length]
    exact e
  | .str x, h => by
    have e := PyData.shown_le 8 (by decide) (.str x) (by simpa [PyData.leavesShort, smI] using h)
    simp only [PyData.weight] at e
    simp only [wz]
    omega
  | .list xs, h => by
    have h1 := shown_wzAll xs (by simpa [smI] using h)
    have h2 := listText_len_le (PyData.shownAll xs)
    rw [shownAll_len] at h2
    simp only [PyData.shown, wz]
    omega
  | .tuple xs, h => by
    have h1 := shown_wzAll xs (by simpa [smI] using h)
    have h2 := tupleText_len_le (PyData.shownAll xs)
    rw [shownAll_len] at h2
    simp only [PyData.shown, wz]
    omega
  | .dict kvs, h => by simp [smI] at h
theorem shown_wzAll : ∀ xs : List PyData, smAll xs = true → ((PyData.shownAll xs).map (·.length)).sum + 2 * xs.length ≤ wzAll xs
  | [], _ => by simp [PyData.shownAll, wzAll]
  | x :: xs, h => by
    rw [smAll_cons] at h
    obtain ⟨h1, h2⟩ := Bool.and_eq_true_iff.mp h
    have e1 := shown_wz x h1
    have e2 := shown_wzAll xs h2
    simp only [PyData.shownAll, List.map_cons, List.sum_cons, List.length_cons, wzAll]
    omega
end
mutual
theorem show_sm : ∀ d : PyData, smI d = true → d.showable = true ∧ d.hasDict = false
  | .none, _ => by simp [PyData.showable, PyData.hasDict]
  | .bool b, _ => by simp [PyData.showable, PyData.hasDict]
  | .int i, h => by
    have e : i.natAbs < 10 ^ 60 := of_decide_eq_true (by simpa [smI] using h)
    refine ⟨?_, by simp [PyData.hasDict]⟩
    simp only [PyData.showable, decide_eq_true_eq]
    by_cases h0 : i.natAbs = 0
    · rw [h0]
      decide
    · exact (Nat.log2_lt h0).mpr (Nat.lt_of_lt_of_le e (by decide +kernel))
  | .str x, _ => by simp [PyData.showable, PyData.hasDict]
  | .list xs, h => by
    have e := show_smAll xs (by simpa [smI] using h)
    simpa [PyData.showable, PyData.hasDict] using e
  | .tuple xs, h => by
    have e := show_smAll xs (by simpa [smI] using h)
    simpa [PyData.showable, PyData.hasDict] using e
  | .dict kvs, h => by simp [smI] at h
theorem show_smAll : ∀ xs : List PyData, smAll xs = true → PyData.showableAll xs = true ∧ PyData.hasDictAll xs = false
  | [], _ => by simp [PyData.showableAll, PyData.hasDictAll]
  | x :: xs, h => by
    rw [smAll_cons] at h
    obtain ⟨h1, h2⟩ := Bool.and_eq_true_iff.mp h
    obtain ⟨e1, e2⟩ := show_sm x h1
    obtain ⟨e3, e4⟩ := show_smAll xs h2
    simp [PyData.showableAll, PyData.hasDictAll, e1, e2, e3, e4]
end
section
variable {K : PySem.W.Frag} {H : Hp} {Q : VK} {v : V} {d : PyData}
theorem r_repr (hd : Dp K H v d) (h1 : smI d = true) (h2 : d.depth ≤ 60) (h3 : wz d ≤ 16777216) (q : Q (.str d.shown) H) : rRepr K [v] H Q := by
  obtain ⟨e1, e2⟩ := show_sm d h1
  exact ⟨v, d, rfl, hd, e1, h2, by rw [sizeLine_eq]; exact Nat.le_trans (shown_wz d h1) h3, e2, q⟩
theorem sm_ints : ∀ {ns : List Int}, (∀ n ∈ ns, n.natAbs < 10 ^ 60) → smAll (ns.map PyData.int) = true
  | [], _ => by simp [smAll]
  | n :: r, h => by
    rw [List.map_cons, smAll_cons, sm_ints fun m hm => h m (List.mem_cons_of_mem _ hm)]
    simp [smI, h n (List.mem_cons_self ..)]
theorem wz_ints : ∀ ns : List Int, wzAll (ns.map PyData.int) = 63 * ns.length
  | [] => by simp [wzAll]
  | n :: r => by
    simp only [List.map_cons, wzAll, wz, List.length_cons]
    rw [wz_ints r]
    omega
end
end Wp
set_option Elab.async false
set_option linter.all false
set_option maxRecDepth 100000
set_option maxHeartbeats 4000000
/-! Why an earlier payment can cost more: the mathematics; lists of three texts. -/
namespace Wp
open PySem PySem.Spec PyProof.Rows L2
def wordF (beg : Str) (a b : Int × Bool) : Str := if a.1 > b.1 then "rate" else if b.2 = true ∧ a.1 > 0 ∧ (a.2 = false ∨ beg = "day") then "free" else ""
def look (ks : List (Str × Int × Bool)) (n : Str) : Int × Bool := ((ks.find? fun k => decide (k.1 = n)).map (·.2)).getD (0, false)
theorem lk_mem : ∀ {ks : List (Str × Int × Bool)} {n : Str}, n ∈ ks.map (·.1) → (n, look ks n) ∈ ks
  | [], n, h => by cases h
  | (m, r) :: ks, n, h => by
    by_cases e : m = n
    · subst e
      have : look ((m, r) :: ks) m = r := by simp [look]
      rw [this]
      exact List.mem_cons_self ..
    · have e2 : look ((m, r) :: ks) n = look ks n := by simp [look, e]
      rw [e2]
      rw [List.map_cons] at h
      rcases List.mem_cons.mp h with h | h
      · exact absurd h.symm e
      · exact List.mem_cons_of_mem _ (lk_mem h)
theorem look_eq {ks : List (Str × Int × Bool)} {n : Str} {r : Int × Bool} (nd : (ks.map (·.1)).Nodup) (h : (n, r) ∈ ks) : look ks n = r := by
  have h2 := lk_mem (List.mem_map.mpr ⟨_, h, rfl⟩ : n ∈ ks.map (·.1))
  induction ks with
  | nil => cases h
  | cons k ks ih =>
    obtain ⟨m, q⟩ := k
    rw [List.map_cons, List.nodup_cons] at nd
    by_cases e : m = n
    · subst e
      have e1 : look ((m, q) :: ks) m = q := by simp [look]
      rw [e1]
      rcases List.mem_cons.mp h with h | h
      · exact (Prod.mk.inj h).2.symm
      · exact absurd (List.mem_map.mpr ⟨_, h, rfl⟩) nd.1
    · have e2 : look ((m, q) :: ks) n = look ks n := by simp [look, e]
      rw [e2] at h2 ⊢
      rcases List.mem_cons.mp h with h | h
      · exact absurd (Prod.mk.inj h).1.symm e
      · exact ih nd.2 h (lk_mem (List.mem_map.mpr ⟨_, h, rfl⟩))
theorem look_perm {ks ks' : List (Str × Int × Bool)} {n : Str} (p : ks'.Perm ks) (nd : (ks.map (·.1)).Nodup) (h : n ∈ ks.map (·.1)) : look ks' n = look ks n :=
  look_eq ((p.map (·.1)).nodup_iff.mpr nd) (p.mem_iff.mpr (lk_mem h))
def wordB (beg : Str) (ks : List (Str × Int × Bool)) (a b : Str) : Str := wordF beg (look ks a) (look ks b)
theorem word_cases {beg : Str} {a b : Int × Bool} : wordF beg a b = "rate" ∨ wordF beg a b = "free" ∨ wordF beg a b = "" := by
  unfold wordF
  split
  · exact .inl rfl
  · split
    · exact .inr (.inl rfl)
    · exact .inr (.inr rfl)
abbrev Row := Str × Str × Str
def prs (ns : List Str) : Nat → List (Str × Str)
  | 0 => []
  | i + 1 => prs ns i ++ match ns[i]? with | some b => (ns.take i).map (fun a => (a, b)) | none => []
theorem prs_next {ns : List Str} {i : Nat} {b : Str} (h : ns[i]? = some b) : prs ns (i + 1) = prs ns i ++ (ns.take i).map (fun a => (a, b)) := by
  show prs ns i ++ _ = _
  rw [h]
theorem prs_mem {ns : List Str} : ∀ {i : Nat} {p : Str × Str}, p ∈ prs ns i → p.1 ∈ ns ∧ p.2 ∈ ns
  | 0, p, h => by cases h
  | i + 1, p, h => by
    rcases List.mem_append.mp h with h | h
    · exact prs_mem h
    · cases e : ns[i]? with
      | none => rw [e] at h; cases h
      | some b =>
        rw [e] at h
        obtain ⟨a, ha, rfl⟩ := List.mem_map.mp h
        exact ⟨List.mem_of_mem_take ha, List.mem_of_getElem? e⟩
theorem prs_len {ns : List Str} : ∀ {i : Nat}, (prs ns i).length ≤ i * ns.length
  | 0 => by simp [prs]
  | i + 1 => by
    have ih := prs_len (ns := ns) (i := i)
    show (prs ns i ++ _).length ≤ _
    rw [List.length_append, Nat.succ_mul]
    refine Nat.add_le_add ih ?_
    split
    · rw [List.length_map, List.length_take]
      omega
    · simp
def rowsOf (w : Str → Str → Str) (ps : List (Str × Str)) : List Row := (ps.map fun p => (p.1, p.2, w p.1 p.2)).filter fun r => !decide (r.2.2 = "")
theorem rowsOf_nil (w : Str → Str → Str) : rowsOf w [] = [] := rfl
theorem rowsOf_snoc {w : Str → Str → Str} {ps : List (Str × Str)} {p : Str × Str} (h : ¬ w p.1 p.2 = "") : rowsOf w (ps ++ [p]) = rowsOf w ps ++ [(p.1, p.2, w p.1 p.2)] := by
  unfold rowsOf
  rw [List.map_append, List.filter_append]
  simp [h]
theorem rowsOf_skip {w : Str → Str → Str} {ps : List (Str × Str)} {p : Str × Str} (h : w p.1 p.2 = "") : rowsOf w (ps ++ [p]) = rowsOf w ps := by
  unfold rowsOf
  rw [List.map_append, List.filter_append]
  simp [h]
theorem rowsOf_congr {w w' : Str → Str → Str} {ps : List (Str × Str)} (h : ∀ p ∈ ps, w p.1 p.2 = w' p.1 p.2) : rowsOf w ps = rowsOf w' ps := by
  unfold rowsOf
  rw [List.map_congr_left (g := fun p => (p.1, p.2, w' p.1 p.2)) fun p hp => by rw [h p hp]]
theorem rowsOf_len {w : Str → Str → Str} {ps : List (Str × Str)} : (rowsOf w ps).length ≤ ps.length := by
  unfold rowsOf
  exact Nat.le_trans (List.length_filter_le _ _) (by simp)
theorem rowsOf_mem {w : Str → Str → Str} {ps : List (Str × Str)} {r : Row} (h : r ∈ rowsOf w ps) : ∃ p ∈ ps, r = (p.1, p.2, w p.1 p.2) := by
  obtain ⟨p, hp, e⟩ := List.mem_map.mp (List.mem_filter.mp h).1
  exact ⟨p, hp, e.symm⟩
/-- the data of a row -/
def encR (r : Row) : PyData := .tuple [.str r.1, .str r.2.1, .str r.2.2]
def RowV (H : Hp) (v : V) (r : Row) : Prop := ∃ t, v = .ref t ∧ H t = some (.tup [.str r.1, .str r.2.1, .str r.2.2])
theorem RowV.keep {H H' : Hp} {v : V} {r : Row} (h : RowV H v r) (e : ∀ t xs, H t = some (.tup xs) → H' t = some (.tup xs)) : RowV H' v r := by
  obtain ⟨t, rfl, ht⟩ := h
  exact ⟨t, rfl, e _ _ ht⟩
/-- values that are rows -/
def RL (H : Hp) (vs : List V) (rs : List Row) : Prop := ∃ zs : List (V × Row), vs = zs.map (·.1) ∧ rs = zs.map (·.2) ∧ ∀ z ∈ zs, RowV H z.1 z.2
theorem RL.nil {H : Hp} : RL H [] [] := ⟨[], rfl, rfl, fun z h => by cases h⟩
theorem RL.keep {H H' : Hp} {vs : List V} {rs : List Row} (h : RL H vs rs) (e : ∀ t xs, H t = some (.tup xs) → H' t = some (.tup xs)) : RL H' vs rs := by
  obtain ⟨zs, h1, h2, h3⟩ := h
  exact ⟨zs, h1, h2, fun z hz => (h3 z hz).keep e⟩
theorem RL.snoc {H : Hp} {vs : List V} {rs : List Row} {v : V} {r : Row} (h : RL H vs rs) (hr : RowV H v r) : RL H (vs ++ [v]) (rs ++ [r]) := by
  obtain ⟨zs, h1, h2, h3⟩ := h
  refine ⟨zs ++ [(v, r)], by simp [h1], by simp [h2], fun z hz => ?_⟩
  rcases List.mem_append.mp hz with hz | hz
  · exact h3 z hz
  · rw [List.mem_singleton.mp hz]
    exact hr
theorem RL.app {H : Hp} {vs vs' : List V} {rs rs' : List Row} (h : RL H vs rs) (h' : RL H vs' rs') : RL H (vs ++ vs') (rs ++ rs') := by
  obtain ⟨zs, h1, h2, h3⟩ := h
  obtain ⟨zs', h1', h2', h3'⟩ := h'
  refine ⟨zs ++ zs', by simp [h1, h1'], by simp [h2, h2'], fun z hz => ?_⟩
  rcases List.mem_append.mp hz with hz | hz
  · exact h3 z hz
  · exact h3' z hz
theorem RL.len {H : Hp} {vs : List V} {rs : List Row} (h : RL H vs rs) : vs.length = rs.length := by
  obtain ⟨zs, h1, h2, h3⟩ := h
  rw [h1, h2, List.length_map, List.length_map]
theorem RL.dp {K : PySem.W.Frag} {H : Hp} {vs : List V} {rs : List Row} (h : RL H vs rs) : DpAll K H vs (rs.map encR) := by
  obtain ⟨zs, rfl, rfl, h3⟩ := h
  induction zs with
  | nil => exact .nil
  | cons z zs ih =>
    obtain ⟨t, e, ht⟩ := h3 z (List.mem_cons_self ..)
    refine .cons ?_ (ih fun y hy => h3 y (List.mem_cons_of_mem _ hy))
    show Dp K H z.1 (encR z.2)
    rw [e]
    exact .tup (SqT.of ht) (.cons (.str _) (.cons (.str _) (.cons (.str _) .nil)))
def srtR (rs : List Row) : List Row := rs.mergeSort (PySem.W.dataLe false encR)
theorem RL.sort {H : Hp} {vs : List V} {rs : List Row} (h : RL H vs rs) : RL H (srtV vs (rs.map encR)) (srtR rs) := by
  obtain ⟨zs, rfl, rfl, h3⟩ := h
  refine ⟨zs.mergeSort (PySem.W.dataLe false fun z => encR z.2), ?_, ?_, fun z hz => h3 z ((List.mergeSort_perm _ _).mem_iff.mp hz)⟩
  · unfold srtV
    have e : (zs.map (·.1)).zip ((zs.map (·.2)).map encR) = zs.map fun z => (z.1, encR z.2) := by
      rw [List.map_map]
      exact zip_maps (fun z : V × Row => z.1) (fun z => encR z.2) zs
    rw [e, ← List.map_mergeSort (r := PySem.W.dataLe false fun z => encR z.2) (f := fun z : V × Row => (z.1, encR z.2)) (fun a _ b _ => rfl), List.map_map]
    rfl
  · unfold srtR
    rw [← List.map_mergeSort (r := PySem.W.dataLe false fun z => encR z.2) (f := fun z : V × Row => z.2) (fun a _ b _ => rfl)]
theorem srtR_mem {rs : List Row} {r : Row} : r ∈ srtR rs ↔ r ∈ rs := (List.mergeSort_perm _ _).mem_iff
theorem srtR_len {rs : List Row} : (srtR rs).length = rs.length := List.length_mergeSort _
theorem srtR_nil : srtR [] = [] := List.eq_nil_of_length_eq_zero (srtR_len (rs := []))
theorem rows_alike (rs : List Row) : PySem.W.AllAlike (rs.map encR) := PySem.W.AllAlike.of fun a b => by simp [encR, PySem.W.alike, PySem.W.alikeAll]
theorem rows_sortable (rs : List Row) : PySem.W.Sortable (rs.map encR) := PySem.W.Sortable.tuples fun r => ⟨_, _, rfl⟩
theorem rows_depth (rs : List Row) : ∀ d ∈ rs.map encR, d.depth ≤ 20 := fun d hd => by
  obtain ⟨r, _, rfl⟩ := List.mem_map.mp hd
  simp [encR, PyData.depth, PyData.depthAll]
section
variable {K : PySem.W.Frag} {H : Hp} {p : Addr} {vs : List V} {rs : List Row} {Q : VK}
theorem r_sortR (h : SeqV K H p vs) (hr : RL H vs rs) (hz : rs.length ≤ 1000000) (q : ∀ t H' ws, H t = none → Same H H' → H' t = some (.lst ws) → RL H' ws (srtR rs) → Q (.ref t) H') : rSortD K [.ref p] H Q :=
  ⟨p, vs, rs.map encR, rfl, h, hr.dp, rows_alike rs, rows_sortable rs, by rw [hr.len]; exact hz, rows_depth rs, fun t ht => q t _ _ ht (Same.new ht) upd_same (hr.sort.keep fun u xs hu => Same.new ht _ _ hu)⟩
/-- every text in them is small -/
def RowOk (r : Row) : Prop := smI (.str r.1) = true ∧ smI (.str r.2.1) = true ∧ smI (.str r.2.2) = true ∧ r.1.length ≤ 20 ∧ r.2.1.length ≤ 20 ∧ r.2.2.length ≤ 20
theorem sm_rows : ∀ {rs : List Row}, (∀ r ∈ rs, RowOk r) → smAll (rs.map encR) = true ∧ wzAll (rs.map encR) ≤ 1000 * rs.length
  | [], _ => ⟨rfl, by simp [wzAll]⟩
  | r :: rs, h => by
    obtain ⟨h1, h2⟩ := sm_rows fun r' hr' => h r' (List.mem_cons_of_mem _ hr')
    obtain ⟨a1, a2, a3, b1, b2, b3⟩ := h r (List.mem_cons_self ..)
    constructor
    · rw [List.map_cons, smAll_cons, h1, Bool.and_true]
      simp only [encR, smI, smAll_cons]
      simp only [smI] at a1 a2 a3
      rw [a1, a2, a3]
      simp [smAll]
    · rw [List.map_cons, wzAll]
      simp only [encR, wz, wzAll, List.length_cons]
      simp only [Str.length] at b1 b2 b3
      omega
theorem depth_rows : ∀ rs : List Row, PyData.depthAll (rs.map encR) ≤ 2
  | [] => by simp [PyData.depthAll]
  | r :: rs => by
    have := depth_rows rs
    simp only [List.map_cons, PyData.depthAll, encR, PyData.depth]
    omega
theorem r_reprR (h : SqL K H p vs) (hr : RL H vs rs) (ok : ∀ r ∈ rs, RowOk r) (hz : rs.length ≤ 1000) (q : Q (.str (PyData.list (rs.map encR)).shown) H) : rRepr K [.ref p] H Q := by
  obtain ⟨h1, h2⟩ := sm_rows ok
  refine r_repr (d := .list (rs.map encR)) (.lst h hr.dp) ?_ ?_ ?_ q
  · simpa [smI] using h1
  · have := depth_rows rs
    simp only [PyData.depth]
    omega
  · simp only [wz]
    omega
end
end Wp
set_option Elab.async false
set_option linter.all false
set_option maxRecDepth 100000
set_option maxHeartbeats 4000000
/-! enumerate(tuple). -/
namespace Wp
open PySem PySem.Spec PyProof.Rows L2
open PySem.Sem (wp)
theorem meets_enum1 {v : Value} {o : Obj} {H : Heap → Prop} (B : Begins v o H) :
    Meets (Builtin.«enumerate.__new__» ⟨[.type "enumerate", v], []⟩) (fun _ R s => H s.heap ∧
      R (.ok (.ret (.ref (s.heap.push o).objs.size))) { s with heap := (s.heap.push o).push { cls := .type "enumerate", data := .fields #[.none, .bool false, .ref s.heap.objs.size, rawInt 0, .none, .none] } }) :=
  .of_wp fun prog w A R s h => by
    obtain ⟨hp, g, d, tk, os⟩ := s; obtain ⟨h1, h⟩ := h
    have hsub := sub_enumerate
    have q1 : ∀ {A' : Around} {E : Value → Shared → Prop} {Q : Value → Shared → Prop}, Q (.ref hp.objs.size) ⟨hp.push o, g, d, tk, os⟩ → wpAny (model prog w) A' (pyIter v) Q E ⟨hp, g, d, tk, os⟩ :=
      fun q => B.iter prog w _ _ ⟨hp, g, d, tk, os⟩ _ h1 q
    wp_walk using q1
    refine wpAny_stack_any fun st => wpAny_pure ?_
    split
    · rename_i c _ _ _ _ _
      cases (c == Value.type "enumerate")
      · wp_walk using q1
        exact ⟨_, rfl, h⟩
      · wp_walk using q1
        exact ⟨_, rfl, h⟩
    · wp_walk using q1
      exact ⟨_, rfl, h⟩
section
variable {prog : Program} {w : World} {A : Around} {E : Value → Shared → Prop} {s : Shared}
theorem enum1_begins {v : Value} {o : Obj} {H : Heap → Prop} {Q : Value → Shared → Prop} (B : Begins v o H) (h1 : H s.heap)
    (h : ∀ h', IsEnum h' (s.heap.objs.size + 1) s.heap.objs.size 0 .none → h'.get? s.heap.objs.size = some o → h'.objs.size = s.heap.objs.size + 2 →
      (∀ b o, s.heap.get? b = some o → h'.get? b = some o) → Q (.ref (s.heap.objs.size + 1)) { s with heap := h' }) :
    wpAny (model prog w) A (call (.type "enumerate") [v]) Q E s := by
  refine callType_new F.called_enumerate (by decide) (F.typeCall_enumerate_1 _) (F.newCall_enumerate_1 _) (fun obj => F.args_object_init_2 obj _) F.entry_enumerate_new (meets_enum1 B) ⟨h1, ?_⟩
  have hz : (s.heap.push o).objs.size = s.heap.objs.size + 1 := Heap.size_push ..
  show _ ∧ _
  rw [hz]
  have he : IsEnum ((s.heap.push o).push { cls := .type "enumerate", data := .fields #[.none, .bool false, .ref s.heap.objs.size, rawInt 0, .none, .none] }) (s.heap.objs.size + 1) s.heap.objs.size 0 .none := by
    have := Heap.get?_push_size (s.heap.push o) (o := { cls := .type "enumerate", data := .fields #[.none, .bool false, .ref s.heap.objs.size, rawInt 0, .none, .none] }) rfl
    rw [hz] at this; exact this
  refine ⟨⟨_, he, rfl⟩, h _ he (Heap.get?_push_of_some _ (Heap.get?_push_size _ B.free)) (by rw [Heap.size_push, hz]) fun b o x => Heap.get?_push_of_some _ (Heap.get?_push_of_some _ x)⟩
theorem enumT_end {e it l : Addr} {i : Int} {k : Nat} {items : Array Value} {old : Value} {Q : Option Value → Shared → Prop} (hh : A.handled = none)
    (he : IsEnum s.heap e it i old) (hit : s.heap.IsTupleIter it l k) (hl : s.heap.IsTuple l items) (hx : items[k]? = none)
    (hQ : ∀ h', Heap.ExtBut it s.heap h' → Q none { s with heap := h' }) : wpAny (model prog w) A (pyNext (.ref e)) Q E s := by
  have hT : s.TypeIs (.ref e) "enumerate" := ⟨_, he, rfl⟩
  unfold pyNext
  refine wpAny_bind (wpAny_attempt (wpAny_callSpecial?_slot (name := Str.ofString "__next__") hT F.slot_enumerate_next
    (wpAny_call_entry F.slot_enumerate_next hT F.entry_enumerate_next ?_ (F.args_enumerate_next_1 _))))
  show wpAny _ _ (field (.ref e) 2 >>= _) _ _ _
  refine wpAny_bind (wpAny_field he rfl (x := .ref it) rfl ?_)
  refine wpAny_bind (wpAny_nextOf_tuple_end hh hit hl hx fun h' x he' hx' => ?_)
  obtain ⟨o, ho, hc⟩ := hx'
  refine wpAny_bind (wpAny_isInstance (T := "StopIteration") (b := true) ⟨o, ho, hc⟩ isSubtype_stop ?_)
  exact wpAny_pure (hQ _ he')
end
/-- the tuple at a, each item in a new pair -/
def IteT (K : PySem.W.Frag) (a : Addr) : It :=
  ⟨fun i H => ∃ (xs : List V) (x : V), SqT K H a xs ∧ xs[i]? = some x, fun i H v H' => ∃ T x, v = .ref T ∧ H T = none ∧ H' = upd H T (.tup [.int (i : Nat), x]) ∧ ∀ xs, SqT K H a xs → xs[i]? = some x, fun i H => ∃ xs : List V, SqT K H a xs ∧ xs.length ≤ i⟩
theorem turn_enumT {P : Program} {w : World} {K : PySem.W.Frag} {elts : List Expr} {kk : Nat} {tpos : Pos} (a e it : Addr) :
    Turn P w K (.Tuple elts kk tpos) (IteT K a) [e, it] e (fun i h => (∃ old, IsEnum h e it ((i : Nat) : Int) old) ∧ h.IsTupleIter it a i ∧ e ≠ it) where
  mem := by simp
  obj := fun i h st b hb => by
    obtain ⟨⟨old, he⟩, ⟨o, ho, hc, hd⟩, _⟩ := st
    have e' : b = e ∨ b = it := by simpa using hb
    rcases e' with z | z
    · rw [z]; exact ⟨_, he, fun v q => nomatch q⟩
    · rw [z]; exact ⟨o, ho, fun v q => by rw [hd] at q; cases q⟩
  keep := fun i h h' st k => let ⟨⟨old, he⟩, hi, hne⟩ := st; ⟨⟨old, k e (by simp) _ he⟩, hi.at fun o q => k it (by simp) o q, hne⟩
  item := by
    intro X hP hw hK hc i pins s σ H E I hf st hg
    subst hP hw hK
    obtain ⟨⟨old, he⟩, hit, hne⟩ := st
    obtain ⟨xs, x, hq, hx⟩ := hg
    obtain ⟨its, rv, p, hz⟩ := I.tuple hq
    have p : s.heap.IsTuple a its.toArray := p
    obtain ⟨u, hu, ru⟩ := rv.get hx
    have hel : e < s.heap.objs.size := Heap.lt_size he
    have hil : it < s.heap.objs.size := by obtain ⟨_, q, _⟩ := hit; exact Heap.lt_size q
    have hea : e ≠ a := by
      rintro rfl
      obtain ⟨o, ho, hc', _⟩ := p
      rw [he] at ho
      cases ho
      exact absurd (show Value.type "enumerate" = Value.type "tuple" from hc') (by decide +kernel)
    have hia : a ≠ it := by
      rintro rfl
      obtain ⟨o, ho, hc', _⟩ := p
      obtain ⟨o2, ho2, hc2, _⟩ := hit
      rw [ho2] at ho
      cases ho
      rw [hc2] at hc'
      exact absurd hc' (by decide +kernel)
    have hsz : i < its.toArray.size := by
      have := (List.getElem?_eq_some_iff.mp hu).1
      simpa using this
    refine wpAny_pyNext_enum_itemD (Draws.tuple (A := X.A.in1) (I.ok.hd hc) it a hia its.toArray) he ⟨hit, p⟩ hsz hne (by simp [hne, hea]) fun u' h' tk hu' ho hst' hT hsz' hk => ?_
    obtain rfl : u' = u := by
      have : its[i]? = some u' := by simpa using hu'
      rw [hu] at this
      exact (Option.some.inj this).symm
    refine ⟨_, rfl, wpAny_letOwnedTupleGo_enum (s := { s with heap := h', toks := tk + 1 }) ho fun h'' he' sb => ?_⟩
    have hT2 : h''.get? s.heap.objs.size = some { cls := .type "tuple", data := .seq #[.int i tk, u'] } := (sb.2 _ (Nat.ne_of_gt hel)).trans hT
    have new : ObjOk X.prog X.w (upd H s.heap.objs.size (.tup [.int (i : Nat), x])) h'' s.heap.objs.size (.tup [.int (i : Nat), x]) :=
      ⟨by show 2 ≤ sizeLine; decide, [.int i tk, u'], .cons ⟨_, rfl⟩ (.cons ru .nil), ⟨_, hT2, rfl, _, rfl⟩⟩
    have I1 : Inv X pins σ (upd H s.heap.objs.size (.tup [.int (i : Nat), x])) { s with heap := h'', toks := tk + 1 } :=
      I.turnedNew (ch := [e, it]) (fun b ob hb q => (sb.2 b (fun z => hb (by simp [z]))).trans (hk b ob (fun z => hb (by simp [z])) (fun z => hb (by simp [z])) q)) hf (Nat.le_refl _) new
    refine ⟨.ref s.heap.objs.size, _, I1, rfl, ⟨_, x, rfl, I.hok.fresh (Nat.le_refl _), rfl, fun ys hy => by rw [I.tuple_inj hy hq]; exact hx⟩, ⟨⟨u', ?_⟩, hst'.1.at fun o q => (sb.2 it (Ne.symm hne)).trans q, hne⟩, fun b hb => ?_⟩
    · have e1 : ((i + 1 : Nat) : Int) = (i : Int) + 1 := by omega
      rw [e1]; exact he'
    · have hb' : b < s.heap.objs.size := by
        have e' : b = e ∨ b = it := by simpa using hb
        rcases e' with z | z
        · rw [z]; exact hel
        · rw [z]; exact hil
      rw [upd_ne (Nat.ne_of_lt hb')]
      exact (hf b hb).1
  done := by
    intro X hP hw hK hc i pins s σ H E I hf st hg
    subst hP hw hK
    obtain ⟨⟨old, he⟩, hit, hne⟩ := st
    obtain ⟨xs, hq, hx⟩ := hg
    obtain ⟨its, rv, p, hz⟩ := I.tuple hq
    have p : s.heap.IsTuple a its.toArray := p
    obtain ⟨f0, f1, f2, f3, f4, f5⟩ := hf it (by simp)
    have hl := rv.length
    exact enumT_end (I.ok.hd hc) he hit p (by simp; omega) fun h' eb => ⟨rfl, I.turned (t' := s.toks) (fun b o hb q => eb b o hb q) f0 f1 f3 f4 f5⟩
  self := fun A i s Q E st h => let ⟨⟨_, he⟩, _⟩ := st; wpAny_pyIter_enum he h
def iEnumT (K : PySem.W.Frag) (ta : TA) : TI := fun σ H R => ta σ H fun vs H1 => ∃ a xs, vs = [.ref a] ∧ SqT K H1 a xs ∧ R (IteT K a) H1
theorem pi_enumT {X : Cx} {e : Expr} {ta : TA} {p pos tpos : Pos} {elts : List Expr} {kk : Nat} (hg : Gl X "enumerate") (hm : X.mg "enumerate" = none) (ha : PA X [e] ta) (hs : starEach [e] X.env = [(false, eval e X.env)] := by rfl) :
    PI X (.Tuple elts kk tpos) (.Call (.Name "enumerate" p) [e] [] pos) (iEnumT X.K ta) := by
  refine ⟨fun pins s σ H R I h => ?_⟩
  refine Call_ (ld_blt I hg hm boot_enumerate (PyProof.Rows.callWith_type1 (thn (ha.run pos pins s σ H _ I h) fun us s1 ⟨vs, H1, I1, r1, q1⟩ => ?_) hs rfl))
  obtain ⟨a, xs, ex, hq, q⟩ := q1
  subst ex
  cases r1 with
  | cons r rr =>
    cases rr
    cases r
    obtain ⟨its, rv, p', hz⟩ := I1.tuple hq
    refine enum1_begins (begins_tuple a its.toArray) p' fun h' he hit hsz hk => wpAny_pyIter_enum he ?_
    have I2 : Inv X pins σ H1 { s1 with heap := h' } := I1.kept (t' := s1.toks) hk
    refine ⟨s1.heap.objs.size + 1, [s1.heap.objs.size + 1, s1.heap.objs.size], _, _, H1, rfl, I2, turn_enumT a (s1.heap.objs.size + 1) s1.heap.objs.size, ⟨⟨.none, he⟩, ⟨_, hit, rfl, rfl⟩, Nat.succ_ne_self _⟩, fun b hb => ?_, q⟩
    have e' : b = s1.heap.objs.size + 1 ∨ b = s1.heap.objs.size := by simpa using hb
    have hle : s1.heap.objs.size ≤ b := by
      rcases e' with z | z
      · rw [z]; exact Nat.le_add_right _ _
      · rw [z]; exact Nat.le_refl _
    exact I1.fpOk hle (I1.hok.fresh hle)
end Wp
set_option Elab.async false
set_option linter.all false
set_option maxRecDepth 100000
set_option maxHeartbeats 4000000
/-! Comprehensions of two clauses; over enumerate. -/
namespace Wp
open PySem PySem.Spec PyProof.Rows L2
def LcIn (J1 : It) (g1 : TG) (tt1 : TT) (te : TE) (vs1 : List Nat) (σ2 : L2.St) (Da : Addr) (Nx : Hp → Prop) (H4 : Hp) : Prop := ∃ W1 : Nat → Nat → Hp → Prop, (∃ m, W1 0 m H4) ∧ ∀ j k H, W1 j k H →
  (J1.stop j H ∧ Nx H) ∨ (J1.go j H ∧ ∃ Nx1 : Hp → Prop, (∀ H', Nx1 H' → ∃ k', k' < k ∧ W1 (j + 1) k' H') ∧ ∀ x H', J1.yld j H x H' → g1 x (wipe σ2 vs1) H' fun σ3 H5 => wipe σ3 vs1 = wipe σ2 vs1 ∧ tt1 σ3 H5 fun b H6 =>
    if b = true then te σ3 H6 fun y H7 => ∃ acc, H7 Da = some (.lst acc) ∧ acc.length < sizeLine ∧ Nx1 (upd H7 Da (.lst (acc ++ [y]))) else Nx1 H6)
def kLc2T (wi1 : TI) (g1 : TG) (tt1 : TT) (te : TE) (vs1 : List Nat) (σ2 : L2.St) (Da : Addr) (Nx : Hp → Prop) : Bool → Hp → Prop := fun b H3 => if b = true then wi1 σ2 H3 (fun J1 H4 => LcIn J1 g1 tt1 te vs1 σ2 Da Nx H4) else Nx H3
def kLc2G (tt : TT) (wi1 : TI) (g1 : TG) (tt1 : TT) (te : TE) (vs vs1 : List Nat) (σ : L2.St) (Da : Addr) (Nx : Hp → Prop) : L2.St → Hp → Prop := fun σ2 H2 => wipe σ2 vs = wipe σ vs ∧ tt σ2 H2 (kLc2T wi1 g1 tt1 te vs1 σ2 Da Nx)
def kLc2In (K : PySem.W.Frag) (g1 : TG) (tt1 : TT) (te : TE) (vs1 : List Nat) (σ2 : L2.St) (Da : Addr) (Nx : Hp → Prop) : VK := fun x H1 => ∃ a, x = .ref a ∧ (∃ xs, SqT K H1 a xs) ∧ LcIn (Itt K a) g1 tt1 te vs1 σ2 Da Nx H1
def LcW2 (J : It) (g : TG) (tt : TT) (wi1 : TI) (g1 : TG) (tt1 : TT) (te : TE) (vs vs1 : List Nat) (σ : L2.St) (Q : VK) (H1 : Hp) : Prop := ∀ D, H1 D = none → ∃ W : Nat → Nat → Hp → Prop, (∃ m, W 0 m (upd H1 D (.lst []))) ∧ ∀ i m H, W i m H →
  (J.stop i H ∧ Q (.ref D) H) ∨ (J.go i H ∧ ∃ Nx : Hp → Prop, (∀ H', Nx H' → ∃ m', m' < m ∧ W (i + 1) m' H') ∧ ∀ x H', J.yld i H x H' → g x (wipe σ vs) H' (kLc2G tt wi1 g1 tt1 te vs vs1 σ D Nx))
def kLc2E (K : PySem.W.Frag) (g : TG) (tt : TT) (wi1 : TI) (g1 : TG) (tt1 : TT) (te : TE) (vs vs1 : List Nat) (σ : L2.St) (Q : VK) : List V → Hp → Prop := fun ws H1 => ∃ a xs, ws = [.ref a] ∧ SqT K H1 a xs ∧ LcW2 (IteT K a) g tt wi1 g1 tt1 te vs vs1 σ Q H1
section
variable {K : PySem.W.Frag} {g g1 : TG} {tt tt1 : TT} {wi1 : TI} {te tl : TE} {ta : TA} {vs vs1 : List Nat} {σ σ2 : L2.St} {H : Hp} {Q : VK} {Da a : Addr} {Nx : Hp → Prop} {xs ys : List V} {b : Bool}
theorem r_lc2E (q : ta σ H (kLc2E K g tt wi1 g1 tt1 te vs vs1 σ Q)) : tLc2 (iEnumT K ta) g tt wi1 g1 tt1 te vs vs1 σ H Q := q
theorem r_kLc2G (h : wipe σ2 vs = wipe σ vs) (q : tt σ2 H (kLc2T wi1 g1 tt1 te vs1 σ2 Da Nx)) : kLc2G tt wi1 g1 tt1 te vs vs1 σ Da Nx σ2 H := ⟨h, q⟩
theorem r_kLc2T (q : tl σ2 H (kLc2In K g1 tt1 te vs1 σ2 Da Nx)) : kLc2T (iTup K tl) g1 tt1 te vs1 σ2 Da Nx true H := q
theorem r_kLc2In (R : Nat → Hp → Prop) (hl : SqT K H a ys) (h0 : R 0 H) (hk : ∀ j H', R j H' → SqT K H' a ys)
    (hs : ∀ j z H', ys[j]? = some z → R j H' → g1 z (wipe σ2 vs1) H' (kLcG tt1 te vs1 σ2 Da (fun _ => R) j)) (hd : ∀ H', R ys.length H' → Nx H') : kLc2In K g1 tt1 te vs1 σ2 Da Nx (.ref a) H := by
  refine ⟨a, rfl, ⟨ys, hl⟩, fun j m H => m = ys.length - j ∧ j ≤ ys.length ∧ R j H, ⟨ys.length, by simp, Nat.zero_le _, h0⟩, ?_⟩
  rintro i m H ⟨rfl, hi, p⟩
  have q := hk i H p
  by_cases hlt : i < ys.length
  · refine .inr ⟨⟨ys, ys[i], q, by simp [hlt]⟩, R (i + 1), fun H' p' => ⟨ys.length - (i + 1), by omega, rfl, hlt, p'⟩, fun x H' y => ?_⟩
    obtain ⟨e, y⟩ := y
    subst e
    exact hs i x _ (y ys q) p
  · have e : i = ys.length := by omega
    subst e
    exact .inl ⟨⟨ys, q, Nat.le_refl _⟩, hd H p⟩
theorem r_kLc2E (Pv : Addr → Nat → Hp → Prop) (hl : SqT K H a xs) (h0 : ∀ Da H', H Da = none → Same H H' → H' Da = some (.lst []) → Pv Da 0 H') (hk : ∀ Da i H', Pv Da i H' → SqT K H' a xs)
    (hs : ∀ Da i x T H1 H', H Da = none → xs[i]? = some x → Pv Da i H1 → H1 T = none → Same H1 H' → H' T = some (.tup [.int (i : Nat), x]) → g (.ref T) (wipe σ vs) H' (kLc2G tt wi1 g1 tt1 te vs vs1 σ Da (Pv Da (i + 1))))
    (hd : ∀ Da H', H Da = none → Pv Da xs.length H' → Q (.ref Da) H') : kLc2E K g tt wi1 g1 tt1 te vs vs1 σ Q [.ref a] H := by
  refine ⟨a, xs, rfl, hl, fun D hD => ⟨fun i m H => m = xs.length - i ∧ i ≤ xs.length ∧ Pv D i H, ⟨xs.length, by simp, Nat.zero_le _, h0 D _ hD (Same.new hD) upd_same⟩, ?_⟩⟩
  rintro i m H ⟨rfl, hi, p⟩
  have q := hk D i H p
  by_cases hlt : i < xs.length
  · refine .inr ⟨⟨xs, xs[i], q, by simp [hlt]⟩, Pv D (i + 1), fun H' p' => ⟨xs.length - (i + 1), by omega, rfl, hlt, p'⟩, fun x H' y => ?_⟩
    obtain ⟨T, z, rfl, nT, rfl, y⟩ := y
    exact hs D i z T H _ hD (y xs q) p nT (Same.new nT) upd_same
  · have e : i = xs.length := by omega
    subst e
    exact .inl ⟨⟨xs, q, Nat.le_refl _⟩, hd D H hD p⟩
/-! for over enumerate(list) -/
def kForE (K : PySem.W.Frag) (g : TG) (tw : TS) (D : Ends) (σ : L2.St) : List V → Hp → Prop := fun ws H1 => ∃ a xs, ws = [.ref a] ∧ SqL K H1 a xs ∧
  ∃ W : Nat → Nat → L2.St → Hp → Prop, (∃ m, W 0 m σ H1) ∧ ∀ i m σ H, W i m σ H →
  ((Ite K a).stop i H ∧ D.nx σ H) ∨ ((Ite K a).go i H ∧ ∃ N : L2.St → Hp → Prop, (∀ σ' H', N σ' H' → ∃ m', m' < m ∧ W (i + 1) m' σ' H') ∧
    ∀ x H', (Ite K a).yld i H x H' → g x σ H' fun σ2 H2 => tw { D with nx := N, ct := N, bk := D.nx } σ2 H2)
variable {tw : TS} {D : Ends}
theorem r_forE (q : ta σ H (kForE K g tw D σ)) : tFor (iEnum K ta) g tw D σ H := q
theorem r_kForE (Pv : Nat → L2.St → Hp → Prop) (hl : SqL K H a xs) (h0 : Pv 0 σ H) (hk : ∀ i σ' H', Pv i σ' H' → SqL K H' a xs)
    (hs : ∀ i x T σ' H1 H', xs[i]? = some x → Pv i σ' H1 → H1 T = none → Same H1 H' → H' T = some (.tup [.int (i : Nat), x]) → g (.ref T) σ' H' fun σ2 H2 => tw { D with nx := Pv (i + 1), ct := Pv (i + 1), bk := D.nx } σ2 H2)
    (hd : ∀ σ' H', Pv xs.length σ' H' → D.nx σ' H') : kForE K g tw D σ [.ref a] H := by
  refine ⟨a, xs, rfl, hl, fun i m σ H => m = xs.length - i ∧ i ≤ xs.length ∧ Pv i σ H, ⟨xs.length, by simp, Nat.zero_le _, h0⟩, ?_⟩
  rintro i m σ H ⟨rfl, hi, p⟩
  have q := hk i σ H p
  by_cases hlt : i < xs.length
  · refine .inr ⟨⟨xs, xs[i], q, by simp [hlt]⟩, Pv (i + 1), fun σ' H' p' => ⟨xs.length - (i + 1), by omega, rfl, hlt, p'⟩, fun x H' y => ?_⟩
    obtain ⟨T, z, rfl, nT, rfl, y⟩ := y
    exact hs i z T σ H _ (y xs q) p nT (Same.new nT) upd_same
  · have e : i = xs.length := by omega
    subst e
    exact .inl ⟨⟨xs, q, Nat.le_refl _⟩, hd σ H p⟩
end
end Wp
set_option Elab.async false
set_option linter.all false
set_option maxRecDepth 100000
set_option maxHeartbeats 4000000
/-! f(e, *y); enumerate with the frag named. -/
namespace Wp
open PySem PySem.Spec PyProof.Rows L2
section
variable {X : Cx} {K : PySem.W.Frag}
theorem pe_fnS {CX : CXT} {k : Nat} {x : Str} {ps : List Str} {sp : Sp} {E : XK} {e : Expr} {es : List Expr}
    {t : TA} {p pos : Pos} (D : Dn X.prog X.w X.K X.mg X.base CX k x ps sp) (hr : Room k X.A)
    (hx : Passes CX X E) (ha : PA X (e :: es) t) (hg : Gl X x := by rfl)
    (hdb : (x == ("__debug__" : Str)) = false := by decide)
    (he : starEach (e :: es) X.env = (false, eval e X.env) :: starEach es X.env := by rfl)
    (hpl : (backTo pos (starEach es X.env)).any (·.1) = true := by rfl) :
    PE X (.Call (.Name x p) (e :: es) [] pos) (tFn sp E t) := by
  obtain ⟨fd, F, b⟩ := D.ex
  have F2 : FnR X.prog X.w X.K X.mg X.base CX k (He.ga X.K x) sp := (F.raw b .nil).imp fun vs H Q E h => by
    show sp (vs ++ []) H Q E
    rw [List.append_nil]
    exact h
  exact StX.pe_callS2 F2 hr D.kp hg D.gm hx ha hdb he hpl
theorem pi_enumTK {e : Expr} {ta : TA} {p pos tpos : Pos} {elts : List Expr} {kk : Nat} (h : X.K = K) (hg : Gl X "enumerate") (hm : X.mg "enumerate" = none) (ha : PA X [e] ta) (hs : starEach [e] X.env = [(false, eval e X.env)] := by rfl) :
    PI X (.Tuple elts kk tpos) (.Call (.Name "enumerate" p) [e] [] pos) (iEnumT K ta) := by
  subst h
  exact pi_enumT hg hm ha hs
theorem pi_enumK {e : Expr} {ta : TA} {p pos tpos : Pos} {elts : List Expr} {kk : Nat} (h : X.K = K) (hg : Gl X "enumerate") (hm : X.mg "enumerate" = none) (ha : PA X [e] ta) (hs : starEach [e] X.env = [(false, eval e X.env)] := by rfl) :
    PI X (.Tuple elts kk tpos) (.Call (.Name "enumerate" p) [e] [] pos) (iEnum K ta) := by
  subst h
  exact pi_enum hg hm ha hs
theorem pe_orTK {a b : Expr} {ta tb : TE} {rest : List Expr} {pos : Pos} (h : X.K = K) (ha : PE X a ta) (hb : PE X (.BoolOp .Or (b :: rest) pos) tb) : PE X (.BoolOp .Or (a :: b :: rest) pos) (tOrT K ta tb) := by
  subst h
  exact pe_orT ha hb
def kOrT (K : PySem.W.Frag) (tb : TE) (σ : L2.St) (Q : VK) : VK := fun x H1 => ∃ k, TruV K x H1 k ∧ if k = true then Q x H1 else tb σ H1 Q
variable {ta tb : TE} {σ : L2.St} {H : Hp} {Q : VK}
theorem r_orT (q : ta σ H (kOrT K tb σ Q)) : tOrT K ta tb σ H Q := q
theorem r_kOrTn (q : tb σ H Q) : kOrT K tb σ Q .non H := ⟨false, rfl, q⟩
theorem r_kOrTt {p : Addr} {xs : List V} (h : SqT K H p xs) (q1 : xs ≠ [] → Q (.ref p) H) (q2 : xs = [] → tb σ H Q) : kOrT K tb σ Q (.ref p) H := by
  cases xs with
  | nil => exact ⟨false, .inr (.inl ⟨[], h, rfl⟩), q2 rfl⟩
  | cons x xs => exact ⟨true, .inr (.inl ⟨_, h, rfl⟩), q1 (List.cons_ne_nil _ _)⟩
end
end Wp
set_option Elab.async false
set_option linter.all false
set_option maxRecDepth 100000
set_option maxHeartbeats 4000000
namespace Wp
open PySem PySem.Spec PyProof.Rows L2
abbrev s_word_for : Stmt := topS 33
abbrev s_reasons_of : Stmt := topS 34
abbrev s_never_costs_more : Stmt := topS 35
local macro_rules | `(tactic| walk_at "val") => `(tactic| assumption)
local macro_rules | `(tactic| walk_at "rd1") => `(tactic| first
  | with_reducible refine r_seq ?_ | with_reducible refine r_next ?_ | with_reducible refine r_if ?_ | with_reducible refine r_asg ?_ | with_reducible refine r_gname ?_
  | with_reducible refine r_ret ?_ | with_reducible refine r_retN ?_ | with_reducible refine r_drop ?_ | with_reducible refine r_par ?_ | with_reducible refine r_kPar ?_
  | ((with_reducible refine' r_var ?hv ?_); (case hv => exact rfl)) | with_reducible refine r_c ?_ | with_reducible refine r_nil ?_ | with_reducible refine r_cons ?_
  | with_reducible refine r_fn ?_ | with_reducible refine r_cb ?_ | with_reducible refine r_op ?_ | with_reducible refine r_un ?_ | with_reducible refine r_I0 ?_
  | with_reducible refine r_pow5 ?_ | with_reducible refine r_pow6 ?_ | with_reducible refine r_pow7 ?_ | with_reducible refine r_pow9 ?_ | with_reducible refine r_pow18 ?_ | with_reducible refine r_pow20 ?_ | with_reducible refine r_pow30 ?_
  | with_reducible refine r_isN_non ?_ | with_reducible refine r_isN_ref ?_ | with_reducible refine r_isN_int ?_ | with_reducible refine r_isN_str ?_ | with_reducible refine r_isN_bl ?_ | with_reducible refine r_notN_non ?_ | with_reducible refine r_notN_ref ?_ | with_reducible refine r_notN_int ?_ | with_reducible refine r_notN_str ?_ | with_reducible refine r_notN_bl ?_
  | ((with_reducible refine r_I ?hc ?_); (case hc => walk_at "side")) | with_reducible refine r_U ?_
  | with_reducible refine r_eqI ?_ | with_reducible refine r_neI ?_ | with_reducible refine r_eqS ?_ | with_reducible refine r_neS ?_ | with_reducible refine r_eqB ?_ | with_reducible refine r_neB ?_
  | with_reducible refine r_chain ?_ | with_reducible refine r_test ?_ | with_reducible refine r_tB ?_ | with_reducible refine r_kTest ?_ | with_reducible refine r_not ?_
  | with_reducible refine r_and ?_ | with_reducible refine r_or ?_ | with_reducible refine r_tif ?_ | with_reducible refine r_andV ?_ | with_reducible refine r_orV ?_ | with_reducible refine r_notV ?_
  | with_reducible refine r_kAndV ?_ | with_reducible refine r_kOrV ?_ | with_reducible refine r_kNotV ?_
  | with_reducible refine w_T ?_ | with_reducible refine w_F ?_ | with_reducible refine w_NT ?_ | with_reducible refine w_NF ?_
  | with_reducible refine r_tup ?_ | with_reducible refine r_lst ?_ | with_reducible refine r_fld ?_ | with_reducible refine r_prop ?_ | ((with_reducible refine' r_aug ?h1 ?_); (case h1 => exact rfl)) | with_reducible refine r_ipI ?_ | with_reducible refine r_dget ?_ | with_reducible refine r_dput ?_ | with_reducible refine r_bm ?_
  | ((with_reducible refine' r_kDGetS ?h1 ?h2 ?_); (case h1 => assumption); (case h2 => walk_at "val"))
  | ((with_reducible refine' r_kBML ?h1 ?_); (case h1 => assumption))
  | with_reducible refine r_forL ?_ | with_reducible refine r_forR1 ?_ | with_reducible refine r_forR2 ?_ | with_reducible refine r_forT ?_ | with_reducible refine r_lcL ?_ | with_reducible refine r_lcR1 ?_
  | ((with_reducible refine r_kLcG ?hw ?_); (case hw => exact rfl)) | with_reducible refine r_kLcT ?_ | with_reducible refine r_yes ?_
  | with_reducible refine r_pnil ?_ | with_reducible refine r_pcons ?_
  | with_reducible refine r_fnK ?_ | ((with_reducible refine r_kFnK ?hl ?_); (case hl => exact rfl))
  | with_reducible refine r_isi_ii ?_ | with_reducible refine r_isi_ib ?_ | with_reducible refine r_isi_bi ?_ | with_reducible refine r_isi_bb ?_ | with_reducible refine r_isi_ss ?_ | with_reducible refine r_isi_is ?_ | with_reducible refine r_isi_it ?_
  | ((with_reducible refine' r_isi_tt ?h1 ?_); (case h1 => assumption))
  | with_reducible refine r_sfld ?_ | with_reducible refine r_gnil ?_ | with_reducible refine r_gcons ?_
  | ((with_reducible refine' r_gtup ?h1 ?h2 ?_); (case h1 => exact SqT.of (by assumption)); (case h2 => exact rfl))
  | with_reducible refine r_sl ?_ | with_reducible refine r_noPart ?_ | with_reducible refine r_part ?_ | with_reducible refine r_kPart ?_ | with_reducible refine r_m1 ?_ | with_reducible refine r_kM1 ?_ | with_reducible refine r_forS ?_ | with_reducible refine r_lcS ?_ | with_reducible refine r_lcTu ?_ | with_reducible refine r_lcK ?_ | with_reducible refine r_dcL ?_ | with_reducible refine r_dcK ?_ | with_reducible refine r_lc2L ?_ | with_reducible refine r_kLc2TL ?_ | with_reducible refine r_dcEn ?_ | with_reducible refine r_gslc ?_ | with_reducible refine r_lcEn ?_ | with_reducible refine r_lcEl ?_ | with_reducible refine r_lcR2 ?_ | with_reducible refine r_rg1 ?_ | with_reducible refine r_forET ?_ | with_reducible refine r_lenD ?_
  | ((with_reducible refine r_kDcG ?hw ?_); (case hw => exact rfl)) | with_reducible refine r_kDcT ?_
  | with_reducible refine r_fldaug ?_ | with_reducible refine r_daug ?_ | with_reducible refine r_rAdd ?_ | with_reducible refine r_rSub ?_ | with_reducible refine r_ddel ?_ | with_reducible refine r_bmF ?_ | with_reducible refine r_dget2 ?_ | with_reducible refine r_listItems ?_ | with_reducible refine r_bm0 ?_ | with_reducible refine r_lc2E ?_ | ((with_reducible refine r_kLc2G ?hw ?_); (case hw => exact rfl)) | with_reducible refine r_kLc2T ?_ | with_reducible refine r_forE ?_ | with_reducible refine r_orT ?_ | with_reducible refine r_din ?_ | with_reducible refine r_augS ?_ | with_reducible refine r_dnotin ?_ | with_reducible refine r_lcIT ?_ | with_reducible refine r_cont ?_ | with_reducible refine r_meth ?_ | with_reducible refine r_frz ?_ | with_reducible refine r_par3 ?_ | with_reducible refine r_kPar3 ?_ | with_reducible refine r_dz ?_ | with_reducible refine r_revL ?_ | with_reducible refine r_star ?_ | with_reducible refine r_int1 ?_ | with_reducible refine r_int1b ?_ | with_reducible refine r_min2 ?_ | with_reducible refine r_max2 ?_ | with_reducible refine r_gsub ?_)
local macro_rules | `(tactic| walk_at "rd") => `(tactic| repeat walk_at "rd1")
local macro_rules | `(tactic| walk_at "side") => `(tactic| first | assumption | exact Or.inr ⟨by decide, by decide⟩ | exact Or.inl ⟨by decide, by decide⟩ | (constructor <;> omega) | omega | decide | (refine Or.inl ⟨?_, ?_⟩ <;> omega) | (refine Or.inr ⟨?_, ?_⟩ <;> omega) | (refine ⟨?_, ?_, ?_⟩ <;> first | decide | omega))
def sp_word_for (C : Addr) : Sp := fun vs H Q _ => ∃ (p : Addr) (B : Bk) (a b : Str), vs = [.ref p, .str a, .str b] ∧ BookAt C H p B ∧ (B.ks.map (·.1)).Nodup ∧ a ∈ B.ks.map (·.1) ∧ b ∈ B.ks.map (·.1) ∧ Q (.str (wordB B.beg B.ks a b)) H
/-- what the order of a book says -/
def Bk.order (B : Bk) : List Str := B.laid.getD []
def Bk.why (B : Bk) : List Row := srtR (rowsOf (wordB B.beg B.ks) (prs B.order B.order.length))
def sp_reasons (C : Addr) : Sp := fun vs H Q _ => ∃ (p : Addr) (B : Bk), vs = [.ref p] ∧ BookAt C H p B ∧ B.Ok ∧ B.LaidOk ∧ ∀ t H' ws, H t = none → Same H H' → H' t = some (.lst ws) → RL H' ws B.why → Q (.ref t) H'
def sp_never_more (C : Addr) : Sp := fun vs H Q _ => ∃ (p : Addr) (B : Bk), vs = [.ref p] ∧ BookAt C H p B ∧ B.Ok ∧ B.LaidOk ∧ ∀ H', Same H H' → Q (.bl (decide (B.why = []))) H'
/-- values that are pairs -/
def PL (H : Hp) (vs : List V) (ps : List (Str × Str)) : Prop := ∃ zs : List (V × Str × Str), vs = zs.map (·.1) ∧ ps = zs.map (·.2) ∧ ∀ z ∈ zs, ∃ t, z.1 = .ref t ∧ H t = some (.tup [.str z.2.1, .str z.2.2])
theorem PL.nil {H : Hp} : PL H [] [] := ⟨[], rfl, rfl, fun z h => by cases h⟩
theorem PL.keep {H H' : Hp} {vs : List V} {ps : List (Str × Str)} (h : PL H vs ps) (e : ∀ t xs, H t = some (.tup xs) → H' t = some (.tup xs)) : PL H' vs ps := by
  obtain ⟨zs, h1, h2, h3⟩ := h
  refine ⟨zs, h1, h2, fun z hz => ?_⟩
  obtain ⟨t, h4, h5⟩ := h3 z hz
  exact ⟨t, h4, e _ _ h5⟩
theorem PL.snoc {H : Hp} {vs : List V} {ps : List (Str × Str)} {t : Addr} {a b : Str} (h : PL H vs ps) (hr : H t = some (.tup [.str a, .str b])) : PL H (vs ++ [.ref t]) (ps ++ [(a, b)]) := by
  obtain ⟨zs, h1, h2, h3⟩ := h
  refine ⟨zs ++ [(.ref t, a, b)], by simp [h1], by simp [h2], fun z hz => ?_⟩
  rcases List.mem_append.mp hz with hz | hz
  · exact h3 z hz
  · rw [List.mem_singleton.mp hz]
    exact ⟨t, rfl, hr⟩
theorem PL.len {H : Hp} {vs : List V} {ps : List (Str × Str)} (h : PL H vs ps) : vs.length = ps.length := by
  obtain ⟨zs, h1, h2, h3⟩ := h
  rw [h1, h2, List.length_map, List.length_map]
theorem PL.get {H : Hp} {vs : List V} {ps : List (Str × Str)} {i : Nat} {v : V} (h : PL H vs ps) (hv : vs[i]? = some v) : ∃ t a b, v = .ref t ∧ H t = some (.tup [.str a, .str b]) ∧ ps[i]? = some (a, b) := by
  obtain ⟨zs, rfl, rfl, h3⟩ := h
  rw [List.getElem?_map] at hv
  obtain ⟨z, hz, rfl⟩ := Option.map_eq_some_iff.mp hv
  obtain ⟨t, h4, h5⟩ := h3 z (List.mem_of_getElem? hz)
  exact ⟨t, z.2.1, z.2.2, h4, h5, by rw [List.getElem?_map, hz]; rfl⟩
section
variable {P : Program} {w : World} {K : PySem.W.Frag} {mg : Str → Option Value} {base : Heap}
theorem ok_word_for {f C : Addr} {fd : FuncData} (T : Tx K mg) (F : FnP K "word_for" s_word_for f fd) (mt_Book_rate_of : Dm P w K mg base CX0 1 C "rate_of" (sp_rate_of C)) (mt_Book_is_free : Dm P w K mg base CX0 1 C "is_free" (sp_is_free C)) (m_begins : Dpr P w K mg base CX0 1 C "begins" (sp_g_begins C)) :
    FnOk P w K mg base CX0 3 f fd ["book", "ahead", "behind"] (sp_word_for C) := by
  have sc : FnScope ["book", "ahead", "behind", "can_bear"] ["book", "ahead", "behind"] (defScope s_word_for) := ⟨rfl, rfl, rfl, by decide +kernel, rfl, by decide +kernel, by decide +kernel⟩
  refine F.ok sc (by rintro vs H Q E ⟨_, _, _, _, rfl, _⟩; rfl) (fun cdv A outer s H vs Q E hr h => ⟨_, PSs.nox ((pss_cons (ps_if (pt_cmpR op_gt (pe_mt mt_Book_rate_of (hr.mono (by decide)) pass0 (pv 0) (pa_cons (pv 1) pa_nil)) (pe_mt mt_Book_rate_of (hr.mono (by decide)) pass0 (pv 0) (pa_cons (pv 2) pa_nil)) (nomark _)) (pss_one (ps_ret (pe_glob (v := .str "rate") (by rfl) T.c_RATE.choose_spec ⟨_, rfl⟩))) pss_nil)
      (pss_cons (ps_set (i := 3) sc.nd rfl (by first | exact Or.inl rfl | exact Or.inr rfl) (pe_or (pe_not (pe_mt mt_Book_is_free (hr.mono (by decide)) pass0 (pv 0) (pa_cons (pv 1) pa_nil))) (pe_one (pe_cmpR op_eq (pe_propA m_begins (pv 0) (hr.mono (by decide)) pass0) (pe_glob (v := .str "day") (by rfl) T.c_DAY.choose_spec ⟨_, rfl⟩) (nomark _)))))
      (pss_one (ps_ret (pe_ifExp (PW.pt (pw_and (pt_val (pe_mt mt_Book_is_free (hr.mono (by decide)) pass0 (pv 0) (pa_cons (pv 2) pa_nil))) (pw_and (pt_cmpR op_gt (pe_mt mt_Book_rate_of (hr.mono (by decide)) pass0 (pv 0) (pa_cons (pv 1) pa_nil)) pe_int (nomark _)) (pw_and1 (pt_val (pv 3)))))) (pe_glob (v := .str "free") (by rfl) T.c_FREE.choose_spec ⟨_, rfl⟩) pe_str)))))), ?_⟩)
  obtain ⟨p, B, a, b, rfl, hB, nd, ha, hb, k⟩ := h
  obtain ⟨_, _, _, _, _, h1⟩ := id hB
  have ma : (a, (look B.ks a).1, (look B.ks a).2) ∈ B.ks := lk_mem ha
  have mb : (b, (look B.ks b).1, (look B.ks b).2) ∈ B.ks := lk_mem hb
  have fin : ∀ s, wordF B.beg (look B.ks a) (look B.ks b) = s → Q (.str s) H := fun s e => by rw [← e]; exact k
  generalize look B.ks a = x at ma fin
  generalize look B.ks b = y at mb fin
  obtain ⟨ra, fa⟩ := x
  obtain ⟨rb, fb⟩ := y
  walk_at "rd"
  refine r_kMeth h1.i rfl ?_
  walk_at "rd"
  refine ⟨p, B, a, ra, fa, rfl, hB, nd, ma, ?_⟩
  walk_at "rd"
  refine r_kMeth h1.i rfl ?_
  walk_at "rd"
  refine ⟨p, B, b, rb, fb, rfl, hB, nd, mb, ?_⟩
  walk_at "rd"
  refine w_dec (fun c1 => ?_) (fun c1 => ?_)
  · walk_at "rd"
    exact fin _ (by unfold wordF; rw [if_pos c1])
  have go : ∀ (cb : Bool), (cb = true ↔ (fa = false ∨ B.beg = "day")) → wordF B.beg (ra, fa) (rb, fb) = if fb = true ∧ ra > 0 ∧ cb = true then "free" else "" := fun cb h => by
    unfold wordF
    rw [if_neg c1]
    by_cases h2 : fb = true ∧ ra > 0 ∧ (fa = false ∨ B.beg = "day")
    · rw [if_pos h2, if_pos ⟨h2.1, h2.2.1, h.mpr h2.2.2⟩]
    · rw [if_neg h2, if_neg fun z => h2 ⟨z.1, z.2.1, h.mp z.2.2⟩]
  walk_at "rd"
  refine r_kMeth h1.i rfl ?_
  walk_at "rd"
  refine ⟨p, B, a, ra, fa, rfl, hB, nd, ma, ?_⟩
  walk_at "rd"
  refine w_nb (fun ca => ?_) (fun ca => ?_)
  · have hcb : (true = true ↔ (fa = false ∨ B.beg = "day")) := ⟨fun _ => .inl ca, fun _ => rfl⟩
    walk_at "rd"
    refine r_kMeth h1.i rfl ?_
    walk_at "rd"
    refine ⟨p, B, b, rb, fb, rfl, hB, nd, mb, ?_⟩
    walk_at "rd"
    refine w_b (fun cf => ?_) (fun cf => ?_)
    · walk_at "rd"
      refine r_kMeth h1.i rfl ?_
      walk_at "rd"
      refine ⟨p, B, a, ra, fa, rfl, hB, nd, ma, ?_⟩
      walk_at "rd"
      refine w_dec (fun cr => ?_) (fun cr => ?_)
      · walk_at "rd"
        exact fin _ (by rw [go true hcb, if_pos ⟨cf, cr, rfl⟩])
      · walk_at "rd"
        exact fin _ (by rw [go true hcb, if_neg fun z => cr z.2.1])
    · walk_at "rd"
      exact fin _ (by rw [go true hcb, if_neg fun z => by rw [cf] at z; cases z.1])
  · walk_at "rd"
    refine r_kProp h1.i ⟨p, B, rfl, hB, ?_⟩
    have hcb : (decide (B.beg = "day") = true ↔ (fa = false ∨ B.beg = "day")) := ⟨fun z => .inr (of_decide_eq_true z), fun z => decide_eq_true (z.resolve_left (by rw [ca]; decide))⟩
    walk_at "rd"
    refine r_kMeth h1.i rfl ?_
    walk_at "rd"
    refine ⟨p, B, b, rb, fb, rfl, hB, nd, mb, ?_⟩
    walk_at "rd"
    refine w_b (fun cf => ?_) (fun cf => ?_)
    · walk_at "rd"
      refine r_kMeth h1.i rfl ?_
      walk_at "rd"
      refine ⟨p, B, a, ra, fa, rfl, hB, nd, ma, ?_⟩
      walk_at "rd"
      refine w_dec (fun cr => ?_) (fun cr => ?_)
      · walk_at "rd"
        refine w_dec (fun cd => ?_) (fun cd => ?_)
        · walk_at "rd"
          exact fin _ (by rw [go _ hcb, if_pos ⟨cf, cr, decide_eq_true cd⟩])
        · walk_at "rd"
          exact fin _ (by rw [go _ hcb, if_neg fun z => cd (of_decide_eq_true z.2.2)])
      · walk_at "rd"
        exact fin _ (by rw [go _ hcb, if_neg fun z => cr z.2.1])
    · walk_at "rd"
      exact fin _ (by rw [go _ hcb, if_neg fun z => by rw [cf] at z; cases z.1])
theorem ok_reasons_of {f C : Addr} {fd : FuncData} (T : Tx K mg) (F : FnP K "reasons_of" s_reasons_of f fd) (m_laid : Dpr P w K mg base CX0 1 C "laid" (sp_g_laid C)) (d_word_for : Dn P w K mg base CX0 3 "word_for" ["book", "ahead", "behind"] (sp_word_for C)) :
    FnOk P w K mg base CX0 4 f fd ["book"] (sp_reasons C) := by
  have sc : FnScope ["book", "laid", "pairs", "at", "behind", "ahead", "pair"] ["book"] (defScope s_reasons_of) := ⟨rfl, rfl, rfl, by decide +kernel, rfl, by decide +kernel, by decide +kernel⟩
  refine F.ok sc (by rintro vs H Q E ⟨_, _, rfl, _⟩; rfl) (fun cdv A outer s H vs Q E hr h => ⟨_, PSs.nox ((Evl.pss_cut (ps_set (i := 1) sc.nd rfl (by first | exact Or.inl rfl | exact Or.inr rfl) (pe_ifExp (pt_cmpR op_isN1 (pe_propA m_laid (pv 0) (hr.mono (by decide)) pass0) pe_non (nomark _)) (pe_tup pa_nil) (pe_propA m_laid (pv 0) (hr.mono (by decide)) pass0)))
      (pss_cons (ps_setLc2 (i := 2) (own := [("at", 3), ("behind", 4), ("ahead", 5)]) (vs1 := [5]) (by rfl) sc.nd rfl rfl (sw_true rfl rfl rfl (by decide +kernel)) (pi_enumTK (K := K) rfl (by rfl) T.b_enumerate (pa_cons (pv 1) pa_nil)) (blkOk_by (own := [("at", 3), ("behind", 4), ("ahead", 5)]) (N := ["book", "laid", "pairs", "at", "behind", "ahead", "pair"]) (sc := defScope s_reasons_of) (by decide +kernel)) (by decide) (fun _ _ _ _ _ => (pg_tupK (K := K) (n := 2) rfl rfl (pgs_cons (pg_name (i := 3) sc.nd rfl (by first | exact Or.inl rfl | exact Or.inr rfl)) (pgs_cons (pg_name (i := 4) sc.nd rfl (by first | exact Or.inl rfl | exact Or.inr rfl)) pgs_nil)))) (fun _ _ _ _ _ => pts_nil) (fun _ _ _ _ _ => (pi_tupK (K := K) rfl (pe_slice (sl_tupK (K := K) rfl) (pv 1) po_none (po_some (pv 3))))) (fun _ _ _ _ _ => (pg_name (i := 5) sc.nd rfl (by first | exact Or.inl rfl | exact Or.inr rfl))) (fun _ _ _ _ _ => pts_nil) (fun _ _ _ _ _ => (pe_tup (pa_cons (pv 5) (pa_cons (pv 4) pa_nil)))))
      (pss_one (ps_ret (pe_callB (c_sortD (K := K) rfl hr) (by rfl) T.b_sorted (by decide +kernel) (pa_cons (pe_lc (own := [("pair", 6)]) (by rfl) sc.nd (pi_listK (K := K) rfl (pv 2)) (blkOk_by (own := [("pair", 6)]) (N := ["book", "laid", "pairs", "at", "behind", "ahead", "pair"]) (sc := defScope s_reasons_of) (by decide +kernel)) (fun _ _ _ _ _ => (pg_name (i := 6) sc.nd rfl (by first | exact Or.inl rfl | exact Or.inr rfl))) (fun _ _ _ _ _ => (pts_one (pt_cmpR op_ne (pe_fnS d_word_for (hr.mono (by decide)) pass0 (pa_cons (pv 0) (pa_starK (K := K) rfl (pv 6) pa_nil))) pe_str (nomark _)))) (fun _ _ _ _ _ => (pe_tup (pa_starK (K := K) rfl (pv 6) (pa_cons (pe_fnS d_word_for (hr.mono (by decide)) pass0 (pa_cons (pv 0) (pa_starK (K := K) rfl (pv 6) pa_nil))) pa_nil))))) pa_nil))))))), ?_⟩)
  obtain ⟨p, B, rfl, hB, ok, lok, k⟩ := h
  obtain ⟨_, _, _, _, _, i1⟩ := id hB
  have hord : ∀ n ∈ B.order, n ∈ B.ks.map (·.1) := fun n hn => by
    cases hL : B.laid with
    | none => simp [Bk.order, hL] at hn
    | some ns => exact (lok ns hL).mem_iff.mp (by simpa [Bk.order, hL] using hn)
  have hlen : B.order.length ≤ 6 := by
    cases hL : B.laid with
    | none => simp [Bk.order, hL]
    | some ns =>
      have h1 := (lok ns hL).length_eq
      have h2 := ok.kn.hi
      rw [List.length_map] at h1
      simp [Bk.order, hL]
      omega
  have nd := ok.kn.nm.nd
  refine r_cut (fun σ' H' => ∃ tl, σ' = [some (.ref p), some (.ref tl), none, none, none, none, none] ∧ Same H H' ∧ SqT K H' tl (B.order.map V.str)) ?_ ?_
  · walk_at "rd"
    refine r_kProp i1.i ⟨p, B, rfl, hB, fun lv hlv => ?_⟩
    cases hL : B.laid with
    | none =>
      rw [hL] at hlv
      obtain rfl : lv = .non := hlv
      walk_at "rd"
      refine r_kTup fun t H1 nt e1 ht => ?_
      exact ⟨t, rfl, e1, SqT.of (by rw [ht]; simp [Bk.order, hL])⟩
    | some ns =>
      rw [hL] at hlv
      obtain ⟨t, rfl, ht⟩ := hlv
      walk_at "rd"
      refine r_kProp i1.i ⟨p, B, rfl, hB, fun lv hlv => ?_⟩
      rw [hL] at hlv
      obtain ⟨t', rfl, ht'⟩ := hlv
      walk_at "rd"
      exact ⟨t', rfl, Same.refl _, by simpa [Bk.order, hL] using ht'.sq⟩
  rintro σ' H1 ⟨tl, rfl, e1, htl⟩
  walk_at "rd"
  refine r_kLc2E (xs := B.order.map V.str) (fun Da i H' => Same H1 H' ∧ ∃ vs, H' Da = some (.lst vs) ∧ PL H' vs (prs B.order i)) htl (fun Da H' _ e h => ⟨e, [], h, PL.nil⟩) (fun Da i H' ⟨e, _⟩ => SqT.same e htl) ?_ ?_
  · rintro Da i x T2 H2 H3 nD hx ⟨e2, vs, hDa, hP⟩ nT e3 hT
    obtain ⟨b, rfl, hb⟩ := strs_get hx
    have hil := (List.getElem?_eq_some_iff.mp hb).1
    walk_at "rd"
    refine r_slT_take (SqT.same e3 (SqT.same e2 htl)) (by omega) (by rw [List.length_map]; omega) fun ts H4 nts e4 hts => ?_
    rw [Int.toNat_natCast, ← List.map_take] at hts
    have e24 := e3.trans e4
    refine r_kLc2In (ys := (B.order.take i).map V.str) (fun j H' => Same H1 H' ∧ H' ts = some (.tup ((B.order.take i).map V.str)) ∧ ∃ vs, H' Da = some (.lst vs) ∧ PL H' vs (prs B.order i ++ ((B.order.take i).take j).map (fun a => (a, b)))) (SqT.of hts)
      ⟨e2.trans e24, hts, vs, e24 _ _ hDa, by rw [List.take_zero, List.map_nil, List.append_nil]; exact hP.keep fun t xs h => e24 _ _ h⟩ (fun j H' ⟨_, h, _⟩ => SqT.of h) ?_ ?_
    · rintro j z H5 hz ⟨e5, hts5, vs5, hDa5, hP5⟩
      obtain ⟨a, rfl, haj⟩ := strs_get hz
      walk_at "rd"
      refine r_kTup fun tq H6 ntq e6 htq => ?_
      have hl5 := hP5.len
      have hpl := prs_len (ns := B.order) (i := i)
      refine r_kLcE (e6 _ _ hDa5) ?_ fun H7 b7 h7 => ?_
      · rw [hl5, List.length_append, List.length_map, List.length_take, List.length_take]
        have : i * B.order.length ≤ 6 * 6 := Nat.mul_le_mul (by omega) hlen
        omega
      have tk : ∀ u xs, H6 u = some (.tup xs) → H7 u = some (.tup xs) := fun u xs hu => b7 _ _ hu (ne_of hu (e6 _ _ hDa5) (by intro z; cases z))
      refine ⟨Same.mut (e5.trans e6) b7 nD, tk _ _ (e6 _ _ hts5), _, h7, ?_⟩
      rw [take_more haj, List.map_append, ← List.append_assoc]
      exact (hP5.keep fun t xs h => tk _ _ (e6 _ _ h)).snoc (tk _ _ htq)
    · rintro H5 ⟨e5, hts5, vs5, hDa5, hP5⟩
      rw [List.length_map, List.take_length] at hP5
      exact ⟨e5, vs5, hDa5, by rw [prs_next hb]; exact hP5⟩
  rintro Da H2 nD ⟨e2, vs, hDa, hP⟩
  rw [List.length_map] at hP
  have hps : (prs B.order B.order.length).length ≤ 36 := Nat.le_trans prs_len (Nat.mul_le_mul hlen hlen)
  have hB2 := hB.keep (e1.trans e2)
  walk_at "rd"
  refine r_kLcL (xs := vs) (fun Db i H' => Same H2 H' ∧ ∃ ws, H' Db = some (.lst ws) ∧ RL H' ws (rowsOf (wordB B.beg B.ks) ((prs B.order B.order.length).take i))) (SqL.of hDa) (fun Db H' _ e h => ⟨e, [], h, RL.nil⟩) (fun Db i H' ⟨e, _⟩ => SqL.of (e _ _ hDa)) ?_ ?_
  · rintro Db i x H3 nDb hx ⟨e3, ws, hDb, hR⟩
    obtain ⟨t, a, b, rfl, ht, hi⟩ := hP.get hx
    obtain ⟨ma, mb⟩ := prs_mem (List.mem_of_getElem? hi)
    have ht3 := e3 _ _ ht
    walk_at "rd"
    refine r_kStarT (SqT.of ht3) ?_
    walk_at "rd"
    refine ⟨p, B, a, b, rfl, hB2.keep e3, nd, hord a ma, hord b mb, ?_⟩
    walk_at "rd"
    refine w_ndec (fun hne => ?_) (fun hin => ?_)
    · walk_at "rd"
      refine r_kStarT (SqT.of ht3) ?_
      walk_at "rd"
      refine r_kStarT (SqT.of ht3) ?_
      walk_at "rd"
      refine ⟨p, B, a, b, rfl, hB2.keep e3, nd, hord a ma, hord b mb, ?_⟩
      walk_at "rd"
      refine r_kTup (hz := by show 3 ≤ _; decide) fun tq H4 ntq e4 htq => ?_
      have hl3 := hR.len
      have hl4 := rowsOf_len (w := wordB B.beg B.ks) (ps := (prs B.order B.order.length).take i)
      have hl5 : ((prs B.order B.order.length).take i).length ≤ 36 := by rw [List.length_take]; omega
      refine r_kLcE (e4 _ _ hDb) (by omega) fun H5 b5 h5 => ?_
      have tk : ∀ u xs, H4 u = some (.tup xs) → H5 u = some (.tup xs) := fun u xs hu => b5 _ _ hu (ne_of hu (e4 _ _ hDb) (by intro z; cases z))
      refine ⟨Same.mut (e3.trans e4) b5 nDb, _, h5, ?_⟩
      rw [take_more hi, rowsOf_snoc hne]
      exact (hR.keep fun t xs h => tk _ _ (e4 _ _ h)).snoc ⟨tq, rfl, tk _ _ htq⟩
    · refine ⟨e3, ws, hDb, ?_⟩
      rw [take_more hi, rowsOf_skip hin]
      exact hR
  rintro Db H3 nDb ⟨e3, ws, hDb, hR⟩
  rw [hP.len, List.take_length] at hR
  walk_at "rd"
  refine r_sortR (.inl (SqL.of hDb)) hR ?_ fun t H4 ws4 nt e4 ht hR4 => ?_
  · have := rowsOf_len (w := wordB B.beg B.ks) (ps := prs B.order B.order.length)
    omega
  have e := ((e1.trans e2).trans e3)
  exact k t H4 ws4 (e.free nt) (e.trans e4) ht hR4
theorem ok_never_costs_more {f C : Addr} {fd : FuncData} (T : Tx K mg) (F : FnP K "never_costs_more" s_never_costs_more f fd) (d_need_book : Dn P w K mg base CX0 1 "need_book" ["value"] (sp_need_book C)) (d_reasons_of : Dn P w K mg base CX0 4 "reasons_of" ["book"] (sp_reasons C)) :
    FnOk P w K mg base CX0 5 f fd ["book"] (sp_never_more C) := by
  have sc : FnScope ["book"] ["book"] (defScope s_never_costs_more) := ⟨rfl, rfl, rfl, by decide +kernel, rfl, by decide +kernel, by decide +kernel⟩
  refine F.ok sc (by rintro vs H Q E ⟨_, _, rfl, _⟩; rfl) (fun cdv A outer s H vs Q E hr h => ⟨_, PSs.nox ((pss_cons (ps_expr (pe_fn d_need_book (hr.mono (by decide)) pass0 (pa_cons (pv 0) pa_nil)))
      (pss_one (ps_ret (pe_cmpR (eqNilK (K := K) rfl hr.units) (pe_fn d_reasons_of (hr.mono (by decide)) pass0 (pa_cons (pv 0) pa_nil)) (pe_lst pa_nil) (nomark _)))))), ?_⟩)
  obtain ⟨p, B, rfl, hB, ok, lok, k⟩ := h
  walk_at "rd"
  refine ⟨p, B, rfl, hB, ?_⟩
  walk_at "rd"
  refine ⟨p, B, rfl, hB, ok, lok, fun t H1 ws nt e1 ht hR => ?_⟩
  walk_at "rd"
  refine r_kLst fun t2 H2 nt2 e2 ht2 => ?_
  refine r_eqNilA (SqL.of (e2 _ _ ht)) (SqL.of ht2) ?_
  have e : decide (ws = []) = decide (B.why = []) := decide_eq_decide.mpr ⟨fun h => List.eq_nil_of_length_eq_zero (by rw [← hR.len, h]; rfl), fun h => List.eq_nil_of_length_eq_zero (by rw [hR.len, h]; rfl)⟩
  rw [e]
  exact k H2 (e1.trans e2)
end
end Wp
set_option linter.all false
/-! Greatest numbers; what the windows of a book cost at most, by the program's way and the law's. (plain Lean) -/
namespace Wp
/-- the greatest of 0 and these -/
def mx0 (l : List Int) : Int := l.foldl max 0
structure IsMx (m : Int) (l : List Int) : Prop where
  mem : m ∈ l
  le : ∀ y ∈ l, y ≤ m
theorem IsMx.eq {m n : Int} {l : List Int} (h : IsMx m l) (k : IsMx n l) : m = n := by
  have := h.le _ k.mem
  have := k.le _ h.mem
  omega
theorem foldl_mx : ∀ (l : List Int) (a : Int), IsMx (l.foldl max a) (a :: l)
  | [], a => ⟨List.mem_singleton.mpr rfl, fun y h => by rw [List.mem_singleton.mp h]; exact Int.le_refl _⟩
  | x :: l, a => by
    obtain ⟨h1, h2⟩ := foldl_mx l (max a x)
    have h3 := h2 _ (List.mem_cons_self ..)
    show IsMx (l.foldl max (max a x)) _
    refine ⟨?_, fun y hy => ?_⟩
    · rcases List.mem_cons.mp h1 with h | h
      · rw [h]
        rcases Int.le_total a x with z | z
        · rw [Int.max_eq_right z]; exact List.mem_cons_of_mem _ (List.mem_cons_self ..)
        · rw [Int.max_eq_left z]; exact List.mem_cons_self ..
      · exact List.mem_cons_of_mem _ (List.mem_cons_of_mem _ h)
    · rcases List.mem_cons.mp hy with rfl | hy
      · omega
      · rcases List.mem_cons.mp hy with rfl | hy
        · omega
        · exact h2 _ (List.mem_cons_of_mem _ hy)
theorem mx0_is (l : List Int) : IsMx (mx0 l) (0 :: l) := foldl_mx l 0
theorem mx0_nonneg (l : List Int) : 0 ≤ mx0 l := (mx0_is l).le _ (List.mem_cons_self ..)
theorem mx0_le {l : List Int} {y : Int} (h : y ∈ l) : y ≤ mx0 l := (mx0_is l).le _ (List.mem_cons_of_mem _ h)
theorem mx0_mem {l : List Int} (h : l ≠ []) (h0 : ∀ y ∈ l, 0 ≤ y) : mx0 l ∈ l := by
  rcases List.mem_cons.mp (mx0_is l).mem with e | e
  · match l, h with
    | x :: l, _ =>
      have h1 := h0 x (List.mem_cons_self ..)
      have h2 := mx0_le (l := x :: l) (List.mem_cons_self ..)
      have : mx0 (x :: l) = x := by omega
      rw [this]
      exact List.mem_cons_self ..
  · exact e
theorem mx0_eq {l : List Int} {m : Int} (h : IsMx m (0 :: l)) : m = mx0 l := h.eq (mx0_is l)
theorem mx0_app (a b : List Int) : mx0 (a ++ b) = max (mx0 a) (mx0 b) := by
  refine (mx0_eq (l := a ++ b) ⟨?_, fun y hy => ?_⟩).symm
  · rcases Int.le_total (mx0 a) (mx0 b) with z | z
    · rw [Int.max_eq_right z]
      rcases List.mem_cons.mp (mx0_is b).mem with e | e
      · rw [e]; exact List.mem_cons_self ..
      · exact List.mem_cons_of_mem _ (List.mem_append_right _ e)
    · rw [Int.max_eq_left z]
      rcases List.mem_cons.mp (mx0_is a).mem with e | e
      · rw [e]; exact List.mem_cons_self ..
      · exact List.mem_cons_of_mem _ (List.mem_append_left _ e)
  · rcases List.mem_cons.mp hy with rfl | hy
    · have := mx0_nonneg a
      omega
    · rcases List.mem_append.mp hy with h | h
      · have := mx0_le h
        omega
      · have := mx0_le h
        omega
theorem mx0_nil : mx0 [] = 0 := rfl
theorem mx0_perm {a b : List Int} (p : a.Perm b) : mx0 a = mx0 b := by
  refine mx0_eq ⟨?_, fun y hy => ?_⟩
  · rcases List.mem_cons.mp (mx0_is a).mem with e | e
    · rw [e]; exact List.mem_cons_self ..
    · exact List.mem_cons_of_mem _ (p.mem_iff.mp e)
  · rcases List.mem_cons.mp hy with rfl | hy
    · exact mx0_nonneg a
    · exact mx0_le (p.mem_iff.mpr hy)
section
variable {α : Type} (r : α → Int) (f : α → Bool) (day : Bool) (L u : Int)
/-- what a place behind may spoil -/
def eligW (s : α) : Bool := !f s || day
/-- the windows of the kinds ahead, up to place j -/
def winP (pre : List α) : Nat → List Int
  | 0 => []
  | j + 1 => winP pre j ++ match pre[j]? with
    | some s => if eligW f day s then r s * (u + 1) :: ((pre.take (j + 1)).filter fun k => !f k).map (fun k => r s * (u + 1) + r k * L) else []
    | none => []
def winO (ord : List α) : Nat → List Int
  | 0 => []
  | i + 1 => winO ord i ++ match ord[i]? with
    | some b => if f b then winP r f day L u (ord.take i) (ord.take i).length else []
    | none => []
def fixW (pre : List α) : List Int := (pre.filter fun k => !f k).map r
def freeW (pre : List α) : List Int := if day then pre.map r else []
def pkW (ord : List α) : Nat → Int
  | 0 => 0
  | i + 1 => match ord[i]? with
    | some b => if f b then max (pkW ord i) (mx0 (fixW r f (ord.take i)) * L + mx0 (fixW r f (ord.take i) ++ freeW r day (ord.take i)) * (u + 1)) else pkW ord i
    | none => pkW ord i
variable {r f day L u}
theorem winP_mem {pre : List α} : ∀ {n : Nat} {y : Int}, y ∈ winP r f day L u pre n → ∃ j s, j < n ∧ pre[j]? = some s ∧ eligW f day s = true ∧ (y = r s * (u + 1) ∨ ∃ k ∈ (pre.take (j + 1)).filter fun k => !f k, y = r s * (u + 1) + r k * L)
  | 0, y, h => by cases h
  | n + 1, y, h => by
    unfold winP at h
    rcases List.mem_append.mp h with h | h
    · obtain ⟨j, s, h1, h2⟩ := winP_mem h
      exact ⟨j, s, by omega, h2⟩
    · cases e : pre[n]? with
      | none =>
        rw [e] at h
        cases h
      | some s =>
        rw [e] at h
        cases el : eligW f day s with
        | false =>
          have h : y ∈ (if eligW f day s = true then _ else ([] : List Int)) := h
          rw [if_neg (by rw [el]; decide)] at h
          cases h
        | true =>
          have h : y ∈ (if eligW f day s = true then r s * (u + 1) :: ((pre.take (n + 1)).filter fun k => !f k).map (fun k => r s * (u + 1) + r k * L) else []) := h
          rw [if_pos el] at h
          refine ⟨n, s, by omega, e, el, ?_⟩
          rcases List.mem_cons.mp h with h | h
          · exact .inl h
          · obtain ⟨k, hk, rfl⟩ := List.mem_map.mp h
            exact .inr ⟨k, hk, rfl⟩
theorem winP_in {pre : List α} : ∀ {n j : Nat} {s : α}, j < n → pre[j]? = some s → eligW f day s = true → r s * (u + 1) ∈ winP r f day L u pre n ∧ ∀ k ∈ (pre.take (j + 1)).filter (fun k => !f k), r s * (u + 1) + r k * L ∈ winP r f day L u pre n
  | 0, j, s, h, _, _ => by omega
  | n + 1, j, s, h, e, el => by
    by_cases hj : j < n
    · obtain ⟨h1, h2⟩ := winP_in (n := n) hj e el
      unfold winP
      exact ⟨List.mem_append_left _ h1, fun k hk => List.mem_append_left _ (h2 k hk)⟩
    · obtain rfl : j = n := by omega
      unfold winP
      rw [e]
      have e2 : (match some s with
        | some s => if eligW f day s = true then r s * (u + 1) :: ((pre.take (j + 1)).filter fun k => !f k).map (fun k => r s * (u + 1) + r k * L) else []
        | none => []) = r s * (u + 1) :: ((pre.take (j + 1)).filter fun k => !f k).map (fun k => r s * (u + 1) + r k * L) := if_pos el
      rw [e2]
      exact ⟨List.mem_append_right _ (List.mem_cons_self ..), fun k hk => List.mem_append_right _ (List.mem_cons_of_mem _ (List.mem_map.mpr ⟨k, hk, rfl⟩))⟩
theorem mem_elig {pre : List α} {y : Int} : y ∈ fixW r f pre ++ freeW r day pre ↔ ∃ s ∈ pre, eligW f day s = true ∧ y = r s := by
  unfold fixW freeW eligW
  constructor
  · intro h
    rcases List.mem_append.mp h with h | h
    · obtain ⟨s, hs, rfl⟩ := List.mem_map.mp h
      obtain ⟨h1, h2⟩ := List.mem_filter.mp hs
      exact ⟨s, h1, by rw [h2]; rfl, rfl⟩
    · cases day with
      | false => cases h
      | true =>
        obtain ⟨s, hs, rfl⟩ := List.mem_map.mp (show y ∈ pre.map r from h)
        exact ⟨s, hs, by simp, rfl⟩
  · rintro ⟨s, hs, he, rfl⟩
    cases hf : f s with
    | false => exact List.mem_append_left _ (List.mem_map.mpr ⟨s, List.mem_filter.mpr ⟨hs, by simp [hf]⟩, rfl⟩)
    | true =>
      rw [hf] at he
      cases day with
      | false => cases he
      | true => exact List.mem_append_right _ (List.mem_map.mpr ⟨s, hs, rfl⟩)
/-- the last that may be spoilt -/
theorem last_elig {pre : List α} (mono : ∀ (i j : Nat) (a b : α), i ≤ j → pre[i]? = some a → pre[j]? = some b → r a ≤ r b) : ∀ n, n ≤ pre.length → (∀ j s, j < n → pre[j]? = some s → eligW f day s = false) ∨
    ∃ j s, j < n ∧ pre[j]? = some s ∧ eligW f day s = true ∧ ∀ i t, i < n → pre[i]? = some t → eligW f day t = true → i ≤ j
  | 0, _ => .inl fun j s h => by omega
  | n + 1, hn => by
    obtain ⟨s, hs⟩ : ∃ s, pre[n]? = some s := ⟨_, List.getElem?_eq_getElem (by omega)⟩
    cases el : eligW f day s with
    | true => exact .inr ⟨n, s, by omega, hs, el, fun i t hi _ _ => by omega⟩
    | false =>
      rcases last_elig mono n (by omega) with h | ⟨j, t, h1, h2, h3, h4⟩
      · refine .inl fun j t hj ht => ?_
        by_cases e : j = n
        · subst e
          rw [hs] at ht
          rw [← Option.some.inj ht]
          exact el
        · exact h j t (by omega) ht
      · refine .inr ⟨j, t, by omega, h2, h3, fun i t' hi ht' he => ?_⟩
        by_cases e : i = n
        · subst e
          rw [hs] at ht'
          rw [← Option.some.inj ht', el] at he
          cases he
        · exact h4 i t' (by omega) ht' he
theorem win_max {pre : List α} (mono : ∀ (i j : Nat) (a b : α), i ≤ j → pre[i]? = some a → pre[j]? = some b → r a ≤ r b) (h0 : ∀ s ∈ pre, 0 ≤ r s) (hL : 0 ≤ L) (hu : 0 ≤ u) :
    mx0 (winP r f day L u pre pre.length) = mx0 (fixW r f pre) * L + mx0 (fixW r f pre ++ freeW r day pre) * (u + 1) := by
  symm
  refine mx0_eq ⟨?_, fun y hy => ?_⟩
  · rcases last_elig (f := f) (day := day) mono pre.length (Nat.le_refl _) with h | ⟨j, s, h1, h2, h3, h4⟩
    · have e1 : fixW r f pre ++ freeW r day pre = [] := List.eq_nil_iff_forall_not_mem.mpr fun y hy => by
        obtain ⟨s, hs, he, _⟩ := mem_elig.mp hy
        obtain ⟨j, hj, e⟩ := List.mem_iff_getElem.mp hs
        rw [h j s hj (by rw [List.getElem?_eq_getElem hj, e])] at he
        cases he
      have e2 : fixW r f pre = [] := (List.append_eq_nil_iff.mp e1).1
      rw [e1, e2, mx0_nil]
      simp
    · have hs0 := h0 s (List.mem_of_getElem? h2)
      have top : mx0 (fixW r f pre ++ freeW r day pre) = r s := by
        symm
        refine mx0_eq ⟨List.mem_cons_of_mem _ (mem_elig.mpr ⟨s, List.mem_of_getElem? h2, h3, rfl⟩), fun y hy => ?_⟩
        rcases List.mem_cons.mp hy with rfl | hy
        · exact hs0
        · obtain ⟨t, ht, he, rfl⟩ := mem_elig.mp hy
          obtain ⟨i, hi, e⟩ := List.mem_iff_getElem.mp ht
          have e' : pre[i]? = some t := by rw [List.getElem?_eq_getElem hi, e]
          exact mono i j _ _ (h4 i t hi e' he) e' h2
      rw [top]
      obtain ⟨w1, w2⟩ := winP_in (L := L) (u := u) h1 h2 h3
      rcases List.mem_cons.mp (mx0_is (fixW r f pre)).mem with e | e
      · rw [e, Int.zero_mul, Int.zero_add]
        exact List.mem_cons_of_mem _ w1
      · obtain ⟨k, hk, e2⟩ := List.mem_map.mp e
        obtain ⟨k1, k2⟩ := List.mem_filter.mp hk
        rw [← e2, Int.add_comm]
        refine List.mem_cons_of_mem _ (w2 k (List.mem_filter.mpr ⟨?_, k2⟩))
        obtain ⟨i, hi, e3⟩ := List.mem_iff_getElem.mp k1
        have e' : pre[i]? = some k := by rw [List.getElem?_eq_getElem hi, e3]
        have := h4 i k hi e' (by unfold eligW; rw [k2]; rfl)
        refine List.mem_of_getElem? (i := i) ?_
        rw [List.getElem?_take_of_lt (by omega), e']
  · have n1 := mx0_nonneg (fixW r f pre)
    have n2 := mx0_nonneg (fixW r f pre ++ freeW r day pre)
    have m1 : 0 ≤ mx0 (fixW r f pre) * L := Int.mul_nonneg n1 hL
    have m2 : 0 ≤ mx0 (fixW r f pre ++ freeW r day pre) * (u + 1) := Int.mul_nonneg n2 (by omega)
    rcases List.mem_cons.mp hy with rfl | hy
    · omega
    · obtain ⟨j, s, h1, h2, h3, h4⟩ := winP_mem hy
      have a1 : r s ≤ mx0 (fixW r f pre ++ freeW r day pre) := mx0_le (mem_elig.mpr ⟨s, List.mem_of_getElem? h2, h3, rfl⟩)
      have a2 : r s * (u + 1) ≤ mx0 (fixW r f pre ++ freeW r day pre) * (u + 1) := Int.mul_le_mul_of_nonneg_right a1 (by omega)
      rcases h4 with rfl | ⟨k, hk, rfl⟩
      · omega
      · obtain ⟨k1, k2⟩ := List.mem_filter.mp hk
        have b1 : r k ≤ mx0 (fixW r f pre) := mx0_le (List.mem_map.mpr ⟨k, List.mem_filter.mpr ⟨List.mem_of_mem_take k1, k2⟩, rfl⟩)
        have b2 : r k * L ≤ mx0 (fixW r f pre) * L := Int.mul_le_mul_of_nonneg_right b1 hL
        omega
/-- the law's greatest loss is the greatest window -/
theorem pk_win {ord : List α} (mono : ∀ (i j : Nat) (a b : α), i ≤ j → ord[i]? = some a → ord[j]? = some b → r a ≤ r b) (h0 : ∀ s ∈ ord, 0 ≤ r s) (hL : 0 ≤ L) (hu : 0 ≤ u) : ∀ n, mx0 (winO r f day L u ord n) = pkW r f day L u ord n
  | 0 => rfl
  | n + 1 => by
    have ih := pk_win mono h0 hL hu n
    unfold winO pkW
    rw [mx0_app, ih]
    have p0 : 0 ≤ pkW r f day L u ord n := by rw [← ih]; exact mx0_nonneg _
    cases e : ord[n]? with
    | none =>
      show max _ (mx0 []) = _
      rw [mx0_nil]
      exact Int.max_eq_left p0
    | some b =>
      show max _ (mx0 (if f b = true then _ else [])) = if f b = true then _ else _
      cases f b with
      | false =>
        rw [if_neg (by decide), if_neg (by decide), mx0_nil]
        exact Int.max_eq_left p0
      | true =>
        rw [if_pos rfl, if_pos rfl, win_max _ _ hL hu]
        · intro i j a c hij ha hc
          refine mono i j a c hij ?_ ?_
          · have := (List.getElem?_eq_some_iff.mp ha).1
            rw [List.length_take] at this
            rwa [List.getElem?_take_of_lt (by omega)] at ha
          · have := (List.getElem?_eq_some_iff.mp hc).1
            rw [List.length_take] at this
            rwa [List.getElem?_take_of_lt (by omega)] at hc
        · exact fun s hs => h0 s (List.mem_of_mem_take hs)
end
/-! ### the greatest late cost -/
section
variable (fr nf : List Int) (cap : Int) (d later : Nat → Int)
/-- the candidates of the months up to n -/
def candW : Nat → List Int
  | 0 => []
  | n + 1 => candW n ++ ((if fr = [] then [] else [mx0 fr * (cap * d n + later n * cap + 1)]) ++ (if nf = [] then [] else [mx0 fr * ((cap - 1) * d n + later n * cap) + mx0 nf]))
def lateW : Nat → Int
  | 0 => 0
  | n + 1 => max (max (lateW n) (mx0 fr * (cap * d n + cap * later n + 1))) (mx0 nf + mx0 fr * (cap * d n - d n + cap * later n))
variable {fr nf cap d later}
theorem lateW_nonneg (n : Nat) : 0 ≤ lateW fr nf cap d later n := by
  induction n with
  | zero => exact Int.le_refl _
  | succ n ih =>
    unfold lateW
    omega
theorem cand_late (hc : 1 ≤ cap) (hd : ∀ n, 0 ≤ d n) (hl : ∀ n, 0 ≤ later n) (h1 : fr ≠ [] ∨ nf ≠ []) : ∀ n, mx0 (candW fr nf cap d later n) = lateW fr nf cap d later n
  | 0 => rfl
  | n + 1 => by
    have ih := cand_late hc hd hl h1 n
    unfold candW lateW
    rw [mx0_app, ih, mx0_app]
    have p0 := lateW_nonneg (fr := fr) (nf := nf) (cap := cap) (d := d) (later := later) n
    have e1 : later n * cap = cap * later n := Int.mul_comm ..
    have e2 : (cap - 1) * d n = cap * d n - d n := by rw [Int.sub_mul, Int.one_mul]
    rw [e1, e2]
    have q1 : 0 ≤ cap * d n := Int.mul_nonneg (by omega) (hd n)
    have q2 : 0 ≤ cap * later n := Int.mul_nonneg (by omega) (hl n)
    have q3 : d n ≤ cap * d n := by
      have := Int.mul_le_mul_of_nonneg_right hc (hd n)
      omega
    have q4 := hd n
    have f0 := mx0_nonneg fr
    have g0 := mx0_nonneg nf
    have s1 : ∀ x : Int, 0 ≤ x → mx0 [x] = x := fun x hx => by
      show max 0 x = x
      omega
    have t1 : 0 ≤ mx0 fr * (cap * d n + cap * later n + 1) := Int.mul_nonneg f0 (by omega)
    have t2 : 0 ≤ mx0 fr * (cap * d n - d n + cap * later n) := Int.mul_nonneg f0 (by omega)
    have t3 : mx0 fr * (cap * d n - d n + cap * later n) ≤ mx0 fr * (cap * d n + cap * later n + 1) := Int.mul_le_mul_of_nonneg_left (by omega) f0
    by_cases h2 : fr = []
    · have h3 : nf ≠ [] := h1.resolve_left fun h => h h2
      rw [if_pos h2, if_neg h3, mx0_nil, s1 _ (by omega)]
      have z : mx0 fr = 0 := by rw [h2, mx0_nil]
      rw [z] at t1 t2 ⊢
      rw [Int.zero_mul, Int.zero_mul]
      omega
    · rw [if_neg h2, s1 _ t1]
      by_cases h3 : nf = []
      · rw [if_pos h3, mx0_nil]
        have z : mx0 nf = 0 := by rw [h3, mx0_nil]
        rw [z]
        omega
      · rw [if_neg h3, s1 _ (by omega)]
        omega
theorem candW_ne (h1 : fr ≠ [] ∨ nf ≠ []) : ∀ n, 1 ≤ n → candW fr nf cap d later n ≠ []
  | n + 1, _ => by
    unfold candW
    rcases h1 with h | h
    · rw [if_neg h]
      simp
    · rw [if_neg h]
      simp
theorem candW_nonneg (hc : 1 ≤ cap) (hd : ∀ n, 0 ≤ d n) (hl : ∀ n, 0 ≤ later n) : ∀ n, ∀ y ∈ candW fr nf cap d later n, 0 ≤ y
  | 0, y, h => by cases h
  | n + 1, y, h => by
    have q1 : 0 ≤ cap * d n := Int.mul_nonneg (by omega) (hd n)
    have q2 : 0 ≤ later n * cap := Int.mul_nonneg (hl n) (by omega)
    have q3 : 0 ≤ (cap - 1) * d n := Int.mul_nonneg (by omega) (hd n)
    have f0 := mx0_nonneg fr
    have g0 := mx0_nonneg nf
    unfold candW at h
    rcases List.mem_append.mp h with h | h
    · exact candW_nonneg hc hd hl n y h
    · rcases List.mem_append.mp h with h | h
      · split at h
        · cases h
        · rw [List.mem_singleton.mp h]
          exact Int.mul_nonneg f0 (by omega)
      · split at h
        · cases h
        · rw [List.mem_singleton.mp h]
          have := Int.mul_nonneg f0 (show 0 ≤ (cap - 1) * d n + later n * cap by omega)
          omega
/-- the greatest candidate is the law's greatest -/
theorem cand_max (hc : 1 ≤ cap) (hd : ∀ n, 0 ≤ d n) (hl : ∀ n, 0 ≤ later n) (h1 : fr ≠ [] ∨ nf ≠ []) {n : Nat} (hn : 1 ≤ n) {m : Int} (hm : IsMx m (candW fr nf cap d later n)) : m = lateW fr nf cap d later n := by
  rw [← cand_late hc hd hl h1 n]
  have h0 := candW_nonneg (fr := fr) (nf := nf) hc hd hl n
  exact mx0_eq ⟨List.mem_cons_of_mem _ hm.mem, fun y hy => by
    rcases List.mem_cons.mp hy with rfl | hy
    · exact h0 _ hm.mem
    · exact hm.le y hy⟩
end
end Wp
set_option Elab.async false
set_option linter.all false
set_option maxRecDepth 100000
set_option maxHeartbeats 4000000
/-! max of a tuple of ints. -/
namespace Wp
open PySem PySem.Spec PyProof.Rows L2
section
variable {P : Program} {w : World} {A : Around} {E : Value → Shared → Prop} {s : Shared} {t : Addr} {us : List Value} {ns : List Int}
theorem tup_max {R : Value → Shared → Prop} (hh : A.handled = none) (ht : s.heap.IsTuple t us.toArray) (hi : IntsAre us ns) (hne : 0 < ns.length)
    (k : ∀ h' tk m t', (∀ b o, s.heap.get? b = some o → h'.get? b = some o) → m ∈ ns → (∀ a, a ∈ ns → a ≤ m) → R (.int m t') { s with heap := h', toks := tk }) : wpAny (model P w) A (call (.builtin "max") [.ref t]) R E s := by
  obtain ⟨xs, ex⟩ := hi.allInts.items
  have en : numsOf (intItems xs).toList = ns := by
    rw [← ex]
    exact hi.numsOf
  rw [nums_intItems] at en
  subst en
  rw [ex] at ht
  have pos : 0 < xs.size := by simpa using hne
  refine call_max_walk (begin_tup ht fun h2 st fp ne old => ?_)
  refine ⟨_, _, _, _, _, _, _, rfl, Walks.tuple (A := A.in1) hh _ t ne (intItems xs), st, fp, by simpa [intItems] using pos, CmpOf.ints_gt (numAt xs) (fun _ _ => intItems_at), fun v h' tk hP hk => ?_⟩
  obtain ⟨t', rfl⟩ := intItems_at (by simpa [intItems] using hP)
  obtain ⟨b1, b2⟩ := argBest_gt (numAt xs) (xs.size - 1)
  refine k h' tk _ t' (fun b o e => hk b o (old b o e).2 (old b o e).1) ?_ fun a ha => ?_
  · rw [numAt_eq]
    refine PySem.getD_mem ?_
    rw [List.length_map, Array.length_toList]
    exact Nat.lt_of_le_of_lt b1 (by omega)
  · obtain ⟨j, hj, rfl⟩ := mem_getD ha
    rw [List.length_map, Array.length_toList] at hj
    rw [← numAt_eq]
    exact b2 j (by omega)
end
section
variable {X : Cx} {K : PySem.W.Frag}
def rMaxT (K : PySem.W.Frag) : List V → Hp → VK → Prop := fun vs H Q => ∃ (a : Addr) (ns : List Int), vs = [V.ref a] ∧ SqT K H a (ns.map V.int) ∧ 0 < ns.length ∧ ∀ m, m ∈ ns → (∀ y, y ∈ ns → y ≤ m) → Q (.int m) H
theorem c_maxT (h : X.K = K) (hc : X.calm = true) : CallR X (.builtin "max") (rMaxT K) := by
  subst h
  rintro pins s σ H vs us Q I r ⟨a, ns, rfl, hs, hne, q⟩
  obtain ⟨its, rv, hl, _⟩ := I.tuple hs
  rw [Vals.ref1 r]
  exact tup_max (I.ok.hd hc) hl rv.ints hne fun h' tk m t' hk h1 h2 => ⟨.int _, H, I.kept hk, ⟨_, rfl⟩, q m h1 h2⟩
end
end Wp
set_option Elab.async false
set_option linter.all false
set_option maxRecDepth 100000
set_option maxHeartbeats 4000000
/-! for and comprehensions over enumerate(tuple). -/
namespace Wp
open PySem PySem.Spec PyProof.Rows L2
section
variable {K : PySem.W.Frag} {g g1 : TG} {tt tt1 : TT} {wi1 : TI} {te tl tk tv : TE} {ta : TA} {vs vs1 : List Nat} {σ σ2 : L2.St} {H : Hp} {Q : VK} {Da a : Addr} {Nx : Hp → Prop} {xs ys : List V} {b : Bool}
def kLcEn (K : PySem.W.Frag) (g : TG) (tt : TT) (te : TE) (vs : List Nat) (σ : L2.St) (Q : VK) : List V → Hp → Prop := fun ws H1 => ∃ a xs, ws = [.ref a] ∧ SqT K H1 a xs ∧ LcW (IteT K a) g tt te vs σ Q H1
theorem r_lcEn (h : ta σ H (kLcEn K g tt te vs σ Q)) : tLc (iEnumT K ta) g tt te vs σ H Q := h
theorem r_kLcEn (hl : SqT K H a xs) (Pv : Addr → Nat → Hp → Prop) (h0 : ∀ Da H', H Da = none → Same H H' → H' Da = some (.lst []) → Pv Da 0 H') (hk : ∀ Da i H', Pv Da i H' → SqT K H' a xs)
    (hs : ∀ Da i x T H1 H', H Da = none → xs[i]? = some x → Pv Da i H1 → H1 T = none → Same H1 H' → H' T = some (.tup [.int (i : Nat), x]) → g (.ref T) (wipe σ vs) H' (kLcG tt te vs σ Da Pv i)) (hd : ∀ Da H', H Da = none → Pv Da xs.length H' → Q (.ref Da) H') :
    kLcEn K g tt te vs σ Q [.ref a] H :=
  ⟨a, xs, rfl, hl, lc_it xs.length Pv h0 (fun Da i H' _ hi p => ⟨xs, xs[i], hk Da i H' p, by simp [hi]⟩) (fun Da H' _ p => ⟨xs, hk Da _ H' p, Nat.le_refl _⟩) (fun Da i x H' H2 hD _ p y => by
    obtain ⟨T, z, rfl, nT, rfl, y⟩ := y
    exact hs Da i z T H' _ hD (y xs (hk Da i _ p)) p nT (Same.new nT) upd_same) hd⟩
/-! for over enumerate(tuple) -/
variable {D : Ends} {tw : TS}
def kForET (K : PySem.W.Frag) (g : TG) (tw : TS) (D : Ends) (σ : L2.St) : List V → Hp → Prop := fun ws H1 => ∃ a xs, ws = [.ref a] ∧ SqT K H1 a xs ∧ LoopW (IteT K a) g tw D σ H1
theorem r_forET (h : ta σ H (kForET K g tw D σ)) : tFor (iEnumT K ta) g tw D σ H := h
theorem r_kForET (Pv : Nat → L2.St → Hp → Prop) (hl : SqT K H a xs) (h0 : Pv 0 σ H) (hk : ∀ i σ' H', Pv i σ' H' → SqT K H' a xs)
    (hs : ∀ i x T σ' H1 H', xs[i]? = some x → Pv i σ' H1 → H1 T = none → Same H1 H' → H' T = some (.tup [.int (i : Nat), x]) → g (.ref T) σ' H' fun σ2 H2 => tw { D with nx := Pv (i + 1), ct := Pv (i + 1), bk := D.nx } σ2 H2)
    (hd : ∀ σ' H', Pv xs.length σ' H' → D.nx σ' H') : kForET K g tw D σ [.ref a] H := by
  refine ⟨a, xs, rfl, hl, fun i m σ H => m = xs.length - i ∧ i ≤ xs.length ∧ Pv i σ H, ⟨xs.length, by simp, Nat.zero_le _, h0⟩, ?_⟩
  rintro i m σ H ⟨rfl, hi, p⟩
  have q := hk i σ H p
  by_cases hlt : i < xs.length
  · refine .inr ⟨⟨xs, xs[i], q, by simp [hlt]⟩, Pv (i + 1), fun σ' H' p' => ⟨xs.length - (i + 1), by omega, rfl, hlt, p'⟩, fun x H' y => ?_⟩
    obtain ⟨T, z, rfl, nT, rfl, y⟩ := y
    exact hs i z T σ H _ (y xs q) p nT (Same.new nT) upd_same
  · have e : i = xs.length := by omega
    subst e
    exact .inl ⟨⟨xs, q, Nat.le_refl _⟩, hd σ H p⟩
end
end Wp
set_option Elab.async false
set_option linter.all false
set_option maxRecDepth 100000
/-! Months and tallies, plain. -/
namespace Wp
/-! months -/
def firstL (ls : List Int) (m : Int) : Int := m / (ls.length : Int) * ls.sum + (ls.take (m % (ls.length : Int)).toNat).sum
def cntL : List Int → Int → Nat
  | [], _ => 0
  | x :: xs, r => if r < x then 0 else cntL xs (r - x) + 1
def monthL (ls : List Int) (d : Int) : Int := d / ls.sum * (ls.length : Int) + (cntL ls (d % ls.sum) : Nat)
def fdL (ls : List Int) (u d : Int) : Int := firstL ls (monthL ls d + 1) + u - d
structure LsOk (ls : List Int) : Prop where
  l1 : 1 ≤ ls.length
  l2 : ls.length ≤ 4
  l3 : ∀ n ∈ ls, 2 ≤ n ∧ n ≤ 31
theorem sum_lohi : ∀ {ls : List Int}, (∀ n ∈ ls, 2 ≤ n ∧ n ≤ 31) → 2 * (ls.length : Int) ≤ ls.sum ∧ ls.sum ≤ 31 * (ls.length : Int)
  | [], _ => by simp
  | a :: r, h => by
    have h1 := sum_lohi (ls := r) fun n hn => h n (List.mem_cons_of_mem _ hn)
    have h2 := h a (List.mem_cons_self ..)
    simp only [List.sum_cons, List.length_cons]
    omega
theorem LsOk.sum {ls : List Int} (h : LsOk ls) : 2 ≤ ls.sum ∧ ls.sum ≤ 124 := by
  have := sum_lohi h.l3
  have := h.l1
  have := h.l2
  omega
/-- within the sum: how it stands -/
theorem cntL_spec : ∀ {ls : List Int} {r : Int}, (∀ n ∈ ls, 2 ≤ n ∧ n ≤ 31) → 0 ≤ r → r < ls.sum → cntL ls r < ls.length ∧ (ls.take (cntL ls r)).sum ≤ r ∧ r < (ls.take (cntL ls r + 1)).sum
  | [], r, _, h0, h1 => by simp at h1; omega
  | x :: xs, r, h, h0, h1 => by
    unfold cntL
    split
    · simp; omega
    · rename_i hx
      have h2 := cntL_spec (ls := xs) (r := r - x) (fun n hn => h n (List.mem_cons_of_mem _ hn)) (by omega) (by rw [List.sum_cons] at h1; omega)
      simp only [List.length_cons, List.take_succ_cons, List.sum_cons]
      omega
theorem take_sum_mono : ∀ {ls : List Int} (i j : Nat), (∀ n ∈ ls, 2 ≤ n ∧ n ≤ 31) → i ≤ j → (ls.take i).sum ≤ (ls.take j).sum
  | [], i, j, _, _ => by simp
  | x :: xs, 0, j, h, _ => by
    have h3 : ∀ n ∈ (x :: xs).take j, 2 ≤ n ∧ n ≤ 31 := fun n hn => h n (List.mem_of_mem_take hn)
    have := (sum_lohi h3).1
    simp only [List.take_zero, List.sum_nil]
    omega
  | x :: xs, i + 1, j + 1, h, hij => by
    have := take_sum_mono (ls := xs) i j (fun n hn => h n (List.mem_cons_of_mem _ hn)) (by omega)
    simp only [List.take_succ_cons, List.sum_cons]
    omega
/-- a step of the program's own count -/
theorem cntL_drop : ∀ {ls : List Int} {r : Int} (j : Nat) {x : Int}, ls[j]? = some x → cntL (ls.drop j) r = if r < x then 0 else cntL (ls.drop (j + 1)) (r - x) + 1
  | [], r, j, x, h => by simp at h
  | y :: ys, r, 0, x, h => by
    simp at h
    subst h
    simp [cntL]
  | y :: ys, r, j + 1, x, h => by
    have := cntL_drop (ls := ys) (r := r) j (x := x) (by simpa using h)
    simpa using this
theorem firstL_at {ls : List Int} (q : Int) (j : Nat) (h : j < ls.length) : firstL ls (q * (ls.length : Int) + (j : Int)) = q * ls.sum + (ls.take j).sum := by
  have e1 : (q * (ls.length : Int) + (j : Int)) / (ls.length : Int) = q := by
    rw [Int.add_comm, Int.add_mul_ediv_right _ _ (by omega), Int.ediv_eq_zero_of_lt (by omega) (by omega)]
    omega
  have e2 : (q * (ls.length : Int) + (j : Int)) % (ls.length : Int) = (j : Int) := by
    rw [Int.add_comm, Int.add_mul_emod_self_right, Int.emod_eq_of_lt (by omega) (by omega)]
  unfold firstL
  rw [e1, e2, Int.toNat_natCast]
theorem firstL_at' {ls : List Int} (q : Int) (j : Nat) (h1 : 1 ≤ ls.length) (h : j ≤ ls.length) : firstL ls (q * (ls.length : Int) + (j : Int)) = q * ls.sum + (ls.take j).sum := by
  by_cases e : j < ls.length
  · exact firstL_at q j e
  · have e : j = ls.length := by omega
    subst e
    have := firstL_at (ls := ls) (q + 1) 0 (by omega)
    rw [List.take_length]
    have e2 : q * (ls.length : Int) + (ls.length : Int) = (q + 1) * (ls.length : Int) + ((0 : Nat) : Int) := by
      rw [Int.add_mul]; omega
    rw [e2, this, Int.add_mul]
    simp
/-- the law's own step -/
theorem law_step {ls : List Int} (ok : LsOk ls) (d : Int) (j : Nat) (h : j ≤ cntL ls (d % ls.sum)) :
    (firstL ls (d / ls.sum * (ls.length : Int) + (j : Int) + 1) ≤ d) ↔ j < cntL ls (d % ls.sum) := by
  have hs := ok.sum
  have hr0 := Int.emod_nonneg d (b := ls.sum) (by omega)
  have hr1 := Int.emod_lt_of_pos d (b := ls.sum) (by omega)
  obtain ⟨c1, c2, c3⟩ := cntL_spec ok.l3 hr0 hr1
  have hd := Int.emod_add_mul_ediv d ls.sum
  have l1 := ok.l1
  have e : d / ls.sum * (ls.length : Int) + (j : Int) + 1 = d / ls.sum * (ls.length : Int) + ((j + 1 : Nat) : Int) := by omega
  rw [e, firstL_at' _ _ ok.l1 (by omega)]
  have hc : ls.sum * (d / ls.sum) = d / ls.sum * ls.sum := Int.mul_comm _ _
  constructor
  · intro h1
    by_cases h2 : j < cntL ls (d % ls.sum)
    · exact h2
    · have : j = cntL ls (d % ls.sum) := by omega
      subst this
      omega
  · intro h1
    have := take_sum_mono (ls := ls) (j + 1) (cntL ls (d % ls.sum)) ok.l3 (by omega)
    omega
theorem month_bounds {ls : List Int} (ok : LsOk ls) (d : Int) : firstL ls (monthL ls d) ≤ d ∧ d < firstL ls (monthL ls d + 1) ∧ firstL ls (monthL ls d + 1) ≤ firstL ls (monthL ls d) + 31 := by
  have hs := ok.sum
  have hr0 := Int.emod_nonneg d (b := ls.sum) (by omega)
  have hr1 := Int.emod_lt_of_pos d (b := ls.sum) (by omega)
  obtain ⟨c1, c2, c3⟩ := cntL_spec ok.l3 hr0 hr1
  have hd := Int.emod_add_mul_ediv d ls.sum
  have l1 := ok.l1
  have hc : ls.sum * (d / ls.sum) = d / ls.sum * ls.sum := Int.mul_comm _ _
  unfold monthL
  have e : d / ls.sum * (ls.length : Int) + (cntL ls (d % ls.sum) : Nat) + 1 = d / ls.sum * (ls.length : Int) + ((cntL ls (d % ls.sum) + 1 : Nat) : Int) := by omega
  rw [e, firstL_at' _ _ ok.l1 (by omega), firstL_at' _ _ ok.l1 (by omega)]
  have h1 : (ls.take (cntL ls (d % ls.sum) + 1)).sum = (ls.take (cntL ls (d % ls.sum))).sum + ls[cntL ls (d % ls.sum)] := by
    rw [List.take_succ, List.getElem?_eq_getElem c1, List.sum_append]
    simp
  have h2 := ok.l3 _ (List.getElem_mem c1)
  omega
theorem fd_bounds {ls : List Int} (ok : LsOk ls) (u d : Int) : u + 1 ≤ fdL ls u d ∧ fdL ls u d ≤ u + 31 := by
  have := month_bounds ok d
  unfold fdL
  omega
/-! tallies -/
def lookT : List (Int × Int) → Int → Option Int
  | [], _ => none
  | (k, c) :: r, z => if k = z then some c else lookT r z
def putI (t : List (Int × Int)) (z c : Int) : List (Int × Int) := if (t.any fun p => decide (p.1 = z)) = true then t.map (fun p => if p.1 = z then (p.1, c) else p) else t ++ [(z, c)]
def bump (t : List (Int × Int)) (z : Int) : List (Int × Int) := putI t z ((lookT t z).getD 0 + 1)
def tally (xs : List Int) : List (Int × Int) := xs.foldl bump []
theorem tally_snoc (xs : List Int) (z : Int) : tally (xs ++ [z]) = bump (tally xs) z := by
  unfold tally
  rw [List.foldl_append]
  rfl
theorem any_look : ∀ (t : List (Int × Int)) (z : Int), (t.any fun p => decide (p.1 = z)) = (lookT t z).isSome
  | [], z => rfl
  | (k, c) :: r, z => by
    unfold lookT
    by_cases h : k = z
    · simp [h]
    · rw [List.any_cons, any_look r z]
      simp [h]
theorem putI_keys (t : List (Int × Int)) (z c : Int) : (putI t z c).map (·.1) = if (lookT t z).isSome = true then t.map (·.1) else t.map (·.1) ++ [z] := by
  unfold putI
  rw [any_look]
  split
  · rw [List.map_map]
    refine List.map_congr_left fun p _ => ?_
    show (if p.1 = z then (p.1, c) else p).1 = p.1
    split <;> rfl
  · simp
theorem look_none : ∀ {t : List (Int × Int)} {z : Int}, lookT t z = none ↔ z ∉ t.map (·.1)
  | [], z => by simp [lookT]
  | (k, c) :: r, z => by
    have := look_none (t := r) (z := z)
    unfold lookT
    by_cases h : k = z
    · simp [h]
    · rw [if_neg h, this]
      simp
      intro _ e
      exact h e.symm
theorem look_map (c z y : Int) : ∀ (t : List (Int × Int)), lookT (t.map fun p => if p.1 = z then (p.1, c) else p) y = if y = z then (lookT t z).map (fun _ => c) else lookT t y
  | [] => by simp [lookT]
  | (k, e) :: r => by
    have := look_map c z y r
    rw [List.map_cons]
    by_cases hk : k = z
    · subst hk
      rw [if_pos rfl]
      unfold lookT
      by_cases hy : y = k
      · simp [hy]
      · rw [if_neg (fun z => hy z.symm), this, if_neg hy, if_neg hy, if_neg (fun z => hy z.symm)]
    · rw [if_neg hk]
      show (if k = y then some e else lookT (r.map _) y) = _
      rw [this]
      by_cases hy : y = z
      · subst hy
        rw [if_neg hk, if_pos rfl, if_pos rfl]
        simp [lookT, hk]
      · rw [if_neg hy, if_neg hy]
        rfl
theorem look_snoc (z c y : Int) : ∀ (t : List (Int × Int)), lookT t z = none → lookT (t ++ [(z, c)]) y = if y = z then some c else lookT t y
  | [], _ => by
    simp only [List.nil_append, lookT]
    by_cases h : z = y
    · simp [h]
    · rw [if_neg h, if_neg (fun e => h e.symm)]
  | (k, e) :: r, h => by
    unfold lookT at h
    by_cases hk : k = z
    · rw [if_pos hk] at h; cases h
    · rw [if_neg hk] at h
      have := look_snoc z c y r h
      show (if k = y then some e else lookT (r ++ [(z, c)]) y) = _
      rw [this]
      by_cases hy : y = z
      · subst hy
        rw [if_neg hk, if_pos rfl, if_pos rfl]
      · rw [if_neg hy, if_neg hy]
        rfl
theorem putI_look (t : List (Int × Int)) (z c y : Int) : lookT (putI t z c) y = if y = z then some c else lookT t y := by
  unfold putI
  rw [any_look]
  cases h : lookT t z with
  | none =>
    rw [if_neg (by simp)]
    exact look_snoc z c y t h
  | some e =>
    rw [if_pos (by simp), look_map, h]
    rfl
theorem snoc_ind {P : List Int → Prop} (h0 : P []) (hs : ∀ xs z, P xs → P (xs ++ [z])) : ∀ xs, P xs := fun xs => by
  have : ∀ ys : List Int, P ys.reverse := fun ys => by
    induction ys with
    | nil => exact h0
    | cons y r ih => rw [List.reverse_cons]; exact hs _ _ ih
  have := this xs.reverse
  rwa [List.reverse_reverse] at this
theorem tally_look (z : Int) : ∀ xs : List Int, lookT (tally xs) z = if xs.count z = 0 then none else some (xs.count z : Int) := by
  refine snoc_ind rfl fun xs y ih => ?_
  rw [tally_snoc]
  unfold bump
  rw [putI_look, List.count_append]
  by_cases h : z = y
  · subst h
    rw [if_pos rfl, ih]
    have : List.count z [z] = 1 := by simp
    rw [this, if_neg (Nat.succ_ne_zero _)]
    by_cases h0 : List.count z xs = 0
    · rw [if_pos h0, h0]; rfl
    · rw [if_neg h0]; simp
  · rw [if_neg h, ih]
    have : List.count z [y] = 0 := by simp [List.count_cons]; exact fun e => h e.symm
    rw [this, Nat.add_zero]
theorem tally_mem (xs : List Int) (z : Int) : z ∈ (tally xs).map (·.1) ↔ z ∈ xs := by
  have h1 := look_none (t := tally xs) (z := z)
  rw [tally_look] at h1
  have h2 := List.count_pos_iff (a := z) (l := xs)
  by_cases h : xs.count z = 0
  · rw [if_pos h] at h1
    have h3 := h1.mp rfl
    exact ⟨fun e => absurd e h3, fun e => by have := h2.mpr e; omega⟩
  · rw [if_neg h] at h1
    constructor
    · intro _; exact h2.mp (by omega)
    · intro _
      refine Classical.byContradiction fun e => ?_
      cases h1.mpr e
theorem tally_keys (xs : List Int) (z : Int) : (tally (xs ++ [z])).map (·.1) = if z ∈ xs then (tally xs).map (·.1) else (tally xs).map (·.1) ++ [z] := by
  rw [tally_snoc]
  unfold bump
  rw [putI_keys, tally_look]
  have := List.count_pos_iff (a := z) (l := xs)
  by_cases h : xs.count z = 0
  · rw [if_pos h, if_neg (by simp), if_neg (fun e => by have := this.mpr e; omega)]
  · rw [if_neg h, if_pos (by simp), if_pos (this.mp (by omega))]
theorem tally_nd : ∀ xs : List Int, ((tally xs).map (·.1)).Nodup := by
  refine snoc_ind List.nodup_nil fun xs y ih => ?_
  rw [tally_keys]
  split
  · exact ih
  · rename_i h
    rw [List.nodup_append]
    refine ⟨ih, by simp, fun a ha b hb e => ?_⟩
    rw [List.mem_singleton.mp hb] at e
    subst e
    exact h ((tally_mem xs _).mp ha)
theorem tally_asc : ∀ xs : List Int, xs.Pairwise (· ≤ ·) → ((tally xs).map (·.1)).Pairwise (· ≤ ·) := by
  refine snoc_ind (fun _ => List.Pairwise.nil) fun xs y ih h => ?_
  rw [List.pairwise_append] at h
  rw [tally_keys]
  split
  · exact ih h.1
  · rw [List.pairwise_append]
    exact ⟨ih h.1, by simp, fun a ha b hb => h.2.2 a ((tally_mem xs a).mp ha) b hb⟩
theorem look_of_mem : ∀ {t : List (Int × Int)} {p : Int × Int}, (t.map (·.1)).Nodup → p ∈ t → lookT t p.1 = some p.2
  | [], p, _, h => by cases h
  | (k, c) :: r, p, nd, h => by
    rw [List.map_cons, List.nodup_cons] at nd
    rcases List.mem_cons.mp h with e | e
    · subst e
      simp [lookT]
    · unfold lookT
      rw [if_neg (fun z => nd.1 (by rw [show k = p.1 from z]; exact List.mem_map.mpr ⟨p, e, rfl⟩))]
      exact look_of_mem nd.2 e
theorem tally_perm_keys {xs ys : List Int} (h : xs.Perm ys) : ((tally xs).map (·.1)).Perm ((tally ys).map (·.1)) := by
  rw [List.perm_ext_iff_of_nodup (tally_nd xs) (tally_nd ys)]
  intro a
  rw [tally_mem, tally_mem, h.mem_iff]
theorem tally_perm_len {xs ys : List Int} (h : xs.Perm ys) : (tally xs).length = (tally ys).length := by
  have := (tally_perm_keys h).length_eq
  rwa [List.length_map, List.length_map] at this
theorem tally_perm_look {xs ys : List Int} (h : xs.Perm ys) (z : Int) : lookT (tally xs) z = lookT (tally ys) z := by
  rw [tally_look, tally_look, h.count_eq]
/-- a tally is its keys with what stands at each -/
theorem tally_self (t : List (Int × Int)) (nd : (t.map (·.1)).Nodup) : (t.map (·.1)).map (fun k => (k, (lookT t k).getD 0)) = t := by
  rw [List.map_map]
  conv => rhs; rw [← List.map_id t]
  refine List.map_congr_left fun p hp => ?_
  show (p.1, (lookT t p.1).getD 0) = p
  rw [look_of_mem nd hp]
  rfl
/-- what the law lists: the sorted keys with what the other tally has -/
theorem tally_list {xs ys ks : List Int} (h : ys.Perm xs) (ha : ys.Pairwise (· ≤ ·)) (hk : ks.Perm ((tally xs).map (·.1))) (hka : ks.Pairwise (· ≤ ·)) : ks.map (fun k => (k, (lookT (tally xs) k).getD 0)) = tally ys := by
  have e : ks = (tally ys).map (·.1) := List.Perm.eq_of_pairwise (fun _ _ _ _ h1 h2 => Int.le_antisymm h1 h2) hka (tally_asc ys ha) (hk.trans (tally_perm_keys h).symm)
  subst e
  have := tally_self (tally ys) (tally_nd ys)
  refine Eq.trans ?_ this
  refine List.map_congr_left fun k _ => ?_
  rw [tally_perm_look h]
theorem range_len {l : List Int} {a : Int} (nd : l.Nodup) (h : ∀ z ∈ l, a + 1 ≤ z ∧ z ≤ a + 31) : l.length ≤ 31 := by
  have : l.length ≤ ((List.range 31).map fun i : Nat => a + 1 + (i : Int)).length := by
    refine List.Nodup.length_le_of_subset nd fun z hz => ?_
    have := h z hz
    refine List.mem_map.mpr ⟨(z - a - 1).toNat, List.mem_range.mpr (by omega), by omega⟩
  simpa using this
/-- the free days of one round -/
def rndL (ls : List Int) (u : Int) (n : Nat) : List Int := (List.range n).map fun i : Nat => fdL ls u (i : Int)
theorem rndL_succ (ls : List Int) (u : Int) (n : Nat) : rndL ls u (n + 1) = rndL ls u n ++ [fdL ls u (n : Int)] := by
  unfold rndL
  rw [List.range_succ, List.map_append]
  rfl
theorem rndL_len (ls : List Int) (u : Int) (n : Nat) : (rndL ls u n).length = n := by simp [rndL]
def rnd (ls : List Int) (u : Int) : List Int := rndL ls u ls.sum.toNat
theorem rndL_mem {ls : List Int} (ok : LsOk ls) {u : Int} {n : Nat} : ∀ z ∈ rndL ls u n, u + 1 ≤ z ∧ z ≤ u + 31 := fun z hz => by
  obtain ⟨i, _, rfl⟩ := List.mem_map.mp hz
  exact fd_bounds ok u _
theorem tally_keys_len {ls : List Int} (ok : LsOk ls) {u : Int} {n : Nat} : ((tally (rndL ls u n)).map (·.1)).length ≤ 31 :=
  range_len (a := u) (tally_nd _) fun z hz => rndL_mem ok z ((tally_mem _ z).mp hz)
theorem count_le {xs : List Int} {p : Int × Int} (h : p ∈ tally xs) : 0 ≤ p.2 ∧ p.2 ≤ xs.length := by
  have h1 := look_of_mem (tally_nd xs) h
  rw [tally_look] at h1
  split at h1
  · cases h1
  · have h2 := Option.some.inj h1
    have := List.count_le_length (a := p.1) (l := xs)
    omega
/-- least and greatest of the keys, and of what was counted -/
theorem least_eq {xs : List Int} {a b : Int} (h1 : a ∈ xs) (h2 : ∀ y ∈ xs, a ≤ y) (h3 : b ∈ (tally xs).map (·.1)) (h4 : ∀ y ∈ (tally xs).map (·.1), b ≤ y) : a = b :=
  Int.le_antisymm (h2 b ((tally_mem xs b).mp h3)) (h4 a ((tally_mem xs a).mpr h1))
theorem most_eq {xs : List Int} {a b : Int} (h1 : a ∈ xs) (h2 : ∀ y ∈ xs, y ≤ a) (h3 : b ∈ (tally xs).map (·.1)) (h4 : ∀ y ∈ (tally xs).map (·.1), y ≤ b) : a = b :=
  Int.le_antisymm (h4 a ((tally_mem xs a).mpr h1)) (h2 b ((tally_mem xs b).mp h3))
end Wp
set_option Elab.async false
set_option linter.all false
set_option maxRecDepth 100000
set_option maxHeartbeats 4000000
/-! Dicts from ints to ints; lists of pairs of ints. -/
namespace Wp
open PySem PySem.Spec PyProof.Rows L2
def encT (t : List (Int × Int)) : List (Key × V) := t.map fun p => (Sum.inl p.1, V.int p.2)
theorem valV_enc (z : Int) : ∀ t : List (Int × Int), valV (encT t) (Sum.inl z : Key) = (lookT t z).map V.int
  | [] => rfl
  | (k, c) :: r => by
    have := valV_enc z r
    show valV ((Sum.inl k, V.int c) :: encT r) (Sum.inl z : Key) = (if k = z then some c else lookT r z).map V.int
    by_cases h : k = z
    · rw [if_pos h, valV_pos (by rw [h])]
      rfl
    · rw [if_neg h, valV_neg (fun e => h (Sum.inl.inj e)), this]
theorem enc_any (z : Int) : ∀ t : List (Int × Int), ((encT t).any fun kv => decide (kv.1 = (Sum.inl z : Key))) = t.any fun p => decide (p.1 = z)
  | [] => rfl
  | (k, c) :: r => by
    have := enc_any z r
    show (decide ((Sum.inl k : Key) = Sum.inl z) || (encT r).any _) = (decide (k = z) || r.any _)
    rw [this]
    congr 1
    exact decide_eq_decide.mpr ⟨fun e => Sum.inl.inj e, fun e => by rw [e]⟩
theorem putK_enc (t : List (Int × Int)) (z c : Int) : putK (encT t) (Sum.inl z : Key) (.int c) = encT (putI t z c) := by
  unfold putK putI
  rw [enc_any]
  split
  · unfold encT
    rw [List.map_map, List.map_map]
    refine List.map_congr_left fun p _ => ?_
    show (if (Sum.inl p.1 : Key) = Sum.inl z then (Sum.inl p.1, V.int c) else (Sum.inl p.1, V.int p.2)) = (Sum.inl (if p.1 = z then (p.1, c) else p).1, V.int (if p.1 = z then (p.1, c) else p).2)
    by_cases h : p.1 = z
    · rw [if_pos (by rw [h]), if_pos h]
    · rw [if_neg (fun e => h (Sum.inl.inj e)), if_neg h]
  · unfold encT
    rw [List.map_append]
    rfl
theorem enc_keys (t : List (Int × Int)) : (encT t).map (·.1) = (t.map (·.1)).map (Sum.inl : Int → Key) := by
  unfold encT
  rw [List.map_map, List.map_map]
  rfl
theorem enc_kV (t : List (Int × Int)) : ((encT t).map fun kv => kV kv.1) = (t.map (·.1)).map V.int := by
  unfold encT
  rw [List.map_map, List.map_map]
  rfl
theorem enc_len (t : List (Int × Int)) : (encT t).length = t.length := List.length_map _
/-- pairs of ints in tuples -/
inductive PLs (H : Hp) : List V → List (Int × Int) → Prop
  | nil : PLs H [] []
  | cons {t : Addr} {a b : Int} {vs : List V} {ps : List (Int × Int)} : H t = some (.tup [.int a, .int b]) → PLs H vs ps → PLs H (.ref t :: vs) ((a, b) :: ps)
theorem PLs.keep {H H' : Hp} {vs : List V} {ps : List (Int × Int)} (h : PLs H vs ps) (e : ∀ t xs, H t = some (.tup xs) → H' t = some (.tup xs)) : PLs H' vs ps := by
  induction h with
  | nil => exact .nil
  | cons h _ ih => exact .cons (e _ _ h) ih
theorem PLs.snoc {H : Hp} {vs : List V} {ps : List (Int × Int)} {t : Addr} {a b : Int} (h : PLs H vs ps) (ht : H t = some (.tup [.int a, .int b])) : PLs H (vs ++ [.ref t]) (ps ++ [(a, b)]) := by
  induction h with
  | nil => exact .cons ht .nil
  | cons h _ ih => exact .cons h ih
theorem PLs.len {H : Hp} {vs : List V} {ps : List (Int × Int)} (h : PLs H vs ps) : vs.length = ps.length := by
  induction h with
  | nil => rfl
  | cons _ _ ih => simp [ih]
def encP (p : Int × Int) : PyData := .tuple [.int p.1, .int p.2]
theorem PLs.dp {K : PySem.W.Frag} {H : Hp} {vs : List V} {ps : List (Int × Int)} (h : PLs H vs ps) : DpAll K H vs (ps.map encP) := by
  induction h with
  | nil => exact .nil
  | cons h _ ih => exact .cons (.tup (SqT.of h) (.cons (.int _) (.cons (.int _) .nil))) ih
theorem PLs.of_items {H : Hp} : ∀ {ts : List Addr} {t : List (Int × Int)}, Paired (fun (t : Addr) (q : Key × V) => H t = some (.tup [kV q.1, q.2])) ts (encT t) → PLs H (ts.map V.ref) t
  | [], [], _ => .nil
  | _ :: _, (a, b) :: r, .cons h hr => .cons h (of_items hr)
theorem sm_pairs : ∀ {ps : List (Int × Int)}, (∀ p ∈ ps, p.1.natAbs < 10 ^ 60 ∧ p.2.natAbs < 10 ^ 60) → smAll (ps.map encP) = true ∧ wzAll (ps.map encP) = 131 * ps.length
  | [], _ => ⟨rfl, by simp [wzAll]⟩
  | r :: rs, h => by
    obtain ⟨h1, h2⟩ := sm_pairs fun r' hr' => h r' (List.mem_cons_of_mem _ hr')
    obtain ⟨a1, a2⟩ := h r (List.mem_cons_self ..)
    constructor
    · rw [List.map_cons, smAll_cons, h1, Bool.and_true]
      simp only [encP, smI, smAll_cons]
      rw [decide_eq_true a1, decide_eq_true a2]
      simp [smAll]
    · rw [List.map_cons, wzAll]
      simp only [encP, wz, wzAll, List.length_cons]
      omega
theorem depth_pairs : ∀ rs : List (Int × Int), PyData.depthAll (rs.map encP) ≤ 2
  | [] => by simp [PyData.depthAll]
  | r :: rs => by
    have := depth_pairs rs
    simp only [List.map_cons, PyData.depthAll, encP, PyData.depth]
    omega
section
variable {K : PySem.W.Frag} {H : Hp} {p a b : Addr} {vs : List V} {ps : List (Int × Int)} {Q : VK} {σ : L2.St} {te td ty tx : TE} {t u : List (Int × Int)} {i j : Int} {D : Ends}
theorem r_reprP (h : SqL K H p vs) (hr : PLs H vs ps) (ok : ∀ p ∈ ps, p.1.natAbs < 10 ^ 60 ∧ p.2.natAbs < 10 ^ 60) (hz : ps.length ≤ 1000) (q : Q (.str (PyData.list (ps.map encP)).shown) H) : rRepr K [.ref p] H Q := by
  obtain ⟨h1, h2⟩ := sm_pairs ok
  refine r_repr (d := .list (ps.map encP)) (.lst h hr.dp) ?_ ?_ ?_ q
  · simpa [smI] using h1
  · have := depth_pairs ps
    simp only [PyData.depth]
    omega
  · simp only [wz]
    omega
theorem r_reprI {ns : List Int} (h : SqL K H p (ns.map V.int)) (ok : ∀ n ∈ ns, n.natAbs < 10 ^ 60) (hz : ns.length ≤ 1000) (q : Q (.str (PyData.list (ns.map PyData.int)).shown) H) : rRepr K [.ref p] H Q := by
  refine r_repr (d := .list (ns.map PyData.int)) (.lst h (dp_ints ns)) ?_ ?_ ?_ q
  · simpa [smI] using sm_ints ok
  · have := dep_ints ns
    simp only [PyData.depth]
    omega
  · simp only [wz]
    rw [wz_ints]
    omega
def kDGet2z (a : Addr) (Q : VK) (y : V) : VK := fun z H3 => ∃ o, DGet H3 a y o ∧ Q (o.getD z) H3
def kDGet2 (ty tx : TE) (σ : L2.St) (Q : VK) : VK := fun x H1 => ∃ a, x = .ref a ∧ IsD H1 a ∧ ty σ H1 fun y H2 => tx σ H2 (kDGet2z a Q y)
theorem r_dget2 (q : td σ H (kDGet2 ty tx σ Q)) : tDGet2 td ty tx σ H Q := q
theorem r_kDGet2 {kvs : List (Key × V)} (h : H a = some (.dK kvs)) (q : ty σ H fun y H2 => tx σ H2 (kDGet2z a Q y)) : kDGet2 ty tx σ Q (.ref a) H := ⟨a, rfl, .inl ⟨kvs, .inl h⟩, q⟩
theorem r_kDGet2z (h : H a = some (.dK (encT t))) (q : Q (.int ((lookT t i).getD j)) H) : kDGet2z a Q (.int i) (.int j) H := by
  refine ⟨_, .inl ⟨encT t, Sum.inl i, .inl h, rfl, rfl⟩, ?_⟩
  rw [valV_enc]
  cases h : lookT t i with
  | none => rw [h] at q; exact q
  | some c => rw [h] at q; exact q
theorem r_kDGetT {c : Int} (h : H a = some (.dK (encT t))) (e : lookT t i = some c) (q : Q (.int c) H) : kDGet Q (.ref a) (.int i) H := r_kDGetI h (by rw [valV_enc, e]; rfl) q
theorem r_kDPutT {c : Int} (h : H a = some (.dK (encT t))) (hz : t.length < 1000000) (q : ∀ H', But a H H' → H' a = some (.dK (encT (putI t i c))) → D.nx σ H') : kDPut D σ (.int c) (.ref a) (.int i) H :=
  ⟨a, _, rfl, .inl ⟨encT t, Sum.inl i, h, rfl, sz6 (by rw [enc_len]; exact hz), rfl⟩, q _ But.upd (by rw [← putK_enc]; exact upd_same)⟩
theorem r_neDT {xs ys : List Int} (h1 : H a = some (.dK (encT (tally xs)))) (h2 : H b = some (.dK (encT (tally ys)))) (pm : xs.Perm ys) (q : Q (.bl false) H) : rNeDA (.ref a) (.ref b) H Q := by
  refine ⟨a, b, _, _, rfl, rfl, h1, h2, by rw [enc_len, enc_len]; exact tally_perm_len pm, fun kv hkv => ?_, q⟩
  obtain ⟨z, hz, rfl⟩ := List.mem_map.mp hkv
  refine ⟨?_, rfl⟩
  show valV (encT (tally ys)) (Sum.inl z.1 : Key) = some (V.int z.2)
  rw [valV_enc, ← tally_perm_look pm, look_of_mem (tally_nd xs) hz]
  rfl
def kItems (Q : VK) : VK := fun x H1 => LiI.rItemsL x H1 Q
theorem r_listItems (q : te σ H (kItems Q)) : LiI.tListItems te σ H Q := q
theorem r_kItems (h : H a = some (.dK (encT t))) (q : ∀ p ws H', H p = none → Same H H' → H' p = some (.lst ws) → PLs H' ws t → Q (.ref p) H') : kItems Q (.ref a) H :=
  ⟨a, _, rfl, h, fun H' p ts e np _ _ hp hq => q p _ H' np e hp (PLs.of_items hq)⟩
def kBM0 (K : PySem.W.Frag) (T : String) (r : V → List V → Hp → VK → Prop) (Q : VK) : VK := fun x H1 => tyV K T x H1 ∧ r x [] H1 Q
theorem r_bm0 {T : String} {r : V → List V → Hp → VK → Prop} (q : te σ H (kBM0 K T r Q)) : tBM0 K T r te σ H Q := q
theorem r_kClear {kvs : List (Key × V)} (h : H a = some (.dK kvs)) (q : ∀ H', But a H H' → H' a = some (.dK []) → Q .non H') : kBM0 K "dict" rDClear Q (.ref a) H :=
  ⟨.inr (.inr (.inl ⟨rfl, .inl ⟨kvs, h⟩⟩)), a, kvs, rfl, rfl, h, q _ But.upd upd_same⟩
theorem r_sortedI {ns : List Int} (h : SqL K H a (ns.map V.int)) (q : ∀ (ms : List Int) (p : Addr) (H' : Hp), ms.Perm ns → ms.Pairwise (· ≤ ·) → H p = none → Same H H' → H' p = some (.lst (ms.map V.int)) → Q (.ref p) H') : rSortedI K [.ref a] H Q :=
  ⟨a, ns, rfl, h, fun ms p pm ha hp => q ms p _ pm ha hp (Same.new hp) upd_same⟩
def rSortedDI : List V → Hp → VK → Prop := fun xs H Q => ∃ (a : Addr) (kvs : List (Key × V)) (ks : List Int), xs = [.ref a] ∧ Rd H a (.dK kvs) ∧ kvs.map (·.1) = ks.map Sum.inl ∧ ks.length < 64 ∧
    ∀ (ys : List Int) (p : Addr), ys.Perm ks → ys.Pairwise (· ≤ ·) → H p = none → Q (.ref p) (upd H p (.lst (ys.map V.int)))
theorem r_sortedDI (h : H a = some (.dK (encT t))) (hl : t.length < 64) (q : ∀ (ys : List Int) (p : Addr) (H' : Hp), ys.Perm (t.map (·.1)) → ys.Pairwise (· ≤ ·) → H p = none → Same H H' → H' p = some (.lst (ys.map V.int)) → Q (.ref p) H') : rSortedDI [.ref a] H Q :=
  ⟨a, _, t.map (·.1), rfl, .inl h, enc_keys t, by rw [List.length_map]; exact hl, fun ys p pm ha hp => q ys p _ pm ha hp (Same.new hp) upd_same⟩
theorem r_listDT (h : H p = some (.dK (encT t))) (k : ∀ q H', H q = none → Same H H' → H' q = some (.lst ((t.map (·.1)).map V.int)) → Q (.ref q) H') : rListD' [.ref p] H Q :=
  r_listD h fun q H' nq e hq => k q H' nq e (by rw [← enc_kV]; exact hq)
theorem r_minI {ns : List Int} (h : SqL K H p (ns.map V.int)) (h0 : 0 < ns.length) (k : ∀ m, m ∈ ns → (∀ y ∈ ns, m ≤ y) → Q (.int m) H) : rMin K [.ref p] H Q := ⟨p, ns, rfl, h, h0, k⟩
theorem r_maxI {ns : List Int} (h : SqL K H p (ns.map V.int)) (h0 : 0 < ns.length) (k : ∀ m, m ∈ ns → (∀ y ∈ ns, y ≤ m) → Q (.int m) H) : rMax K [.ref p] H Q := ⟨p, ns, rfl, h, h0, k⟩
theorem cutV_takeL {xs : List V} {i : Int} (h0 : 0 ≤ i) : cutV xs none (some i) = xs.take i.toNat := by
  have e : HT.sIx xs.length xs.length (some i) = min i.toNat xs.length := by
    show (if i < 0 then (i + (xs.length : Int)).toNat else min i.toNat xs.length) = _
    rw [if_neg (by omega)]
  unfold cutV
  rw [e]
  show (xs.drop 0).take (min i.toNat xs.length - 0) = _
  rw [List.drop_zero, Nat.sub_zero]
  by_cases h : i.toNat ≤ xs.length
  · rw [Nat.min_eq_left h]
  · rw [Nat.min_eq_right (by omega), List.take_length, List.take_of_length_le (by omega)]
theorem r_slL_take {xs : List V} (h : SqL K H p xs) (h0 : 0 ≤ i) (q : ∀ t H', H t = none → Same H H' → H' t = some (.lst (xs.take i.toNat)) → Q (.ref t) H') : rSlL K (.ref p) none (some i) H Q := by
  refine ⟨p, xs, rfl, h, fun t ht => ?_⟩
  rw [cutV_takeL h0]
  exact q t _ ht (Same.new ht) upd_same
end
section
variable {X : Cx} {K : PySem.W.Frag}
theorem c_sortedIK (h : X.K = K) : CallR X (.builtin "sorted") (rSortedI K) := by subst h; exact cr_sortedI
theorem c_sortedDI (hc : X.calm = true) : CallR X (.builtin "sorted") rSortedDI := call_sortedDI hc
theorem neDAK (hu : X.A.units + 64 < cLine) : OpR X (compareOp .NotEq) rNeDA := op_ne_dictA (by omega)
theorem pe_dclearK {o : Expr} {to : TE} {apos cpos : Pos} (h : X.K = K) (ho : PE X o to) (hbase : attributeBase o "clear" X.env (eval o X.env) = eval o X.env := by rfl) (hline : (apos.endLine == cpos.line) = true := by rfl) : PE X (.Call (.Attribute o "clear" apos) [] [] cpos) (tBM0 K "dict" rDClear to) := by
  subst h
  exact pe_dclear ho hbase hline
end
end Wp
set_option Elab.async false
set_option linter.all false
set_option maxRecDepth 100000
set_option maxHeartbeats 4000000
namespace Wp
open PySem PySem.Spec PyProof.Rows L2
abbrev s_Book_first_at : Stmt := inClass (topS 28) 13
abbrev s_Book_due_at : Stmt := inClass (topS 28) 14
local macro_rules | `(tactic| walk_at "val") => `(tactic| assumption)
local macro_rules | `(tactic| walk_at "rd1") => `(tactic| first
  | with_reducible refine r_seq ?_ | with_reducible refine r_next ?_ | with_reducible refine r_if ?_ | with_reducible refine r_asg ?_ | with_reducible refine r_gname ?_
  | with_reducible refine r_ret ?_ | with_reducible refine r_retN ?_ | with_reducible refine r_drop ?_ | with_reducible refine r_par ?_ | with_reducible refine r_kPar ?_
  | ((with_reducible refine' r_var ?hv ?_); (case hv => exact rfl)) | with_reducible refine r_c ?_ | with_reducible refine r_nil ?_ | with_reducible refine r_cons ?_
  | with_reducible refine r_fn ?_ | with_reducible refine r_cb ?_ | with_reducible refine r_op ?_ | with_reducible refine r_un ?_ | with_reducible refine r_I0 ?_
  | with_reducible refine r_pow5 ?_ | with_reducible refine r_pow6 ?_ | with_reducible refine r_pow7 ?_ | with_reducible refine r_pow9 ?_ | with_reducible refine r_pow18 ?_ | with_reducible refine r_pow20 ?_ | with_reducible refine r_pow30 ?_
  | with_reducible refine r_isN_non ?_ | with_reducible refine r_isN_ref ?_ | with_reducible refine r_isN_int ?_ | with_reducible refine r_isN_str ?_ | with_reducible refine r_isN_bl ?_ | with_reducible refine r_notN_non ?_ | with_reducible refine r_notN_ref ?_ | with_reducible refine r_notN_int ?_ | with_reducible refine r_notN_str ?_ | with_reducible refine r_notN_bl ?_
  | ((with_reducible refine r_I ?hc ?_); (case hc => walk_at "side")) | with_reducible refine r_U ?_
  | with_reducible refine r_eqI ?_ | with_reducible refine r_neI ?_ | with_reducible refine r_eqS ?_ | with_reducible refine r_neS ?_ | with_reducible refine r_eqB ?_ | with_reducible refine r_neB ?_
  | with_reducible refine r_chain ?_ | with_reducible refine r_test ?_ | with_reducible refine r_tB ?_ | with_reducible refine r_kTest ?_ | with_reducible refine r_not ?_
  | with_reducible refine r_and ?_ | with_reducible refine r_or ?_ | with_reducible refine r_tif ?_ | with_reducible refine r_andV ?_ | with_reducible refine r_orV ?_ | with_reducible refine r_notV ?_
  | with_reducible refine r_kAndV ?_ | with_reducible refine r_kOrV ?_ | with_reducible refine r_kNotV ?_
  | with_reducible refine w_T ?_ | with_reducible refine w_F ?_ | with_reducible refine w_NT ?_ | with_reducible refine w_NF ?_
  | with_reducible refine r_tup ?_ | with_reducible refine r_lst ?_ | with_reducible refine r_fld ?_ | with_reducible refine r_prop ?_ | ((with_reducible refine' r_aug ?h1 ?_); (case h1 => exact rfl)) | with_reducible refine r_ipI ?_ | with_reducible refine r_dget ?_ | with_reducible refine r_dput ?_ | with_reducible refine r_bm ?_
  | ((with_reducible refine' r_kDGetS ?h1 ?h2 ?_); (case h1 => assumption); (case h2 => walk_at "val"))
  | ((with_reducible refine' r_kBML ?h1 ?_); (case h1 => assumption))
  | with_reducible refine r_forL ?_ | with_reducible refine r_forR1 ?_ | with_reducible refine r_forR2 ?_ | with_reducible refine r_forT ?_ | with_reducible refine r_lcL ?_ | with_reducible refine r_lcR1 ?_
  | ((with_reducible refine r_kLcG ?hw ?_); (case hw => exact rfl)) | with_reducible refine r_kLcT ?_ | with_reducible refine r_yes ?_
  | with_reducible refine r_pnil ?_ | with_reducible refine r_pcons ?_
  | with_reducible refine r_fnK ?_ | ((with_reducible refine r_kFnK ?hl ?_); (case hl => exact rfl))
  | with_reducible refine r_isi_ii ?_ | with_reducible refine r_isi_ib ?_ | with_reducible refine r_isi_bi ?_ | with_reducible refine r_isi_bb ?_ | with_reducible refine r_isi_ss ?_ | with_reducible refine r_isi_is ?_ | with_reducible refine r_isi_it ?_
  | ((with_reducible refine' r_isi_tt ?h1 ?_); (case h1 => assumption))
  | with_reducible refine r_sfld ?_ | with_reducible refine r_gnil ?_ | with_reducible refine r_gcons ?_
  | ((with_reducible refine' r_gtup ?h1 ?h2 ?_); (case h1 => exact SqT.of (by assumption)); (case h2 => exact rfl))
  | with_reducible refine r_sl ?_ | with_reducible refine r_noPart ?_ | with_reducible refine r_part ?_ | with_reducible refine r_kPart ?_ | with_reducible refine r_m1 ?_ | with_reducible refine r_kM1 ?_ | with_reducible refine r_forS ?_ | with_reducible refine r_lcS ?_ | with_reducible refine r_lcTu ?_ | with_reducible refine r_lcK ?_ | with_reducible refine r_dcL ?_ | with_reducible refine r_dcK ?_ | with_reducible refine r_lc2L ?_ | with_reducible refine r_kLc2TL ?_ | with_reducible refine r_dcEn ?_ | with_reducible refine r_gslc ?_ | with_reducible refine r_lcEn ?_ | with_reducible refine r_lcEl ?_ | with_reducible refine r_lcR2 ?_ | with_reducible refine r_rg1 ?_ | with_reducible refine r_forET ?_ | with_reducible refine r_lenD ?_
  | ((with_reducible refine r_kDcG ?hw ?_); (case hw => exact rfl)) | with_reducible refine r_kDcT ?_
  | with_reducible refine r_fldaug ?_ | with_reducible refine r_daug ?_ | with_reducible refine r_rAdd ?_ | with_reducible refine r_rSub ?_ | with_reducible refine r_ddel ?_ | with_reducible refine r_bmF ?_ | with_reducible refine r_dget2 ?_ | with_reducible refine r_listItems ?_ | with_reducible refine r_bm0 ?_ | with_reducible refine r_lc2E ?_ | ((with_reducible refine r_kLc2G ?hw ?_); (case hw => exact rfl)) | with_reducible refine r_kLc2T ?_ | with_reducible refine r_forE ?_ | with_reducible refine r_orT ?_ | with_reducible refine r_din ?_ | with_reducible refine r_augS ?_ | with_reducible refine r_dnotin ?_ | with_reducible refine r_lcIT ?_ | with_reducible refine r_cont ?_ | with_reducible refine r_meth ?_ | with_reducible refine r_frz ?_ | with_reducible refine r_par3 ?_ | with_reducible refine r_kPar3 ?_ | with_reducible refine r_dz ?_ | with_reducible refine r_revL ?_ | with_reducible refine r_star ?_ | with_reducible refine r_int1 ?_ | with_reducible refine r_int1b ?_ | with_reducible refine r_min2 ?_ | with_reducible refine r_max2 ?_ | with_reducible refine r_gsub ?_)
local macro_rules | `(tactic| walk_at "rd") => `(tactic| repeat walk_at "rd1")
local macro_rules | `(tactic| walk_at "side") => `(tactic| first | assumption | exact Or.inr ⟨by decide, by decide⟩ | exact Or.inl ⟨by decide, by decide⟩ | (constructor <;> omega) | omega | decide | (refine Or.inl ⟨?_, ?_⟩ <;> omega) | (refine Or.inr ⟨?_, ?_⟩ <;> omega) | (refine ⟨?_, ?_, ?_⟩ <;> first | decide | omega))
def sp_first_at (C : Addr) : Sp := fun vs H Q _ => ∃ (p : Addr) (B : Bk) (m : Int), vs = [.ref p, .int m] ∧ BookAt C H p B ∧ B.Ok ∧ ∀ H', Same H H' → Q (.int (B.first m)) H'
def sp_due_at (C : Addr) : Sp := fun vs H Q _ => ∃ (p : Addr) (B : Bk) (m : Int), vs = [.ref p, .int m] ∧ BookAt C H p B ∧ B.Ok ∧ ∀ H', Same H H' → Q (.int (B.first (m + 1) + B.due)) H'
section
variable {P : Program} {w : World} {K : PySem.W.Frag} {mg : Str → Option Value} {base : Heap}
theorem ok_Book_first_at {f C : Addr} {fd : FuncData} (T : Tx K mg) (bc : BkC K C) (F : FunD K "first_at" "Book.first_at" (defArgs s_Book_first_at) (defBody s_Book_first_at) (defScope s_Book_first_at) [] [] f fd) :
    FnOk P w K mg base CX0 1 f fd ["self", "month"] (sp_first_at C) := by
  have sc : FnScope ["self", "month", "many"] ["self", "month"] (defScope s_Book_first_at) := ⟨rfl, rfl, rfl, by decide +kernel, rfl, by decide +kernel, by decide +kernel⟩
  refine F.ok sc (by rintro vs H Q E ⟨_, _, _, rfl, _⟩; rfl) (fun cdv A outer s H vs Q E hr h => ⟨_, PSs.nox ((pss_cons (ps_set (i := 2) sc.nd rfl (by first | exact Or.inl rfl | exact Or.inr rfl) (pe_callB (c_lenK (K := K) rfl) (by rfl) T.b_len (by decide +kernel) (pa_cons (pe_fldK (K := K) rfl (pv 0)) pa_nil)))
      (pss_one (ps_ret (pe_op op_add (pe_op op_mul (pe_op op_fdiv (pv 1) (pv 2)) (pe_callB (c_sumT (K := K) rfl rfl) (by rfl) T.b_sum (by decide +kernel) (pa_cons (pe_fldK (K := K) rfl (pv 0)) pa_nil))) (pe_callB (c_sumT (K := K) rfl rfl) (by rfl) T.b_sum (by decide +kernel) (pa_cons (pe_slice (sl_tupK (K := K) rfl) (pe_fldK (K := K) rfl (pv 0)) po_none (po_some (pe_op op_mod (pv 1) (pv 2)))) pa_nil))))))), ?_⟩)
  obtain ⟨p, B, m, rfl, ⟨dx, tl, kd, lv, kvs, hB⟩, ok, k⟩ := h
  have l1 := ok.l1
  have l2 := ok.l2
  have hm0 := Int.emod_nonneg m (b := (B.ls.length : Int)) (by omega)
  have hm1 := Int.emod_lt_of_pos m (b := (B.ls.length : Int)) (by omega)
  have hsum : 0 ≤ B.ls.sum ∧ B.ls.sum ≤ 1000000 := by
    have h3 := ok.l3
    generalize B.ls = l at *
    have : ∀ l : List Int, (∀ n ∈ l, 2 ≤ n ∧ n ≤ 31) → 0 ≤ l.sum ∧ l.sum ≤ 31 * (l.length : Int) := by
      intro l
      induction l with
      | nil => intro _; simp
      | cons a r ih =>
        intro h
        have h1 := ih fun n hn => h n (List.mem_cons_of_mem _ hn)
        have h2 := h a (List.mem_cons_self ..)
        simp only [List.sum_cons, List.length_cons]
        omega
    have := this l h3
    omega
  walk_at "rd"
  refine r_kFld hB.i bc.cl bc.n1 rfl ?_
  walk_at "rd"
  refine r_lenT (SqT.of hB.l) ?_
  rw [List.length_map]
  walk_at "rd"
  refine r_kFld hB.i bc.cl bc.n1 rfl ?_
  walk_at "rd"
  refine r_sumT (SqT.of hB.l) ?_
  walk_at "rd"
  refine r_kFld hB.i bc.cl bc.n1 rfl ?_
  walk_at "rd"
  refine r_slT_take (SqT.of hB.l) hm0 (by rw [List.length_map]; exact hm1) fun t H1 nt e1 ht => ?_
  rw [← List.map_take] at ht
  walk_at "rd"
  refine r_sumT (SqT.of ht) ?_
  walk_at "rd"
  exact k H1 e1
theorem ok_Book_due_at {f C : Addr} {fd : FuncData} (T : Tx K mg) (bc : BkC K C) (F : FunD K "due_at" "Book.due_at" (defArgs s_Book_due_at) (defBody s_Book_due_at) (defScope s_Book_due_at) [] [] f fd)
    (mt_Book_first_at : Dm P w K mg base CX0 1 C "first_at" (sp_first_at C)) :
    FnOk P w K mg base CX0 2 f fd ["self", "month"] (sp_due_at C) := by
  have sc : FnScope ["self", "month"] ["self", "month"] (defScope s_Book_due_at) := ⟨rfl, rfl, rfl, by decide +kernel, rfl, by decide +kernel, by decide +kernel⟩
  refine F.ok sc (by rintro vs H Q E ⟨_, _, _, rfl, _⟩; rfl) (fun cdv A outer s H vs Q E hr h => ⟨_, PSs.nox ((pss_one (ps_ret (pe_op op_add (pe_mt mt_Book_first_at (hr.mono (by decide)) pass0 (pv 0) (pa_cons (pe_op op_add (pv 1) pe_int) pa_nil)) (pe_fldK (K := K) rfl (pv 0)))))), ?_⟩)
  obtain ⟨p, B, m, rfl, ⟨dx, tl, kd, lv, kvs, hB⟩, ok, k⟩ := h
  walk_at "rd"
  refine r_kMeth hB.i rfl ?_
  walk_at "rd"
  refine ⟨p, B, m + 1, rfl, ⟨dx, tl, kd, lv, kvs, hB⟩, ok, fun H1 e1 => ?_⟩
  walk_at "rd"
  refine r_kFld (hB.keep e1).i bc.cl bc.n2 rfl ?_
  walk_at "rd"
  exact k H1 e1
end
end Wp
set_option Elab.async false
set_option linter.all false
set_option maxRecDepth 100000
set_option maxHeartbeats 4000000
namespace Wp
open PySem PySem.Spec PyProof.Rows L2
theorem Bk.Ok.ls {B : Bk} (ok : B.Ok) : LsOk B.ls := ⟨ok.l1, ok.l2, ok.l3⟩
theorem first_eq (B : Bk) (m : Int) : B.first m = firstL B.ls m := rfl
theorem Bk.Ok.due31 {B : Bk} (ok : B.Ok) : B.due + 1 ≤ 31 := by
  have l1 := ok.l1
  obtain ⟨x, hx⟩ := List.exists_mem_of_length_pos (show 0 < B.ls.length by omega)
  have := ok.l3 x hx
  have := ok.d1 x hx
  omega
end Wp
set_option Elab.async false
set_option linter.all false
set_option maxRecDepth 100000
set_option maxHeartbeats 4000000
/-! need_number, Book.month_at. -/
namespace Wp
open PySem PySem.Spec PyProof.Rows L2
abbrev s_need_number : Stmt := topS 27
abbrev s_Book_month_at : Stmt := inClass (topS 28) 12
local macro_rules | `(tactic| walk_at "val") => `(tactic| assumption)
local macro_rules | `(tactic| walk_at "rd1") => `(tactic| first
  | with_reducible refine r_seq ?_ | with_reducible refine r_next ?_ | with_reducible refine r_if ?_ | with_reducible refine r_asg ?_ | with_reducible refine r_gname ?_
  | with_reducible refine r_ret ?_ | with_reducible refine r_retN ?_ | with_reducible refine r_drop ?_ | with_reducible refine r_par ?_ | with_reducible refine r_kPar ?_
  | ((with_reducible refine' r_var ?hv ?_); (case hv => exact rfl)) | with_reducible refine r_c ?_ | with_reducible refine r_nil ?_ | with_reducible refine r_cons ?_
  | with_reducible refine r_fn ?_ | with_reducible refine r_cb ?_ | with_reducible refine r_op ?_ | with_reducible refine r_un ?_ | with_reducible refine r_I0 ?_
  | with_reducible refine r_pow5 ?_ | with_reducible refine r_pow6 ?_ | with_reducible refine r_pow7 ?_ | with_reducible refine r_pow9 ?_ | with_reducible refine r_pow18 ?_ | with_reducible refine r_pow20 ?_ | with_reducible refine r_pow30 ?_
  | with_reducible refine r_isN_non ?_ | with_reducible refine r_isN_ref ?_ | with_reducible refine r_isN_int ?_ | with_reducible refine r_isN_str ?_ | with_reducible refine r_isN_bl ?_ | with_reducible refine r_notN_non ?_ | with_reducible refine r_notN_ref ?_ | with_reducible refine r_notN_int ?_ | with_reducible refine r_notN_str ?_ | with_reducible refine r_notN_bl ?_
  | ((with_reducible refine r_I ?hc ?_); (case hc => walk_at "side")) | with_reducible refine r_U ?_
  | with_reducible refine r_eqI ?_ | with_reducible refine r_neI ?_ | with_reducible refine r_eqS ?_ | with_reducible refine r_neS ?_ | with_reducible refine r_eqB ?_ | with_reducible refine r_neB ?_
  | with_reducible refine r_chain ?_ | with_reducible refine r_test ?_ | with_reducible refine r_tB ?_ | with_reducible refine r_kTest ?_ | with_reducible refine r_not ?_
  | with_reducible refine r_and ?_ | with_reducible refine r_or ?_ | with_reducible refine r_tif ?_ | with_reducible refine r_andV ?_ | with_reducible refine r_orV ?_ | with_reducible refine r_notV ?_
  | with_reducible refine r_kAndV ?_ | with_reducible refine r_kOrV ?_ | with_reducible refine r_kNotV ?_
  | with_reducible refine w_T ?_ | with_reducible refine w_F ?_ | with_reducible refine w_NT ?_ | with_reducible refine w_NF ?_
  | with_reducible refine r_tup ?_ | with_reducible refine r_lst ?_ | with_reducible refine r_fld ?_ | with_reducible refine r_prop ?_ | ((with_reducible refine' r_aug ?h1 ?_); (case h1 => exact rfl)) | with_reducible refine r_ipI ?_ | with_reducible refine r_dget ?_ | with_reducible refine r_dput ?_ | with_reducible refine r_bm ?_
  | ((with_reducible refine' r_kDGetS ?h1 ?h2 ?_); (case h1 => assumption); (case h2 => walk_at "val"))
  | ((with_reducible refine' r_kBML ?h1 ?_); (case h1 => assumption))
  | with_reducible refine r_forL ?_ | with_reducible refine r_forR1 ?_ | with_reducible refine r_forR2 ?_ | with_reducible refine r_forT ?_ | with_reducible refine r_lcL ?_ | with_reducible refine r_lcR1 ?_
  | ((with_reducible refine r_kLcG ?hw ?_); (case hw => exact rfl)) | with_reducible refine r_kLcT ?_ | with_reducible refine r_yes ?_
  | with_reducible refine r_pnil ?_ | with_reducible refine r_pcons ?_
  | with_reducible refine r_fnK ?_ | ((with_reducible refine r_kFnK ?hl ?_); (case hl => exact rfl))
  | with_reducible refine r_isi_ii ?_ | with_reducible refine r_isi_ib ?_ | with_reducible refine r_isi_bi ?_ | with_reducible refine r_isi_bb ?_ | with_reducible refine r_isi_ss ?_ | with_reducible refine r_isi_is ?_ | with_reducible refine r_isi_it ?_
  | ((with_reducible refine' r_isi_tt ?h1 ?_); (case h1 => assumption))
  | with_reducible refine r_sfld ?_ | with_reducible refine r_gnil ?_ | with_reducible refine r_gcons ?_
  | ((with_reducible refine' r_gtup ?h1 ?h2 ?_); (case h1 => exact SqT.of (by assumption)); (case h2 => exact rfl))
  | with_reducible refine r_sl ?_ | with_reducible refine r_noPart ?_ | with_reducible refine r_part ?_ | with_reducible refine r_kPart ?_ | with_reducible refine r_m1 ?_ | with_reducible refine r_kM1 ?_ | with_reducible refine r_forS ?_ | with_reducible refine r_lcS ?_ | with_reducible refine r_lcTu ?_ | with_reducible refine r_lcK ?_ | with_reducible refine r_dcL ?_ | with_reducible refine r_dcK ?_ | with_reducible refine r_lc2L ?_ | with_reducible refine r_kLc2TL ?_ | with_reducible refine r_dcEn ?_ | with_reducible refine r_gslc ?_ | with_reducible refine r_lcEn ?_ | with_reducible refine r_lcEl ?_ | with_reducible refine r_lcR2 ?_ | with_reducible refine r_rg1 ?_ | with_reducible refine r_forET ?_ | with_reducible refine r_lenD ?_
  | ((with_reducible refine r_kDcG ?hw ?_); (case hw => exact rfl)) | with_reducible refine r_kDcT ?_
  | with_reducible refine r_fldaug ?_ | with_reducible refine r_daug ?_ | with_reducible refine r_rAdd ?_ | with_reducible refine r_rSub ?_ | with_reducible refine r_ddel ?_ | with_reducible refine r_bmF ?_ | with_reducible refine r_dget2 ?_ | with_reducible refine r_listItems ?_ | with_reducible refine r_bm0 ?_ | with_reducible refine r_lc2E ?_ | ((with_reducible refine r_kLc2G ?hw ?_); (case hw => exact rfl)) | with_reducible refine r_kLc2T ?_ | with_reducible refine r_forE ?_ | with_reducible refine r_orT ?_ | with_reducible refine r_din ?_ | with_reducible refine r_augS ?_ | with_reducible refine r_dnotin ?_ | with_reducible refine r_lcIT ?_ | with_reducible refine r_cont ?_ | with_reducible refine r_meth ?_ | with_reducible refine r_frz ?_ | with_reducible refine r_par3 ?_ | with_reducible refine r_kPar3 ?_ | with_reducible refine r_dz ?_ | with_reducible refine r_revL ?_ | with_reducible refine r_star ?_ | with_reducible refine r_int1 ?_ | with_reducible refine r_int1b ?_ | with_reducible refine r_min2 ?_ | with_reducible refine r_max2 ?_ | with_reducible refine r_gsub ?_)
local macro_rules | `(tactic| walk_at "rd") => `(tactic| repeat walk_at "rd1")
local macro_rules | `(tactic| walk_at "side") => `(tactic| first | assumption | exact Or.inr ⟨by decide, by decide⟩ | exact Or.inl ⟨by decide, by decide⟩ | (constructor <;> omega) | omega | decide | (refine Or.inl ⟨?_, ?_⟩ <;> omega) | (refine Or.inr ⟨?_, ?_⟩ <;> omega) | (refine ⟨?_, ?_, ?_⟩ <;> first | decide | omega))
def sp_need_number : Sp := fun vs H Q _ => ∃ i : Int, vs = [.int i] ∧ 0 ≤ i ∧ i ≤ 2000 ∧ Q .non H
def sp_month_at (C : Addr) : Sp := fun vs H Q _ => ∃ (p : Addr) (B : Bk) (d : Int), vs = [.ref p, .int d] ∧ BookAt C H p B ∧ B.Ok ∧ Q (.int (monthL B.ls d)) H
section
variable {P : Program} {w : World} {K : PySem.W.Frag} {mg : Str → Option Value} {base : Heap}
theorem ok_need_number {f : Addr} {fd : FuncData} (T : Tx K mg) (F : FnP K "need_number" s_need_number f fd) (d_is_number_in : Dn P w K mg base CX0 2 "is_number_in" ["value", "least", "most"] (sp_is_number_in K)) :
    FnOk P w K mg base CX0 3 f fd ["value"] sp_need_number := by
  have sc : FnScope ["value"] ["value"] (defScope s_need_number) := ⟨rfl, rfl, rfl, by decide +kernel, rfl, by decide +kernel, by decide +kernel⟩
  refine F.ok sc (by rintro vs H Q E ⟨_, rfl, _⟩; rfl) (fun cdv A outer s H vs Q E hr h => ⟨_, PSs.nox ((pss_one (ps_if (pt_not (pt_val (pe_fn d_is_number_in (hr.mono (by decide)) pass0 (pa_cons (pv 0) (pa_cons pe_int (pa_cons (pe_glob (v := .int 2000) (by rfl) T.c_MOST_DAY.choose_spec ⟨_, rfl⟩) pa_nil)))))) (pss_one ps_never) pss_nil))), ?_⟩)
  obtain ⟨i, rfl, h0, h1, q⟩ := h
  walk_at "rd"
  refine u_in ⟨h0, h1⟩ ?_
  walk_at "rd"
  exact q
theorem ok_Book_month_at {f C : Addr} {fd : FuncData} (T : Tx K mg) (bc : BkC K C) (F : FunD K "month_at" "Book.month_at" (defArgs s_Book_month_at) (defBody s_Book_month_at) (defScope s_Book_month_at) [] [] f fd) :
    FnOk P w K mg base CX0 1 f fd ["self", "day"] (sp_month_at C) := by
  have sc : FnScope ["self", "day", "many", "month", "left"] ["self", "day"] (defScope s_Book_month_at) := ⟨rfl, rfl, rfl, by decide +kernel, rfl, by decide +kernel, by decide +kernel⟩
  refine F.ok sc (by rintro vs H Q E ⟨_, _, _, rfl, _⟩; rfl) (fun cdv A outer s H vs Q E hr h => ⟨_, PSs.nox ((pss_cons (ps_set (i := 2) sc.nd rfl (by first | exact Or.inl rfl | exact Or.inr rfl) (pe_callB (c_lenK (K := K) rfl) (by rfl) T.b_len (by decide +kernel) (pa_cons (pe_fldK (K := K) rfl (pv 0)) pa_nil)))
      (pss_cons (ps_par (i := 3) (j := 4) (by rfl) sc.nd rfl rfl (by decide) rfl rfl (pa_cons (pe_op op_mul (pe_op op_fdiv (pv 1) (pe_callB (c_sumT (K := K) rfl rfl) (by rfl) T.b_sum (by decide +kernel) (pa_cons (pe_fldK (K := K) rfl (pv 0)) pa_nil))) (pv 2)) (pa_cons (pe_op op_mod (pv 1) (pe_callB (c_sumT (K := K) rfl rfl) (by rfl) T.b_sum (by decide +kernel) (pa_cons (pe_fldK (K := K) rfl (pv 0)) pa_nil))) pa_nil)) (by rfl))
      (pss_cons (ps_while PassesOwn.never (pt_cmpR op_ge (pv 4) (pe_ix (ix_tupK (K := K) rfl) (pe_fldK (K := K) rfl (pv 0)) (pe_op op_mod (pv 3) (pv 2)) (fun _ _ => rfl)) (nomark _)) (pss_cons (ps_aug (i := 4) sc.nd rfl (by first | exact Or.inl rfl | exact Or.inr rfl) (pe_ix (ix_tupK (K := K) rfl) (pe_fldK (K := K) rfl (pv 0)) (pe_op op_mod (pv 3) (pv 2)) (fun _ _ => rfl)) ip_sub)
      (pss_one (ps_aug (i := 3) sc.nd rfl (by first | exact Or.inl rfl | exact Or.inr rfl) pe_int ip_add))))
      (pss_one (ps_ret (pv 3))))))), ?_⟩)
  obtain ⟨p, B, d, rfl, ⟨dx, tl, kd, lv, kvs, hB⟩, ok, k⟩ := h
  have okl := ok.ls
  have hs := okl.sum
  have l1 := ok.l1
  have l2 := ok.l2
  have hr0 := Int.emod_nonneg d (b := B.ls.sum) (by omega)
  have hr1 := Int.emod_lt_of_pos d (b := B.ls.sum) (by omega)
  obtain ⟨c1, c2, c3⟩ := cntL_spec okl.l3 hr0 hr1
  walk_at "rd"
  refine r_kFld hB.i bc.cl bc.n1 rfl ?_
  walk_at "rd"
  refine r_lenT (SqT.of hB.l) ?_
  rw [List.length_map]
  walk_at "rd"
  refine r_kFld hB.i bc.cl bc.n1 rfl ?_
  walk_at "rd"
  refine r_sumT (SqT.of hB.l) ?_
  walk_at "rd"
  refine r_kFld hB.i bc.cl bc.n1 rfl ?_
  walk_at "rd"
  refine r_sumT (SqT.of hB.l) ?_
  walk_at "rd"
  refine r_while (fun m σ' H' => ∃ (j : Nat) (left x : Int), σ' = [some (.ref p), some (.int d), some (.int (B.ls.length : Int)), some (.int (d / B.ls.sum * (B.ls.length : Int) + (j : Int))), some (.int left)] ∧ H' = H ∧
      j + cntL (B.ls.drop j) left = cntL B.ls (d % B.ls.sum) ∧ j < B.ls.length ∧ B.ls[j]? = some x ∧ m = B.ls.length - j) B.ls.length ⟨0, d % B.ls.sum, _, by simp; rfl, rfl, by simp, by omega, List.getElem?_eq_getElem (by omega), by omega⟩ ?_
  rintro m σ' H' ⟨j, left, x, rfl, rfl, hc, hj, hx, rfl⟩
  have e2 : (d / B.ls.sum * (B.ls.length : Int) + (j : Int)) % (B.ls.length : Int) = (j : Int) := by
    rw [Int.add_comm, Int.add_mul_emod_self_right, Int.emod_eq_of_lt (by omega) (by omega)]
  have hx' : (B.ls.map V.int)[j]? = some (.int x) := by rw [List.getElem?_map, hx]; rfl
  rw [cntL_drop j hx] at hc
  walk_at "rd"
  refine r_kFld hB.i bc.cl bc.n1 rfl ?_
  walk_at "rd"
  refine r_ixT (SqT.of hB.l) (at_get (n := j) e2 hx') ?_
  walk_at "rd"
  refine r_kWh (fun h1 => ?_) (fun h1 => ?_)
  · have h1 := of_decide_eq_true h1
    rw [if_neg (by omega)] at hc
    walk_at "rd"
    refine r_kFld hB.i bc.cl bc.n1 rfl ?_
    walk_at "rd"
    refine r_ixT (SqT.of hB.l) (at_get (n := j) e2 hx') ?_
    walk_at "rd"
    refine ⟨B.ls.length - (j + 1), by omega, j + 1, left - x, B.ls[j + 1]'(by omega), ?_, rfl, by omega, by omega, List.getElem?_eq_getElem (by omega), rfl⟩
    simp
    omega
  · have h1 := of_decide_eq_false h1
    rw [if_pos (by omega)] at hc
    walk_at "rd"
    have e : monthL B.ls d = d / B.ls.sum * (B.ls.length : Int) + (j : Int) := by
      unfold monthL
      rw [← hc]
      simp
    rw [← e]
    exact k
end
end Wp
set_option Elab.async false
set_option linter.all false
set_option maxRecDepth 100000
set_option maxHeartbeats 4000000
namespace Wp
open PySem PySem.Spec PyProof.Rows L2
abbrev s_days_at : Stmt := topS 42
abbrev s_round_of : Stmt := topS 43
local macro_rules | `(tactic| walk_at "val") => `(tactic| assumption)
local macro_rules | `(tactic| walk_at "rd1") => `(tactic| first
  | with_reducible refine r_seq ?_ | with_reducible refine r_next ?_ | with_reducible refine r_if ?_ | with_reducible refine r_asg ?_ | with_reducible refine r_gname ?_
  | with_reducible refine r_ret ?_ | with_reducible refine r_retN ?_ | with_reducible refine r_drop ?_ | with_reducible refine r_par ?_ | with_reducible refine r_kPar ?_
  | ((with_reducible refine' r_var ?hv ?_); (case hv => exact rfl)) | with_reducible refine r_c ?_ | with_reducible refine r_nil ?_ | with_reducible refine r_cons ?_
  | with_reducible refine r_fn ?_ | with_reducible refine r_cb ?_ | with_reducible refine r_op ?_ | with_reducible refine r_un ?_ | with_reducible refine r_I0 ?_
  | with_reducible refine r_pow5 ?_ | with_reducible refine r_pow6 ?_ | with_reducible refine r_pow7 ?_ | with_reducible refine r_pow9 ?_ | with_reducible refine r_pow18 ?_ | with_reducible refine r_pow20 ?_ | with_reducible refine r_pow30 ?_
  | with_reducible refine r_isN_non ?_ | with_reducible refine r_isN_ref ?_ | with_reducible refine r_isN_int ?_ | with_reducible refine r_isN_str ?_ | with_reducible refine r_isN_bl ?_ | with_reducible refine r_notN_non ?_ | with_reducible refine r_notN_ref ?_ | with_reducible refine r_notN_int ?_ | with_reducible refine r_notN_str ?_ | with_reducible refine r_notN_bl ?_
  | ((with_reducible refine r_I ?hc ?_); (case hc => walk_at "side")) | with_reducible refine r_U ?_
  | with_reducible refine r_eqI ?_ | with_reducible refine r_neI ?_ | with_reducible refine r_eqS ?_ | with_reducible refine r_neS ?_ | with_reducible refine r_eqB ?_ | with_reducible refine r_neB ?_
  | with_reducible refine r_chain ?_ | with_reducible refine r_test ?_ | with_reducible refine r_tB ?_ | with_reducible refine r_kTest ?_ | with_reducible refine r_not ?_
  | with_reducible refine r_and ?_ | with_reducible refine r_or ?_ | with_reducible refine r_tif ?_ | with_reducible refine r_andV ?_ | with_reducible refine r_orV ?_ | with_reducible refine r_notV ?_
  | with_reducible refine r_kAndV ?_ | with_reducible refine r_kOrV ?_ | with_reducible refine r_kNotV ?_
  | with_reducible refine w_T ?_ | with_reducible refine w_F ?_ | with_reducible refine w_NT ?_ | with_reducible refine w_NF ?_
  | with_reducible refine r_tup ?_ | with_reducible refine r_lst ?_ | with_reducible refine r_fld ?_ | with_reducible refine r_prop ?_ | ((with_reducible refine' r_aug ?h1 ?_); (case h1 => exact rfl)) | with_reducible refine r_ipI ?_ | with_reducible refine r_dget ?_ | with_reducible refine r_dput ?_ | with_reducible refine r_bm ?_
  | ((with_reducible refine' r_kDGetS ?h1 ?h2 ?_); (case h1 => assumption); (case h2 => walk_at "val"))
  | ((with_reducible refine' r_kBML ?h1 ?_); (case h1 => assumption))
  | with_reducible refine r_forL ?_ | with_reducible refine r_forR1 ?_ | with_reducible refine r_forR2 ?_ | with_reducible refine r_forT ?_ | with_reducible refine r_lcL ?_ | with_reducible refine r_lcR1 ?_
  | ((with_reducible refine r_kLcG ?hw ?_); (case hw => exact rfl)) | with_reducible refine r_kLcT ?_ | with_reducible refine r_yes ?_
  | with_reducible refine r_pnil ?_ | with_reducible refine r_pcons ?_
  | with_reducible refine r_fnK ?_ | ((with_reducible refine r_kFnK ?hl ?_); (case hl => exact rfl))
  | with_reducible refine r_isi_ii ?_ | with_reducible refine r_isi_ib ?_ | with_reducible refine r_isi_bi ?_ | with_reducible refine r_isi_bb ?_ | with_reducible refine r_isi_ss ?_ | with_reducible refine r_isi_is ?_ | with_reducible refine r_isi_it ?_
  | ((with_reducible refine' r_isi_tt ?h1 ?_); (case h1 => assumption))
  | with_reducible refine r_sfld ?_ | with_reducible refine r_gnil ?_ | with_reducible refine r_gcons ?_
  | ((with_reducible refine' r_gtup ?h1 ?h2 ?_); (case h1 => exact SqT.of (by assumption)); (case h2 => exact rfl))
  | with_reducible refine r_sl ?_ | with_reducible refine r_noPart ?_ | with_reducible refine r_part ?_ | with_reducible refine r_kPart ?_ | with_reducible refine r_m1 ?_ | with_reducible refine r_kM1 ?_ | with_reducible refine r_forS ?_ | with_reducible refine r_lcS ?_ | with_reducible refine r_lcTu ?_ | with_reducible refine r_lcK ?_ | with_reducible refine r_dcL ?_ | with_reducible refine r_dcK ?_ | with_reducible refine r_lc2L ?_ | with_reducible refine r_kLc2TL ?_ | with_reducible refine r_dcEn ?_ | with_reducible refine r_gslc ?_ | with_reducible refine r_lcEn ?_ | with_reducible refine r_lcEl ?_ | with_reducible refine r_lcR2 ?_ | with_reducible refine r_rg1 ?_ | with_reducible refine r_forET ?_ | with_reducible refine r_lenD ?_
  | ((with_reducible refine r_kDcG ?hw ?_); (case hw => exact rfl)) | with_reducible refine r_kDcT ?_
  | with_reducible refine r_fldaug ?_ | with_reducible refine r_daug ?_ | with_reducible refine r_rAdd ?_ | with_reducible refine r_rSub ?_ | with_reducible refine r_ddel ?_ | with_reducible refine r_bmF ?_ | with_reducible refine r_dget2 ?_ | with_reducible refine r_listItems ?_ | with_reducible refine r_bm0 ?_ | with_reducible refine r_lc2E ?_ | ((with_reducible refine r_kLc2G ?hw ?_); (case hw => exact rfl)) | with_reducible refine r_kLc2T ?_ | with_reducible refine r_forE ?_ | with_reducible refine r_orT ?_ | with_reducible refine r_din ?_ | with_reducible refine r_augS ?_ | with_reducible refine r_dnotin ?_ | with_reducible refine r_lcIT ?_ | with_reducible refine r_cont ?_ | with_reducible refine r_meth ?_ | with_reducible refine r_frz ?_ | with_reducible refine r_par3 ?_ | with_reducible refine r_kPar3 ?_ | with_reducible refine r_dz ?_ | with_reducible refine r_revL ?_ | with_reducible refine r_star ?_ | with_reducible refine r_int1 ?_ | with_reducible refine r_int1b ?_ | with_reducible refine r_min2 ?_ | with_reducible refine r_max2 ?_ | with_reducible refine r_gsub ?_)
local macro_rules | `(tactic| walk_at "rd") => `(tactic| repeat walk_at "rd1")
local macro_rules | `(tactic| walk_at "side") => `(tactic| first | assumption | exact Or.inr ⟨by decide, by decide⟩ | exact Or.inl ⟨by decide, by decide⟩ | (constructor <;> omega) | omega | decide | (refine Or.inl ⟨?_, ?_⟩ <;> omega) | (refine Or.inr ⟨?_, ?_⟩ <;> omega) | (refine ⟨?_, ?_, ?_⟩ <;> first | decide | omega))
def sp_days_at (C : Addr) : Sp := fun vs H Q _ => ∃ (p : Addr) (B : Bk) (d : Int), vs = [.ref p, .int d] ∧ BookAt C H p B ∧ B.Ok ∧ ∀ H', Same H H' → Q (.int (fdL B.ls B.due d)) H'
def sp_free_days (C : Addr) : Sp := fun vs H Q _ => ∃ (p : Addr) (B : Bk) (d : Int), vs = [.ref p, .int d] ∧ BookAt C H p B ∧ B.Ok ∧ 0 ≤ d ∧ d ≤ 2000 ∧ ∀ H', Same H H' → Q (.int (fdL B.ls B.due d)) H'
def sp_round_of (C : Addr) : Sp := fun vs H Q _ => ∃ (p : Addr) (B : Bk), vs = [.ref p] ∧ BookAt C H p B ∧ B.Ok ∧ ∀ t H', H t = none → Same H H' → H' t = some (.lst ((rnd B.ls B.due).map V.int)) → Q (.ref t) H'
def sp_least_free (C : Addr) : Sp := fun vs H Q _ => ∃ (p : Addr) (B : Bk), vs = [.ref p] ∧ BookAt C H p B ∧ B.Ok ∧ ∀ m H', Same H H' → m ∈ rnd B.ls B.due → (∀ y ∈ rnd B.ls B.due, m ≤ y) → Q (.int m) H'
def sp_most_free (C : Addr) : Sp := fun vs H Q _ => ∃ (p : Addr) (B : Bk), vs = [.ref p] ∧ BookAt C H p B ∧ B.Ok ∧ ∀ m H', Same H H' → m ∈ rnd B.ls B.due → (∀ y ∈ rnd B.ls B.due, y ≤ m) → Q (.int m) H'
def sp_counted (C : Addr) : Sp := fun vs H Q _ => ∃ (p : Addr) (B : Bk), vs = [.ref p] ∧ BookAt C H p B ∧ B.Ok ∧ ∀ (t : Addr) (ns : List Int) (H' : Hp), H t = none → Same H H' → ns.Perm (rnd B.ls B.due) → ns.Pairwise (· ≤ ·) → H' t = some (.dK (encT (tally ns))) → Q (.ref t) H'
theorem r_dnewKT {σ : L2.St} {H : Hp} {Q : VK} (q : ∀ p H', H p = none → Same H H' → H' p = some (.dK (encT (tally []))) → Q (.ref p) H') : tDNewK σ H Q := fun p hp => q p _ hp (Same.new hp) upd_same
theorem tally_len_le : ∀ xs : List Int, (tally xs).length ≤ xs.length := fun xs => by
  have h := List.Nodup.length_le_of_subset (tally_nd xs) (l₂ := xs) fun z hz => (tally_mem xs z).mp hz
  rwa [List.length_map] at h
theorem rnd_len {ls : List Int} (ok : LsOk ls) (u : Int) : 2 ≤ (rnd ls u).length ∧ (rnd ls u).length ≤ 124 := by
  have := ok.sum
  unfold rnd
  rw [rndL_len]
  omega
section
variable {P : Program} {w : World} {K : PySem.W.Frag} {mg : Str → Option Value} {base : Heap}
theorem ok_days_at {f C : Addr} {fd : FuncData} (T : Tx K mg) (F : FnP K "days_at" s_days_at f fd) (mt_Book_month_at : Dm P w K mg base CX0 1 C "month_at" (sp_month_at C)) (mt_Book_due_at : Dm P w K mg base CX0 2 C "due_at" (sp_due_at C)) :
    FnOk P w K mg base CX0 3 f fd ["book", "day"] (sp_days_at C) := by
  have sc : FnScope ["book", "day"] ["book", "day"] (defScope s_days_at) := ⟨rfl, rfl, rfl, by decide +kernel, rfl, by decide +kernel, by decide +kernel⟩
  refine F.ok sc (by rintro vs H Q E ⟨_, _, _, rfl, _⟩; rfl) (fun cdv A outer s H vs Q E hr h => ⟨_, PSs.nox ((pss_one (ps_ret (pe_op op_sub (pe_mt mt_Book_due_at (hr.mono (by decide)) pass0 (pv 0) (pa_cons (pe_mt mt_Book_month_at (hr.mono (by decide)) pass0 (pv 0) (pa_cons (pv 1) pa_nil)) pa_nil)) (pv 1))))), ?_⟩)
  obtain ⟨p, B, d, rfl, hB, ok, k⟩ := h
  obtain ⟨dx, tl, kd, lv, kvs, hI⟩ := id hB
  walk_at "rd"
  refine r_kMeth hI.i rfl ?_
  walk_at "rd"
  refine r_kMeth hI.i rfl ?_
  walk_at "rd"
  refine ⟨p, B, d, rfl, hB, ok, ?_⟩
  walk_at "rd"
  refine ⟨p, B, _, rfl, hB, ok, fun H1 e1 => ?_⟩
  walk_at "rd"
  exact k H1 e1
theorem ok_round_of {f C : Addr} {fd : FuncData} (T : Tx K mg) (F : FnP K "round_of" s_round_of f fd) (m_lengths : Dpr P w K mg base CX0 1 C "lengths" (sp_g_lengths C)) (d_days_at : Dn P w K mg base CX0 3 "days_at" ["book", "day"] (sp_days_at C)) :
    FnOk P w K mg base CX0 4 f fd ["book"] (sp_round_of C) := by
  have sc : FnScope ["book", "day"] ["book"] (defScope s_round_of) := ⟨rfl, rfl, rfl, by decide +kernel, rfl, by decide +kernel, by decide +kernel⟩
  refine F.ok sc (by rintro vs H Q E ⟨_, _, rfl, _⟩; rfl) (fun cdv A outer s H vs Q E hr h => ⟨_, PSs.nox ((pss_one (ps_ret (pe_lc (own := [("day", 1)]) (by rfl) sc.nd (pi_range1 (by rfl) T.b_range (pa_cons (pe_callB (c_sumT (K := K) rfl rfl) (by rfl) T.b_sum (by decide +kernel) (pa_cons (pe_propA m_lengths (pv 0) (hr.mono (by decide)) pass0) pa_nil)) pa_nil)) (blkOk_by (own := [("day", 1)]) (N := ["book", "day"]) (sc := defScope s_round_of) (by decide +kernel)) (fun _ _ _ _ _ => (pg_name (i := 1) sc.nd rfl (by first | exact Or.inl rfl | exact Or.inr rfl))) (fun _ _ _ _ _ => pts_nil) (fun _ _ _ _ _ => (pe_fn d_days_at (hr.mono (by decide)) pass0 (pa_cons (pv 0) (pa_cons (pv 1) pa_nil)))))))), ?_⟩)
  obtain ⟨p, B, rfl, hB, ok, k⟩ := h
  obtain ⟨dx, tl, kd, lv, kvs, hI⟩ := id hB
  have hs := ok.ls.sum
  walk_at "rd"
  refine r_kProp hI.i ?_
  refine ⟨p, B, rfl, hB, fun tl htl => ?_⟩
  walk_at "rd"
  refine r_sumT (SqT.of htl) ?_
  walk_at "rd"
  refine r_kLcR1 (fun Da i H' => Same H H' ∧ H' Da = some (.lst ((rndL B.ls B.due i).map V.int))) (by omega) (fun Da H' nD e h => ⟨e, h⟩) ?_ (fun Da H' nD h => k Da H' nD h.1 h.2)
  rintro Da i H' nD hi ⟨e, h⟩
  walk_at "rd"
  refine ⟨p, B, (i : Int), rfl, hB.keep e, ok, fun H2 e2 => ?_⟩
  walk_at "rd"
  refine r_kLcE (e2 _ _ h) (by rw [List.length_map, rndL_len]; omega) fun H3 b3 h3 => ?_
  refine ⟨Same.mut (e.trans e2) b3 nD, ?_⟩
  rw [rndL_succ, List.map_append]
  exact h3
end
end Wp
set_option Elab.async false
set_option linter.all false
set_option maxRecDepth 100000
set_option maxHeartbeats 4000000
/-! Values that are None or a number. -/
namespace Wp
open PySem PySem.Spec PyProof.Rows L2
abbrev oV : Option Int → V
  | none => .non
  | some x => .int x
abbrev nV : Option Nat → V
  | none => .non
  | some n => .int (n : Int)
section
variable {H : Hp} {Q : VK}
theorem r_neO {o : Option Int} (q : Q (.bl false) H) : rNe (oV o) (oV o) H Q := by
  refine ⟨by cases o <;> rfl, ?_⟩
  rw [decide_eq_true rfl]
  exact q
theorem r_eqO {o : Option Int} (q : Q (.bl true) H) : rEq (oV o) (oV o) H Q := by
  refine ⟨by cases o <;> rfl, ?_⟩
  rw [decide_eq_true rfl]
  exact q
end
def keep1 {α : Type} (l : List α) : List α := l
theorem keep1_rel {vs : List V} {us : List Value} (r : Vals vs us) : Vals (keep1 vs) (keep1 us) := r
def dO : Option Int → PyData
  | none => .none
  | some x => .int x
section
variable {K : PySem.W.Frag} {H : Hp} {o : Option Int} {Q : VK}
theorem dpO : Dp K H (oV o) (dO o) := by
  cases o with
  | none => exact .non
  | some x => exact .int x
theorem smO (h : ∀ x, o = some x → 1 ≤ x ∧ x ≤ 1000000000) : smI (dO o) = true := by
  cases o with
  | none => rfl
  | some x =>
    have := h x rfl
    simp only [dO, smI, decide_eq_true_eq]
    exact Nat.lt_of_le_of_lt (show x.natAbs ≤ 1000000000 by omega) (by decide)
theorem depO : (dO o).depth ≤ 60 := by
  cases o <;> simp [dO, PyData.depth]
theorem wzO : wz (dO o) ≤ 16777216 := by
  cases o <;> simp [dO, wz]
/-- repr of great numbers -/
theorem r_reprB (h : ∀ x, o = some x → x.natAbs < 10 ^ 400) (q : Q (.str (dO o).shown) H) : rRepr K [oV o] H Q := by
  refine ⟨oV o, dO o, rfl, dpO, ?_, depO, ?_, by cases o <;> rfl, q⟩
  · cases o with
    | none => rfl
    | some x =>
      have e := h x rfl
      simp only [dO, PyData.showable, decide_eq_true_eq]
      by_cases h0 : x.natAbs = 0
      · rw [h0]
        decide
      · exact (Nat.log2_lt h0).mpr (Nat.lt_of_lt_of_le e (by decide +kernel))
  · cases o with
    | none => exact Nat.le_trans (shown_wz (dO none) rfl) (Nat.le_trans (wzO (o := none)) (by rw [sizeLine_eq]; decide))
    | some x =>
      have e := int_text_length_le10 (k := 400) (by decide) (h x rfl)
      simp only [dO, PyData.shown]
      rw [PySem.ofString_length, sizeLine_eq]
      exact Nat.le_trans e (by decide)
end
end Wp
set_option Elab.async false
set_option linter.all false
set_option maxRecDepth 100000
set_option maxHeartbeats 4000000
/-! Promises, plain; values that may be promises. -/
namespace Wp
open PySem PySem.Spec PyProof.Rows L2
def lateL (ls : List Int) (u n : Int) (k : Nat) : List Int := ((List.range k).filter fun i : Nat => decide (fdL ls u (i : Int) < n)).map fun i : Nat => (i : Int)
def brkO (ls : List Int) (u : Int) (s : Str) (n : Int) : Option Int :=
  if (decide (lateL ls u n ls.sum.toNat = []) || (decide (s = "some") && decide (((lateL ls u n ls.sum.toNat).length : Int) < ls.sum))) = true then none else (lateL ls u n ls.sum.toNat).head?
theorem lateL_snoc (ls : List Int) (u n : Int) (k : Nat) : lateL ls u n (k + 1) = lateL ls u n k ++ (if fdL ls u (k : Int) < n then [(k : Int)] else []) := by
  unfold lateL
  rw [List.range_succ, List.filter_append, List.map_append]
  congr 1
  by_cases h : fdL ls u (k : Int) < n
  · rw [if_pos h, List.filter_cons_of_pos (by simpa using h)]
    rfl
  · rw [if_neg h, List.filter_cons_of_neg (by simpa using h)]
    rfl
theorem lateL_len (ls : List Int) (u n : Int) (k : Nat) : (lateL ls u n k).length ≤ k := by
  unfold lateL
  rw [List.length_map]
  have := List.length_filter_le (fun i : Nat => decide (fdL ls u (i : Int) < n)) (List.range k)
  rwa [List.length_range] at this
theorem lateL_mem {ls : List Int} {u n : Int} {k : Nat} {x : Int} (h : x ∈ lateL ls u n k) : 0 ≤ x ∧ x < k := by
  unfold lateL at h
  obtain ⟨i, hi, rfl⟩ := List.mem_map.mp h
  have := List.mem_range.mp (List.mem_filter.mp hi).1
  omega
theorem brkO_small {ls : List Int} {u n : Int} {s : Str} (h : ls.sum ≤ 124) : ∀ x, brkO ls u s n = some x → 0 ≤ x ∧ x ≤ 124 := fun x hx => by
  unfold brkO at hx
  split at hx
  · cases hx
  · have := lateL_mem (List.mem_of_mem_head? hx)
    omega
/-! the next day -/
theorem fdL_period {ls : List Int} (ok : LsOk ls) (u d : Int) : fdL ls u (d + ls.sum) = fdL ls u d := by
  have h1 := ok.l1
  have hs := ok.sum
  have e1 : monthL ls (d + ls.sum) = monthL ls d + (ls.length : Int) := by
    unfold monthL
    rw [show d + ls.sum = d + 1 * ls.sum by omega, Int.add_mul_ediv_right _ _ (by omega), Int.add_mul_emod_self_right, Int.add_mul]
    omega
  unfold fdL
  rw [e1]
  have e2 : firstL ls (monthL ls d + (ls.length : Int) + 1) = firstL ls (monthL ls d + 1) + ls.sum := by
    unfold firstL
    rw [show monthL ls d + (ls.length : Int) + 1 = (monthL ls d + 1) + 1 * (ls.length : Int) by omega, Int.add_mul_ediv_right _ _ (by omega), Int.add_mul_emod_self_right, Int.add_mul]
    omega
  rw [e2]
  omega
/-- the first of n days from d that can stand long enough -/
def nextO (ls : List Int) (u m d : Int) (n : Nat) : Option Int := ((List.range n).map fun i : Nat => d + (i : Int)).find? fun x => decide (m ≤ fdL ls u x)
theorem nextO_snoc (ls : List Int) (u m d : Int) (n : Nat) : nextO ls u m d (n + 1) = (nextO ls u m d n).or (if m ≤ fdL ls u (d + (n : Int)) then some (d + (n : Int)) else none) := by
  unfold nextO
  rw [List.range_succ, List.map_append, List.find?_append]
  congr 1
  by_cases h : m ≤ fdL ls u (d + (n : Int))
  · simp [h]
  · simp [h]
theorem nextO_none {ls : List Int} {u m d : Int} {n : Nat} (h : nextO ls u m d n = none) {i : Nat} (hi : i < n) : ¬ m ≤ fdL ls u (d + (i : Int)) := fun g => by
  unfold nextO at h
  have := List.find?_eq_none.mp h (d + (i : Int)) (List.mem_map.mpr ⟨i, List.mem_range.mpr hi, rfl⟩)
  simp [g] at this
/-- a round is enough -/
theorem nextO_round {ls : List Int} (ok : LsOk ls) (u m d : Int) : ∀ k : Nat, nextO ls u m d (ls.sum.toNat + k) = nextO ls u m d ls.sum.toNat
  | 0 => rfl
  | k + 1 => by
    have hs := ok.sum
    have h1 := ok.l1
    rw [← Nat.add_assoc, nextO_snoc, nextO_round ok u m d k]
    cases h : nextO ls u m d ls.sum.toNat with
    | some x => rfl
    | none =>
      have hk := nextO_round ok u m d k
      rw [h] at hk
      have hg := nextO_none hk (i := k) (by omega)
      rw [show d + ((ls.sum.toNat + k : Nat) : Int) = d + (k : Int) + ls.sum by omega, fdL_period ok, if_neg hg]
      rfl
theorem nextO_at {ls : List Int} {u m d : Int} {n N : Nat} (h : nextO ls u m d n = none) (hn : n < N) (g : m ≤ fdL ls u (d + (n : Int))) : nextO ls u m d N = some (d + (n : Int)) := by
  have h1 : nextO ls u m d (n + 1) = some (d + (n : Int)) := by rw [nextO_snoc, h, if_pos g]; rfl
  obtain ⟨k, rfl⟩ : ∃ k, N = n + 1 + k := ⟨N - (n + 1), by omega⟩
  induction k with
  | zero => exact h1
  | succ k ih =>
    rw [← Nat.add_assoc, nextO_snoc, ih (by omega)]
    rfl
/-- all the days that can stand, from d on -/
def goodL (ls : List Int) (u m d : Int) (n : Nat) : List Int := ((List.range n).map fun i : Nat => d + (i : Int)).filter fun x => decide (m ≤ fdL ls u x)
theorem goodL_snoc (ls : List Int) (u m d : Int) (n : Nat) : goodL ls u m d (n + 1) = goodL ls u m d n ++ (if m ≤ fdL ls u (d + (n : Int)) then [d + (n : Int)] else []) := by
  unfold goodL
  rw [List.range_succ, List.map_append, List.filter_append]
  congr 1
  by_cases h : m ≤ fdL ls u (d + (n : Int))
  · simp [h]
  · simp [h]
theorem goodL_head (ls : List Int) (u m d : Int) (n : Nat) : (goodL ls u m d n).head? = nextO ls u m d n := by
  unfold goodL nextO
  rw [List.head?_filter]
theorem goodL_len (ls : List Int) (u m d : Int) (n : Nat) : (goodL ls u m d n).length ≤ n := by
  unfold goodL
  have := List.length_filter_le (fun x => decide (m ≤ fdL ls u x)) ((List.range n).map fun i : Nat => d + (i : Int))
  rwa [List.length_map, List.length_range] at this
theorem nextO_small {ls : List Int} {u m d : Int} {n : Nat} (h0 : 0 ≤ d) (h1 : d ≤ 2000) (hn : n ≤ 200) : ∀ x, nextO ls u m d n = some x → 0 ≤ x ∧ x ≤ 2200 := fun x hx => by
  unfold nextO at hx
  obtain ⟨i, hi, rfl⟩ := List.mem_map.mp (List.mem_of_find?_eq_some hx)
  have := List.mem_range.mp hi
  omega
/-! promises of any shape -/
def vowB (s : Str) (o : Option Int) : Bool := decide (s ∈ (["each", "some"] : List Str)) && inB o 0 100
inductive Vw (K : PySem.W.Frag) (H : Hp) : V → Bool → Prop
  | ty {v : V} {a : String} : TyX K H v (.type a) → kitB a "tuple" = some false → Vw K H v false
  | len {p : Addr} {xs : List V} : H p = some (.tup xs) → xs.length ≠ 2 → xs.length ≤ 1000 → Vw K H (.ref p) false
  | fst {p : Addr} {x y : V} {a : String} : H p = some (.tup [x, y]) → TyX K H x (.type a) → kitB a "str" = some false → Vw K H (.ref p) false
  | two {p : Addr} {s : Str} {y : V} {o : Option Int} : H p = some (.tup [.str s, y]) → NumV K H y o → Vw K H (.ref p) (vowB s o)
theorem TyOf.same {K : PySem.W.Frag} {H H' : Hp} (e : Same H H') {v : V} {t : Value} (h : TyOf K H v t) : TyOf K H' v t := by
  cases h with
  | non => exact .non
  | bl x => exact .bl x
  | int i => exact .int i
  | str x => exact .str x
  | flt x => exact .flt x
  | lst h => exact .lst (e _ _ h)
  | frz h => exact .frz (e _ _ h)
  | tup h => exact .tup (e _ _ h)
  | dK h => exact .dK (e _ _ h)
  | dT h => exact .dT (e _ _ h)
  | ins h a b c d f => exact .ins (e _ _ h) a b c d f
theorem TyX.same {K : PySem.W.Frag} {H H' : Hp} (e : Same H H') {v : V} {t : Value} (h : TyX K H v t) : TyX K H' v t := by
  cases h with
  | base h => exact .base (TyOf.same e h)
  | byt b => exact .byt b
  | set h => exact .set (e _ _ h)
  | kList a b => exact .kList a b
  | kTuple a b => exact .kTuple a b
  | kDict a b => exact .kDict a b
  | fTuple h => exact .fTuple (e _ _ h)
  | fDict h => exact .fDict (e _ _ h)
theorem NumV.same {K : PySem.W.Frag} {H H' : Hp} (e : Same H H') {v : V} {o : Option Int} (h : NumV K H v o) : NumV K H' v o := by
  cases h with
  | int i => exact .int i
  | no h a b c => exact .no (TyX.same e h) a b c
/-- a value of any shape that can be drawn -/
inductive Sh (st l : Addr) (H : Hp) : V → Prop
  | non : Sh st l H .non
  | bl (b : Bool) : Sh st l H (.bl b)
  | int (i : Int) : Sh st l H (.int i)
  | str (z : Str) : Sh st l H (.str z)
  | tup {p : Addr} {xs : List V} : p ≠ st → p ≠ l → H p = some (.tup xs) → xs.length ≤ 1000 → (∀ x ∈ xs, Sh st l H x) → Sh st l H (.ref p)
  | lst {p : Addr} {xs : List V} : p ≠ st → p ≠ l → H p = some (.lst xs) → Sh st l H (.ref p)
  | dK {p : Addr} {kvs : List (Key × V)} : p ≠ st → p ≠ l → H p = some (.dK kvs) → Sh st l H (.ref p)
theorem Sh.kp {st l : Addr} {H H' : Hp} (k : Kp st l H H') {v : V} (h : Sh st l H v) : Sh st l H' v := by
  induction h with
  | non => exact .non
  | bl b => exact .bl b
  | int i => exact .int i
  | str z => exact .str z
  | tup n1 n2 h hl _ ih => exact .tup n1 n2 (k _ _ h n1 n2) hl ih
  | lst n1 n2 h => exact .lst n1 n2 (k _ _ h n1 n2)
  | dK n1 n2 h => exact .dK n1 n2 (k _ _ h n1 n2)
section
variable {K : PySem.W.Frag} {st l : Addr} {H : Hp} {v : V}
theorem Sh.cls (h : Sh st l H v) : (∃ z, v = .str z) ∨ ∃ a, TyX K H v (.type a) ∧ kitB a "str" = some false := by
  cases h with
  | non => exact .inr ⟨_, .base .non, by decide +kernel⟩
  | bl b => exact .inr ⟨_, .base (.bl b), by decide +kernel⟩
  | int i => exact .inr ⟨_, .base (.int i), by decide +kernel⟩
  | str z => exact .inl ⟨z, rfl⟩
  | tup _ _ h => exact .inr ⟨_, .base (.tup h), by decide +kernel⟩
  | lst _ _ h => exact .inr ⟨_, .base (.lst h), by decide +kernel⟩
  | dK _ _ h => exact .inr ⟨_, .base (.dK h), by decide +kernel⟩
theorem Sh.num (h : Sh st l H v) : ∃ o, NumV K H v o := by
  cases h with
  | non => exact ⟨_, .no (b1 := false) (b2 := false) (.base .non) (kit_ty (by decide +kernel)) (kit_ty (by decide +kernel)) rfl⟩
  | bl b => exact ⟨_, .no (b1 := true) (b2 := true) (.base (.bl b)) (kit_ty (by decide +kernel)) (kit_ty (by decide +kernel)) rfl⟩
  | int i => exact ⟨_, .int i⟩
  | str z => exact ⟨_, .no (b1 := false) (b2 := false) (.base (.str z)) (kit_ty (by decide +kernel)) (kit_ty (by decide +kernel)) rfl⟩
  | tup _ _ h => exact ⟨_, .no (b1 := false) (b2 := false) (.base (.tup h)) (kit_ty (by decide +kernel)) (kit_ty (by decide +kernel)) rfl⟩
  | lst _ _ h => exact ⟨_, .no (b1 := false) (b2 := false) (.base (.lst h)) (kit_ty (by decide +kernel)) (kit_ty (by decide +kernel)) rfl⟩
  | dK _ _ h => exact ⟨_, .no (b1 := false) (b2 := false) (.base (.dK h)) (kit_ty (by decide +kernel)) (kit_ty (by decide +kernel)) rfl⟩
theorem Sh.vw (h : Sh st l H v) : ∃ b, Vw K H v b := by
  cases h with
  | non => exact ⟨_, .ty (.base .non) (by decide +kernel)⟩
  | bl b => exact ⟨_, .ty (.base (.bl b)) (by decide +kernel)⟩
  | int i => exact ⟨_, .ty (.base (.int i)) (by decide +kernel)⟩
  | str z => exact ⟨_, .ty (.base (.str z)) (by decide +kernel)⟩
  | lst _ _ h => exact ⟨_, .ty (.base (.lst h)) (by decide +kernel)⟩
  | dK _ _ h => exact ⟨_, .ty (.base (.dK h)) (by decide +kernel)⟩
  | @tup p xs _ _ h hl hx =>
    match xs, h, hl, hx with
    | [], h, hl, _ => exact ⟨_, .len h (by decide) hl⟩
    | [_], h, hl, _ => exact ⟨_, .len h (by simp) hl⟩
    | [x, y], h, _, hx =>
      rcases (hx x (List.mem_cons_self ..)).cls (K := K) with ⟨z, rfl⟩ | ⟨a, h1, h2⟩
      · obtain ⟨o, ho⟩ := (hx y (by simp)).num (K := K)
        exact ⟨_, .two h ho⟩
      · exact ⟨_, .fst h h1 h2⟩
    | _ :: _ :: _ :: _, h, hl, _ => exact ⟨_, .len h (by simp) hl⟩
end
section
variable {K : PySem.W.Frag} {H : Hp} {p : Addr} {Q : VK}
theorem sm_dO {o : Option Int} (h : ∀ x, o = some x → x.natAbs < 10 ^ 60) : smI (dO o) = true := by
  cases o with
  | none => rfl
  | some x => exact decide_eq_true (h x rfl)
theorem r_reprOO {o : Option Int} (h : SqL K H p [oV o, oV o]) (hz : ∀ x, o = some x → x.natAbs < 10 ^ 60) (k : Q (.str (PyData.list [dO o, dO o]).shown) H) : rRepr K [.ref p] H Q := by
  refine r_repr (d := .list [dO o, dO o]) (.lst h (.cons dpO (.cons dpO .nil))) ?_ ?_ ?_ k
  · show smAll [dO o, dO o] = true
    rw [smAll_cons, smAll_cons, sm_dO hz]
    simp [smAll]
  · cases o <;> simp [dO, PyData.depth, PyData.depthAll]
  · cases o <;> simp [dO, wz, wzAll]
theorem r_reprBB {b : Bool} (h : SqL K H p [.bl b, .bl b]) (k : Q (.str (PyData.list [.bool b, .bool b]).shown) H) : rRepr K [.ref p] H Q := by
  refine r_repr (d := .list [.bool b, .bool b]) (.lst h (.cons (.bl b) (.cons (.bl b) .nil))) ?_ ?_ ?_ k
  · simp [smI, smAll_cons, smAll]
  · simp [PyData.depth, PyData.depthAll]
  · simp [wz, wzAll]
end
def rot3 {α : Type} : List α → List α
  | [a, b, c] => [b, c, a]
  | l => l
theorem rot3_rel {vs : List V} {us : List Value} (r : Vals vs us) : Vals (rot3 vs) (rot3 us) := by
  match vs, us, r with
  | [], _, .nil => exact .nil
  | [_], _, .cons a .nil => exact .cons a .nil
  | [_, _], _, .cons a (.cons b .nil) => exact .cons a (.cons b .nil)
  | [_, _, _], _, .cons a (.cons b (.cons c .nil)) => exact .cons b (.cons c (.cons a .nil))
  | _ :: _ :: _ :: _ :: _, _, .cons a (.cons b (.cons c (.cons d e))) => exact .cons a (.cons b (.cons c (.cons d e)))
end Wp
set_option Elab.async false
set_option linter.all false
set_option maxRecDepth 100000
set_option maxHeartbeats 4000000
/-! windows of a book, its greatest loss. -/
namespace Wp
open PySem PySem.Spec PyProof.Rows L2
abbrev s_windows_of : Stmt := topS 36
abbrev s_greatest_loss : Stmt := topS 37
local macro_rules | `(tactic| walk_at "val") => `(tactic| assumption)
local macro_rules | `(tactic| walk_at "rd1") => `(tactic| first
  | with_reducible refine r_seq ?_ | with_reducible refine r_next ?_ | with_reducible refine r_if ?_ | with_reducible refine r_asg ?_ | with_reducible refine r_gname ?_
  | with_reducible refine r_ret ?_ | with_reducible refine r_retN ?_ | with_reducible refine r_drop ?_ | with_reducible refine r_par ?_ | with_reducible refine r_kPar ?_
  | ((with_reducible refine' r_var ?hv ?_); (case hv => exact rfl)) | with_reducible refine r_c ?_ | with_reducible refine r_nil ?_ | with_reducible refine r_cons ?_
  | with_reducible refine r_fn ?_ | with_reducible refine r_cb ?_ | with_reducible refine r_op ?_ | with_reducible refine r_un ?_ | with_reducible refine r_I0 ?_
  | with_reducible refine r_pow5 ?_ | with_reducible refine r_pow6 ?_ | with_reducible refine r_pow7 ?_ | with_reducible refine r_pow9 ?_ | with_reducible refine r_pow18 ?_ | with_reducible refine r_pow20 ?_ | with_reducible refine r_pow30 ?_
  | with_reducible refine r_isN_non ?_ | with_reducible refine r_isN_ref ?_ | with_reducible refine r_isN_int ?_ | with_reducible refine r_isN_str ?_ | with_reducible refine r_isN_bl ?_ | with_reducible refine r_notN_non ?_ | with_reducible refine r_notN_ref ?_ | with_reducible refine r_notN_int ?_ | with_reducible refine r_notN_str ?_ | with_reducible refine r_notN_bl ?_
  | ((with_reducible refine r_I ?hc ?_); (case hc => walk_at "side")) | with_reducible refine r_U ?_
  | with_reducible refine r_eqI ?_ | with_reducible refine r_neI ?_ | with_reducible refine r_eqS ?_ | with_reducible refine r_neS ?_ | with_reducible refine r_eqB ?_ | with_reducible refine r_neB ?_
  | with_reducible refine r_chain ?_ | with_reducible refine r_test ?_ | with_reducible refine r_tB ?_ | with_reducible refine r_kTest ?_ | with_reducible refine r_not ?_
  | with_reducible refine r_and ?_ | with_reducible refine r_or ?_ | with_reducible refine r_tif ?_ | with_reducible refine r_andV ?_ | with_reducible refine r_orV ?_ | with_reducible refine r_notV ?_
  | with_reducible refine r_kAndV ?_ | with_reducible refine r_kOrV ?_ | with_reducible refine r_kNotV ?_
  | with_reducible refine w_T ?_ | with_reducible refine w_F ?_ | with_reducible refine w_NT ?_ | with_reducible refine w_NF ?_
  | with_reducible refine r_tup ?_ | with_reducible refine r_lst ?_ | with_reducible refine r_fld ?_ | with_reducible refine r_prop ?_ | ((with_reducible refine' r_aug ?h1 ?_); (case h1 => exact rfl)) | with_reducible refine r_ipI ?_ | with_reducible refine r_dget ?_ | with_reducible refine r_dput ?_ | with_reducible refine r_bm ?_
  | ((with_reducible refine' r_kDGetS ?h1 ?h2 ?_); (case h1 => assumption); (case h2 => walk_at "val"))
  | ((with_reducible refine' r_kBML ?h1 ?_); (case h1 => assumption))
  | with_reducible refine r_forL ?_ | with_reducible refine r_forR1 ?_ | with_reducible refine r_forR2 ?_ | with_reducible refine r_forT ?_ | with_reducible refine r_lcL ?_ | with_reducible refine r_lcR1 ?_
  | ((with_reducible refine r_kLcG ?hw ?_); (case hw => exact rfl)) | with_reducible refine r_kLcT ?_ | with_reducible refine r_yes ?_
  | with_reducible refine r_pnil ?_ | with_reducible refine r_pcons ?_
  | with_reducible refine r_fnK ?_ | ((with_reducible refine r_kFnK ?hl ?_); (case hl => exact rfl))
  | with_reducible refine r_isi_ii ?_ | with_reducible refine r_isi_ib ?_ | with_reducible refine r_isi_bi ?_ | with_reducible refine r_isi_bb ?_ | with_reducible refine r_isi_ss ?_ | with_reducible refine r_isi_is ?_ | with_reducible refine r_isi_it ?_
  | ((with_reducible refine' r_isi_tt ?h1 ?_); (case h1 => assumption))
  | with_reducible refine r_sfld ?_ | with_reducible refine r_gnil ?_ | with_reducible refine r_gcons ?_
  | ((with_reducible refine' r_gtup ?h1 ?h2 ?_); (case h1 => exact SqT.of (by assumption)); (case h2 => exact rfl))
  | with_reducible refine r_sl ?_ | with_reducible refine r_noPart ?_ | with_reducible refine r_part ?_ | with_reducible refine r_kPart ?_ | with_reducible refine r_m1 ?_ | with_reducible refine r_kM1 ?_ | with_reducible refine r_forS ?_ | with_reducible refine r_lcS ?_ | with_reducible refine r_lcTu ?_ | with_reducible refine r_lcK ?_ | with_reducible refine r_dcL ?_ | with_reducible refine r_dcK ?_ | with_reducible refine r_lc2L ?_ | with_reducible refine r_kLc2TL ?_ | with_reducible refine r_dcEn ?_ | with_reducible refine r_gslc ?_ | with_reducible refine r_lcEn ?_ | with_reducible refine r_lcEl ?_ | with_reducible refine r_lcR2 ?_ | with_reducible refine r_rg1 ?_ | with_reducible refine r_forET ?_ | with_reducible refine r_lenD ?_
  | ((with_reducible refine r_kDcG ?hw ?_); (case hw => exact rfl)) | with_reducible refine r_kDcT ?_
  | with_reducible refine r_fldaug ?_ | with_reducible refine r_daug ?_ | with_reducible refine r_rAdd ?_ | with_reducible refine r_rSub ?_ | with_reducible refine r_ddel ?_ | with_reducible refine r_bmF ?_ | with_reducible refine r_dget2 ?_ | with_reducible refine r_listItems ?_ | with_reducible refine r_bm0 ?_ | with_reducible refine r_lc2E ?_ | ((with_reducible refine r_kLc2G ?hw ?_); (case hw => exact rfl)) | with_reducible refine r_kLc2T ?_ | with_reducible refine r_forE ?_ | with_reducible refine r_orT ?_ | with_reducible refine r_din ?_ | with_reducible refine r_augS ?_ | with_reducible refine r_dnotin ?_ | with_reducible refine r_lcIT ?_ | with_reducible refine r_cont ?_ | with_reducible refine r_meth ?_ | with_reducible refine r_frz ?_ | with_reducible refine r_par3 ?_ | with_reducible refine r_kPar3 ?_ | with_reducible refine r_dz ?_ | with_reducible refine r_revL ?_ | with_reducible refine r_star ?_ | with_reducible refine r_int1 ?_ | with_reducible refine r_int1b ?_ | with_reducible refine r_min2 ?_ | with_reducible refine r_max2 ?_ | with_reducible refine r_gsub ?_)
local macro_rules | `(tactic| walk_at "rd") => `(tactic| repeat walk_at "rd1")
local macro_rules | `(tactic| walk_at "side") => `(tactic| first | assumption | exact Or.inr ⟨by decide, by decide⟩ | exact Or.inl ⟨by decide, by decide⟩ | (constructor <;> omega) | omega | decide | (refine Or.inl ⟨?_, ?_⟩ <;> omega) | (refine Or.inr ⟨?_, ?_⟩ <;> omega) | (refine ⟨?_, ?_, ?_⟩ <;> first | decide | omega))
/-- tuples, each with a number first and n things behind it -/
inductive WLs (n : Nat) (H : Hp) : List V → List Int → Prop
  | nil : WLs n H [] []
  | cons {t : Addr} {y : Int} {r ws : List V} {ys : List Int} : H t = some (.tup (.int y :: r)) → r.length = n → WLs n H ws ys → WLs n H (.ref t :: ws) (y :: ys)
theorem WLs.keep {n : Nat} {H H' : Hp} {ws : List V} {ys : List Int} (h : WLs n H ws ys) (e : ∀ t xs, H t = some (.tup xs) → H' t = some (.tup xs)) : WLs n H' ws ys := by
  induction h with
  | nil => exact .nil
  | cons h1 h2 _ ih => exact .cons (e _ _ h1) h2 ih
theorem WLs.same {n : Nat} {H H' : Hp} {ws : List V} {ys : List Int} (h : WLs n H ws ys) (e : Same H H') : WLs n H' ws ys := h.keep fun t xs q => e _ _ q
theorem WLs.app {n : Nat} {H : Hp} {ws ws' : List V} {ys ys' : List Int} (h : WLs n H ws ys) (h' : WLs n H ws' ys') : WLs n H (ws ++ ws') (ys ++ ys') := by
  induction h with
  | nil => exact h'
  | cons h1 h2 _ ih => exact .cons h1 h2 ih
theorem WLs.snoc {n : Nat} {H : Hp} {ws : List V} {ys : List Int} {t : Addr} {y : Int} {r : List V} (h : WLs n H ws ys) (ht : H t = some (.tup (.int y :: r))) (hr : r.length = n := by rfl) : WLs n H (ws ++ [.ref t]) (ys ++ [y]) := h.app (.cons ht hr .nil)
theorem WLs.len {n : Nat} {H : Hp} {ws : List V} {ys : List Int} (h : WLs n H ws ys) : ws.length = ys.length := by
  induction h with
  | nil => rfl
  | cons _ _ _ ih => rw [List.length_cons, List.length_cons, ih]
theorem WLs.get {n : Nat} {H : Hp} {ws : List V} {ys : List Int} (h : WLs n H ws ys) : ∀ {i : Nat} {v : V}, ws[i]? = some v → ∃ t y r, v = .ref t ∧ ys[i]? = some y ∧ H t = some (.tup (.int y :: r)) ∧ r.length = n := by
  induction h with
  | nil => intro i v e; simp at e
  | @cons t y r ws ys h1 h2 _ ih =>
    intro i v e
    cases i with
    | zero => exact ⟨t, y, r, (Option.some.inj e).symm, rfl, h1, h2⟩
    | succ i => exact ih (by simpa using e)
def dayB (B : Bk) : Bool := decide (B.beg = "day")
def rtB (B : Bk) (n : Str) : Int := (look B.ks n).1
def frB (B : Bk) (n : Str) : Bool := (look B.ks n).2
/-- the windows' sums -/
def winsB (B : Bk) : List Int := winO (rtB B) (frB B) (dayB B) (mx0 B.ls) B.due B.order B.order.length
/-- the greatest loss of a book -/
def lossB (B : Bk) : Option Int := if ("rate" : Str) ∈ B.why.map (fun r => r.2.2) then none else some (mx0 (winsB B))
def sp_windows (C : Addr) : Sp := fun vs H Q _ => ∃ (p : Addr) (B : Bk), vs = [.ref p] ∧ BookAt C H p B ∧ B.Ok ∧ B.LaidOk ∧ ∀ t H' ws, H t = none → Same H H' → H' t = some (.lst ws) → WLs 3 H' ws (winsB B) → Q (.ref t) H'
def sp_loss (C : Addr) : Sp := fun vs H Q _ => ∃ (p : Addr) (B : Bk), vs = [.ref p] ∧ BookAt C H p B ∧ B.Ok ∧ B.LaidOk ∧ ∀ H', Same H H' → Q (oV (lossB B)) H'
theorem winP_len {α : Type} (r : α → Int) (f : α → Bool) (day : Bool) (L u : Int) (pre : List α) : ∀ n, (winP r f day L u pre n).length ≤ n * (pre.length + 1)
  | 0 => by simp [winP]
  | n + 1 => by
    have ih := winP_len r f day L u pre n
    unfold winP
    rw [List.length_append, Nat.succ_mul]
    refine Nat.add_le_add ih ?_
    cases pre[n]? with
    | none => simp
    | some s =>
      show (if eligW f day s = true then r s * (u + 1) :: ((pre.take (n + 1)).filter fun k => !f k).map (fun k => r s * (u + 1) + r k * L) else []).length ≤ _
      split
      · rw [List.length_cons, List.length_map]
        have h1 := List.length_filter_le (fun k => !f k) (pre.take (n + 1))
        have h2 := List.length_take_le' (n + 1) pre
        omega
      · simp
theorem winO_len {α : Type} (r : α → Int) (f : α → Bool) (day : Bool) (L u : Int) (ord : List α) : ∀ n, (winO r f day L u ord n).length ≤ n * (ord.length * (ord.length + 1))
  | 0 => by simp [winO]
  | n + 1 => by
    have ih := winO_len r f day L u ord n
    unfold winO
    rw [List.length_append, Nat.succ_mul]
    refine Nat.add_le_add ih ?_
    cases ord[n]? with
    | none => simp
    | some b =>
      show (if f b = true then winP r f day L u (ord.take n) (ord.take n).length else []).length ≤ _
      split
      · have h1 := winP_len r f day L u (ord.take n) (ord.take n).length
        have h2 := List.length_take_le' n ord
        have h3 : (ord.take n).length * ((ord.take n).length + 1) ≤ ord.length * (ord.length + 1) := Nat.mul_le_mul h2 (by omega)
        omega
      · simp
theorem rl_get {H : Hp} {vs : List V} {rs : List Row} (h : RL H vs rs) {i : Nat} {v : V} (hv : vs[i]? = some v) : ∃ t r, v = .ref t ∧ rs[i]? = some r ∧ H t = some (.tup [.str r.1, .str r.2.1, .str r.2.2]) := by
  obtain ⟨zs, rfl, rfl, hz⟩ := h
  rw [List.getElem?_map] at hv
  cases e : zs[i]? with
  | none => rw [e] at hv; cases hv
  | some z =>
    rw [e] at hv
    obtain rfl := Option.some.inj hv
    obtain ⟨t, h1, h2⟩ := hz z (List.mem_of_getElem? e)
    exact ⟨t, z.2, h1, by rw [List.getElem?_map, e]; rfl, h2⟩
theorem order_in {B : Bk} (lok : B.LaidOk) : ∀ n ∈ B.order, n ∈ B.ks.map (·.1) := fun n hn => by
  cases hL : B.laid with
  | none => simp [Bk.order, hL] at hn
  | some ns => exact (lok ns hL).mem_iff.mp (by simpa [Bk.order, hL] using hn)
theorem order_le {B : Bk} (ok : B.Ok) (lok : B.LaidOk) : B.order.length ≤ 6 := by
  cases hL : B.laid with
  | none => simp [Bk.order, hL]
  | some ns =>
    have h1 := (lok ns hL).length_eq
    have h2 := ok.kn.hi
    rw [List.length_map] at h1
    simp [Bk.order, hL]
    omega
theorem sqT_but {K : PySem.W.Frag} {H H' : Hp} {p t : Addr} {xs ys : List V} (h : SqT K H t xs) (hp : H p = some (.lst ys)) (b : But p H H') : SqT K H' t xs := by
  rcases h with (h | ⟨o, h⟩) | h
  · exact .inl (.inl (b _ _ h (ne_of h hp (by intro z; cases z))))
  · exact .inl (.inr ⟨o, b _ _ h (ne_of h hp (by intro z; cases z))⟩)
  · exact .inr h
section
variable {P : Program} {w : World} {K : PySem.W.Frag} {mg : Str → Option Value} {base : Heap}
theorem ok_windows_of {f C : Addr} {fd : FuncData} (T : Tx K mg) (F : FnP K "windows_of" s_windows_of f fd) (mt_Book_rate_of : Dm P w K mg base CX0 1 C "rate_of" (sp_rate_of C)) (mt_Book_is_free : Dm P w K mg base CX0 1 C "is_free" (sp_is_free C))
    (m_begins : Dpr P w K mg base CX0 1 C "begins" (sp_g_begins C)) (m_laid : Dpr P w K mg base CX0 1 C "laid" (sp_g_laid C)) (m_lengths : Dpr P w K mg base CX0 1 C "lengths" (sp_g_lengths C)) (m_due : Dpr P w K mg base CX0 1 C "due" (sp_g_due C)) :
    FnOk P w K mg base CX0 3 f fd ["book"] (sp_windows C) := by
  have sc : FnScope ["book", "laid", "found", "length", "at", "behind", "place", "second", "late", "first", "kind"] ["book"] (defScope s_windows_of) := ⟨rfl, rfl, rfl, by decide +kernel, rfl, by decide +kernel, by decide +kernel⟩
  refine F.ok sc (by rintro vs H Q E ⟨_, _, rfl, _⟩; rfl) (fun cdv A outer s H vs Q E hr h => ⟨_, PSs.nox ((Evl.pss_cut (ps_par (i := 1) (j := 2) (by rfl) sc.nd rfl rfl (by decide) rfl rfl (pa_cons (pe_ifExp (pt_cmpR op_isN1 (pe_propA m_laid (pv 0) (hr.mono (by decide)) pass0) pe_non (nomark _)) (pe_tup pa_nil) (pe_propA m_laid (pv 0) (hr.mono (by decide)) pass0)) (pa_cons (pe_lst pa_nil) pa_nil)) (by rfl))
      (pss_cons (ps_set (i := 3) sc.nd rfl (by first | exact Or.inl rfl | exact Or.inr rfl) (pe_callB (c_maxT (K := K) rfl rfl) (by rfl) T.b_max (by decide +kernel) (pa_cons (pe_propA m_lengths (pv 0) (hr.mono (by decide)) pass0) pa_nil)))
      (pss_cons (ps_for PassesOwn.never rfl (pi_enumTK (K := K) rfl (by rfl) T.b_enumerate (pa_cons (pv 1) pa_nil)) (pg_tupK (K := K) (n := 2) rfl rfl (pgs_cons (pg_name (i := 4) sc.nd rfl (by first | exact Or.inl rfl | exact Or.inr rfl)) (pgs_cons (pg_name (i := 5) sc.nd rfl (by first | exact Or.inl rfl | exact Or.inr rfl)) pgs_nil))) (pss_one (ps_for PassesOwn.never rfl (pi_enumTK (K := K) rfl (by rfl) T.b_enumerate (pa_cons (pe_ifExp (pt_val (pe_mt mt_Book_is_free (hr.mono (by decide)) pass0 (pv 0) (pa_cons (pv 5) pa_nil))) (pe_slice (sl_tupK (K := K) rfl) (pv 1) po_none (po_some (pv 4))) (pe_tup pa_nil)) pa_nil)) (pg_tupK (K := K) (n := 2) rfl rfl (pgs_cons (pg_name (i := 6) sc.nd rfl (by first | exact Or.inl rfl | exact Or.inr rfl)) (pgs_cons (pg_name (i := 7) sc.nd rfl (by first | exact Or.inl rfl | exact Or.inr rfl)) pgs_nil))) (pss_one (ps_if (PW.pt (pw_or (pt_not (pt_val (pe_mt mt_Book_is_free (hr.mono (by decide)) pass0 (pv 0) (pa_cons (pv 7) pa_nil)))) (pw_or1 (pt_cmpR op_eq (pe_propA m_begins (pv 0) (hr.mono (by decide)) pass0) (pe_glob (v := .str "day") (by rfl) T.c_DAY.choose_spec ⟨_, rfl⟩) (nomark _))))) (pss_cons (ps_set (i := 8) sc.nd rfl (by first | exact Or.inl rfl | exact Or.inr rfl) (pe_op op_mul (pe_mt mt_Book_rate_of (hr.mono (by decide)) pass0 (pv 0) (pa_cons (pv 7) pa_nil)) (pe_op op_add (pe_propA m_due (pv 0) (hr.mono (by decide)) pass0) pe_int)))
      (pss_cons (ps_expr (pe_bmK (K := K) rfl PySem.F.plainAttrs_list PySem.F.slot_list_append PySem.F.type_list_append mt_append (pv 2) (pa_cons (pe_tup (pa_cons (pv 8) (pa_cons pe_non (pa_cons (pv 7) (pa_cons (pv 5) pa_nil))))) pa_nil)))
      (pss_one (ps_for PassesOwn.never rfl (pi_listK (K := K) rfl (pe_lc (own := [("kind", 10)]) (by rfl) sc.nd (pi_tupK (K := K) rfl (pe_slice (sl_tupK (K := K) rfl) (pv 1) po_none (po_some (pe_op op_add (pv 6) pe_int)))) (blkOk_by (own := [("kind", 10)]) (N := ["book", "laid", "found", "length", "at", "behind", "place", "second", "late", "first", "kind"]) (sc := defScope s_windows_of) (by decide +kernel)) (fun _ _ _ _ _ => (pg_name (i := 10) sc.nd rfl (by first | exact Or.inl rfl | exact Or.inr rfl))) (fun _ _ _ _ _ => (pts_one (pt_not (pt_val (pe_mt mt_Book_is_free (hr.mono (by decide)) pass0 (pv 0) (pa_cons (pv 10) pa_nil)))))) (fun _ _ _ _ _ => (pv 10)))) (pg_name (i := 9) sc.nd rfl (by first | exact Or.inl rfl | exact Or.inr rfl)) (pss_one (ps_expr (pe_bmK (K := K) rfl PySem.F.plainAttrs_list PySem.F.slot_list_append PySem.F.type_list_append mt_append (pv 2) (pa_cons (pe_tup (pa_cons (pe_op op_add (pv 8) (pe_op op_mul (pe_mt mt_Book_rate_of (hr.mono (by decide)) pass0 (pv 0) (pa_cons (pv 9) pa_nil)) (pv 3))) (pa_cons (pv 9) (pa_cons (pv 7) (pa_cons (pv 5) pa_nil))))) pa_nil)))))))) pss_nil)))))
      (pss_one (ps_ret (pv 2))))))), ?_⟩)
  obtain ⟨p, B, rfl, hB, ok, lok, k⟩ := h
  have hord := order_in lok
  have hlen := order_le ok lok
  have nd := ok.kn.nm.nd
  have mem : ∀ n ∈ B.order, (n, rtB B n, frB B n) ∈ B.ks := fun n hn => lk_mem (hord n hn)
  obtain ⟨_, _, _, _, _, i1⟩ := id hB
  refine r_cut (fun σ' H' => ∃ tl f0, σ' = [some (.ref p), some (.ref tl), some (.ref f0), none, none, none, none, none, none, none, none] ∧ Same H H' ∧ H f0 = none ∧ SqT K H' tl (B.order.map V.str) ∧ H' f0 = some (.lst [])) ?_ ?_
  · walk_at "rd"
    refine r_kProp i1.i ⟨p, B, rfl, hB, fun lv hlv => ?_⟩
    cases hL : B.laid with
    | none =>
      rw [hL] at hlv
      obtain rfl : lv = .non := hlv
      walk_at "rd"
      refine r_kTup fun t H1 nt e1 ht => ?_
      walk_at "rd"
      refine r_kLst fun f0 H2 nf0 e2 hf0 => ?_
      walk_at "rd"
      exact ⟨t, f0, rfl, e1.trans e2, e1.free nf0, SqT.of (by rw [e2 _ _ ht]; simp [Bk.order, hL]), hf0⟩
    | some ns =>
      rw [hL] at hlv
      obtain ⟨t, rfl, ht⟩ := hlv
      walk_at "rd"
      refine r_kProp i1.i ⟨p, B, rfl, hB, fun lv hlv => ?_⟩
      rw [hL] at hlv
      obtain ⟨t', rfl, ht'⟩ := hlv
      walk_at "rd"
      refine r_kLst fun f0 H2 nf0 e2 hf0 => ?_
      walk_at "rd"
      exact ⟨t', f0, rfl, e2, nf0, by simpa [Bk.order, hL] using (ht'.same e2).sq, hf0⟩
  rintro σ' H1 ⟨tl, f0, rfl, e1, nf0, htl, hf0⟩
  walk_at "rd"
  refine r_kProp (e1 _ _ i1.i) ⟨p, B, rfl, hB.keep e1, fun tls htls => ?_⟩
  have hls0 : ∀ n ∈ B.ls, 0 ≤ n := fun n hn => by have := ok.l3 n hn; omega
  refine ⟨tls, B.ls, rfl, SqT.of htls, ok.l1, fun L hL1 hL2 => ?_⟩
  obtain rfl : L = mx0 B.ls := mx0_eq ⟨List.mem_cons_of_mem _ hL1, fun y hy => by
    rcases List.mem_cons.mp hy with rfl | hy
    · exact hls0 _ hL1
    · exact hL2 y hy⟩
  walk_at "rd"
  have bnd : ∀ n, n ≤ 6 → (winO (rtB B) (frB B) (dayB B) (mx0 B.ls) B.due B.order n).length ≤ 252 := fun n hn => by
    have h1 := winO_len (rtB B) (frB B) (dayB B) (mx0 B.ls) B.due B.order n
    have h2 : B.order.length * (B.order.length + 1) ≤ 6 * 7 := Nat.mul_le_mul hlen (by omega)
    have h3 : n * (B.order.length * (B.order.length + 1)) ≤ 6 * (6 * 7) := Nat.mul_le_mul hn h2
    omega
  refine r_kForET (xs := B.order.map V.str) (fun i σ' H' => ∃ (ws : List V) (y4 y5 y6 y7 y8 y9 y10 : Option V), σ' = [some (.ref p), some (.ref tl), some (.ref f0), some (.int (mx0 B.ls)), y4, y5, y6, y7, y8, y9, y10] ∧ Same H H' ∧ SqT K H' tl (B.order.map V.str) ∧ H' f0 = some (.lst ws) ∧ WLs 3 H' ws (winO (rtB B) (frB B) (dayB B) (mx0 B.ls) B.due B.order i))
    htl ⟨[], _, _, _, _, _, _, _, rfl, e1, htl, hf0, .nil⟩ (fun i σ' H' ⟨_, _, _, _, _, _, _, _, _, _, h, _⟩ => h) ?_ ?_
  · rintro i x T2 σ' H2 H3 hx ⟨ws, y4, y5, y6, y7, y8, y9, y10, rfl, e2, htl2, hf2, hW2⟩ nT e3 hT
    obtain ⟨b, rfl, hb⟩ := strs_get hx
    have hil := (List.getElem?_eq_some_iff.mp hb).1
    have hbm := List.mem_of_getElem? hb
    walk_at "rd"
    refine r_kMeth ((e2.trans e3) _ _ i1.i) rfl ?_
    walk_at "rd"
    refine ⟨p, B, b, rtB B b, frB B b, rfl, hB.keep (e2.trans e3), nd, mem b hbm, ?_⟩
    walk_at "rd"
    have htl3 : SqT K H3 tl (B.order.map V.str) := SqT.same e3 htl2
    have e03 := e2.trans e3
    have next : winO (rtB B) (frB B) (dayB B) (mx0 B.ls) B.due B.order (i + 1) = winO (rtB B) (frB B) (dayB B) (mx0 B.ls) B.due B.order i ++ (if frB B b = true then winP (rtB B) (frB B) (dayB B) (mx0 B.ls) B.due (B.order.take i) (B.order.take i).length else []) := by
      rw [winO, hb]
    refine w_b (fun cf => ?_) (fun cf => ?_)
    · walk_at "rd"
      refine r_slT_take htl3 (by omega) (by rw [List.length_map]; omega) fun ts H4 nts e4 hts => ?_
      rw [Int.toNat_natCast, ← List.map_take] at hts
      have e04 := e03.trans e4
      have hf4 : H4 f0 = some (.lst ws) := e4 _ _ (e3 _ _ hf2)
      walk_at "rd"
      refine r_kForET (xs := (B.order.take i).map V.str) (fun j σ' H' => ∃ (ws : List V) (y6 y7 y8 y9 y10 : Option V), σ' = [some (.ref p), some (.ref tl), some (.ref f0), some (.int (mx0 B.ls)), some (.int (i : Nat)), some (.str b), y6, y7, y8, y9, y10] ∧ Same H H' ∧ SqT K H' tl (B.order.map V.str) ∧ H' ts = some (.tup ((B.order.take i).map V.str)) ∧ H' f0 = some (.lst ws) ∧
          WLs 3 H' ws (winO (rtB B) (frB B) (dayB B) (mx0 B.ls) B.due B.order i ++ winP (rtB B) (frB B) (dayB B) (mx0 B.ls) B.due (B.order.take i) j))
        (SqT.of hts) ⟨ws, _, _, _, _, _, rfl, e04, SqT.same e4 htl3, hts, hf4, by rw [winP, List.append_nil]; exact (hW2.same e3).same e4⟩ (fun j σ' H' ⟨_, _, _, _, _, _, _, _, _, h, _⟩ => SqT.of h) ?_ ?_
      · rintro j x T5 σ' H5 H6 hx ⟨ws, y6, y7, y8, y9, y10, rfl, e5, htl5, hts5, hf5, hW5⟩ nT5 e6 hT6
        obtain ⟨s, rfl, hs⟩ := strs_get hx
        have hjl := (List.getElem?_eq_some_iff.mp hs).1
        rw [List.length_take] at hjl
        have hsm : s ∈ B.order := List.mem_of_mem_take (List.mem_of_getElem? hs)
        have e06 := e5.trans e6
        have htl6 : SqT K H6 tl (B.order.map V.str) := SqT.same e6 htl5
        have hts6 := e6 _ _ hts5
        have hf6 := e6 _ _ hf5
        have hW6 := hW5.same e6
        have hBx := fun {H' : Hp} (e : Same H H') => hB.keep e
        have rs := ok.kn.rt _ (mem s hsm)
        have rs1 : 0 ≤ rtB B s := rs.1
        have rs2 : rtB B s ≤ 1000 := rs.2
        have cm1 : CMul (rtB B s) (B.due + 1) := .inl ⟨by omega, by omega⟩
        have wl := bnd (i + 1) (by omega)
        rw [next, if_pos cf, List.length_append] at wl
        have wl3 : (winP (rtB B) (frB B) (dayB B) (mx0 B.ls) B.due (B.order.take i) (B.order.take i).length).length ≤ 252 := by omega
        have nextP : winP (rtB B) (frB B) (dayB B) (mx0 B.ls) B.due (B.order.take i) (j + 1) = winP (rtB B) (frB B) (dayB B) (mx0 B.ls) B.due (B.order.take i) j ++ (if eligW (frB B) (dayB B) s = true then rtB B s * (B.due + 1) :: (((B.order.take i).take (j + 1)).filter fun k => !frB B k).map (fun k => rtB B s * (B.due + 1) + rtB B k * mx0 B.ls) else []) := by
          rw [winP, hs]
        walk_at "rd"
        refine r_kMeth (e06 _ _ i1.i) rfl ?_
        walk_at "rd"
        refine ⟨p, B, s, rtB B s, frB B s, rfl, hBx e06, nd, mem s hsm, ?_⟩
        walk_at "rd"
        refine w_nb (fun ca => ?e1) (fun ca => ?r1)
        case' r1 =>
          walk_at "rd"
          refine r_kProp (e06 _ _ i1.i) ⟨p, B, rfl, hBx e06, ?_⟩
          walk_at "rd"
          refine w_dec (fun cd => ?e2) (fun cd => ?n2)
        case n2 =>
          have el : ¬ eligW (frB B) (dayB B) s = true := by
            unfold eligW dayB
            rw [ca, decide_eq_false cd]
            decide
          walk_at "rd"
          exact ⟨ws, _, _, _, _, _, rfl, e06, htl6, hts6, hf6, by rw [nextP, if_neg el, List.append_nil]; exact hW6⟩
        case' e1 =>
          have el : eligW (frB B) (dayB B) s = true := by
            unfold eligW
            rw [ca]
            rfl
        case' e2 =>
          have el : eligW (frB B) (dayB B) s = true := by
            unfold eligW dayB
            rw [ca, decide_eq_true cd]
            decide
        case e1 | e2 =>
          walk_at "rd"
          refine r_kMeth (e06 _ _ i1.i) rfl ?_
          walk_at "rd"
          refine ⟨p, B, s, rtB B s, frB B s, rfl, hBx e06, nd, mem s hsm, ?_⟩
          walk_at "rd"
          refine r_kProp (e06 _ _ i1.i) ⟨p, B, rfl, hBx e06, ?_⟩
          walk_at "rd"
          refine r_kTup fun t7 H7 nt7 e7 ht7 => ?_
          have hf7 := e7 _ _ hf6
          have wl7 := hW6.len
          have wp7 := winP_len (rtB B) (frB B) (dayB B) (mx0 B.ls) B.due (B.order.take i) j
          rw [List.length_append] at wl7
          have wq7 : j * ((B.order.take i).length + 1) ≤ 6 * 7 := Nat.mul_le_mul (by omega) (by rw [List.length_take]; omega)
          walk_at "rd"
          refine r_append hf7 (by omega) fun H8 b8 hf8 => ?_
          have ts8 : ∀ u xs, H7 u = some (.tup xs) → H8 u = some (.tup xs) := fun u xs hu => b8 _ _ hu (ne_of hu hf7 (by intro z; cases z))
          have e08 : Same H H8 := Same.mut (e06.trans e7) b8 nf0
          have htl8 : SqT K H8 tl (B.order.map V.str) := sqT_but (SqT.same e7 htl6) hf7 b8
          have hts8 := ts8 _ _ (e7 _ _ hts6)
          have hW8 := ((hW6.same e7).keep ts8).snoc (ts8 _ _ ht7)
          walk_at "rd"
          refine r_slT_take htl8 (by omega) (by rw [List.length_map]; omega) fun tc H9 ntc e9 htc => ?_
          have tk2 : ((B.order.map V.str).take ((j : Int) + 1).toNat) = ((B.order.take i).take (j + 1)).map V.str := by
            rw [← List.map_take, List.take_take, Nat.min_eq_left (by omega)]
            congr 2
          rw [tk2] at htc
          have e09 := e08.trans e9
          have hf9 := e9 _ _ hf8
          refine r_kLcTu (xs := ((B.order.take i).take (j + 1)).map V.str) (fun Da n H' => Same H9 H' ∧ H' Da = some (.lst (((((B.order.take i).take (j + 1)).take n).filter fun k => !frB B k).map V.str))) (SqT.of htc) (fun Da H' _ e h => ⟨e, by rw [List.take_zero]; exact h⟩) (fun Da n H' h => SqT.of (h.1 _ _ htc)) ?_ ?_
          · rintro Da n x H10 nDa hx ⟨e10, hDa⟩
            obtain ⟨k1, rfl, hk1⟩ := strs_get hx
            have hk1m : k1 ∈ B.order := List.mem_of_mem_take (List.mem_of_mem_take (List.mem_of_getElem? hk1))
            have hnl := (List.getElem?_eq_some_iff.mp hk1).1
            rw [List.length_take, List.length_take] at hnl
            walk_at "rd"
            refine r_kMeth ((e09.trans e10) _ _ i1.i) rfl ?_
            walk_at "rd"
            refine ⟨p, B, k1, rtB B k1, frB B k1, rfl, hBx (e09.trans e10), nd, mem k1 hk1m, ?_⟩
            walk_at "rd"
            have fl := List.length_filter_le (fun k => !frB B k) ((((B.order.take i).take (j + 1)).take n))
            rw [List.length_take] at fl
            refine w_nb (fun cx => ?_) (fun cx => ?_)
            · walk_at "rd"
              refine r_kLcE hDa (by rw [List.length_map]; omega) fun H11 b11 h11 => ⟨Same.mut e10 b11 nDa, ?_⟩
              rw [take_more hk1, List.filter_append, List.map_append]
              have z : List.filter (fun k => !frB B k) [k1] = [k1] := by simp [cx]
              rw [z]
              exact h11
            · refine ⟨e10, ?_⟩
              rw [take_more hk1, List.filter_append, List.map_append]
              have z : List.filter (fun k => !frB B k) [k1] = [] := by simp [cx]
              rw [z, List.map_nil, List.append_nil]
              exact hDa
          · rintro Da H10 nDa ⟨e10, hDa⟩
            rw [List.length_map, List.take_length] at hDa
            walk_at "rd"
            have e010 := e09.trans e10
            have nDf : f0 ≠ Da := fun z => by
              rw [z] at hf9
              rw [hf9] at nDa
              cases nDa
            refine r_kForL (xs := (((B.order.take i).take (j + 1)).filter fun k => !frB B k).map V.str) (fun n σ' H' => ∃ (ws : List V) (y9 y10 : Option V), σ' = [some (.ref p), some (.ref tl), some (.ref f0), some (.int (mx0 B.ls)), some (.int (i : Nat)), some (.str b), some (.int (j : Nat)), some (.str s), some (.int (rtB B s * (B.due + 1))), y9, y10] ∧ Same H H' ∧ SqT K H' tl (B.order.map V.str) ∧ H' ts = some (.tup ((B.order.take i).map V.str)) ∧
                H' Da = some (.lst ((((B.order.take i).take (j + 1)).filter fun k => !frB B k).map V.str)) ∧ H' f0 = some (.lst ws) ∧
                WLs 3 H' ws ((winO (rtB B) (frB B) (dayB B) (mx0 B.ls) B.due B.order i ++ winP (rtB B) (frB B) (dayB B) (mx0 B.ls) B.due (B.order.take i) j) ++ [rtB B s * (B.due + 1)] ++ ((((B.order.take i).take (j + 1)).filter fun k => !frB B k).take n).map (fun k => rtB B s * (B.due + 1) + rtB B k * mx0 B.ls)))
              (SqL.of hDa) ⟨_, _, _, rfl, e010, SqT.same e10 (SqT.same e9 htl8), e10 _ _ (e9 _ _ hts8), hDa, e10 _ _ hf9, by rw [List.take_zero, List.map_nil, List.append_nil]; exact (hW8.same e9).same e10⟩ (fun n σ' H' ⟨_, _, _, _, _, _, _, h, _⟩ => SqL.of h) ?_ ?_
            · rintro n x σ' H11 hx ⟨ws, y9, y10, rfl, e11, htl11, hts11, hDa11, hf11, hW11⟩
              obtain ⟨k1, rfl, hk1⟩ := strs_get hx
              have hk1f := List.mem_of_getElem? hk1
              have hk1m : k1 ∈ B.order := List.mem_of_mem_take (List.mem_of_mem_take (List.mem_filter.mp hk1f).1)
              have hnl := (List.getElem?_eq_some_iff.mp hk1).1
              have fl := List.length_filter_le (fun k => !frB B k) (((B.order.take i).take (j + 1)))
              rw [List.length_take, List.length_take] at fl
              have r1s := ok.kn.rt _ (mem k1 hk1m)
              have cm2 : CMul (rtB B k1) (mx0 B.ls) := .inl ⟨by have := r1s.1; show _ < rtB B k1; have : 0 ≤ rtB B k1 := r1s.1; omega, by have : rtB B k1 ≤ 1000 := r1s.2; omega⟩
              walk_at "rd"
              refine r_kMeth (e11 _ _ i1.i) rfl ?_
              walk_at "rd"
              refine ⟨p, B, k1, rtB B k1, frB B k1, rfl, hBx e11, nd, mem k1 hk1m, ?_⟩
              walk_at "rd"
              refine r_kTup fun t12 H12 nt12 e12 ht12 => ?_
              walk_at "rd"
              have hl11 := hW11.len
              simp only [List.length_append, List.length_map, List.length_take, List.length_singleton] at hl11
              have hf12 := e12 _ _ hf11
              refine r_append hf12 (by omega) fun H13 b13 hf13 => ?_
              have ts13 : ∀ u xs, H12 u = some (.tup xs) → H13 u = some (.tup xs) := fun u xs hu => b13 _ _ hu (ne_of hu hf12 (by intro z; cases z))
              walk_at "rd"
              refine ⟨_, _, _, rfl, Same.mut (e11.trans e12) b13 nf0, sqT_but (SqT.same e12 htl11) hf12 b13, ts13 _ _ (e12 _ _ hts11), b13 _ _ (e12 _ _ hDa11) nDf.symm, hf13, ?_⟩
              rw [take_more hk1, List.map_append, ← List.append_assoc]
              exact ((hW11.same e12).keep ts13).snoc (ts13 _ _ ht12)
            · rintro σ' H11 ⟨ws, y9, y10, rfl, e11, htl11, hts11, hDa11, hf11, hW11⟩
              rw [List.length_map, List.take_length] at hW11
              walk_at "rd"
              exact ⟨_, _, _, _, _, _, rfl, e11, htl11, hts11, hf11, by
                rw [nextP, if_pos el, ← List.append_assoc]
                simpa using hW11⟩
      · rintro σ' H5 ⟨ws5, y6, y7, y8, y9, y10, rfl, e5, htl5, hts5, hf5, hW5⟩
        rw [List.length_map] at hW5
        walk_at "rd"
        exact ⟨_, _, _, _, _, _, _, _, rfl, e5, htl5, hf5, by rw [next, if_pos cf]; exact hW5⟩
    · walk_at "rd"
      refine r_kTup fun ts H4 nts e4 hts => ?_
      walk_at "rd"
      refine r_kForET (xs := []) (fun j σ' H' => ∃ (y6 y7 y8 y9 y10 : Option V), σ' = [some (.ref p), some (.ref tl), some (.ref f0), some (.int (mx0 B.ls)), some (.int (i : Nat)), some (.str b), y6, y7, y8, y9, y10] ∧ Same H4 H') (SqT.of hts) ⟨_, _, _, _, _, rfl, Same.refl _⟩ (fun j σ' H' ⟨_, _, _, _, _, _, h⟩ => SqT.of (h _ _ hts)) (fun j x T σ' H1 H' hx => by simp at hx) ?_
      rintro σ' H5 ⟨y6, y7, y8, y9, y10, rfl, e5⟩
      have e35 := e4.trans e5
      walk_at "rd"
      exact ⟨_, _, _, _, _, _, _, _, rfl, e03.trans e35, SqT.same e35 htl3, e35 _ _ (e3 _ _ hf2), by rw [next, if_neg (by rw [cf]; decide), List.append_nil]; exact (hW2.same e3).same e35⟩
  · rintro σ' H2 ⟨ws, y4, y5, y6, y7, y8, y9, y10, rfl, e2, htl2, hf2, hW2⟩
    rw [List.length_map] at hW2
    walk_at "rd"
    exact k f0 H2 ws nf0 e2 hf2 hW2
theorem ok_greatest_loss {f C : Addr} {fd : FuncData} (T : Tx K mg) (F : FnP K "greatest_loss" s_greatest_loss f fd) (d_need_book : Dn P w K mg base CX0 1 "need_book" ["value"] (sp_need_book C)) (d_reasons_of : Dn P w K mg base CX0 4 "reasons_of" ["book"] (sp_reasons C)) (d_windows_of : Dn P w K mg base CX0 3 "windows_of" ["book"] (sp_windows C)) :
    FnOk P w K mg base CX0 5 f fd ["book"] (sp_loss C) := by
  have sc : FnScope ["book", "ahead", "behind", "why", "window"] ["book"] (defScope s_greatest_loss) := ⟨rfl, rfl, rfl, by decide +kernel, rfl, by decide +kernel, by decide +kernel⟩
  refine F.ok sc (by rintro vs H Q E ⟨_, _, rfl, _⟩; rfl) (fun cdv A outer s H vs Q E hr h => ⟨_, PSs.nox ((pss_cons (ps_expr (pe_fn d_need_book (hr.mono (by decide)) pass0 (pa_cons (pv 0) pa_nil)))
      (pss_cons (ps_if (pt_cmpR (in_seqK (K := K) rfl) (pe_glob (v := .str "rate") (by rfl) T.c_RATE.choose_spec ⟨_, rfl⟩) (pe_lc (own := [("ahead", 1), ("behind", 2), ("why", 3)]) (by rfl) sc.nd (pi_listK (K := K) rfl (pe_fn d_reasons_of (hr.mono (by decide)) pass0 (pa_cons (pv 0) pa_nil))) (blkOk_by (own := [("ahead", 1), ("behind", 2), ("why", 3)]) (N := ["book", "ahead", "behind", "why", "window"]) (sc := defScope s_greatest_loss) (by decide +kernel)) (fun _ _ _ _ _ => (pg_tupK (K := K) (n := 3) rfl rfl (pgs_cons (pg_name (i := 1) sc.nd rfl (by first | exact Or.inl rfl | exact Or.inr rfl)) (pgs_cons (pg_name (i := 2) sc.nd rfl (by first | exact Or.inl rfl | exact Or.inr rfl)) (pgs_cons (pg_name (i := 3) sc.nd rfl (by first | exact Or.inl rfl | exact Or.inr rfl)) pgs_nil))))) (fun _ _ _ _ _ => pts_nil) (fun _ _ _ _ _ => (pv 3))) (by rfl)) (pss_one (ps_ret pe_non)) pss_nil)
      (pss_one (ps_ret (pe_callB (c_maxK (K := K) rfl rfl) (by rfl) T.b_max (by decide +kernel) (pa_cons (pe_lst (pa_cons pe_int (pa_starK (K := K) rfl (pe_lc (own := [("window", 4)]) (by rfl) sc.nd (pi_listK (K := K) rfl (pe_fn d_windows_of (hr.mono (by decide)) pass0 (pa_cons (pv 0) pa_nil))) (blkOk_by (own := [("window", 4)]) (N := ["book", "ahead", "behind", "why", "window"]) (sc := defScope s_greatest_loss) (by decide +kernel)) (fun _ _ _ _ _ => (pg_name (i := 4) sc.nd rfl (by first | exact Or.inl rfl | exact Or.inr rfl))) (fun _ _ _ _ _ => pts_nil) (fun _ _ _ _ _ => (pe_ix (ix_tupK (K := K) rfl) (pv 4) pe_int (fun _ _ => rfl)))) pa_nil))) pa_nil))))))), ?_⟩)
  obtain ⟨p, B, rfl, hB, ok, lok, k⟩ := h
  walk_at "rd"
  refine ⟨p, B, rfl, hB, ?_⟩
  walk_at "rd"
  refine ⟨p, B, rfl, hB, ok, lok, fun t H1 ws nt e1 ht hR => ?_⟩
  walk_at "rd"
  have nwl : ws.length ≤ 36 := by
    rw [hR.len]
    have h1 := rowsOf_len (w := wordB B.beg B.ks) (ps := prs B.order B.order.length)
    have h2 : (prs B.order B.order.length).length ≤ 6 * 6 := Nat.le_trans prs_len (Nat.mul_le_mul (order_le ok lok) (order_le ok lok))
    have h3 : B.why.length = (rowsOf (wordB B.beg B.ks) (prs B.order B.order.length)).length := by
      unfold Bk.why
      rw [srtR_len]
    omega
  refine r_kLcL (xs := ws) (fun Da i H' => Same H1 H' ∧ H' Da = some (.lst ((B.why.take i).map fun r => V.str r.2.2))) (SqL.of ht) (fun Da H' _ e h => ⟨e, h⟩) (fun Da i H' h => SqL.of (h.1 _ _ ht)) ?_ ?_
  · rintro Da i x H2 nDa hx ⟨e2, hDa⟩
    obtain ⟨tr, r, rfl, hr, htr⟩ := rl_get hR hx
    walk_at "rd"
    refine r_gtup (SqT.of (e2 _ _ htr)) rfl ?_
    walk_at "rd"
    have hil := (List.getElem?_eq_some_iff.mp hx).1
    refine r_kLcE hDa (by rw [List.length_map, List.length_take]; omega) fun H3 b3 h3 => ⟨Same.mut e2 b3 nDa, ?_⟩
    rw [take_more hr, List.map_append]
    exact h3
  rintro Da H2 nDa ⟨e2, hDa⟩
  have hwl : B.why.take ws.length = B.why := by rw [hR.len, List.take_length]
  rw [hwl] at hDa
  have hDa2 : H2 Da = some (.lst ((B.why.map fun r => r.2.2).map V.str)) := by rw [List.map_map]; exact hDa
  refine r_inS (SqL.of hDa2) ?_
  walk_at "rd"
  have e02 := e1.trans e2
  refine w_dec (fun c => ?_) (fun c => ?_)
  · walk_at "rd"
    have := k H2 e02
    unfold lossB at this
    rw [if_pos c] at this
    exact this
  walk_at "rd"
  refine ⟨p, B, rfl, hB.keep e02, ok, lok, fun tw H3 wv ntw e3 htw hW => ?_⟩
  walk_at "rd"
  have wlb : wv.length ≤ 252 := by
    rw [hW.len]
    have h1 := winO_len (rtB B) (frB B) (dayB B) (mx0 B.ls) B.due B.order B.order.length
    have h2 : B.order.length * (B.order.length + 1) ≤ 6 * 7 := Nat.mul_le_mul (order_le ok lok) (by have := order_le ok lok; omega)
    have h3 : B.order.length * (B.order.length * (B.order.length + 1)) ≤ 6 * (6 * 7) := Nat.mul_le_mul (order_le ok lok) h2
    unfold winsB
    omega
  refine r_kLcL (xs := wv) (fun Da i H' => Same H3 H' ∧ H' Da = some (.lst (((winsB B).take i).map V.int))) (SqL.of htw) (fun Da H' _ e h => ⟨e, h⟩) (fun Da i H' h => SqL.of (h.1 _ _ htw)) ?_ ?_
  · rintro Da i x H4 nDa hx ⟨e4, hDa⟩
    obtain ⟨tr, y, r, rfl, hy, htr, _⟩ := hW.get hx
    have hil := (List.getElem?_eq_some_iff.mp hx).1
    walk_at "rd"
    refine r_ixT (SqT.of (e4 _ _ htr)) (at_get (n := 0) rfl rfl) ?_
    refine r_kLcE hDa (by rw [List.length_map, List.length_take]; omega) fun H5 b5 h5 => ⟨Same.mut e4 b5 nDa, ?_⟩
    rw [take_more hy, List.map_append]
    exact h5
  rintro Db H4 nDb ⟨e4, hDb⟩
  have hwl2 : (winsB B).take wv.length = winsB B := by rw [hW.len, List.take_length]
  rw [hwl2] at hDb
  refine r_kStarL (SqL.of hDb) ?_
  walk_at "rd"
  refine r_kLst (hz := by simp; have := hW.len; omega) fun tm H5 ntm e5 htm => ?_
  have htm2 : H5 tm = some (.lst ((0 :: winsB B).map V.int)) := by rw [htm]; simp
  refine r_maxI (SqL.of htm2) (by simp) fun m hm hle => ?_
  walk_at "rd"
  have := k H5 (e02.trans (e3.trans (e4.trans e5)))
  unfold lossB at this
  rw [if_neg c] at this
  obtain rfl : m = mx0 (winsB B) := mx0_eq ⟨hm, hle⟩
  exact this
end
end Wp
set_option Elab.async false
set_option linter.all false
set_option maxRecDepth 100000
set_option maxHeartbeats 4000000
/-! min of a list of data that are alike; max of three ints. -/
namespace Wp
open PySem PySem.Spec PyProof.Rows L2
theorem readsAll_of {X : Cx} {pins : List (Addr × Obj)} {σ : L2.St} {H : Hp} {s : Shared} (I : Inv X pins σ H s) : ∀ {xs : List V} {ds : List PyData} {us : List Value}, Vals xs us → DpAll X.K H xs ds → ∃ as, ReadsAll s.heap us ds as
  | _, _, _, .nil, .nil => ⟨_, .nil⟩
  | _, _, _, .cons r rr, .cons d dd => by
    obtain ⟨a1, h1⟩ := Dp.reads I _ _ _ d r
    obtain ⟨a2, h2⟩ := readsAll_of I rr dd
    exact ⟨_, .cons h1 h2⟩
/-- min of data: the first of the least -/
def rMinD (K : PySem.W.Frag) : List V → Hp → VK → Prop := fun vs H Q => ∃ (a : Addr) (xs : List V) (d : PyData) (ds : List PyData), vs = [.ref a] ∧ SqL K H a xs ∧ DpAll K H xs (d :: ds) ∧ PySem.W.AlikeAll (d :: ds) ∧ PyData.depthAll (d :: ds) ≤ 20 ∧
  ∀ (i : Nat) v, xs[i]? = some v → (d :: ds)[i]? = some (PySem.W.minD d ds) → Q v H
theorem c_minD {X : Cx} {K : PySem.W.Frag} {k : Nat} (hK : X.K = K) (hc : X.calm = true) (hr : Room k X.A) : CallR X (.builtin "min") (rMinD K) := by
  subst hK
  intro pins s σ H vs us Q I r h
  obtain ⟨a, xs, d, ds, rfl, hs, hd, al, dep, q⟩ := h
  obtain ⟨u, rfl, ru⟩ := vals1 r
  obtain rfl : u = Value.ref a := ru
  obtain ⟨its, rv, pl, _⟩ := I.list hs
  obtain ⟨as, hR⟩ := readsAll_of I rv hd
  have hu := hr.units
  have hR' : ReadsAll s.heap its.toArray.toList (d :: ds) as := by simpa using hR
  refine PySem.W.min_list_data (vs := its.toArray) (I.ok.hd hc) pl.isList hR' al (by omega) fun i v h' tk bs hv hm kp => ?_
  have hv' : its[i]? = some v := by simpa using hv
  have hi := (List.getElem?_eq_some_iff.mp hv').1
  have hix : i < xs.length := by rw [rv.length]; exact hi
  obtain ⟨u2, e2, r2⟩ := rv.get (List.getElem?_eq_getElem hix)
  obtain rfl : u2 = v := Option.some.inj (e2.symm.trans hv')
  have hid : i < (d :: ds).length := by rw [← dpAll_len hd]; exact hix
  obtain ⟨bs2, hR2⟩ : ∃ bs2, Reads s.heap u2 ((d :: ds)[i]) bs2 := by
    have key : ∀ {us : List Value} {es : List PyData} {as : List Addr}, ReadsAll s.heap us es as → ∀ (i : Nat) (v : Value) (e : PyData), us[i]? = some v → es[i]? = some e → ∃ b, Reads s.heap v e b := by
      intro us
      induction us with
      | nil => intro es as h i v e h1; simp at h1
      | cons x us ih =>
        intro es as h i v e h1 h2
        cases h with
        | cons r rr =>
          cases i with
          | zero =>
            simp at h1 h2
            subst h1 h2
            exact ⟨_, r⟩
          | succ i => exact ih rr i v e (by simpa using h1) (by simpa using h2)
    exact key hR i u2 _ hv' (List.getElem?_eq_getElem hid)
  have un := (PySem.Reads.unique (PyProof.Rows.Reads.keeps kp hR2) _ _ hm).1
  refine ⟨xs[i], H, I.kept kp, r2, q i _ (List.getElem?_eq_getElem hix) ?_⟩
  rw [List.getElem?_eq_getElem hid, un]
/-- the least pair's number -/
theorem minD_pair {β : Type} (g : β → Int) (z : β → Str) (x : β) (xs : List β) : ∃ y ∈ x :: xs, PySem.W.minD (.tuple [.int (g x), .str (z x)]) (xs.map fun y => .tuple [.int (g y), .str (z y)]) = .tuple [.int (g y), .str (z y)] ∧ ∀ w ∈ x :: xs, g y ≤ g w := by
  induction xs generalizing x with
  | nil => exact ⟨x, List.mem_singleton.mpr rfl, rfl, fun w hw => by rw [List.mem_singleton.mp hw]; exact Int.le_refl _⟩
  | cons b xs ih =>
    have e : PySem.W.dataLt (.tuple [.int (g b), .str (z b)]) (.tuple [.int (g x), .str (z x)]) = true ∨ PySem.W.dataLt (.tuple [.int (g b), .str (z b)]) (.tuple [.int (g x), .str (z x)]) = false := by
      cases PySem.W.dataLt (.tuple [.int (g b), .str (z b)]) (.tuple [.int (g x), .str (z x)]) <;> simp
    have dl := PySem.W.dataLt_pair (x := PyData.int (g b)) (y := PyData.str (z b)) (x' := PyData.int (g x)) (y' := PyData.str (z x)) (by simp [PySem.W.alike]) (by simp [PySem.W.alike])
    rw [PySem.W.dataLt_int, PySem.W.dataLt_str] at dl
    rcases e with e | e
    · obtain ⟨y, h1, h2, h3⟩ := ih b
      refine ⟨y, List.mem_cons_of_mem _ h1, ?_, fun w hw => ?_⟩
      · rw [← h2]
        show PySem.W.minD (if PySem.W.dataLt (.tuple [.int (g b), .str (z b)]) (.tuple [.int (g x), .str (z x)]) = true then _ else _) _ = _
        rw [if_pos e]
      · rcases List.mem_cons.mp hw with rfl | hw
        · have := h3 b (List.mem_cons_self ..)
          rw [dl] at e
          have : g b ≤ g w := by
            by_cases h : g b = g w
            · omega
            · simp [PyData.eqv, h] at e
              omega
          omega
        · exact h3 w hw
    · obtain ⟨y, h1, h2, h3⟩ := ih x
      refine ⟨y, ?_, ?_, fun w hw => ?_⟩
      · rcases List.mem_cons.mp h1 with h | h
        · rw [h]; exact List.mem_cons_self ..
        · exact List.mem_cons_of_mem _ (List.mem_cons_of_mem _ h)
      · rw [← h2]
        show PySem.W.minD (if PySem.W.dataLt (.tuple [.int (g b), .str (z b)]) (.tuple [.int (g x), .str (z x)]) = true then _ else _) _ = _
        rw [if_neg (by rw [e]; decide)]
      · rcases List.mem_cons.mp hw with rfl | hw
        · exact h3 w (List.mem_cons_self ..)
        · rcases List.mem_cons.mp hw with rfl | hw
          · have := h3 x (List.mem_cons_self ..)
            rw [dl] at e
            have : g x ≤ g w := by
              by_cases h : g w = g x
              · omega
              · simp [PyData.eqv, h] at e
                omega
            omega
          · exact h3 w (List.mem_cons_of_mem _ hw)
end Wp
set_option Elab.async false
set_option linter.all false
set_option maxRecDepth 100000
set_option maxHeartbeats 4000000
/-! list(range(a, b, c)) -/
namespace Wp
open PySem PySem.Spec PyProof.Rows L2
def rg3 (i c : Int) (n : Nat) : List V := (List.range n).map fun k : Nat => V.int (i + (k : Int) * c)
def kRg3 (Q : VK) : List V → Hp → Prop := fun vs H1 => ∃ (i j c : Int) (n : Nat), vs = [.int i, .int j, .int c] ∧ RgC i j c n ∧ n ≤ 1000000 ∧ ∀ q, H1 q = none → Q (.ref q) (upd H1 q (.lst (rg3 i c n)))
def tRg3 (ta : TA) : TE := fun σ H Q => ta σ H (kRg3 Q)
section
variable {X : Cx} {a b c : Expr} {ta : TA} {p p2 pos pos2 : Pos}
theorem vals_rg3 {i k : Int} {n : Nat} {acc : Array Value} (h : ItemsOf (fun j v => ∃ t, v = .int (i + j * k) t) acc n) : Vals (rg3 i k n) acc.toList := by
  have el : acc.toList.length = n := by
    rw [Array.length_toList]
    exact h.1
  unfold rg3
  rw [← el]
  refine vals_of_get acc.toList _ fun j u hj => ?_
  obtain ⟨t, rfl⟩ := h.2 j u (by rw [← hj, Array.getElem?_toList])
  exact ⟨t, rfl⟩
theorem pe_listRg3 (hc : X.calm = true) (hl : Gl X "list") (ml : X.mg "list" = none) (hr : Gl X "range") (mr : X.mg "range" = none) (ha : PA X [a, b, c] ta)
    (hs : starEach [a, b, c] X.env = (false, eval a X.env) :: starEach [b, c] X.env := by rfl) (hpl : (backTo pos2 (starEach [b, c] X.env)).any (·.1) = false := by rfl)
    (na : starEach [.Call (.Name "range" p2) [a, b, c] [] pos2] X.env = (false, eval (.Call (.Name "range" p2) [a, b, c] [] pos2) X.env) :: starEach [] X.env := by rfl) :
    PE X (.Call (.Name "list" p) [.Call (.Name "range" p2) [a, b, c] [] pos2] [] pos) (tRg3 ta) := by
  refine ⟨fun pins s σ H Q I h => ?_⟩
  have inner : wpAny (model X.prog X.w) X.A (eval (.Call (.Name "range" p2) [a, b, c] [] pos2) X.env)
      (fun x s' => ∃ (r : Addr) (i j k : Int) (n : Nat) (t u v : Tok) (H' : Hp), x = .ref r ∧ IsRange s'.heap r i j k t u v ∧ Inv X pins σ H' s' ∧ RgC i j k n ∧ n ≤ 1000000 ∧ ∀ q, H' q = none → Q (.ref q) (upd H' q (.lst (rg3 i k n)))) X.xe s := by
    refine Call_ (ld_blt I hr mr boot_range (PyProof.Rows.callWith_type1 (thn (ha.run pos2 pins s σ H _ I h) ?_) hs hpl))
    rintro us s1 ⟨vs, H1, I1, r1, i, j, k, n, e, rg, hn, q⟩
    subst e
    obtain ⟨c0, c1, c2, c3⟩ := id rg
    match us, r1 with
    | _, .cons r (.cons r' (.cons r'' .nil)) =>
      obtain ⟨t, rfl⟩ := r
      obtain ⟨t', rfl⟩ := r'
      obtain ⟨t'', rfl⟩ := r''
      exact call_range_3 c0 ⟨_, i, j, k, n, t, t', t'', H1, rfl, IsRange.new .., I1.kept fun b o z => Heap.get?_push_of_some _ z, rg, hn, q⟩ (.inl (PyProof.noPylong_small c1))
  refine Call_ (ld_blt I hl ml boot_list (PyProof.Rows.callWith_type1 (args_cons (thn inner ?_) na) na))
  rintro x s1 ⟨r, i, j, k, n, t, u, v, H1, rfl, hr1, I1, ⟨c0, c1, c2, c3⟩, hn, q⟩
  refine args_nil ?_
  refine call_list_range (n := n) (I1.ok.hd hc) hr1 c2 c3 (by omega) fun h' tk acc cap kp hobj items => ?_
  refine ⟨.ref s1.heap.objs.size, upd H1 s1.heap.objs.size (.lst (rg3 i k n)), I1.laid kp (Nat.le_refl _) ?_, rfl, q _ (I1.hok.fresh (Nat.le_refl _))⟩
  refine ⟨?_, acc.toList, cap, vals_rg3 items, ?_⟩
  · unfold rg3
    rw [List.length_map, List.length_range]
    exact sz5 hn
  · rw [Array.toArray_toList]
    exact hobj
theorem r_rg3 {σ : L2.St} {H : Hp} {Q : VK} (q : ta σ H (kRg3 Q)) : tRg3 ta σ H Q := q
theorem r_kRg3 {H : Hp} {Q : VK} {i j c : Int} {n : Nat} (h : RgC i j c n) (hn : n ≤ 1000000) (q : ∀ p H', H p = none → Same H H' → H' p = some (.lst (rg3 i c n)) → Q (.ref p) H') : kRg3 Q [.int i, .int j, .int c] H :=
  ⟨i, j, c, n, rfl, h, hn, fun p hp => q p _ hp (Same.new hp) upd_same⟩
end
/-- downward by d -/
theorem rgc_down {x d : Int} (h0 : 0 ≤ x) (h1 : x ≤ 1000000) (hd : 1 ≤ d) (hd2 : d ≤ 1000000) : RgC x 0 (0 - d) ((x + d - 1) / d).toNat := by
  have hs : Builtin.Range.rangeSize x 0 (0 - d) = (x + d - 1) / d := by
    unfold Builtin.Range.rangeSize
    rw [if_neg (by omega)]
    by_cases hx : x > 0
    · rw [if_pos hx]
      have e : -(0 - d) = d := by omega
      rw [e]
      have e2 : x + d - 1 = (x - 0 - 1) + 1 * d := by omega
      rw [e2, Int.add_mul_ediv_right _ _ (by omega)]
    · have hx0 : x = 0 := by omega
      subst hx0
      rw [if_neg (by omega), Int.ediv_eq_zero_of_lt (by omega) (by omega)]
  have hq0 : 0 ≤ (x + d - 1) / d := Int.ediv_nonneg (by omega) (by omega)
  refine ⟨by omega, by omega, ?_, by rw [hs]; omega⟩
  have hq1 : (x + d - 1) / d ≤ x + d - 1 := Int.ediv_le_self _ (by omega)
  unfold Builtin.Range.small
  rw [hs, if_neg (by omega)]
  simp only [Builtin.Range.rangeFitsLong, Bool.and_eq_true, Bool.or_eq_true, decide_eq_true_eq]
  refine ⟨⟨⟨⟨⟨?_, ?_⟩, ?_, ?_⟩, ?_, ?_⟩, ?_, ?_⟩, Or.inr ⟨?_, ?_⟩⟩ <;> omega
end Wp
set_option Elab.async false
set_option linter.all false
set_option maxRecDepth 100000
set_option maxHeartbeats 4000000
/-! Lists of tuples, whatever stands in them; sorted of them. -/
namespace Wp
open PySem PySem.Spec PyProof.Rows L2
inductive TL {β : Type} (enc : β → List V) (H : Hp) : List V → List β → Prop
  | nil : TL enc H [] []
  | cons {t : Addr} {b : β} {vs : List V} {bs : List β} : H t = some (.tup (enc b)) → TL enc H vs bs → TL enc H (.ref t :: vs) (b :: bs)
section
variable {β : Type} {enc : β → List V} {H H' : Hp} {vs us : List V} {bs cs : List β}
theorem TL.keep (h : TL enc H vs bs) (e : ∀ t xs, H t = some (.tup xs) → H' t = some (.tup xs)) : TL enc H' vs bs := by
  induction h with
  | nil => exact .nil
  | cons h _ ih => exact .cons (e _ _ h) ih
theorem TL.same (h : TL enc H vs bs) (e : Same H H') : TL enc H' vs bs := h.keep fun _ _ q => e _ _ q
theorem TL.len (h : TL enc H vs bs) : vs.length = bs.length := by
  induction h with
  | nil => rfl
  | cons _ _ ih => simp [ih]
theorem TL.app (h : TL enc H vs bs) (h2 : TL enc H us cs) : TL enc H (vs ++ us) (bs ++ cs) := by
  induction h with
  | nil => exact h2
  | cons h _ ih => exact .cons h ih
theorem TL.snoc {t : Addr} {b : β} (h : TL enc H vs bs) (ht : H t = some (.tup (enc b))) : TL enc H (vs ++ [.ref t]) (bs ++ [b]) := h.app (.cons ht .nil)
theorem TL.get (h : TL enc H vs bs) : ∀ {i : Nat} {x : V}, vs[i]? = some x → ∃ t b, x = .ref t ∧ bs[i]? = some b ∧ H t = some (.tup (enc b)) := by
  induction h with
  | nil => intro i x e; simp at e
  | @cons t b vs bs h _ ih =>
    intro i x e
    cases i with
    | zero => exact ⟨t, b, (Option.some.inj e).symm, rfl, h⟩
    | succ i =>
      obtain ⟨t', r', h1, h2, h3⟩ := ih (i := i) (by simpa using e)
      exact ⟨t', r', h1, by simpa using h2, h3⟩
theorem TL.at (h : TL enc H vs bs) {i : Nat} {b : β} (hb : bs[i]? = some b) : ∃ t, vs[i]? = some (.ref t) ∧ H t = some (.tup (enc b)) := by
  have hl := h.len
  have hi := (List.getElem?_eq_some_iff.mp hb).1
  obtain ⟨x, hx⟩ : ∃ x, vs[i]? = some x := ⟨vs[i]'(by omega), List.getElem?_eq_getElem (by omega)⟩
  obtain ⟨t, r', rfl, h2, h3⟩ := h.get hx
  rw [hb] at h2
  obtain rfl := Option.some.inj h2
  exact ⟨t, hx, h3⟩
theorem TL.zip (h : TL enc H vs bs) : ∃ zs : List (V × β), vs = zs.map (·.1) ∧ bs = zs.map (·.2) ∧ ∀ z ∈ zs, ∃ t, z.1 = .ref t ∧ H t = some (.tup (enc z.2)) := by
  induction h with
  | nil => exact ⟨[], rfl, rfl, fun z h => by cases h⟩
  | @cons t b vs bs h _ ih =>
    obtain ⟨zs, h1, h2, h3⟩ := ih
    refine ⟨(.ref t, b) :: zs, by rw [h1]; rfl, by rw [h2]; rfl, fun z hz => ?_⟩
    rcases List.mem_cons.mp hz with rfl | hz
    · exact ⟨t, rfl, h⟩
    · exact h3 z hz
theorem TL.of : ∀ {zs : List (V × β)}, (∀ z ∈ zs, ∃ t, z.1 = .ref t ∧ H t = some (.tup (enc z.2))) → TL enc H (zs.map (·.1)) (zs.map (·.2))
  | [], _ => .nil
  | (v, b) :: zs, h => by
    obtain ⟨t, e, ht⟩ := h _ (List.mem_cons_self ..)
    have e : v = .ref t := e
    subst e
    exact .cons ht (TL.of fun z hz => h z (List.mem_cons_of_mem _ hz))
end
/-- flat values and what they are as data -/
def FlatE {β : Type} (enc : β → List V) (dat : β → List PyData) : Prop := ∀ (K : PySem.W.Frag) (H : Hp) (b : β), DpAll K H (enc b) (dat b)
def tupD {β : Type} (dat : β → List PyData) (b : β) : PyData := .tuple (dat b)
def srtG {β : Type} (dat : β → List PyData) (bs : List β) : List β := bs.mergeSort (PySem.W.dataLe false (tupD dat))
theorem srtG_perm {β : Type} (dat : β → List PyData) (bs : List β) : (srtG dat bs).Perm bs := List.mergeSort_perm _ _
theorem srtG_len {β : Type} (dat : β → List PyData) (bs : List β) : (srtG dat bs).length = bs.length := List.length_mergeSort _
section
variable {β : Type} {enc : β → List V} {dat : β → List PyData} {K : PySem.W.Frag} {H : Hp} {p : Addr} {vs : List V} {bs : List β} {Q : VK}
theorem TL.dp (f : FlatE enc dat) (h : TL enc H vs bs) : DpAll K H vs (bs.map (tupD dat)) := by
  induction h with
  | nil => exact .nil
  | cons h _ ih => exact .cons (.tup (SqT.of h) (f K H _)) ih
theorem TL.sort (h : TL enc H vs bs) : TL enc H (srtV vs (bs.map (tupD dat))) (srtG dat bs) := by
  obtain ⟨zs, rfl, rfl, h3⟩ := h.zip
  have e1 : srtV (zs.map (·.1)) ((zs.map (·.2)).map (tupD dat)) = (zs.mergeSort (PySem.W.dataLe false fun z => tupD dat z.2)).map (·.1) := by
    unfold srtV
    have e : (zs.map (·.1)).zip ((zs.map (·.2)).map (tupD dat)) = zs.map fun z => (z.1, tupD dat z.2) := by
      rw [List.map_map]
      exact zip_maps (fun z : V × β => z.1) (fun z => tupD dat z.2) zs
    rw [e, ← List.map_mergeSort (r := PySem.W.dataLe false fun z => tupD dat z.2) (f := fun z : V × β => (z.1, tupD dat z.2)) (fun a _ b _ => rfl), List.map_map]
    rfl
  have e2 : srtG dat (zs.map (·.2)) = (zs.mergeSort (PySem.W.dataLe false fun z => tupD dat z.2)).map (·.2) := by
    unfold srtG
    rw [← List.map_mergeSort (r := PySem.W.dataLe false fun z => tupD dat z.2) (f := fun z : V × β => z.2) (fun a _ b _ => rfl)]
  rw [e1, e2]
  exact TL.of fun z hz => h3 z ((List.mergeSort_perm _ _).mem_iff.mp hz)
theorem r_sortG (f : FlatE enc dat) (h : SeqV K H p vs) (hr : TL enc H vs bs) (al : PySem.W.AllAlike (bs.map (tupD dat))) (so : PySem.W.Sortable (bs.map (tupD dat))) (hd : ∀ b, (tupD dat b).depth ≤ 20) (hz : bs.length ≤ 1000000)
    (q : ∀ t H' ws, H t = none → Same H H' → H' t = some (.lst ws) → TL enc H' ws (srtG dat bs) → Q (.ref t) H') : rSortD K [.ref p] H Q :=
  ⟨p, vs, bs.map (tupD dat), rfl, h, hr.dp f, al, so, by rw [hr.len]; exact hz, fun d hm => by
    obtain ⟨b, _, rfl⟩ := List.mem_map.mp hm
    exact hd b, fun t ht => q t _ _ ht (Same.new ht) upd_same ((hr.sort (dat := dat)).keep fun u xs hu => Same.new ht _ _ hu)⟩
end
/-! pairs of texts; texts in a row; a number and a text -/
def e2 (p : Str × Str) : List V := [.str p.1, .str p.2]
def d2 (p : Str × Str) : List PyData := [.str p.1, .str p.2]
def eS (r : List Str) : List V := r.map V.str
def dS (r : List Str) : List PyData := r.map PyData.str
def eIS (p : Int × Str) : List V := [.int p.1, .str p.2]
def dIS (p : Int × Str) : List PyData := [.int p.1, .str p.2]
theorem flat2 : FlatE e2 d2 := fun _ _ _ => .cons (.str _) (.cons (.str _) .nil)
theorem flatIS : FlatE eIS dIS := fun _ _ _ => .cons (.int _) (.cons (.str _) .nil)
theorem dp_rowS {K : PySem.W.Frag} {H : Hp} : ∀ r : List Str, DpAll K H (r.map V.str) (r.map PyData.str)
  | [] => .nil
  | z :: r => .cons (.str z) (dp_rowS r)
theorem flatS : FlatE eS dS := fun _ _ r => dp_rowS r
theorem alike2 (bs : List (Str × Str)) : PySem.W.AllAlike (bs.map (tupD d2)) := PySem.W.AllAlike.of fun a b => by simp [tupD, d2, PySem.W.alike, PySem.W.alikeAll]
theorem alikeIS (bs : List (Int × Str)) : PySem.W.AllAlike (bs.map (tupD dIS)) := PySem.W.AllAlike.of fun a b => by simp [tupD, dIS, PySem.W.alike, PySem.W.alikeAll]
theorem sortable2 (bs : List (Str × Str)) : PySem.W.Sortable (bs.map (tupD d2)) := PySem.W.Sortable.tuples fun r => ⟨_, _, rfl⟩
theorem sortableIS (bs : List (Int × Str)) : PySem.W.Sortable (bs.map (tupD dIS)) := PySem.W.Sortable.tuples fun r => ⟨_, _, rfl⟩
theorem depth2 (b : Str × Str) : (tupD d2 b).depth ≤ 20 := by simp [tupD, d2, PyData.depth, PyData.depthAll]
theorem depthIS (b : Int × Str) : (tupD dIS b).depth ≤ 20 := by simp [tupD, dIS, PyData.depth, PyData.depthAll]
section
variable {K : PySem.W.Frag} {H : Hp} {p : Addr} {vs : List V} {Q : VK}
theorem r_sort2 {bs : List (Str × Str)} (h : SeqV K H p vs) (hr : TL e2 H vs bs) (hz : bs.length ≤ 1000000) (q : ∀ t H' ws, H t = none → Same H H' → H' t = some (.lst ws) → TL e2 H' ws (srtG d2 bs) → Q (.ref t) H') : rSortD K [.ref p] H Q :=
  r_sortG flat2 h hr (alike2 bs) (sortable2 bs) depth2 hz q
theorem r_sortIS {bs : List (Int × Str)} (h : SeqV K H p vs) (hr : TL eIS H vs bs) (hz : bs.length ≤ 1000000) (q : ∀ t H' ws, H t = none → Same H H' → H' t = some (.lst ws) → TL eIS H' ws (srtG dIS bs) → Q (.ref t) H') : rSortD K [.ref p] H Q :=
  r_sortG flatIS h hr (alikeIS bs) (sortableIS bs) depthIS hz q
end
end Wp
set_option Elab.async false
set_option linter.all false
set_option maxRecDepth 100000
set_option maxHeartbeats 4000000
/-! Dicts from texts to ints, plain. -/
namespace Wp
open PySem PySem.Spec PyProof.Rows L2
abbrev SD := List (Str × Int)
def lookS : SD → Str → Option Int
  | [], _ => none
  | (k, c) :: r, z => if k = z then some c else lookS r z
theorem lookS_cons (k : Str) (c : Int) (r : SD) (z : Str) : lookS ((k, c) :: r) z = if k = z then some c else lookS r z := rfl
def putS (t : SD) (z : Str) (c : Int) : SD := if (t.any fun p => decide (p.1 = z)) = true then t.map (fun p => if p.1 = z then (p.1, c) else p) else t ++ [(z, c)]
def addKey (ks : List Str) (k : Str) : List Str := if k ∈ ks then ks else ks ++ [k]
theorem anyS_look : ∀ (t : SD) (z : Str), (t.any fun p => decide (p.1 = z)) = (lookS t z).isSome
  | [], z => rfl
  | (k, c) :: r, z => by
    rw [lookS_cons]
    by_cases h : k = z
    · simp [h]
    · rw [List.any_cons, anyS_look r z]
      simp [h]
theorem lookS_none : ∀ {t : SD} {z : Str}, lookS t z = none ↔ z ∉ t.map (·.1)
  | [], z => by simp [lookS]
  | (k, c) :: r, z => by
    have := lookS_none (t := r) (z := z)
    rw [lookS_cons]
    by_cases h : k = z
    · simp [h]
    · rw [if_neg h, this]
      simp
      intro _ e
      exact h e.symm
theorem putS_keys (t : SD) (z : Str) (c : Int) : (putS t z c).map (·.1) = addKey (t.map (·.1)) z := by
  unfold putS addKey
  rw [anyS_look]
  by_cases h : (lookS t z).isSome = true
  · have : z ∈ t.map (·.1) := by
      by_cases hz : z ∈ t.map (·.1)
      · exact hz
      · rw [lookS_none.mpr hz] at h
        cases h
    rw [if_pos h, if_pos this, List.map_map]
    refine List.map_congr_left fun p _ => ?_
    show (if p.1 = z then (p.1, c) else p).1 = p.1
    split <;> rfl
  · have : z ∉ t.map (·.1) := lookS_none.mp (by simpa using h)
    rw [if_neg h, if_neg this]
    simp
theorem lookS_map (c : Int) (z y : Str) : ∀ (t : SD), lookS (t.map fun p => if p.1 = z then (p.1, c) else p) y = if y = z then (lookS t z).map (fun _ => c) else lookS t y
  | [] => by simp [lookS]
  | (k, e) :: r => by
    have := lookS_map c z y r
    rw [List.map_cons]
    by_cases hk : k = z
    · subst hk
      rw [if_pos rfl, lookS_cons, lookS_cons, lookS_cons]
      by_cases hy : y = k
      · simp [hy]
      · rw [if_neg (fun z => hy z.symm), this, if_neg hy, if_neg hy, if_neg (fun z => hy z.symm)]
    · rw [if_neg hk]
      rw [lookS_cons, this, lookS_cons, lookS_cons]
      by_cases hy : y = z
      · subst hy
        rw [if_neg hk, if_pos rfl, if_pos rfl, if_neg hk]
      · rw [if_neg hy, if_neg hy]
theorem lookS_app (z : Str) (c : Int) (y : Str) : ∀ (t : SD), lookS t z = none → lookS (t ++ [(z, c)]) y = if y = z then some c else lookS t y
  | [], _ => by
    show (if z = y then some c else none) = _
    by_cases h : y = z
    · rw [if_pos h, if_pos h.symm]
    · rw [if_neg h, if_neg fun e => h e.symm]
      rfl
  | (k, e) :: r, h => by
    rw [lookS_cons] at h
    by_cases hk : k = z
    · rw [if_pos hk] at h
      cases h
    · rw [if_neg hk] at h
      have := lookS_app z c y r h
      show (if k = y then some e else lookS (r ++ [(z, c)]) y) = _
      rw [this]
      rw [lookS_cons]
      by_cases hy : k = y
      · rw [if_pos hy, if_pos hy, if_neg fun e => hk (hy.trans e)]
      · rw [if_neg hy, if_neg hy]
theorem putS_look (t : SD) (z : Str) (c : Int) (y : Str) : lookS (putS t z c) y = if y = z then some c else lookS t y := by
  unfold putS
  rw [anyS_look]
  cases h : lookS t z with
  | none => rw [if_neg (by simp), lookS_app z c y t h]
  | some v =>
    rw [if_pos (show (some v).isSome = true from rfl), lookS_map, h]
    rfl
theorem sd_of_look : ∀ {t : SD}, (t.map (·.1)).Nodup → t = (t.map (·.1)).map fun k => (k, (lookS t k).getD 0)
  | [], _ => rfl
  | (k, c) :: r, nd => by
    rw [List.map_cons, List.nodup_cons] at nd
    have ih := sd_of_look nd.2
    rw [List.map_cons, List.map_cons]
    congr 1
    · simp [lookS]
    · conv => lhs; rw [ih]
      refine List.map_congr_left fun y hy => ?_
      show (y, (lookS r y).getD 0) = (y, (if k = y then some c else lookS r y).getD 0)
      rw [if_neg fun e => nd.1 (by rw [e]; exact hy)]
end Wp
set_option Elab.async false
set_option linter.all false
set_option maxRecDepth 100000
set_option maxHeartbeats 4000000
/-! Dicts from texts to ints, on the heap. -/
namespace Wp
open PySem PySem.Spec PyProof.Rows L2
def encS (t : SD) : List (Key × V) := t.map fun p => (Sum.inr p.1, V.int p.2)
theorem valV_encS (z : Str) : ∀ t : SD, valV (encS t) (Sum.inr z : Key) = (lookS t z).map V.int
  | [] => rfl
  | (k, c) :: r => by
    have := valV_encS z r
    show valV ((Sum.inr k, V.int c) :: encS r) (Sum.inr z : Key) = (lookS ((k, c) :: r) z).map V.int
    rw [lookS_cons]
    by_cases h : k = z
    · rw [if_pos h, valV_pos (by rw [h])]
      rfl
    · rw [if_neg h, valV_neg (fun e => h (Sum.inr.inj e)), this]
theorem encS_any (z : Str) : ∀ t : SD, ((encS t).any fun kv => decide (kv.1 = (Sum.inr z : Key))) = t.any fun p => decide (p.1 = z)
  | [] => rfl
  | (k, c) :: r => by
    have := encS_any z r
    show (decide ((Sum.inr k : Key) = Sum.inr z) || (encS r).any _) = (decide (k = z) || r.any _)
    rw [this]
    congr 1
    exact decide_eq_decide.mpr ⟨fun e => Sum.inr.inj e, fun e => by rw [e]⟩
theorem putK_encS (t : SD) (z : Str) (c : Int) : putK (encS t) (Sum.inr z : Key) (.int c) = encS (putS t z c) := by
  unfold putK putS
  rw [encS_any]
  split
  · unfold encS
    rw [List.map_map, List.map_map]
    refine List.map_congr_left fun p _ => ?_
    show (if (Sum.inr p.1 : Key) = Sum.inr z then (Sum.inr p.1, V.int c) else (Sum.inr p.1, V.int p.2)) = (Sum.inr (if p.1 = z then (p.1, c) else p).1, V.int (if p.1 = z then (p.1, c) else p).2)
    by_cases h : p.1 = z
    · rw [if_pos (by rw [h]), if_pos h]
    · rw [if_neg (fun e => h (Sum.inr.inj e)), if_neg h]
  · unfold encS
    rw [List.map_append]
    rfl
theorem encS_keys (t : SD) : (encS t).map (·.1) = (t.map (·.1)).map (Sum.inr : Str → Key) := by
  unfold encS
  rw [List.map_map, List.map_map]
  rfl
theorem encS_len (t : SD) : (encS t).length = t.length := List.length_map _
section
variable {K : PySem.W.Frag} {H : Hp} {Q : VK} {D : Ends} {σ : L2.St} {a : Addr} {t : SD} {z : Str} {c j : Int} {ty tx tv : TE} {rd : V → V → Hp → VK → Prop}
theorem r_kDGetSS (h : H a = some (.dK (encS t))) (e : lookS t z = some c) (q : Q (.int c) H) : kDGet Q (.ref a) (.str z) H := r_kDGetS h (by rw [valV_encS, e]; rfl) q
theorem r_kDPutSS (h : H a = some (.dK (encS t))) (hz : t.length < 1000000) (q : ∀ H', But a H H' → H' a = some (.dK (encS (putS t z c))) → D.nx σ H') : kDPut D σ (.int c) (.ref a) (.str z) H :=
  r_kDPutS h (by rw [encS_len]; exact hz) fun H' b h' => q H' b (by rw [← putK_encS]; exact h')
theorem r_kDGet2S (h : H a = some (.dK (encS t))) (q : Q (.int ((lookS t z).getD j)) H) : kDGet2z a Q (.str z) (.int j) H := by
  refine ⟨(lookS t z).map V.int, .inl ⟨encS t, Sum.inr z, .inl h, rfl, (valV_encS z t).symm⟩, ?_⟩
  revert q
  cases lookS t z <;> exact id
end
end Wp
set_option Elab.async false
set_option linter.all false
set_option maxRecDepth 100000
set_option maxHeartbeats 4000000
/-! Rates of names, and orders of them, plain. -/
namespace Wp
open PySem PySem.Spec PyProof.Rows L2
structure RtOk (t : SD) : Prop where
  lo : 1 ≤ t.length
  hi : t.length ≤ 6
  nm : NamesOk (t.map (·.1))
  rt : ∀ p ∈ t, 0 ≤ p.2 ∧ p.2 ≤ 1000
theorem look_mem : ∀ {t : SD} {z : Str} {c : Int}, (t.map (·.1)).Nodup → (z, c) ∈ t → lookS t z = some c
  | [], _, _, _, h => by cases h
  | (k, d) :: t, z, c, nd, h => by
    rw [List.map_cons, List.nodup_cons] at nd
    rcases List.mem_cons.mp h with e | h
    · injection e with e1 e2
      subst e1
      subst e2
      rw [lookS_cons, if_pos rfl]
    · rw [lookS_cons, if_neg fun e => nd.1 (List.mem_map.mpr ⟨_, h, e.symm⟩)]
      exact look_mem nd.2 h
theorem look_in {t : SD} {z : Str} (h : z ∈ t.map (·.1)) : ∃ c, lookS t z = some c := by
  cases e : lookS t z with
  | some c => exact ⟨c, rfl⟩
  | none => exact absurd h (lookS_none.mp e)
theorem look_of : ∀ {t : SD} {z : Str} {c : Int}, lookS t z = some c → (z, c) ∈ t
  | [], _, _, h => by cases h
  | (k, d) :: t, z, c, h => by
    rw [lookS_cons] at h
    by_cases e : k = z
    · rw [if_pos e] at h
      injection h with h
      subst e
      subst h
      exact List.mem_cons_self ..
    · rw [if_neg e] at h
      exact List.mem_cons_of_mem _ (look_of h)
/-- the rate of a name -/
def rateT (t : SD) (z : Str) : Int := (lookS t z).getD 0
theorem rateT_of {t : SD} {z : Str} {c : Int} (h : lookS t z = some c) : rateT t z = c := by unfold rateT; rw [h]; rfl
theorem RtOk.look {t : SD} (ok : RtOk t) {z : Str} (h : z ∈ t.map (·.1)) : lookS t z = some (rateT t z) := by
  obtain ⟨c, hc⟩ := look_in h
  rw [hc, rateT_of hc]
theorem RtOk.rate {t : SD} (ok : RtOk t) (z : Str) : 0 ≤ rateT t z ∧ rateT t z ≤ 1000 := by
  unfold rateT
  cases e : lookS t z with
  | none => exact ⟨Int.le_refl _, by show (0 : Int) ≤ 1000; decide⟩
  | some c => exact ok.rt _ (look_of e)
theorem encS_get {t : SD} {i : Nat} {k : Key} {v : V} (h : (encS t)[i]? = some (k, v)) : ∃ z c, k = Sum.inr z ∧ v = .int c ∧ t[i]? = some (z, c) := by
  unfold encS at h
  rw [List.getElem?_map] at h
  obtain ⟨p, hp, e⟩ := Option.map_eq_some_iff.mp h
  injection e with e1 e2
  exact ⟨p.1, p.2, e1.symm, e2.symm, hp⟩
theorem encS_kV (t : SD) : ((encS t).map fun kv => kV kv.1) = (t.map (·.1)).map V.str := by
  unfold encS
  rw [List.map_map, List.map_map]
  rfl
theorem putS_new {t : SD} {z : Str} {c : Int} (h : z ∉ t.map (·.1)) : putS t z c = t ++ [(z, c)] := by
  unfold putS
  rw [anyS_look, lookS_none.mpr h]
  rfl
section
variable {H : Hp} {Q : VK} {a : Addr} {t : SD} {z : Str} {c : Int} {o : Obj}
theorem r_kDGetSF (h : H a = some (.frz o (.dK (encS t)))) (e : lookS t z = some c) (q : Q (.int c) H) : kDGet Q (.ref a) (.str z) H := r_kDGetF h (by rw [valV_encS, e]; rfl) q
theorem r_listDS (h : H a = some (.dK (encS t))) (k : ∀ q H', H q = none → Same H H' → H' q = some (.lst ((t.map (·.1)).map V.str)) → Q (.ref q) H') : rListD' [.ref a] H Q :=
  r_listD h fun q H' n e h' => k q H' n e (by rw [← encS_kV]; exact h')
end
/-! a dict made in a block, over the keys of a dict -/
section
variable {K : PySem.W.Frag} {H : Hp} {Q : VK} {d : Addr} {σ : L2.St} {g : TG} {tt : TT} {tk tv ta : TE} {vs : List Nat}
def kDcK (g : TG) (tt : TT) (tk tv : TE) (vs : List Nat) (σ : L2.St) (Q : VK) : VK := fun x H1 => ∃ d o, x = .ref d ∧ ((∃ kvs, H1 d = some (.frz o (.dK kvs)) ∧ DcW (Itk d o kvs) g tt tk tv vs σ Q H1) ∨ ∃ kvs, H1 d = some (.frz o (.dT kvs)) ∧ DcW (Itkt d o kvs) g tt tk tv vs σ Q H1)
theorem r_dcK (h : ta σ H (kDcK g tt tk tv vs σ Q)) : tDc (iKeys ta) g tt tk tv vs σ H Q := h
theorem r_kDcK {o : Obj} {kvs : List (Key × V)} (hd : H d = some (.frz o (.dK kvs))) (Pv : Addr → Nat → Hp → Prop) (h0 : ∀ Da H', H Da = none → Same H H' → H' Da = some (.dK []) → Pv Da 0 H') (hk : ∀ Da i H', Pv Da i H' → H' d = some (.frz o (.dK kvs)))
    (hs : ∀ Da i k v H', H Da = none → kvs[i]? = some (k, v) → Pv Da i H' → g (kV k) (wipe σ vs) H' (kDcG tt tk tv vs σ Da Pv i)) (hf : ∀ Da H', H Da = none → Pv Da kvs.length H' → Q (.ref Da) H') : kDcK g tt tk tv vs σ Q (.ref d) H :=
  ⟨d, o, rfl, .inl ⟨kvs, hd, dc_it kvs.length Pv h0 (fun Da i H' _ hi p => ⟨hk Da i H' p, hi⟩) (fun Da H' _ p => ⟨hk Da _ H' p, Nat.le_refl _⟩) (fun Da i x H' H2 hD _ p y => by
    obtain ⟨rfl, k, v, e, rfl⟩ := y
    exact hs Da i k v _ hD e p) hf⟩⟩
end
end Wp
set_option Elab.async false
set_option linter.all false
set_option maxRecDepth 100000
set_option maxHeartbeats 4000000
/-! Comprehensions of two clauses over lists; a dict made over enumerate(tuple); for over enumerate(tuple). -/
namespace Wp
open PySem PySem.Spec PyProof.Rows L2
def kLc2InL (K : PySem.W.Frag) (g1 : TG) (tt1 : TT) (te : TE) (vs1 : List Nat) (σ2 : L2.St) (Da : Addr) (Nx : Hp → Prop) : VK := fun x H1 => ∃ a, x = .ref a ∧ (∃ xs, SqL K H1 a xs) ∧ LcIn (Itl K a) g1 tt1 te vs1 σ2 Da Nx H1
def kLc2L (K : PySem.W.Frag) (g : TG) (tt : TT) (wi1 : TI) (g1 : TG) (tt1 : TT) (te : TE) (vs vs1 : List Nat) (σ : L2.St) (Q : VK) : VK := fun x H1 => ∃ a, x = .ref a ∧ (∃ xs, SqL K H1 a xs) ∧ LcW2 (Itl K a) g tt wi1 g1 tt1 te vs vs1 σ Q H1
section
variable {K : PySem.W.Frag} {g g1 : TG} {tt tt1 : TT} {wi1 : TI} {te tl tk tv : TE} {ta : TA} {vs vs1 : List Nat} {σ σ2 : L2.St} {H : Hp} {Q : VK} {Da a : Addr} {Nx : Hp → Prop} {xs ys : List V} {b : Bool}
theorem r_lc2L (q : tl σ H (kLc2L K g tt wi1 g1 tt1 te vs vs1 σ Q)) : tLc2 (iList K tl) g tt wi1 g1 tt1 te vs vs1 σ H Q := q
theorem r_kLc2TL (q : tl σ2 H (kLc2InL K g1 tt1 te vs1 σ2 Da Nx)) : kLc2T (iList K tl) g1 tt1 te vs1 σ2 Da Nx true H := q
theorem r_kLc2InL (R : Nat → Hp → Prop) (hl : SqL K H a ys) (h0 : R 0 H) (hk : ∀ j H', R j H' → SqL K H' a ys)
    (hs : ∀ j z H', ys[j]? = some z → R j H' → g1 z (wipe σ2 vs1) H' (kLcG tt1 te vs1 σ2 Da (fun _ => R) j)) (hd : ∀ H', R ys.length H' → Nx H') : kLc2InL K g1 tt1 te vs1 σ2 Da Nx (.ref a) H := by
  refine ⟨a, rfl, ⟨ys, hl⟩, fun j m H => m = ys.length - j ∧ j ≤ ys.length ∧ R j H, ⟨ys.length, by simp, Nat.zero_le _, h0⟩, ?_⟩
  rintro i m H ⟨rfl, hi, p⟩
  have q := hk i H p
  by_cases hlt : i < ys.length
  · refine .inr ⟨⟨ys, ys[i], q, by simp [hlt]⟩, R (i + 1), fun H' p' => ⟨ys.length - (i + 1), by omega, rfl, hlt, p'⟩, fun x H' y => ?_⟩
    obtain ⟨e, y⟩ := y
    subst e
    exact hs i x _ (y ys q) p
  · have e : i = ys.length := by omega
    subst e
    exact .inl ⟨⟨ys, q, Nat.le_refl _⟩, hd H p⟩
theorem r_kLc2L (Pv : Addr → Nat → Hp → Prop) (hl : SqL K H a xs) (h0 : ∀ Da H', H Da = none → Same H H' → H' Da = some (.lst []) → Pv Da 0 H') (hk : ∀ Da i H', Pv Da i H' → SqL K H' a xs)
    (hs : ∀ Da i x H', H Da = none → xs[i]? = some x → Pv Da i H' → g x (wipe σ vs) H' (kLc2G tt wi1 g1 tt1 te vs vs1 σ Da (Pv Da (i + 1))))
    (hd : ∀ Da H', H Da = none → Pv Da xs.length H' → Q (.ref Da) H') : kLc2L K g tt wi1 g1 tt1 te vs vs1 σ Q (.ref a) H := by
  refine ⟨a, rfl, ⟨xs, hl⟩, fun D hD => ⟨fun i m H => m = xs.length - i ∧ i ≤ xs.length ∧ Pv D i H, ⟨xs.length, by simp, Nat.zero_le _, h0 D _ hD (Same.new hD) upd_same⟩, ?_⟩⟩
  rintro i m H ⟨rfl, hi, p⟩
  have q := hk D i H p
  by_cases hlt : i < xs.length
  · refine .inr ⟨⟨xs, xs[i], q, by simp [hlt]⟩, Pv D (i + 1), fun H' p' => ⟨xs.length - (i + 1), by omega, rfl, hlt, p'⟩, fun x H' y => ?_⟩
    obtain ⟨e, y⟩ := y
    subst e
    exact hs D i x _ hD (y xs q) p
  · have e : i = xs.length := by omega
    subst e
    exact .inl ⟨⟨xs, q, Nat.le_refl _⟩, hd D H hD p⟩
theorem op_catAK {X : Cx} {K : PySem.W.Frag} (h : X.K = K) : OpR X (binaryOp .Add) (rCatA K) := by subst h; exact op_catA
theorem ip_mul {X : Cx} : PIp X .Mult (rI CMul fun i j => .int (i * j)) := fun pins s σ H x y v u Q I r1 r2 h => iop_mul pins s σ H x y v u Q I r1 r2 h
/-! a dict made over enumerate(tuple) -/
def kDcEn (K : PySem.W.Frag) (g : TG) (tt : TT) (tk tv : TE) (vs : List Nat) (σ : L2.St) (Q : VK) : List V → Hp → Prop := fun ws H1 => ∃ a xs, ws = [.ref a] ∧ SqT K H1 a xs ∧ DcW (IteT K a) g tt tk tv vs σ Q H1
theorem r_dcEn (h : ta σ H (kDcEn K g tt tk tv vs σ Q)) : tDc (iEnumT K ta) g tt tk tv vs σ H Q := h
theorem r_kDcEn (hl : SqT K H a xs) (Pv : Addr → Nat → Hp → Prop) (h0 : ∀ Da H', H Da = none → Same H H' → H' Da = some (.dK []) → Pv Da 0 H') (hk : ∀ Da i H', Pv Da i H' → SqT K H' a xs)
    (hs : ∀ Da i x T H1 H', H Da = none → xs[i]? = some x → Pv Da i H1 → H1 T = none → Same H1 H' → H' T = some (.tup [.int (i : Nat), x]) → g (.ref T) (wipe σ vs) H' (kDcG tt tk tv vs σ Da Pv i)) (hd : ∀ Da H', H Da = none → Pv Da xs.length H' → Q (.ref Da) H') :
    kDcEn K g tt tk tv vs σ Q [.ref a] H :=
  ⟨a, xs, rfl, hl, dc_it xs.length Pv h0 (fun Da i H' _ hi p => ⟨xs, xs[i], hk Da i H' p, by simp [hi]⟩) (fun Da H' _ p => ⟨xs, hk Da _ H' p, Nat.le_refl _⟩) (fun Da i x H' H2 hD _ p y => by
    obtain ⟨T, z, rfl, nT, rfl, y⟩ := y
    exact hs Da i z T H' _ hD (y xs (hk Da i _ p)) p nT (Same.new nT) upd_same) hd⟩
/-! a list made over enumerate(tuple) -/
/-- t[i:], i > 0 -/
theorem r_slT_drop {i : Nat} (h : SqT K H a xs) (h0 : 0 < i) (h1 : i ≤ xs.length) {z : Int} (e : z = (i : Int)) (q : ∀ t H', H t = none → Same H H' → H' t = some (.tup (xs.drop i)) → Q (.ref t) H') : rSlT K (.ref a) (some z) none H Q := by
  subst e
  refine ⟨a, xs, rfl, h, ?_, fun t ht => ?_⟩
  · rintro ⟨e, _⟩
    rw [HT.sIx_nat] at e
    omega
  · have e : cutV xs (some (i : Int)) none = xs.drop i := by
      unfold cutV
      rw [HT.sIx_nat, HT.sIx_none, Nat.min_eq_left h1, List.take_of_length_le (by rw [List.length_drop]; omega)]
    rw [e]
    exact q t _ ht (Same.new ht) upd_same
end
end Wp
set_option Elab.async false
set_option linter.all false
set_option maxRecDepth 100000
set_option maxHeartbeats 4000000
/-! list(range(n)); comprehensions over range(a, b) and over enumerate of any list. -/
namespace Wp
open PySem PySem.Spec PyProof.Rows L2
def kRg1 (Q : VK) : List V → Hp → Prop := fun vs H1 => ∃ (j : Int) (n : Nat), vs = [.int j] ∧ RgC 0 j 1 n ∧ n ≤ 1000000 ∧ ∀ q, H1 q = none → Q (.ref q) (upd H1 q (.lst (rg3 0 1 n)))
def tRg1 (ta : TA) : TE := fun σ H Q => ta σ H (kRg1 Q)
section
variable {X : Cx} {b : Expr} {ta : TA} {p p2 pos pos2 : Pos}
theorem pe_listRg1 (hc : X.calm = true) (hl : Gl X "list") (ml : X.mg "list" = none) (hr : Gl X "range") (mr : X.mg "range" = none) (ha : PA X [b] ta)
    (hs : starEach [b] X.env = [(false, eval b X.env)] := by rfl)
    (na : starEach [.Call (.Name "range" p2) [b] [] pos2] X.env = (false, eval (.Call (.Name "range" p2) [b] [] pos2) X.env) :: starEach [] X.env := by rfl) :
    PE X (.Call (.Name "list" p) [.Call (.Name "range" p2) [b] [] pos2] [] pos) (tRg1 ta) := by
  refine ⟨fun pins s σ H Q I h => ?_⟩
  have inner : wpAny (model X.prog X.w) X.A (eval (.Call (.Name "range" p2) [b] [] pos2) X.env)
      (fun x s' => ∃ (r : Addr) (j : Int) (n : Nat) (t u v : Tok) (H' : Hp), x = .ref r ∧ IsRange s'.heap r 0 j 1 t u v ∧ Inv X pins σ H' s' ∧ RgC 0 j 1 n ∧ n ≤ 1000000 ∧ ∀ q, H' q = none → Q (.ref q) (upd H' q (.lst (rg3 0 1 n)))) X.xe s := by
    refine Call_ (ld_blt I hr mr boot_range (PyProof.Rows.callWith_type1 (thn (ha.run pos2 pins s σ H _ I h) ?_) hs rfl))
    rintro us s1 ⟨vs, H1, I1, r1, j, n, e, rg, hn, q⟩
    subst e
    obtain ⟨c0, c1, c2, c3⟩ := id rg
    match us, r1 with
    | _, .cons r .nil =>
      obtain ⟨t, rfl⟩ := r
      exact call_range_1 ⟨_, j, n, _, t, _, H1, rfl, IsRange.new .., I1.kept fun b o z => Heap.get?_push_of_some _ z, rg, hn, q⟩
  refine Call_ (ld_blt I hl ml boot_list (PyProof.Rows.callWith_type1 (args_cons (thn inner ?_) na) na))
  rintro x s1 ⟨r, j, n, t, u, v, H1, rfl, hr1, I1, ⟨c0, c1, c2, c3⟩, hn, q⟩
  refine args_nil ?_
  refine call_list_range (n := n) (I1.ok.hd hc) hr1 c2 c3 (by omega) fun h' tk acc cap kp hobj items => ?_
  refine ⟨.ref s1.heap.objs.size, upd H1 s1.heap.objs.size (.lst (rg3 0 1 n)), I1.laid kp (Nat.le_refl _) ?_, rfl, q _ (I1.hok.fresh (Nat.le_refl _))⟩
  refine ⟨?_, acc.toList, cap, vals_rg3 items, ?_⟩
  · unfold rg3
    rw [List.length_map, List.length_range]
    exact sz5 hn
  · rw [Array.toArray_toList]
    exact hobj
end
theorem rgc_up {j : Int} (h0 : 0 ≤ j) (h1 : j ≤ 1000000) : RgC 0 j 1 j.toNat := by
  have hs : Builtin.Range.rangeSize 0 j 1 = j := by
    unfold Builtin.Range.rangeSize
    rw [if_pos (by omega)]
    by_cases hx : j > 0
    · rw [if_pos (by omega)]
      rw [Int.ediv_one]
      omega
    · have : j = 0 := by omega
      subst this
      rw [if_neg (by omega)]
  exact ⟨by decide, by decide, small_one (by decide) (by decide) (by omega) (by omega), by rw [hs]; omega⟩
section
variable {K : PySem.W.Frag} {H : Hp} {Q : VK} {a : Addr} {xs : List V} {σ : L2.St} {ta tr : TA} {g : TG} {tt : TT} {te : TE} {vs : List Nat}
theorem r_rg1 (q : ta σ H (kRg1 Q)) : tRg1 ta σ H Q := q
theorem r_kRg1 {j : Int} (h0 : 0 ≤ j) (h1 : j ≤ 1000000) (q : ∀ p H', H p = none → Same H H' → H' p = some (.lst ((List.range j.toNat).map fun k : Nat => V.int (k : Int))) → Q (.ref p) H') : kRg1 Q [.int j] H :=
  ⟨j, j.toNat, rfl, rgc_up h0 h1, by omega, fun p hp => q p _ hp (Same.new hp) (by
    rw [upd_same]
    unfold rg3
    refine congrArg (fun z => some (HO.lst z)) (List.map_congr_left fun k _ => ?_)
    rw [Int.mul_one, Int.zero_add])⟩
def kLcR2 (g : TG) (tt : TT) (te : TE) (vs : List Nat) (σ : L2.St) (Q : VK) : List V → Hp → Prop := fun ws H1 => ∃ i0 j : Int, ws = [.int i0, .int j] ∧ (-(2 ^ 62) ≤ i0 ∧ i0 < 2 ^ 62 ∧ -(2 ^ 62) ≤ j ∧ j < 2 ^ 62) ∧ LcW (Itr i0 (j - i0).toNat) g tt te vs σ Q H1
theorem r_lcR2 (q : tr σ H (kLcR2 g tt te vs σ Q)) : tLc (iRng2 tr) g tt te vs σ H Q := q
theorem r_kLcR2 {lo j : Int} (Pv : Addr → Nat → Hp → Prop) (hj : -1000000000 ≤ lo ∧ lo ≤ 1000000000 ∧ -1000000000 ≤ j ∧ j ≤ 1000000000) (h0 : ∀ Da H', H Da = none → Same H H' → H' Da = some (.lst []) → Pv Da 0 H')
    (hs : ∀ Da (i : Nat) H', H Da = none → lo + (i : Int) < j → Pv Da i H' → g (.int (lo + (i : Int))) (wipe σ vs) H' (kLcG tt te vs σ Da Pv i)) (hd : ∀ Da H', H Da = none → Pv Da (j - lo).toNat H' → Q (.ref Da) H') : kLcR2 g tt te vs σ Q [.int lo, .int j] H :=
  ⟨lo, j, rfl, ⟨by omega, by omega, by omega, by omega⟩, fun Da hD => lc_range (Pv Da) (h0 Da _ hD (Same.new hD) upd_same) (fun i H' hi p => hs Da i H' hD (by omega) p) (fun H' p => hd Da H' hD p)⟩
def kLcEl (K : PySem.W.Frag) (g : TG) (tt : TT) (te : TE) (vs : List Nat) (σ : L2.St) (Q : VK) : List V → Hp → Prop := fun ws H1 => ∃ a xs, ws = [.ref a] ∧ SqL K H1 a xs ∧ LcW (Ite K a) g tt te vs σ Q H1
theorem r_lcEl (h : ta σ H (kLcEl K g tt te vs σ Q)) : tLc (iEnum K ta) g tt te vs σ H Q := h
theorem r_kLcEl (hl : SqL K H a xs) (Pv : Addr → Nat → Hp → Prop) (h0 : ∀ Da H', H Da = none → Same H H' → H' Da = some (.lst []) → Pv Da 0 H') (hk : ∀ Da i H', Pv Da i H' → SqL K H' a xs)
    (hs : ∀ Da i x T H1 H', H Da = none → xs[i]? = some x → Pv Da i H1 → H1 T = none → Same H1 H' → H' T = some (.tup [.int (i : Nat), x]) → g (.ref T) (wipe σ vs) H' (kLcG tt te vs σ Da Pv i)) (hd : ∀ Da H', H Da = none → Pv Da xs.length H' → Q (.ref Da) H') :
    kLcEl K g tt te vs σ Q [.ref a] H :=
  ⟨a, xs, rfl, hl, lc_it xs.length Pv h0 (fun Da i H' _ hi p => ⟨xs, xs[i], hk Da i H' p, by simp [hi]⟩) (fun Da H' _ p => ⟨xs, hk Da _ H' p, Nat.le_refl _⟩) (fun Da i x H' H2 hD _ p y => by
    obtain ⟨T, z, rfl, nT, rfl, y⟩ := y
    exact hs Da i z T H' _ hD (y xs (hk Da i _ p)) p nT (Same.new nT) upd_same) hd⟩
end
end Wp
set_option Elab.async false
set_option linter.all false
set_option maxRecDepth 100000
set_option maxHeartbeats 4000000
/-! The first days of months ascend. -/
namespace Wp
theorem firstL_step {ls : List Int} (ok : LsOk ls) {m : Nat} : firstL ls (m : Int) + 2 ≤ firstL ls ((m : Int) + 1) ∧ firstL ls ((m : Int) + 1) ≤ firstL ls (m : Int) + 31 := by
  have l1 := ok.l1
  have hlt : m % ls.length < ls.length := Nat.mod_lt _ (by omega)
  have em : (m : Int) = ((m / ls.length : Nat) : Int) * (ls.length : Int) + ((m % ls.length : Nat) : Int) := by
    have := Nat.div_add_mod m ls.length
    have h2 : ((ls.length * (m / ls.length) + m % ls.length : Nat) : Int) = (m : Int) := by rw [this]
    rw [Int.natCast_add, Int.natCast_mul, Int.mul_comm] at h2
    exact h2.symm
  have em1 : (m : Int) + 1 = ((m / ls.length : Nat) : Int) * (ls.length : Int) + ((m % ls.length + 1 : Nat) : Int) := by
    rw [Int.natCast_add]
    omega
  rw [em1, firstL_at' _ _ ok.l1 (by omega)]
  rw [show firstL ls (m : Int) = ((m / ls.length : Nat) : Int) * ls.sum + (ls.take (m % ls.length)).sum by
    conv => lhs; rw [em]
    exact firstL_at _ _ hlt]
  have h1 : (ls.take (m % ls.length + 1)).sum = (ls.take (m % ls.length)).sum + ls[m % ls.length] := by
    rw [List.take_succ, List.getElem?_eq_getElem hlt, List.sum_append]
    simp
  have h2 := ok.l3 _ (List.getElem_mem hlt)
  omega
theorem firstL_hi {ls : List Int} (ok : LsOk ls) : ∀ m : Nat, 0 ≤ firstL ls (m : Int) ∧ firstL ls (m : Int) ≤ 31 * (m : Int)
  | 0 => by
    have := firstL_at (ls := ls) 0 0 (by have := ok.l1; omega)
    simp at this
    rw [show ((0 : Nat) : Int) = 0 from rfl, this]
    decide
  | m + 1 => by
    have h1 := firstL_hi ok m
    have h2 := firstL_step ok (m := m)
    rw [Int.natCast_add]
    show 0 ≤ firstL ls ((m : Int) + 1) ∧ firstL ls ((m : Int) + 1) ≤ 31 * ((m : Int) + 1)
    omega
theorem firstL_mono {ls : List Int} (ok : LsOk ls) : ∀ {m n : Nat}, m ≤ n → firstL ls (m : Int) ≤ firstL ls (n : Int)
  | m, 0, h => by
    obtain rfl : m = 0 := by omega
    exact Int.le_refl _
  | m, n + 1, h => by
    by_cases e : m = n + 1
    · subst e
      exact Int.le_refl _
    · have h1 := firstL_mono ok (m := m) (n := n) (by omega)
      have h2 := firstL_step ok (m := n)
      rw [Int.natCast_add]
      show _ ≤ firstL ls ((n : Int) + 1)
      omega
theorem monthL_nonneg {ls : List Int} (ok : LsOk ls) {d : Int} (h : 0 ≤ d) : 0 ≤ monthL ls d := by
  have hs := ok.sum
  unfold monthL
  have h1 := Int.ediv_nonneg h (show 0 ≤ ls.sum by omega)
  have h2 := Int.mul_nonneg h1 (show (0 : Int) ≤ (ls.length : Int) by omega)
  omega
/-- a day between two firsts is of the first one's month -/
theorem month_unique {ls : List Int} (ok : LsOk ls) {d : Int} {m : Nat} (h0 : 0 ≤ d) (h1 : firstL ls (m : Int) ≤ d) (h2 : d < firstL ls ((m : Int) + 1)) : monthL ls d = (m : Int) := by
  have hb := month_bounds ok d
  have hn := monthL_nonneg ok h0
  obtain ⟨k, hk⟩ : ∃ k : Nat, monthL ls d = (k : Int) := ⟨(monthL ls d).toNat, by omega⟩
  rw [hk] at hb ⊢
  rcases Nat.lt_trichotomy k m with h | h | h
  · have := firstL_mono ok (m := k + 1) (n := m) (by omega)
    rw [Int.natCast_add] at this
    have : firstL ls ((k : Int) + 1) ≤ firstL ls (m : Int) := this
    omega
  · rw [h]
  · have := firstL_mono ok (m := m + 1) (n := k) (by omega)
    rw [Int.natCast_add] at this
    have : firstL ls ((m : Int) + 1) ≤ firstL ls (k : Int) := this
    omega
theorem monthL_mono {ls : List Int} (ok : LsOk ls) {a b : Int} (h0 : 0 ≤ a) (h : a ≤ b) : monthL ls a ≤ monthL ls b := by
  have ha := month_bounds ok a
  have hb := month_bounds ok b
  have hna := monthL_nonneg ok h0
  have hnb := monthL_nonneg ok (show 0 ≤ b by omega)
  obtain ⟨k, hk⟩ : ∃ k : Nat, monthL ls a = (k : Int) := ⟨(monthL ls a).toNat, by omega⟩
  obtain ⟨m, hm⟩ : ∃ m : Nat, monthL ls b = (m : Int) := ⟨(monthL ls b).toNat, by omega⟩
  rw [hk] at ha ⊢
  rw [hm] at hb ⊢
  by_cases e : k ≤ m
  · omega
  · exfalso
    have := firstL_mono ok (m := m + 1) (n := k) (by omega)
    rw [Int.natCast_add] at this
    have : firstL ls ((m : Int) + 1) ≤ firstL ls (k : Int) := this
    omega
end Wp
set_option Elab.async false
set_option linter.all false
set_option maxRecDepth 100000
set_option maxHeartbeats 4000000
/-! the greatest late cost of a book. -/
namespace Wp
open PySem PySem.Spec PyProof.Rows L2
abbrev s_dearest : Stmt := topS 48
abbrev s_days_in : Stmt := topS 49
abbrev s_candidates : Stmt := topS 50
abbrev s_greatest_late_of : Stmt := topS 51
local macro_rules | `(tactic| walk_at "val") => `(tactic| assumption)
local macro_rules | `(tactic| walk_at "rd1") => `(tactic| first
  | with_reducible refine r_seq ?_ | with_reducible refine r_next ?_ | with_reducible refine r_if ?_ | with_reducible refine r_asg ?_ | with_reducible refine r_gname ?_
  | with_reducible refine r_ret ?_ | with_reducible refine r_retN ?_ | with_reducible refine r_drop ?_ | with_reducible refine r_par ?_ | with_reducible refine r_kPar ?_
  | ((with_reducible refine' r_var ?hv ?_); (case hv => exact rfl)) | with_reducible refine r_c ?_ | with_reducible refine r_nil ?_ | with_reducible refine r_cons ?_
  | with_reducible refine r_fn ?_ | with_reducible refine r_cb ?_ | with_reducible refine r_op ?_ | with_reducible refine r_un ?_ | with_reducible refine r_I0 ?_
  | with_reducible refine r_pow5 ?_ | with_reducible refine r_pow6 ?_ | with_reducible refine r_pow7 ?_ | with_reducible refine r_pow9 ?_ | with_reducible refine r_pow18 ?_ | with_reducible refine r_pow20 ?_ | with_reducible refine r_pow30 ?_
  | with_reducible refine r_isN_non ?_ | with_reducible refine r_isN_ref ?_ | with_reducible refine r_isN_int ?_ | with_reducible refine r_isN_str ?_ | with_reducible refine r_isN_bl ?_ | with_reducible refine r_notN_non ?_ | with_reducible refine r_notN_ref ?_ | with_reducible refine r_notN_int ?_ | with_reducible refine r_notN_str ?_ | with_reducible refine r_notN_bl ?_
  | ((with_reducible refine r_I ?hc ?_); (case hc => walk_at "side")) | with_reducible refine r_U ?_
  | with_reducible refine r_eqI ?_ | with_reducible refine r_neI ?_ | with_reducible refine r_eqS ?_ | with_reducible refine r_neS ?_ | with_reducible refine r_eqB ?_ | with_reducible refine r_neB ?_
  | with_reducible refine r_chain ?_ | with_reducible refine r_test ?_ | with_reducible refine r_tB ?_ | with_reducible refine r_kTest ?_ | with_reducible refine r_not ?_
  | with_reducible refine r_and ?_ | with_reducible refine r_or ?_ | with_reducible refine r_tif ?_ | with_reducible refine r_andV ?_ | with_reducible refine r_orV ?_ | with_reducible refine r_notV ?_
  | with_reducible refine r_kAndV ?_ | with_reducible refine r_kOrV ?_ | with_reducible refine r_kNotV ?_
  | with_reducible refine w_T ?_ | with_reducible refine w_F ?_ | with_reducible refine w_NT ?_ | with_reducible refine w_NF ?_
  | with_reducible refine r_tup ?_ | with_reducible refine r_lst ?_ | with_reducible refine r_fld ?_ | with_reducible refine r_prop ?_ | ((with_reducible refine' r_aug ?h1 ?_); (case h1 => exact rfl)) | with_reducible refine r_ipI ?_ | with_reducible refine r_dget ?_ | with_reducible refine r_dput ?_ | with_reducible refine r_bm ?_
  | ((with_reducible refine' r_kDGetS ?h1 ?h2 ?_); (case h1 => assumption); (case h2 => walk_at "val"))
  | ((with_reducible refine' r_kBML ?h1 ?_); (case h1 => assumption))
  | with_reducible refine r_forL ?_ | with_reducible refine r_forR1 ?_ | with_reducible refine r_forR2 ?_ | with_reducible refine r_forT ?_ | with_reducible refine r_lcL ?_ | with_reducible refine r_lcR1 ?_
  | ((with_reducible refine r_kLcG ?hw ?_); (case hw => exact rfl)) | with_reducible refine r_kLcT ?_ | with_reducible refine r_yes ?_
  | with_reducible refine r_pnil ?_ | with_reducible refine r_pcons ?_
  | with_reducible refine r_fnK ?_ | ((with_reducible refine r_kFnK ?hl ?_); (case hl => exact rfl))
  | with_reducible refine r_isi_ii ?_ | with_reducible refine r_isi_ib ?_ | with_reducible refine r_isi_bi ?_ | with_reducible refine r_isi_bb ?_ | with_reducible refine r_isi_ss ?_ | with_reducible refine r_isi_is ?_ | with_reducible refine r_isi_it ?_
  | ((with_reducible refine' r_isi_tt ?h1 ?_); (case h1 => assumption))
  | with_reducible refine r_sfld ?_ | with_reducible refine r_gnil ?_ | with_reducible refine r_gcons ?_
  | ((with_reducible refine' r_gtup ?h1 ?h2 ?_); (case h1 => exact SqT.of (by assumption)); (case h2 => exact rfl))
  | with_reducible refine r_sl ?_ | with_reducible refine r_noPart ?_ | with_reducible refine r_part ?_ | with_reducible refine r_kPart ?_ | with_reducible refine r_m1 ?_ | with_reducible refine r_kM1 ?_ | with_reducible refine r_forS ?_ | with_reducible refine r_lcS ?_ | with_reducible refine r_lcTu ?_ | with_reducible refine r_lcK ?_ | with_reducible refine r_dcL ?_ | with_reducible refine r_dcK ?_ | with_reducible refine r_lc2L ?_ | with_reducible refine r_kLc2TL ?_ | with_reducible refine r_dcEn ?_ | with_reducible refine r_gslc ?_ | with_reducible refine r_lcEn ?_ | with_reducible refine r_lcEl ?_ | with_reducible refine r_lcR2 ?_ | with_reducible refine r_rg1 ?_ | with_reducible refine r_forET ?_ | with_reducible refine r_lenD ?_
  | ((with_reducible refine r_kDcG ?hw ?_); (case hw => exact rfl)) | with_reducible refine r_kDcT ?_
  | with_reducible refine r_fldaug ?_ | with_reducible refine r_daug ?_ | with_reducible refine r_rAdd ?_ | with_reducible refine r_rSub ?_ | with_reducible refine r_ddel ?_ | with_reducible refine r_bmF ?_ | with_reducible refine r_dget2 ?_ | with_reducible refine r_listItems ?_ | with_reducible refine r_bm0 ?_ | with_reducible refine r_lc2E ?_ | ((with_reducible refine r_kLc2G ?hw ?_); (case hw => exact rfl)) | with_reducible refine r_kLc2T ?_ | with_reducible refine r_forE ?_ | with_reducible refine r_orT ?_ | with_reducible refine r_din ?_ | with_reducible refine r_augS ?_ | with_reducible refine r_dnotin ?_ | with_reducible refine r_lcIT ?_ | with_reducible refine r_cont ?_ | with_reducible refine r_meth ?_ | with_reducible refine r_frz ?_ | with_reducible refine r_par3 ?_ | with_reducible refine r_kPar3 ?_ | with_reducible refine r_dz ?_ | with_reducible refine r_revL ?_ | with_reducible refine r_star ?_ | with_reducible refine r_int1 ?_ | with_reducible refine r_int1b ?_ | with_reducible refine r_min2 ?_ | with_reducible refine r_max2 ?_ | with_reducible refine r_gsub ?_)
local macro_rules | `(tactic| walk_at "rd") => `(tactic| repeat walk_at "rd1")
local macro_rules | `(tactic| walk_at "side") => `(tactic| first | assumption | exact Or.inr ⟨by decide, by decide⟩ | exact Or.inl ⟨by decide, by decide⟩ | (constructor <;> omega) | omega | decide | (refine Or.inl ⟨?_, ?_⟩ <;> omega) | (refine Or.inr ⟨?_, ?_⟩ <;> omega) | (refine ⟨?_, ?_, ?_⟩ <;> first | decide | omega))
/-- rates of the kinds that are free, or not -/
def rsK (b : Bool) (ks : List (Str × Int × Bool)) : List Int := (ks.filter fun k => k.2.2 == b).map (·.2.1)
def rsB (b : Bool) (B : Bk) : List Int := rsK b B.ks
/-- days that count in a month -/
def dI (B : Bk) (m : Int) : Int := B.due + (if B.beg = "day" then firstL B.ls (m + 1) - firstL B.ls m else 0)
def laterB (B : Bk) (n : Nat) : Int := ((List.range B.mem.toNat).map fun k : Nat => dI B ((n : Int) + 1 + (k : Int))).sum
def candB (B : Bk) (cap : Int) : List Int := candW (rsB true B) (rsB false B) cap (fun n => dI B (n : Int)) (laterB B) B.ls.length
def lateB (B : Bk) (cap : Int) : Int := lateW (rsB true B) (rsB false B) cap (fun n => dI B (n : Int)) (laterB B) B.ls.length
def sp_dearest (C : Addr) : Sp := fun vs H Q _ => ∃ (p : Addr) (B : Bk) (b : Bool), vs = [.ref p, .bl b] ∧ BookAt C H p B ∧ B.Ok ∧ ∀ t H' (nm : Str), H t = none → Same H H' → H' t = some (.tup [.int (mx0 (rsB b B)), .str nm]) → (nm = "" ↔ rsB b B = []) → Q (.ref t) H'
def sp_days_in (C : Addr) : Sp := fun vs H Q _ => ∃ (p : Addr) (B : Bk) (m : Int), vs = [.ref p, .int m] ∧ BookAt C H p B ∧ B.Ok ∧ ∀ H', Same H H' → Q (.int (dI B m)) H'
def sp_candidates (C : Addr) : Sp := fun vs H Q _ => ∃ (p : Addr) (B : Bk) (cap : Int), vs = [.ref p, .int cap] ∧ BookAt C H p B ∧ B.Ok ∧ 1 ≤ cap ∧ cap ≤ 1000000 ∧ ∀ t H' ws, H t = none → Same H H' → H' t = some (.lst ws) → WLs 2 H' ws (candB B cap) → Q (.ref t) H'
def sp_late_of (C : Addr) : Sp := fun vs H Q _ => ∃ (p : Addr) (B : Bk) (cap : Int), vs = [.ref p, .int cap] ∧ BookAt C H p B ∧ B.Ok ∧ 1 ≤ cap ∧ cap ≤ 1000000 ∧ ∀ H', Same H H' → Q (.int (lateB B cap)) H'
theorem depth_IS' : ∀ ps : List (Int × Str), PyData.depthAll (ps.map fun q => PyData.tuple [.int q.1, .str q.2]) ≤ 2
  | [] => by simp [PyData.depthAll]
  | q :: ps => by
    have := depth_IS' ps
    simp only [List.map_cons, PyData.depthAll, PyData.depth]
    omega
theorem depth_IS (ps : List (Int × Str)) : PyData.depthAll (ps.map (tupD dIS)) ≤ 2 := depth_IS' ps
theorem name_ne {n : Str} (h : NameOk n) : n ≠ "" := fun z => by
  have := h.lo
  rw [z] at this
  exact absurd this (by decide)
theorem mx0_hi {l : List Int} {m : Int} (h : ∀ y ∈ l, y ≤ m) (h0 : 0 ≤ m := by omega) : mx0 l ≤ m := by
  rcases List.mem_cons.mp (mx0_is l).mem with e | e
  · omega
  · exact h _ e
theorem candW_len (fr nf : List Int) (cap : Int) (d later : Nat → Int) : ∀ n, (candW fr nf cap d later n).length ≤ 2 * n
  | 0 => Nat.le_refl _
  | n + 1 => by
    have := candW_len fr nf cap d later n
    unfold candW
    rw [List.length_append, List.length_append]
    have h1 : (if fr = [] then ([] : List Int) else [mx0 fr * (cap * d n + later n * cap + 1)]).length ≤ 1 := by split <;> simp
    have h2 : (if nf = [] then ([] : List Int) else [mx0 fr * ((cap - 1) * d n + later n * cap) + mx0 nf]).length ≤ 1 := by split <;> simp
    omega
theorem rsK_mem {b : Bool} {ks : List (Str × Int × Bool)} (h : ∀ k ∈ ks, 0 ≤ k.2.1 ∧ k.2.1 ≤ 1000) : ∀ y ∈ rsK b ks, 0 ≤ y ∧ y ≤ 1000 := fun y hy => by
  obtain ⟨k, hk, rfl⟩ := List.mem_map.mp hy
  exact h k (List.mem_filter.mp hk).1
section
variable {P : Program} {w : World} {K : PySem.W.Frag} {mg : Str → Option Value} {base : Heap}
theorem ok_days_in {f C : Addr} {fd : FuncData} (T : Tx K mg) (F : FnP K "days_in" s_days_in f fd) (mt_Book_first_at : Dm P w K mg base CX0 1 C "first_at" (sp_first_at C)) (mt_Book_due_at : Dm P w K mg base CX0 2 C "due_at" (sp_due_at C)) (m_begins : Dpr P w K mg base CX0 1 C "begins" (sp_g_begins C)) :
    FnOk P w K mg base CX0 4 f fd ["book", "month"] (sp_days_in C) := by
  have sc : FnScope ["book", "month", "due"] ["book", "month"] (defScope s_days_in) := ⟨rfl, rfl, rfl, by decide +kernel, rfl, by decide +kernel, by decide +kernel⟩
  refine F.ok sc (by rintro vs H Q E ⟨_, _, _, rfl, _⟩; rfl) (fun cdv A outer s H vs Q E hr h => ⟨_, PSs.nox ((pss_cons (ps_set (i := 2) sc.nd rfl (by first | exact Or.inl rfl | exact Or.inr rfl) (pe_mt mt_Book_due_at (hr.mono (by decide)) pass0 (pv 0) (pa_cons (pv 1) pa_nil)))
      (pss_one (ps_ret (pe_op op_sub (pv 2) (pe_ifExp (pt_cmpR op_eq (pe_propA m_begins (pv 0) (hr.mono (by decide)) pass0) (pe_glob (v := .str "day") (by rfl) T.c_DAY.choose_spec ⟨_, rfl⟩) (nomark _)) (pe_mt mt_Book_first_at (hr.mono (by decide)) pass0 (pv 0) (pa_cons (pv 1) pa_nil)) (pe_mt mt_Book_first_at (hr.mono (by decide)) pass0 (pv 0) (pa_cons (pe_op op_add (pv 1) pe_int) pa_nil)))))))), ?_⟩)
  obtain ⟨p, B, m, rfl, hB, ok, k⟩ := h
  obtain ⟨_, _, _, _, _, i1⟩ := id hB
  walk_at "rd"
  refine r_kMeth i1.i rfl ?_
  walk_at "rd"
  refine ⟨p, B, m, rfl, hB, ok, fun H1 e1 => ?_⟩
  walk_at "rd"
  refine r_kProp (e1 _ _ i1.i) ⟨p, B, rfl, hB.keep e1, ?_⟩
  walk_at "rd"
  refine w_dec (fun c => ?_) (fun c => ?_)
  · walk_at "rd"
    refine r_kMeth (e1 _ _ i1.i) rfl ?_
    walk_at "rd"
    refine ⟨p, B, m, rfl, hB.keep e1, ok, fun H2 e2 => ?_⟩
    walk_at "rd"
    have z := k H2 (e1.trans e2)
    unfold dI at z
    rw [if_pos c] at z
    rw [first_eq, first_eq]
    have e : B.due + (firstL B.ls (m + 1) - firstL B.ls m) = firstL B.ls (m + 1) + B.due - firstL B.ls m := by omega
    rw [e] at z
    exact z
  · walk_at "rd"
    refine r_kMeth (e1 _ _ i1.i) rfl ?_
    walk_at "rd"
    refine ⟨p, B, m + 1, rfl, hB.keep e1, ok, fun H2 e2 => ?_⟩
    walk_at "rd"
    have z := k H2 (e1.trans e2)
    unfold dI at z
    rw [if_neg c] at z
    have e : B.due + 0 = B.first (m + 1) + B.due - B.first (m + 1) := by omega
    rw [e] at z
    exact z
theorem ok_dearest {f C : Addr} {fd : FuncData} (T : Tx K mg) (F : FnP K "dearest" s_dearest f fd) (mt_Book_rate_of : Dm P w K mg base CX0 1 C "rate_of" (sp_rate_of C)) (mt_Book_is_free : Dm P w K mg base CX0 1 C "is_free" (sp_is_free C)) (m_kinds : Dpr P w K mg base CX0 1 C "kinds" (sp_g_kinds C)) :
    FnOk P w K mg base CX0 3 f fd ["book", "is_free"] (sp_dearest C) := by
  have sc : FnScope ["book", "is_free", "some", "kind"] ["book", "is_free"] (defScope s_dearest) := ⟨rfl, rfl, rfl, by decide +kernel, rfl, by decide +kernel, by decide +kernel⟩
  refine F.ok sc (by rintro vs H Q E ⟨_, _, _, rfl, _⟩; rfl) (fun cdv A outer s H vs Q E hr h => ⟨_, PSs.nox ((pss_cons (ps_setLc (i := 2) (own := [("kind", 3)]) (by rfl) sc.nd rfl rfl (sw_true rfl rfl rfl (by decide +kernel)) (pi_keys (pe_frz (pe_propA m_kinds (pv 0) (hr.mono (by decide)) pass0))) (blkOk_by (own := [("kind", 3)]) (N := ["book", "is_free", "some", "kind"]) (sc := defScope s_dearest) (by decide +kernel)) (fun _ _ _ _ _ => (pg_name (i := 3) sc.nd rfl (by first | exact Or.inl rfl | exact Or.inr rfl))) (fun _ _ _ _ _ => (pts_one (pt_cmpR op_eq (pe_mt mt_Book_is_free (hr.mono (by decide)) pass0 (pv 0) (pa_cons (pv 3) pa_nil)) (pv 1) (nomark _)))) (fun _ _ _ _ _ => (pe_tup (pa_cons (pe_un un_neg (pe_mt mt_Book_rate_of (hr.mono (by decide)) pass0 (pv 0) (pa_cons (pv 3) pa_nil))) (pa_cons (pv 3) pa_nil)))))
      (pss_one (ps_ret (pe_ifExp (pt_cmpR (neNilK (K := K) rfl hr.units) (pv 2) (pe_lst pa_nil) (nomark _)) (pe_tup (pa_cons (pe_un un_neg (pe_ix (ix_tupK (K := K) rfl) (pe_callB (c_minD (K := K) rfl rfl hr) (by rfl) T.b_min (by decide +kernel) (pa_cons (pv 2) pa_nil)) pe_int (fun _ _ => rfl))) (pa_cons (pe_ix (ix_tupK (K := K) rfl) (pe_callB (c_minD (K := K) rfl rfl hr) (by rfl) T.b_min (by decide +kernel) (pa_cons (pv 2) pa_nil)) pe_int (fun _ _ => rfl)) pa_nil))) (pe_tup (pa_cons pe_int (pa_cons pe_str pa_nil)))))))), ?_⟩)
  obtain ⟨p, B, b, rfl, hB, ok, k⟩ := h
  obtain ⟨_, _, _, _, _, i1⟩ := id hB
  have nd := ok.kn.nm.nd
  have l6 := ok.kn.hi
  walk_at "rd"
  refine r_kProp i1.i ⟨p, B, rfl, hB, fun q H1 kvs nq e1 hq hK => ?_⟩
  refine r_kFrz hq fun od H2 hd2 b2 n2 => ?_
  have e12 : Same H H2 := Same.mut e1 b2 nq
  have hK2 : KAt H2 kvs B.ks := hK.keep fun t xs ht => b2 _ _ ht (ne_of ht hq (by intro z; cases z))
  walk_at "rd"
  refine r_kLcK hd2 (fun Da i H' => Same H2 H' ∧ ∃ us, H' Da = some (.lst us) ∧ TL eIS H' us (((B.ks.take i).filter fun k => k.2.2 == b).map fun k => (-k.2.1, k.1))) (fun Da H' _ e h => ⟨e, [], h, .nil⟩) (fun Da i H' h => h.1 _ _ hd2) ?_ ?_
  · rintro Da i key v H3 hD hi ⟨e3, us, hDa, hU⟩
    obtain ⟨n, r, fb, t, rfl, rfl, ht, hks⟩ := hK2.get hi
    have hil := (List.getElem?_eq_some_iff.mp hks).1
    have hmem := List.mem_of_getElem? hks
    have ul := hU.len
    rw [List.length_map] at ul
    have fl := List.length_filter_le (fun k : Str × Int × Bool => k.2.2 == b) (B.ks.take i)
    rw [List.length_take] at fl
    have e03 := e12.trans e3
    have ekV : ∀ z : Str, kV (Sum.inr z) = V.str z := fun _ => rfl
    rw [ekV]
    walk_at "rd"
    refine r_kMeth (e03 _ _ i1.i) rfl ?_
    walk_at "rd"
    refine ⟨p, B, n, r, fb, rfl, hB.keep e03, nd, hmem, ?_⟩
    walk_at "rd"
    refine w_dec (fun c => ?_) (fun c => ?_)
    · walk_at "rd"
      refine r_kMeth (e03 _ _ i1.i) rfl ?_
      walk_at "rd"
      refine ⟨p, B, n, r, fb, rfl, hB.keep e03, nd, hmem, ?_⟩
      walk_at "rd"
      refine r_kTup fun tq H4 ntq e4 htq => ?_
      have hDa4 := e4 _ _ hDa
      refine r_kLcE hDa4 (by omega) fun H5 b5 h5 => ?_
      have kp : ∀ u xs, H4 u = some (.tup xs) → H5 u = some (.tup xs) := fun u xs hu => b5 _ _ hu (ne_of hu hDa4 (by intro z; cases z))
      refine ⟨Same.mut (e3.trans e4) b5 hD, _, h5, ?_⟩
      rw [take_more hks, List.filter_append, List.map_append]
      have z : List.filter (fun k : Str × Int × Bool => k.2.2 == b) [(n, r, fb)] = [(n, r, fb)] := by simp [c]
      rw [z]
      exact ((hU.same e4).keep kp).snoc (b := (-r, n)) (kp _ _ htq)
    · refine ⟨e3, us, hDa, ?_⟩
      rw [take_more hks, List.filter_append, List.map_append]
      have z : List.filter (fun k : Str × Int × Bool => k.2.2 == b) [(n, r, fb)] = [] := by simp [c]
      rw [z, List.map_nil, List.append_nil]
      exact hU
  rintro Da H3 hD ⟨e3, us, hDa, hU⟩
  rw [hK2.len, List.take_length] at hU
  have e03 := e12.trans e3
  walk_at "rd"
  have psE : rsB b B = (((B.ks.filter fun k => k.2.2 == b).map fun k => (-k.2.1, k.1)) : List (Int × Str)).map (fun q => -q.1) := by
    unfold rsB rsK
    rw [List.map_map]
    exact List.map_congr_left fun k _ => by show k.2.1 = - -k.2.1; omega
  have pmem : ∀ q ∈ (((B.ks.filter fun k => k.2.2 == b).map fun k => (-k.2.1, k.1)) : List (Int × Str)), ∃ k0 ∈ B.ks, q = (-k0.2.1, k0.1) := fun q hq => by
    obtain ⟨k0, hk, rfl⟩ := List.mem_map.mp hq
    exact ⟨k0, (List.mem_filter.mp hk).1, rfl⟩
  have plen : (((B.ks.filter fun k => k.2.2 == b).map fun k => (-k.2.1, k.1)) : List (Int × Str)).length ≤ 6 := by
    have fl := List.length_filter_le (fun k : Str × Int × Bool => k.2.2 == b) B.ks
    rw [List.length_map]
    omega
  generalize (((B.ks.filter fun k => k.2.2 == b).map fun k => (-k.2.1, k.1)) : List (Int × Str)) = ps at hU psE pmem plen
  refine r_kLst fun t2 H4 nt2 e4 ht2 => ?_
  have hDa4 := e4 _ _ hDa
  have hU4 := hU.same e4
  have e04 := e03.trans e4
  refine r_neNilA (SqL.of hDa4) (SqL.of ht2) ?_
  walk_at "rd"
  refine w_ndec (fun hne => ?_) (fun heq => ?_)
  · cases ps with
    | nil =>
      cases hU4
      exact absurd rfl hne
    | cons x xs =>
      obtain ⟨y, hy1, hy2, hy3⟩ := minD_pair (fun q : Int × Str => q.1) (fun q => q.2) x xs
      have dp := hU4.dp (K := K) flatIS
      have al : PySem.W.AlikeAll ((x :: xs).map (tupD dIS)) := ⟨fun u hu v hv => by
        obtain ⟨q1, _, rfl⟩ := List.mem_map.mp hu
        obtain ⟨q2, _, rfl⟩ := List.mem_map.mp hv
        simp [tupD, dIS, PySem.W.alike, PySem.W.alikeAll], fun u hu => by
        obtain ⟨q1, _, rfl⟩ := List.mem_map.mp hu
        simp [tupD]⟩
      have dep : PyData.depthAll ((x :: xs).map (tupD dIS)) ≤ 20 := Nat.le_trans (depth_IS _) (by decide)
      have pick : ∀ {G : Hp} (eG : Same H4 G) {Q' : VK}, (∀ u : Addr, G u = some (.tup (eIS y)) → Q' (.ref u) G) → rMinD K [.ref Da] G Q' := fun {G} eG {Q'} q => by
        refine ⟨Da, us, tupD dIS x, xs.map (tupD dIS), rfl, SqL.of (eG _ _ hDa4), (hU4.same eG).dp (K := K) flatIS, al, dep, fun i v hv hd => ?_⟩
        obtain ⟨u, q0, rfl, hq0, hu⟩ := (hU4.same eG).get hv
        have hd2 : ((x :: xs).map (tupD dIS))[i]? = some (PySem.W.minD (tupD dIS x) (xs.map (tupD dIS))) := hd
        rw [List.getElem?_map, hq0] at hd2
        have hd3 : tupD dIS q0 = .tuple [.int y.1, .str y.2] := (Option.some.inj hd2).trans hy2
        obtain ⟨q1, q2⟩ := q0
        simp only [tupD, dIS, PyData.tuple.injEq, List.cons.injEq, PyData.int.injEq, PyData.str.injEq, and_true] at hd3
        obtain ⟨rfl, rfl⟩ := hd3
        exact q u hu
      walk_at "rd"
      refine pick (Same.refl _) fun u hu => ?_
      walk_at "rd"
      refine r_ixT (SqT.of hu) (at_get (n := 0) rfl rfl) ?_
      walk_at "rd"
      refine pick (Same.refl _) fun u2 hu2 => ?_
      walk_at "rd"
      refine r_ixT (SqT.of hu2) (at_get (n := 1) rfl rfl) ?_
      walk_at "rd"
      refine r_kTup fun t5 H5 nt5 e5 ht5 => ?_
      have hmx : (-y.1) = mx0 (rsB b B) := by
        have hall := rsK_mem (b := b) ok.kn.rt
        have hin : -y.1 ∈ rsB b B := by rw [psE]; exact List.mem_map.mpr ⟨y, hy1, rfl⟩
        refine mx0_eq ⟨List.mem_cons_of_mem _ hin, fun z hz => ?_⟩
        rcases List.mem_cons.mp hz with rfl | hz
        · exact (hall _ hin).1
        · rw [psE] at hz
          obtain ⟨q, hq, rfl⟩ := List.mem_map.mp hz
          have := hy3 q hq
          omega
      refine k t5 H5 y.2 (e04.free nt5) (e04.trans e5) (by rw [← hmx]; exact ht5) ⟨fun h => ?_, fun h => ?_⟩
      · obtain ⟨k0, hk0, e⟩ := pmem y hy1
        have hn := ok.kn.nm.ok k0.1 (List.mem_map.mpr ⟨k0, hk0, rfl⟩)
        rw [e] at h
        exact absurd h (name_ne hn)
      · rw [psE] at h
        cases h
  · have hps : ps = [] := by
      cases ps with
      | nil => rfl
      | cons x xs => rw [heq] at hU4; cases hU4
    walk_at "rd"
    refine r_kTup fun t5 H5 nt5 e5 ht5 => ?_
    have hr : rsB b B = [] := by rw [psE, hps]; rfl
    refine k t5 H5 "" (e04.free nt5) (e04.trans e5) (by rw [hr, mx0_nil]; exact ht5) ⟨fun _ => hr, fun _ => rfl⟩
theorem ok_candidates {f C : Addr} {fd : FuncData} (T : Tx K mg) (F : FnP K "candidates" s_candidates f fd) (d_dearest : Dn P w K mg base CX0 3 "dearest" ["book", "is_free"] (sp_dearest C)) (d_days_in : Dn P w K mg base CX0 4 "days_in" ["book", "month"] (sp_days_in C))
    (m_lengths : Dpr P w K mg base CX0 1 C "lengths" (sp_g_lengths C)) (m_memory : Dpr P w K mg base CX0 1 C "memory" (sp_g_memory C)) : FnOk P w K mg base CX0 5 f fd ["book", "cap"] (sp_candidates C) := by
  have sc : FnScope ["book", "cap", "rate", "other", "found", "month", "later", "more"] ["book", "cap"] (defScope s_candidates) := ⟨rfl, rfl, rfl, by decide +kernel, rfl, by decide +kernel, by decide +kernel⟩
  refine F.ok sc (by rintro vs H Q E ⟨_, _, _, rfl, _⟩; rfl) (fun cdv A outer s H vs Q E hr h => ⟨_, PSs.nox ((pss_cons (ps_par3 (i := 2) (j := 3) (l := 4) (by rfl) sc.nd rfl rfl rfl (by decide) (by decide) (by decide) rfl rfl rfl (pa_cons (pe_ix (ix_tupK (K := K) rfl) (pe_fn d_dearest (hr.mono (by decide)) pass0 (pa_cons (pv 0) (pa_cons pe_bl pa_nil))) pe_int (fun _ _ => rfl)) (pa_cons (pe_fn d_dearest (hr.mono (by decide)) pass0 (pa_cons (pv 0) (pa_cons pe_bl pa_nil))) (pa_cons (pe_lst pa_nil) pa_nil))) (by rfl))
      (pss_cons (ps_for PassesOwn.never rfl (pi_range1 (by rfl) T.b_range (pa_cons (pe_callB (c_lenK (K := K) rfl) (by rfl) T.b_len (by decide +kernel) (pa_cons (pe_propA m_lengths (pv 0) (hr.mono (by decide)) pass0) pa_nil)) pa_nil)) (pg_name (i := 5) sc.nd rfl (by first | exact Or.inl rfl | exact Or.inr rfl)) (pss_cons (ps_set (i := 6) sc.nd rfl (by first | exact Or.inl rfl | exact Or.inr rfl) (pe_op op_mul (pe_callB (c_sumK (K := K) rfl rfl) (by rfl) T.b_sum (by decide +kernel) (pa_cons (pe_lc (own := [("more", 7)]) (by rfl) sc.nd (pi_range2 (by rfl) T.b_range (pa_cons pe_int (pa_cons (pe_op op_add (pe_propA m_memory (pv 0) (hr.mono (by decide)) pass0) pe_int) pa_nil))) (blkOk_by (own := [("more", 7)]) (N := ["book", "cap", "rate", "other", "found", "month", "later", "more"]) (sc := defScope s_candidates) (by decide +kernel)) (fun _ _ _ _ _ => (pg_name (i := 7) sc.nd rfl (by first | exact Or.inl rfl | exact Or.inr rfl))) (fun _ _ _ _ _ => pts_nil) (fun _ _ _ _ _ => (pe_fn d_days_in (hr.mono (by decide)) pass0 (pa_cons (pv 0) (pa_cons (pe_op op_add (pv 5) (pv 7)) pa_nil))))) pa_nil)) (pv 1)))
      (Evl.pss_cut (ps_if (pt_cmpR op_ne (pe_ix (ix_tupK (K := K) rfl) (pe_fn d_dearest (hr.mono (by decide)) pass0 (pa_cons (pv 0) (pa_cons pe_bl pa_nil))) pe_int (fun _ _ => rfl)) pe_str (nomark _)) (pss_one (ps_expr (pe_bmK (K := K) rfl PySem.F.plainAttrs_list PySem.F.slot_list_append PySem.F.type_list_append mt_append (pv 4) (pa_cons (pe_tup (pa_cons (pe_op op_mul (pv 2) (pe_op op_add (pe_op op_add (pe_op op_mul (pv 1) (pe_fn d_days_in (hr.mono (by decide)) pass0 (pa_cons (pv 0) (pa_cons (pv 5) pa_nil)))) (pv 6)) pe_int)) (pa_cons (pv 5) (pa_cons pe_bl pa_nil)))) pa_nil)))) pss_nil)
      (pss_one (ps_if (pt_cmpR op_ne (pe_ix (ix_tupK (K := K) rfl) (pv 3) pe_int (fun _ _ => rfl)) pe_str (nomark _)) (pss_one (ps_expr (pe_bmK (K := K) rfl PySem.F.plainAttrs_list PySem.F.slot_list_append PySem.F.type_list_append mt_append (pv 4) (pa_cons (pe_tup (pa_cons (pe_op op_add (pe_op op_mul (pv 2) (pe_op op_add (pe_op op_mul (pe_op op_sub (pv 1) pe_int) (pe_fn d_days_in (hr.mono (by decide)) pass0 (pa_cons (pv 0) (pa_cons (pv 5) pa_nil)))) (pv 6))) (pe_ix (ix_tupK (K := K) rfl) (pv 3) pe_int (fun _ _ => rfl))) (pa_cons (pv 5) (pa_cons pe_bl pa_nil)))) pa_nil)))) pss_nil)))))
      (pss_one (ps_ret (pv 4)))))), ?_⟩)
  obtain ⟨p, B, cap, rfl, hB, ok, hc1, hc2, k⟩ := h
  obtain ⟨_, _, _, _, _, i1⟩ := id hB
  have l4 := ok.l2
  walk_at "rd"
  refine ⟨p, B, true, rfl, hB, ok, fun t1 H1 nm1 nt1 e1 ht1 hn1 => ?_⟩
  walk_at "rd"
  refine r_ixT (SqT.of ht1) (at_get (n := 0) rfl rfl) ?_
  walk_at "rd"
  refine ⟨p, B, false, rfl, hB.keep e1, ok, fun t2 H2 nm2 nt2 e2 ht2 hn2 => ?_⟩
  walk_at "rd"
  refine r_kLst fun f0 H3 nf3 e3 hf0 => ?_
  walk_at "rd"
  have e03 := (e1.trans e2).trans e3
  have nf0 : H f0 = none := (e1.trans e2).free nf3
  refine r_kProp (e03 _ _ i1.i) ⟨p, B, rfl, hB.keep e03, fun tls htls => ?_⟩
  walk_at "rd"
  refine r_lenT (SqT.of htls) ?_
  walk_at "rd"
  have hll : (B.ls.map V.int).length = B.ls.length := List.length_map _
  refine r_kForR1 (fun i σ' H' => ∃ (ws : List V) (y5 y6 y7 : Option V), σ' = [some (.ref p), some (.int cap), some (.int (mx0 (rsB true B))), some (.ref t2), some (.ref f0), y5, y6, y7] ∧ Same H H' ∧ H' t2 = some (.tup [.int (mx0 (rsB false B)), .str nm2]) ∧ H' f0 = some (.lst ws) ∧ WLs 2 H' ws (candW (rsB true B) (rsB false B) cap (fun n => dI B (n : Int)) (laterB B) i))
    (by omega) ⟨[], _, _, _, rfl, e03, e3 _ _ ht2, hf0, .nil⟩ ?_ ?_
  · rintro i σ' H4 hi ⟨ws, y5, y6, y7, rfl, e4, ht4, hf4, hW4⟩
    rw [hll] at hi
    have wl := hW4.len
    have cl := candW_len (rsB true B) (rsB false B) cap (fun n => dI B (n : Int)) (laterB B) i
    have m0 := ok.m0
    have m1 := ok.m1
    walk_at "rd"
    refine r_kProp (e4 _ _ i1.i) ⟨p, B, rfl, hB.keep e4, ?_⟩
    walk_at "rd"
    refine r_kLcR2 (fun Da j H' => Same H4 H' ∧ H' Da = some (.lst (((List.range j).map fun q : Nat => dI B ((i : Int) + 1 + (q : Int))).map V.int))) (by omega) (fun Da H' _ e h => ⟨e, h⟩) ?_ ?_
    · rintro Da j H5 nDa hj ⟨e5, hDa⟩
      walk_at "rd"
      refine ⟨p, B, _, rfl, hB.keep (e4.trans e5), ok, fun H6 e6 => ?_⟩
      refine r_kLcE (e6 _ _ hDa) (by rw [List.length_map, List.length_map, List.length_range]; omega) fun H7 b7 h7 => ⟨Same.mut (e5.trans e6) b7 nDa, ?_⟩
      rw [List.range_succ, List.map_append, List.map_append]
      have ez : (i : Int) + (1 + (j : Int)) = (i : Int) + 1 + (j : Int) := by omega
      rw [ez] at h7
      exact h7
    rintro Da H5 nDa ⟨e5, hDa⟩
    have em : (B.mem + 1 - 1).toNat = B.mem.toNat := by congr 1; omega
    rw [em] at hDa
    walk_at "rd"
    refine r_sum (SqL.of hDa) ?_
    have els : ((List.range B.mem.toNat).map fun q : Nat => dI B ((i : Int) + 1 + (q : Int))).sum = laterB B i := rfl
    rw [els]
    have cm0 : CMul (laterB B i) cap := .inr ⟨by omega, by omega⟩
    walk_at "rd"
    have e05 := e4.trans e5
    have hW5 := hW4.same e5
    have hf5 := e5 _ _ hf4
    have ht5 := e5 _ _ ht4
    have rb := rsK_mem (b := true) ok.kn.rt
    have rb2 := rsK_mem (b := false) ok.kn.rt
    have x0 := mx0_nonneg (rsB true B)
    have x1 : mx0 (rsB true B) ≤ 1000 := mx0_hi fun y hy => (rb y hy).2
    have x2 := mx0_nonneg (rsB false B)
    have cmc : ∀ z, CMul cap z := fun z => .inl ⟨by omega, by omega⟩
    have cmc1 : ∀ z, CMul (cap - 1) z := fun z => .inl ⟨by omega, by omega⟩
    have cmr : ∀ z, CMul (mx0 (rsB true B)) z := fun z => .inl ⟨by omega, by omega⟩
    refine r_cut (fun σ' H' => ∃ (ws' : List V), σ' = [some (.ref p), some (.int cap), some (.int (mx0 (rsB true B))), some (.ref t2), some (.ref f0), some (.int (i : Nat)), some (.int (laterB B i * cap)), y7] ∧ Same H H' ∧ H' t2 = some (.tup [.int (mx0 (rsB false B)), .str nm2]) ∧ H' f0 = some (.lst ws') ∧
        WLs 2 H' ws' (candW (rsB true B) (rsB false B) cap (fun n => dI B (n : Int)) (laterB B) i ++ (if rsB true B = [] then [] else [mx0 (rsB true B) * (cap * dI B (i : Int) + laterB B i * cap + 1)]))) ?_ ?_
    · walk_at "rd"
      refine ⟨p, B, true, rfl, hB.keep e05, ok, fun t6 H6 nm6 nt6 e6 ht6 hn6 => ?_⟩
      walk_at "rd"
      refine r_ixT (SqT.of ht6) (at_get (n := 1) rfl rfl) ?_
      have e06 := e05.trans e6
      have hf6 := e6 _ _ hf5
      have hW6 := hW5.same e6
      have ht46 := e6 _ _ ht5
      walk_at "rd"
      refine w_ndec (fun c1 => ?_) (fun c1 => ?_)
      · walk_at "rd"
        refine ⟨p, B, _, rfl, hB.keep e06, ok, fun H7 e7 => ?_⟩
        walk_at "rd"
        refine r_kTup fun t8 H8 nt8 e8 ht8 => ?_
        have hf8 := e8 _ _ (e7 _ _ hf6)
        walk_at "rd"
        refine r_append hf8 (by omega) fun H9 b9 hf9 => ?_
        have ts9 : ∀ u xs, H8 u = some (.tup xs) → H9 u = some (.tup xs) := fun u xs hu => b9 _ _ hu (ne_of hu hf8 (by intro z; cases z))
        walk_at "rd"
        refine ⟨_, rfl, Same.mut (e06.trans (e7.trans e8)) b9 nf0, ts9 _ _ (e8 _ _ (e7 _ _ ht46)), hf9, ?_⟩
        rw [if_neg (fun z => c1 (hn6.mpr z))]
        exact (((hW6.same e7).same e8).keep ts9).snoc (ts9 _ _ ht8)
      · walk_at "rd"
        refine ⟨_, rfl, e06, ht46, hf6, ?_⟩
        rw [if_pos (hn6.mp c1), List.append_nil]
        exact hW6
    rintro σ' H6 ⟨ws6, rfl, e6, ht6, hf6, hW6⟩
    have wl6 := hW6.len
    have b6 : (if rsB true B = [] then ([] : List Int) else [mx0 (rsB true B) * (cap * dI B (i : Int) + laterB B i * cap + 1)]).length ≤ 1 := by split <;> simp
    rw [List.length_append] at wl6
    walk_at "rd"
    refine r_ixT (SqT.of ht6) (at_get (n := 1) rfl rfl) ?_
    walk_at "rd"
    refine w_ndec (fun c1 => ?_) (fun c1 => ?_)
    · walk_at "rd"
      refine ⟨p, B, _, rfl, hB.keep e6, ok, fun H7 e7 => ?_⟩
      walk_at "rd"
      refine r_ixT (SqT.of (e7 _ _ ht6)) (at_get (n := 0) rfl rfl) ?_
      walk_at "rd"
      refine r_kTup fun t8 H8 nt8 e8 ht8 => ?_
      have hf8 := e8 _ _ (e7 _ _ hf6)
      walk_at "rd"
      refine r_append hf8 (by omega) fun H9 b9 hf9 => ?_
      have ts9 : ∀ u xs, H8 u = some (.tup xs) → H9 u = some (.tup xs) := fun u xs hu => b9 _ _ hu (ne_of hu hf8 (by intro z; cases z))
      walk_at "rd"
      refine ⟨_, _, _, _, rfl, Same.mut (e6.trans (e7.trans e8)) b9 nf0, ts9 _ _ (e8 _ _ (e7 _ _ ht6)), hf9, ?_⟩
      rw [candW, ← List.append_assoc, if_neg (c := rsB false B = []) (fun z => c1 (hn2.mpr z))]
      exact (((hW6.same e7).same e8).keep ts9).snoc (ts9 _ _ ht8)
    · walk_at "rd"
      refine ⟨_, _, _, _, rfl, e6, ht6, hf6, ?_⟩
      rw [candW, if_pos (c := rsB false B = []) (hn2.mp c1), List.append_nil]
      exact hW6
  · rintro σ' H4 ⟨ws, y5, y6, y7, rfl, e4, ht4, hf4, hW4⟩
    rw [Int.toNat_natCast, hll] at hW4
    walk_at "rd"
    exact k f0 H4 ws nf0 e4 hf4 hW4
theorem dI_nonneg {B : Bk} (ok : B.Ok) (n : Nat) : 0 ≤ dI B (n : Int) := by
  have h := firstL_step ok.ls (m := n)
  have := ok.d0
  unfold dI
  split <;> omega
theorem later_nonneg {B : Bk} (ok : B.Ok) (n : Nat) : 0 ≤ laterB B n := by
  unfold laterB
  have : ∀ l : List Nat, 0 ≤ (l.map fun k : Nat => dI B ((n : Int) + 1 + (k : Int))).sum := by
    intro l
    induction l with
    | nil => exact Int.le_refl _
    | cons a l ih =>
      rw [List.map_cons, List.sum_cons]
      have h := dI_nonneg ok (n + 1 + a)
      have e : ((n + 1 + a : Nat) : Int) = (n : Int) + 1 + (a : Int) := by omega
      rw [e] at h
      omega
  exact this _
theorem rs_some {B : Bk} (ok : B.Ok) : rsB true B ≠ [] ∨ rsB false B ≠ [] := by
  have h1 := ok.kn.lo
  match hk : B.ks with
  | [] => rw [hk] at h1; simp at h1
  | (n, r, b) :: l =>
    have : ∀ c, c = b → rsB c B ≠ [] := fun c e => by
      unfold rsB rsK
      rw [hk]
      subst e
      simp
    cases b with
    | true => exact .inl (this true rfl)
    | false => exact .inr (this false rfl)
theorem ok_greatest_late_of {f C : Addr} {fd : FuncData} (T : Tx K mg) (F : FnP K "greatest_late_of" s_greatest_late_of f fd) (d_candidates : Dn P w K mg base CX0 5 "candidates" ["book", "cap"] (sp_candidates C)) : FnOk P w K mg base CX0 6 f fd ["book", "cap"] (sp_late_of C) := by
  have sc : FnScope ["book", "cap", "grains", "month", "is_other"] ["book", "cap"] (defScope s_greatest_late_of) := ⟨rfl, rfl, rfl, by decide +kernel, rfl, by decide +kernel, by decide +kernel⟩
  refine F.ok sc (by rintro vs H Q E ⟨_, _, _, rfl, _⟩; rfl) (fun cdv A outer s H vs Q E hr h => ⟨_, PSs.nox ((pss_one (ps_ret (pe_callB (c_maxK (K := K) rfl rfl) (by rfl) T.b_max (by decide +kernel) (pa_cons (pe_lc (own := [("grains", 2), ("month", 3), ("is_other", 4)]) (by rfl) sc.nd (pi_listK (K := K) rfl (pe_fn d_candidates (hr.mono (by decide)) pass0 (pa_cons (pv 0) (pa_cons (pv 1) pa_nil)))) (blkOk_by (own := [("grains", 2), ("month", 3), ("is_other", 4)]) (N := ["book", "cap", "grains", "month", "is_other"]) (sc := defScope s_greatest_late_of) (by decide +kernel)) (fun _ _ _ _ _ => (pg_tupK (K := K) (n := 3) rfl rfl (pgs_cons (pg_name (i := 2) sc.nd rfl (by first | exact Or.inl rfl | exact Or.inr rfl)) (pgs_cons (pg_name (i := 3) sc.nd rfl (by first | exact Or.inl rfl | exact Or.inr rfl)) (pgs_cons (pg_name (i := 4) sc.nd rfl (by first | exact Or.inl rfl | exact Or.inr rfl)) pgs_nil))))) (fun _ _ _ _ _ => pts_nil) (fun _ _ _ _ _ => (pv 2))) pa_nil))))), ?_⟩)
  obtain ⟨p, B, cap, rfl, hB, ok, hc1, hc2, k⟩ := h
  walk_at "rd"
  refine ⟨p, B, cap, rfl, hB, ok, hc1, hc2, fun t H1 ws nt e1 ht hW => ?_⟩
  walk_at "rd"
  have wl := hW.len
  have cl := candW_len (rsB true B) (rsB false B) cap (fun n => dI B (n : Int)) (laterB B) B.ls.length
  have l4 := ok.l2
  have wl8 : ws.length ≤ 8 := by
    rw [wl]
    unfold candB
    omega
  refine r_kLcL (xs := ws) (fun Da i H' => Same H1 H' ∧ H' Da = some (.lst (((candB B cap).take i).map V.int))) (SqL.of ht) (fun Da H' _ e h => ⟨e, h⟩) (fun Da i H' h => SqL.of (h.1 _ _ ht)) ?_ ?_
  · rintro Da i x H2 nDa hx ⟨e2, hDa⟩
    obtain ⟨tr, y, r, rfl, hy, htr, hr⟩ := hW.get hx
    have hil := (List.getElem?_eq_some_iff.mp hx).1
    obtain ⟨r1, r2, rfl⟩ : ∃ r1 r2, r = [r1, r2] := by
      match r, hr with
      | [a, b], _ => exact ⟨a, b, rfl⟩
    refine r_gtup (SqT.of (e2 _ _ htr)) rfl ?_
    walk_at "rd"
    refine r_kLcE hDa (by rw [List.length_map, List.length_take]; omega) fun H3 b3 h3 => ⟨Same.mut e2 b3 nDa, ?_⟩
    rw [take_more hy, List.map_append]
    exact h3
  rintro Da H2 nDa ⟨e2, hDa⟩
  have hwl : (candB B cap).take ws.length = candB B cap := by rw [wl, List.take_length]
  rw [hwl] at hDa
  have hne : candB B cap ≠ [] := candW_ne (rs_some ok) _ ok.l1
  walk_at "rd"
  refine r_maxI (SqL.of hDa) (List.length_pos_iff.mpr hne) fun m hm hle => ?_
  walk_at "rd"
  have e : m = lateB B cap := cand_max hc1 (dI_nonneg ok) (later_nonneg ok) (rs_some ok) ok.l1 ⟨hm, hle⟩
  rw [e]
  exact k H2 (e1.trans e2)
end
end Wp
set_option Elab.async false
set_option linter.all false
set_option maxRecDepth 100000
set_option maxHeartbeats 4000000
/-! Promises of the program. -/
namespace Wp
open PySem PySem.Spec PyProof.Rows L2
abbrev s_is_promise : Stmt := topS 44
abbrev s_breaker : Stmt := topS 45
local macro_rules | `(tactic| walk_at "val") => `(tactic| assumption)
local macro_rules | `(tactic| walk_at "rd1") => `(tactic| first
  | with_reducible refine r_seq ?_ | with_reducible refine r_next ?_ | with_reducible refine r_if ?_ | with_reducible refine r_asg ?_ | with_reducible refine r_gname ?_
  | with_reducible refine r_ret ?_ | with_reducible refine r_retN ?_ | with_reducible refine r_drop ?_ | with_reducible refine r_par ?_ | with_reducible refine r_kPar ?_
  | ((with_reducible refine' r_var ?hv ?_); (case hv => exact rfl)) | with_reducible refine r_c ?_ | with_reducible refine r_nil ?_ | with_reducible refine r_cons ?_
  | with_reducible refine r_fn ?_ | with_reducible refine r_cb ?_ | with_reducible refine r_op ?_ | with_reducible refine r_un ?_ | with_reducible refine r_I0 ?_
  | with_reducible refine r_pow5 ?_ | with_reducible refine r_pow6 ?_ | with_reducible refine r_pow7 ?_ | with_reducible refine r_pow9 ?_ | with_reducible refine r_pow18 ?_ | with_reducible refine r_pow20 ?_ | with_reducible refine r_pow30 ?_
  | with_reducible refine r_isN_non ?_ | with_reducible refine r_isN_ref ?_ | with_reducible refine r_isN_int ?_ | with_reducible refine r_isN_str ?_ | with_reducible refine r_isN_bl ?_ | with_reducible refine r_notN_non ?_ | with_reducible refine r_notN_ref ?_ | with_reducible refine r_notN_int ?_ | with_reducible refine r_notN_str ?_ | with_reducible refine r_notN_bl ?_
  | ((with_reducible refine r_I ?hc ?_); (case hc => walk_at "side")) | with_reducible refine r_U ?_
  | with_reducible refine r_eqI ?_ | with_reducible refine r_neI ?_ | with_reducible refine r_eqS ?_ | with_reducible refine r_neS ?_ | with_reducible refine r_eqB ?_ | with_reducible refine r_neB ?_
  | with_reducible refine r_chain ?_ | with_reducible refine r_test ?_ | with_reducible refine r_tB ?_ | with_reducible refine r_kTest ?_ | with_reducible refine r_not ?_
  | with_reducible refine r_and ?_ | with_reducible refine r_or ?_ | with_reducible refine r_tif ?_ | with_reducible refine r_andV ?_ | with_reducible refine r_orV ?_ | with_reducible refine r_notV ?_
  | with_reducible refine r_kAndV ?_ | with_reducible refine r_kOrV ?_ | with_reducible refine r_kNotV ?_
  | with_reducible refine w_T ?_ | with_reducible refine w_F ?_ | with_reducible refine w_NT ?_ | with_reducible refine w_NF ?_
  | with_reducible refine r_tup ?_ | with_reducible refine r_lst ?_ | with_reducible refine r_fld ?_ | with_reducible refine r_prop ?_ | ((with_reducible refine' r_aug ?h1 ?_); (case h1 => exact rfl)) | with_reducible refine r_ipI ?_ | with_reducible refine r_dget ?_ | with_reducible refine r_dput ?_ | with_reducible refine r_bm ?_
  | ((with_reducible refine' r_kDGetS ?h1 ?h2 ?_); (case h1 => assumption); (case h2 => walk_at "val"))
  | ((with_reducible refine' r_kBML ?h1 ?_); (case h1 => assumption))
  | with_reducible refine r_forL ?_ | with_reducible refine r_forR1 ?_ | with_reducible refine r_forR2 ?_ | with_reducible refine r_forT ?_ | with_reducible refine r_lcL ?_ | with_reducible refine r_lcR1 ?_
  | ((with_reducible refine r_kLcG ?hw ?_); (case hw => exact rfl)) | with_reducible refine r_kLcT ?_ | with_reducible refine r_yes ?_
  | with_reducible refine r_pnil ?_ | with_reducible refine r_pcons ?_
  | with_reducible refine r_fnK ?_ | ((with_reducible refine r_kFnK ?hl ?_); (case hl => exact rfl))
  | with_reducible refine r_isi_ii ?_ | with_reducible refine r_isi_ib ?_ | with_reducible refine r_isi_bi ?_ | with_reducible refine r_isi_bb ?_ | with_reducible refine r_isi_ss ?_ | with_reducible refine r_isi_is ?_ | with_reducible refine r_isi_it ?_
  | ((with_reducible refine' r_isi_tt ?h1 ?_); (case h1 => assumption))
  | with_reducible refine r_sfld ?_ | with_reducible refine r_gnil ?_ | with_reducible refine r_gcons ?_
  | ((with_reducible refine' r_gtup ?h1 ?h2 ?_); (case h1 => exact SqT.of (by assumption)); (case h2 => exact rfl))
  | with_reducible refine r_sl ?_ | with_reducible refine r_noPart ?_ | with_reducible refine r_part ?_ | with_reducible refine r_kPart ?_ | with_reducible refine r_m1 ?_ | with_reducible refine r_kM1 ?_ | with_reducible refine r_forS ?_ | with_reducible refine r_lcS ?_ | with_reducible refine r_lcTu ?_ | with_reducible refine r_lcK ?_ | with_reducible refine r_dcL ?_ | with_reducible refine r_dcK ?_ | with_reducible refine r_lc2L ?_ | with_reducible refine r_kLc2TL ?_ | with_reducible refine r_dcEn ?_ | with_reducible refine r_gslc ?_ | with_reducible refine r_lcEn ?_ | with_reducible refine r_lcEl ?_ | with_reducible refine r_lcR2 ?_ | with_reducible refine r_rg1 ?_ | with_reducible refine r_forET ?_ | with_reducible refine r_lenD ?_
  | ((with_reducible refine r_kDcG ?hw ?_); (case hw => exact rfl)) | with_reducible refine r_kDcT ?_
  | with_reducible refine r_fldaug ?_ | with_reducible refine r_daug ?_ | with_reducible refine r_rAdd ?_ | with_reducible refine r_rSub ?_ | with_reducible refine r_ddel ?_ | with_reducible refine r_bmF ?_ | with_reducible refine r_dget2 ?_ | with_reducible refine r_listItems ?_ | with_reducible refine r_bm0 ?_ | with_reducible refine r_lc2E ?_ | ((with_reducible refine r_kLc2G ?hw ?_); (case hw => exact rfl)) | with_reducible refine r_kLc2T ?_ | with_reducible refine r_forE ?_ | with_reducible refine r_orT ?_ | with_reducible refine r_din ?_ | with_reducible refine r_augS ?_ | with_reducible refine r_dnotin ?_ | with_reducible refine r_lcIT ?_ | with_reducible refine r_cont ?_ | with_reducible refine r_meth ?_ | with_reducible refine r_frz ?_ | with_reducible refine r_par3 ?_ | with_reducible refine r_kPar3 ?_ | with_reducible refine r_dz ?_ | with_reducible refine r_revL ?_ | with_reducible refine r_star ?_ | with_reducible refine r_int1 ?_ | with_reducible refine r_int1b ?_ | with_reducible refine r_min2 ?_ | with_reducible refine r_max2 ?_ | with_reducible refine r_gsub ?_)
local macro_rules | `(tactic| walk_at "rd") => `(tactic| repeat walk_at "rd1")
local macro_rules | `(tactic| walk_at "side") => `(tactic| first | assumption | exact Or.inr ⟨by decide, by decide⟩ | exact Or.inl ⟨by decide, by decide⟩ | (constructor <;> omega) | omega | decide | (refine Or.inl ⟨?_, ?_⟩ <;> omega) | (refine Or.inr ⟨?_, ?_⟩ <;> omega) | (refine ⟨?_, ?_, ?_⟩ <;> first | decide | omega))
def sp_next_day (C : Addr) : Sp := fun vs H Q _ => ∃ (p : Addr) (B : Bk) (d m : Int), vs = [.ref p, .int d, .int m] ∧ BookAt C H p B ∧ B.Ok ∧ 0 ≤ d ∧ d ≤ 2000 ∧ 0 ≤ m ∧ m ≤ 2000 ∧ ∀ H', Same H H' → Q (oV (nextO B.ls B.due m d B.ls.sum.toNat)) H'
def sp_is_promise (K : PySem.W.Frag) : Sp := fun vs H Q _ => ∃ (v : V) (b : Bool), vs = [v] ∧ Vw K H v b ∧ ∀ H', Same H H' → Q (.bl b) H'
def sp_breaker (C : Addr) : Sp := fun vs H Q _ => ∃ (p t : Addr) (B : Bk) (s : Str) (n : Int), vs = [.ref p, .ref t] ∧ BookAt C H p B ∧ B.Ok ∧ H t = some (.tup [.str s, .int n]) ∧ s ∈ (["each", "some"] : List Str) ∧ 0 ≤ n ∧ n ≤ 100 ∧ ∀ H', Same H H' → Q (oV (brkO B.ls B.due s n)) H'
section
variable {P : Program} {w : World} {K : PySem.W.Frag} {mg : Str → Option Value} {base : Heap}
theorem ok_is_promise {f : Addr} {fd : FuncData} (T : Tx K mg) (F : FnP K "is_promise" s_is_promise f fd) (d_is_number_in : Dn P w K mg base CX0 2 "is_number_in" ["value", "least", "most"] (sp_is_number_in K)) :
    FnOk P w K mg base CX0 3 f fd ["value"] (sp_is_promise K) := by
  have sc : FnScope ["value"] ["value"] (defScope s_is_promise) := ⟨rfl, rfl, rfl, by decide +kernel, rfl, by decide +kernel, by decide +kernel⟩
  refine F.ok sc (by rintro vs H Q E ⟨_, _, rfl, _⟩; rfl) (fun cdv A outer s H vs Q E hr h => ⟨_, PSs.nox ((pss_cons (ps_if (PW.pt (pw_or (pt_not (pt_val (pe_callB (c_isiK (K := K) rfl) (by rfl) T.b_isinstance (by decide +kernel) (pa_cons (pv 0) (pa_cons (pe_bltn (v := .ty "tuple") (by rfl) T.b_tuple (by decide +kernel) rfl) pa_nil))))) (pw_or (pt_cmpR op_ne (pe_callB (c_lenK (K := K) rfl) (by rfl) T.b_len (by decide +kernel) (pa_cons (pv 0) pa_nil)) pe_int (nomark _)) (pw_or1 (pt_not (pt_val (pe_callB (c_isiK (K := K) rfl) (by rfl) T.b_isinstance (by decide +kernel) (pa_cons (pe_ix (ix_tupK (K := K) rfl) (pv 0) pe_int (fun _ _ => rfl)) (pa_cons (pe_bltn (v := .ty "str") (by rfl) T.b_str (by decide +kernel) rfl) pa_nil))))))))) (pss_one (ps_ret pe_bl)) pss_nil)
      (pss_one (ps_ret (pe_and (pe_cmpR (in_seqK (K := K) rfl) (pe_ix (ix_tupK (K := K) rfl) (pv 0) pe_int (fun _ _ => rfl)) (pe_tup (pa_cons (pe_glob (v := .str "each") (by rfl) T.c_EACH.choose_spec ⟨_, rfl⟩) (pa_cons (pe_glob (v := .str "some") (by rfl) T.c_SOME.choose_spec ⟨_, rfl⟩) pa_nil))) (by rfl)) (pe_one (pe_fn d_is_number_in (hr.mono (by decide)) pass0 (pa_cons (pe_ix (ix_tupK (K := K) rfl) (pv 0) pe_int (fun _ _ => rfl)) (pa_cons pe_int (pa_cons (pe_glob (v := .int 100) (by rfl) T.c_MOST_DAYS.choose_spec ⟨_, rfl⟩) pa_nil)))))))))), ?_⟩)
  obtain ⟨v, b, rfl, hv, k⟩ := h
  walk_at "rd"
  cases hv with
  | ty h1 h2 =>
    refine r_isiT h1 h2 ?_
    walk_at "rd"
    exact k H (Same.refl _)
  | len h1 h2 h3 =>
    refine r_isi_tt h1 ?_
    walk_at "rd"
    refine r_lenT (SqT.of h1) ?_
    walk_at "rd"
    refine w_ndec (fun h => ?_) (fun h => ?_)
    · walk_at "rd"
      exact k H (Same.refl _)
    · exact absurd (by omega) h2
  | fst h1 h2 h3 =>
    refine r_isi_tt h1 ?_
    walk_at "rd"
    refine r_lenT (SqT.of h1) ?_
    walk_at "rd"
    refine w_ndec (fun h => absurd rfl h) (fun _ => ?_)
    walk_at "rd"
    refine r_ixT (SqT.of h1) (at_get (n := 0) rfl rfl) ?_
    walk_at "rd"
    refine r_isiT h2 h3 ?_
    walk_at "rd"
    exact k H (Same.refl _)
  | two h1 h2 =>
    refine r_isi_tt h1 ?_
    walk_at "rd"
    refine r_lenT (SqT.of h1) ?_
    walk_at "rd"
    refine w_ndec (fun h => absurd rfl h) (fun _ => ?_)
    walk_at "rd"
    refine r_ixT (SqT.of h1) (at_get (n := 0) rfl rfl) ?_
    walk_at "rd"
    refine r_ixT (SqT.of h1) (at_get (n := 0) rfl rfl) ?_
    walk_at "rd"
    refine r_kTup fun t1 H1 nt1 e1 ht1 => ?_
    refine r_inTS (xs := ["each", "some"]) (SqT.of ht1) ?_
    walk_at "rd"
    refine w_dec (fun g => ?_) (fun g => ?_)
    · walk_at "rd"
      refine r_ixT (SqT.of (e1 _ _ h1)) (at_get (n := 1) rfl rfl) ?_
      walk_at "rd"
      refine ⟨_, _, 0, 100, rfl, NumV.same e1 h2, ?_⟩
      walk_at "rd"
      have hk := k H1 e1
      unfold vowB at hk
      rw [decide_eq_true g, Bool.true_and] at hk
      exact hk
    · have hk := k H1 e1
      unfold vowB at hk
      rw [decide_eq_false g, Bool.false_and] at hk
      walk_at "rd"
      exact hk
theorem ok_breaker {f C : Addr} {fd : FuncData} (T : Tx K mg) (F : FnP K "breaker" s_breaker f fd) (d_need_book : Dn P w K mg base CX0 1 "need_book" ["value"] (sp_need_book C)) (d_is_promise : Dn P w K mg base CX0 3 "is_promise" ["value"] (sp_is_promise K)) (m_lengths : Dpr P w K mg base CX0 1 C "lengths" (sp_g_lengths C)) (d_round_of : Dn P w K mg base CX0 4 "round_of" ["book"] (sp_round_of C)) :
    FnOk P w K mg base CX0 5 f fd ["book", "promise"] (sp_breaker C) := by
  have sc : FnScope ["book", "promise", "late", "is_kept", "day", "many"] ["book", "promise"] (defScope s_breaker) := ⟨rfl, rfl, rfl, by decide +kernel, rfl, by decide +kernel, by decide +kernel⟩
  refine F.ok sc (by rintro vs H Q E ⟨_, _, _, _, _, rfl, _⟩; rfl) (fun cdv A outer s H vs Q E hr h => ⟨_, PSs.nox ((pss_cons (ps_expr (pe_fn d_need_book (hr.mono (by decide)) pass0 (pa_cons (pv 0) pa_nil)))
      (pss_cons (ps_if (pt_not (pt_val (pe_fn d_is_promise (hr.mono (by decide)) pass0 (pa_cons (pv 1) pa_nil)))) (pss_one ps_never) pss_nil)
      (pss_cons (ps_setLc (i := 2) (own := [("day", 4), ("many", 5)]) (by rfl) sc.nd rfl rfl (sw_true rfl rfl rfl (by decide +kernel)) (pi_enumK (K := K) rfl (by rfl) T.b_enumerate (pa_cons (pe_fn d_round_of (hr.mono (by decide)) pass0 (pa_cons (pv 0) pa_nil)) pa_nil)) (blkOk_by (own := [("day", 4), ("many", 5)]) (N := ["book", "promise", "late", "is_kept", "day", "many"]) (sc := defScope s_breaker) (by decide +kernel)) (fun _ _ _ _ _ => (pg_tupK (K := K) (n := 2) rfl rfl (pgs_cons (pg_name (i := 4) sc.nd rfl (by first | exact Or.inl rfl | exact Or.inr rfl)) (pgs_cons (pg_name (i := 5) sc.nd rfl (by first | exact Or.inl rfl | exact Or.inr rfl)) pgs_nil)))) (fun _ _ _ _ _ => (pts_one (pt_cmpR op_lt (pv 5) (pe_ix (ix_tupK (K := K) rfl) (pv 1) pe_int (fun _ _ => rfl)) (nomark _)))) (fun _ _ _ _ _ => (pv 4)))
      (pss_cons (ps_set (i := 3) sc.nd rfl (by first | exact Or.inl rfl | exact Or.inr rfl) (pe_or (pe_cmpR (eqNilK (K := K) rfl hr.units) (pv 2) (pe_lst pa_nil) (nomark _)) (pe_one (pe_and (pe_cmpR op_eq (pe_ix (ix_tupK (K := K) rfl) (pv 1) pe_int (fun _ _ => rfl)) (pe_glob (v := .str "some") (by rfl) T.c_SOME.choose_spec ⟨_, rfl⟩) (nomark _)) (pe_one (pe_cmpR op_lt (pe_callB (c_lenK (K := K) rfl) (by rfl) T.b_len (by decide +kernel) (pa_cons (pv 2) pa_nil)) (pe_callB (c_sumT (K := K) rfl rfl) (by rfl) T.b_sum (by decide +kernel) (pa_cons (pe_propA m_lengths (pv 0) (hr.mono (by decide)) pass0) pa_nil)) (nomark _)))))))
      (pss_one (ps_ret (pe_ifExp (pt_val (pv 3)) pe_non (pe_ix (ix_listK (K := K) rfl) (pv 2) pe_int (fun _ _ => rfl)))))))))), ?_⟩)
  obtain ⟨p, t, B, s, n, rfl, hB, ok, ht, hs, n0, n1, k⟩ := h
  have hsum := ok.ls.sum
  have l1 := ok.ls.l1
  have l2 := ok.ls.l2
  walk_at "rd"
  refine ⟨p, B, rfl, hB, ?_⟩
  walk_at "rd"
  refine ⟨.ref t, _, rfl, Vw.two ht (.int n), fun H1 e1 => ?_⟩
  have hv : vowB s (some n) = true := by
    show (decide (s ∈ (["each", "some"] : List Str)) && (decide (0 ≤ n) && decide (n ≤ 100))) = true
    rw [decide_eq_true hs, decide_eq_true n0, decide_eq_true n1]
    rfl
  rw [hv]
  walk_at "rd"
  refine ⟨p, B, rfl, hB.keep e1, ok, fun rl H2 nrl e2 hrl => ?_⟩
  walk_at "rd"
  refine r_kLcEl (SqL.of hrl) (fun Da i H' => Same H2 H' ∧ H' Da = some (.lst ((lateL B.ls B.due n i).map V.int))) (fun Da H' _ e h => ⟨e, h⟩) (fun Da i H' h => SqL.of (h.1 _ _ hrl)) ?_ ?_
  · rintro Da i x T' H3 H4 hD hx ⟨e3, hDa⟩ nT e4 hT
    have hi := (List.getElem?_eq_some_iff.mp hx).1
    rw [List.length_map, show rnd B.ls B.due = rndL B.ls B.due B.ls.sum.toNat from rfl, rndL_len] at hi
    obtain rfl : x = V.int (fdL B.ls B.due (i : Int)) := by
      rw [show rnd B.ls B.due = rndL B.ls B.due B.ls.sum.toNat from rfl] at hx
      unfold rndL at hx
      rw [List.getElem?_map, List.getElem?_map, List.getElem?_range hi] at hx
      exact (Option.some.inj hx).symm
    have hl := lateL_len B.ls B.due n i
    have e34 := e3.trans e4
    have ht4 := e34 _ _ (e2 _ _ (e1 _ _ ht))
    walk_at "rd"
    refine r_ixT (SqT.of ht4) (at_get (n := 1) rfl rfl) ?_
    walk_at "rd"
    refine w_dec (fun g => ?_) (fun g => ?_)
    · walk_at "rd"
      refine r_kLcE (e4 _ _ hDa) (by rw [List.length_map]; omega) fun H5 b5 h5 => ⟨Same.mut e34 b5 hD, ?_⟩
      rw [lateL_snoc, if_pos g, List.map_append]
      exact h5
    · exact ⟨e34, by rw [lateL_snoc, if_neg g, List.append_nil]; exact e4 _ _ hDa⟩
  · rintro la H3 nla ⟨e3, hla⟩
    rw [List.length_map, show rnd B.ls B.due = rndL B.ls B.due B.ls.sum.toNat from rfl, rndL_len] at hla
    walk_at "rd"
    refine r_kLst fun a3 H4 na3 e4 ha3 => ?_
    have hla4 := e4 _ _ hla
    refine r_eqNilA (SqL.of hla4) (SqL.of ha3) ?_
    have e14 := (e1.trans e2).trans (e3.trans e4)
    have hk : ∀ o, brkO B.ls B.due s n = o → ∀ H', Same H4 H' → Q (oV o) H' := fun o ho H' e' => by rw [← ho]; exact k H' (e14.trans e')
    have ht4 := e14 _ _ ht
    have hlen := lateL_len B.ls B.due n B.ls.sum.toNat
    walk_at "rd"
    refine w_dec (fun g => ?_) (fun g => ?_)
    · walk_at "rd"
      refine hk none ?_ _ (Same.refl _)
      have g' : lateL B.ls B.due n B.ls.sum.toNat = [] := List.map_eq_nil_iff.mp g
      unfold brkO
      rw [decide_eq_true g', Bool.true_or, if_pos rfl]
    · have g' : lateL B.ls B.due n B.ls.sum.toNat ≠ [] := fun h => g (by rw [h]; rfl)
      obtain ⟨x, xs, hxs⟩ := List.exists_cons_of_ne_nil g'
      have hfin : ∀ H', Same H4 H' → brkO B.ls B.due s n = some x → rIxL K (.ref la) (.int 0) H' fun v H2 => Q v H2 := fun H' e' ho => by
        have h0 := e' _ _ hla4
        rw [hxs] at h0
        exact r_ixL (SqL.of h0) (at_get (n := 0) rfl rfl) (hk _ ho H' e')
      walk_at "rd"
      refine r_ixT (SqT.of ht4) (at_get (n := 0) rfl rfl) ?_
      walk_at "rd"
      refine w_dec (fun g2 => ?_) (fun g2 => ?_)
      · walk_at "rd"
        refine r_lenL (SqL.of hla4) ?_
        rw [List.length_map]
        obtain ⟨dx, tl, kd, lv, kvs, hI⟩ := hB.keep e14
        walk_at "rd"
        refine r_kProp hI.i ?_
        refine ⟨p, B, rfl, hB.keep e14, fun tl htl => ?_⟩
        walk_at "rd"
        refine r_sumT (SqT.of htl) ?_
        walk_at "rd"
        refine w_dec (fun g3 => ?_) (fun g3 => ?_)
        · walk_at "rd"
          refine hk none ?_ _ (Same.refl _)
          unfold brkO
          rw [decide_eq_false g', decide_eq_true g2, decide_eq_true g3]
          rfl
        · walk_at "rd"
          refine hfin _ (Same.refl _) ?_
          unfold brkO
          rw [decide_eq_false g', decide_eq_true g2, decide_eq_false g3, hxs]
          rfl
      · walk_at "rd"
        refine hfin _ (Same.refl _) ?_
        unfold brkO
        rw [decide_eq_false g', decide_eq_false g2, hxs]
        rfl
end
end Wp
set_option Elab.async false
set_option linter.all false
set_option maxRecDepth 100000
set_option maxHeartbeats 4000000
/-! wishes: what is one, whether a book keeps it. -/
namespace Wp
open PySem PySem.Spec PyProof.Rows L2
abbrev s_is_count : Stmt := topS 53
abbrev s_is_wish : Stmt := topS 54
abbrev s_does_keep : Stmt := topS 55
abbrev s_keeps : Stmt := topS 56
local macro_rules | `(tactic| walk_at "val") => `(tactic| assumption)
local macro_rules | `(tactic| walk_at "rd1") => `(tactic| first
  | with_reducible refine r_seq ?_ | with_reducible refine r_next ?_ | with_reducible refine r_if ?_ | with_reducible refine r_asg ?_ | with_reducible refine r_gname ?_
  | with_reducible refine r_ret ?_ | with_reducible refine r_retN ?_ | with_reducible refine r_drop ?_ | with_reducible refine r_par ?_ | with_reducible refine r_kPar ?_
  | ((with_reducible refine' r_var ?hv ?_); (case hv => exact rfl)) | with_reducible refine r_c ?_ | with_reducible refine r_nil ?_ | with_reducible refine r_cons ?_
  | with_reducible refine r_fn ?_ | with_reducible refine r_cb ?_ | with_reducible refine r_op ?_ | with_reducible refine r_un ?_ | with_reducible refine r_I0 ?_
  | with_reducible refine r_pow5 ?_ | with_reducible refine r_pow6 ?_ | with_reducible refine r_pow7 ?_ | with_reducible refine r_pow9 ?_ | with_reducible refine r_pow18 ?_ | with_reducible refine r_pow20 ?_ | with_reducible refine r_pow30 ?_
  | with_reducible refine r_isN_non ?_ | with_reducible refine r_isN_ref ?_ | with_reducible refine r_isN_int ?_ | with_reducible refine r_isN_str ?_ | with_reducible refine r_isN_bl ?_ | with_reducible refine r_notN_non ?_ | with_reducible refine r_notN_ref ?_ | with_reducible refine r_notN_int ?_ | with_reducible refine r_notN_str ?_ | with_reducible refine r_notN_bl ?_
  | ((with_reducible refine r_I ?hc ?_); (case hc => walk_at "side")) | with_reducible refine r_U ?_
  | with_reducible refine r_eqI ?_ | with_reducible refine r_neI ?_ | with_reducible refine r_eqS ?_ | with_reducible refine r_neS ?_ | with_reducible refine r_eqB ?_ | with_reducible refine r_neB ?_
  | with_reducible refine r_chain ?_ | with_reducible refine r_test ?_ | with_reducible refine r_tB ?_ | with_reducible refine r_kTest ?_ | with_reducible refine r_not ?_
  | with_reducible refine r_and ?_ | with_reducible refine r_or ?_ | with_reducible refine r_tif ?_ | with_reducible refine r_andV ?_ | with_reducible refine r_orV ?_ | with_reducible refine r_notV ?_
  | with_reducible refine r_kAndV ?_ | with_reducible refine r_kOrV ?_ | with_reducible refine r_kNotV ?_
  | with_reducible refine w_T ?_ | with_reducible refine w_F ?_ | with_reducible refine w_NT ?_ | with_reducible refine w_NF ?_
  | with_reducible refine r_tup ?_ | with_reducible refine r_lst ?_ | with_reducible refine r_fld ?_ | with_reducible refine r_prop ?_ | ((with_reducible refine' r_aug ?h1 ?_); (case h1 => exact rfl)) | with_reducible refine r_ipI ?_ | with_reducible refine r_dget ?_ | with_reducible refine r_dput ?_ | with_reducible refine r_bm ?_
  | ((with_reducible refine' r_kDGetS ?h1 ?h2 ?_); (case h1 => assumption); (case h2 => walk_at "val"))
  | ((with_reducible refine' r_kBML ?h1 ?_); (case h1 => assumption))
  | with_reducible refine r_forL ?_ | with_reducible refine r_forR1 ?_ | with_reducible refine r_forR2 ?_ | with_reducible refine r_forT ?_ | with_reducible refine r_lcL ?_ | with_reducible refine r_lcR1 ?_
  | ((with_reducible refine r_kLcG ?hw ?_); (case hw => exact rfl)) | with_reducible refine r_kLcT ?_ | with_reducible refine r_yes ?_
  | with_reducible refine r_pnil ?_ | with_reducible refine r_pcons ?_
  | with_reducible refine r_fnK ?_ | ((with_reducible refine r_kFnK ?hl ?_); (case hl => exact rfl))
  | with_reducible refine r_isi_ii ?_ | with_reducible refine r_isi_ib ?_ | with_reducible refine r_isi_bi ?_ | with_reducible refine r_isi_bb ?_ | with_reducible refine r_isi_ss ?_ | with_reducible refine r_isi_is ?_ | with_reducible refine r_isi_it ?_
  | ((with_reducible refine' r_isi_tt ?h1 ?_); (case h1 => assumption))
  | with_reducible refine r_sfld ?_ | with_reducible refine r_gnil ?_ | with_reducible refine r_gcons ?_
  | ((with_reducible refine' r_gtup ?h1 ?h2 ?_); (case h1 => exact SqT.of (by assumption)); (case h2 => exact rfl))
  | with_reducible refine r_sl ?_ | with_reducible refine r_noPart ?_ | with_reducible refine r_part ?_ | with_reducible refine r_kPart ?_ | with_reducible refine r_m1 ?_ | with_reducible refine r_kM1 ?_ | with_reducible refine r_forS ?_ | with_reducible refine r_lcS ?_ | with_reducible refine r_lcTu ?_ | with_reducible refine r_lcK ?_ | with_reducible refine r_dcL ?_ | with_reducible refine r_dcK ?_ | with_reducible refine r_lc2L ?_ | with_reducible refine r_kLc2TL ?_ | with_reducible refine r_dcEn ?_ | with_reducible refine r_gslc ?_ | with_reducible refine r_lcEn ?_ | with_reducible refine r_lcEl ?_ | with_reducible refine r_lcR2 ?_ | with_reducible refine r_rg1 ?_ | with_reducible refine r_forET ?_ | with_reducible refine r_lenD ?_
  | ((with_reducible refine r_kDcG ?hw ?_); (case hw => exact rfl)) | with_reducible refine r_kDcT ?_
  | with_reducible refine r_fldaug ?_ | with_reducible refine r_daug ?_ | with_reducible refine r_rAdd ?_ | with_reducible refine r_rSub ?_ | with_reducible refine r_ddel ?_ | with_reducible refine r_bmF ?_ | with_reducible refine r_dget2 ?_ | with_reducible refine r_listItems ?_ | with_reducible refine r_bm0 ?_ | with_reducible refine r_lc2E ?_ | ((with_reducible refine r_kLc2G ?hw ?_); (case hw => exact rfl)) | with_reducible refine r_kLc2T ?_ | with_reducible refine r_forE ?_ | with_reducible refine r_orT ?_ | with_reducible refine r_din ?_ | with_reducible refine r_augS ?_ | with_reducible refine r_dnotin ?_ | with_reducible refine r_lcIT ?_ | with_reducible refine r_cont ?_ | with_reducible refine r_meth ?_ | with_reducible refine r_frz ?_ | with_reducible refine r_par3 ?_ | with_reducible refine r_kPar3 ?_ | with_reducible refine r_dz ?_ | with_reducible refine r_revL ?_ | with_reducible refine r_star ?_ | with_reducible refine r_int1 ?_ | with_reducible refine r_int1b ?_ | with_reducible refine r_min2 ?_ | with_reducible refine r_max2 ?_ | with_reducible refine r_gsub ?_)
local macro_rules | `(tactic| walk_at "rd") => `(tactic| repeat walk_at "rd1")
local macro_rules | `(tactic| walk_at "side") => `(tactic| first | assumption | exact Or.inr ⟨by decide, by decide⟩ | exact Or.inl ⟨by decide, by decide⟩ | (constructor <;> omega) | omega | decide | (refine Or.inl ⟨?_, ?_⟩ <;> omega) | (refine Or.inr ⟨?_, ?_⟩ <;> omega) | (refine ⟨?_, ?_, ?_⟩ <;> first | decide | omega))
def cntO : Option Int → Bool
  | some i => decide (0 ≤ i)
  | none => false
abbrev Arg := V × Option Int × Bool
def wishB (s : Str) (as : List Arg) : Bool :=
  if s = "earlier" then decide (as.length = 0)
  else if s = "loss" then (match as with | [a] => cntO a.2.1 | _ => false)
  else if s = "free" then (match as with | [a] => a.2.2 | _ => false)
  else if s = "late" then (match as with | [a, b] => inB a.2.1 1 1000000 && cntO b.2.1 | _ => false)
  else false
theorem Vw.sameX {K : PySem.W.Frag} {H H' : Hp} (e : Same H H') {v : V} {b : Bool} (h : Vw K H v b) : Vw K H' v b := by
  cases h with
  | ty h a => exact .ty (TyX.same e h) a
  | len h a b => exact .len (e _ _ h) a b
  | fst h a b => exact .fst (e _ _ h) (TyX.same e a) b
  | two h a => exact .two (e _ _ h) (NumV.same e a)
/-- values of any shape, and whether they are wishes -/
inductive Ww (K : PySem.W.Frag) (H : Hp) : V → Bool → Prop
  | ty {v : V} {a : String} : TyX K H v (.type a) → kitB a "tuple" = some false → Ww K H v false
  | nil {p : Addr} : H p = some (.tup []) → Ww K H (.ref p) false
  | fst {p : Addr} {x : V} {xs : List V} {a : String} : H p = some (.tup (x :: xs)) → xs.length ≤ 1000 → TyX K H x (.type a) → kitB a "str" = some false → Ww K H (.ref p) false
  | wd {p : Addr} {s : Str} {as : List Arg} : H p = some (.tup (.str s :: as.map (·.1))) → as.length ≤ 1000 → (∀ a ∈ as, NumV K H a.1 a.2.1 ∧ Vw K H a.1 a.2.2) → Ww K H (.ref p) (wishB s as)
inductive Hope where
  | early
  | loss (n : Int)
  | free (s : Str) (n : Int)
  | late (m n : Int)
def HopeAt (H : Hp) (q : Addr) : Hope → Prop
  | .early => H q = some (.tup [.str "earlier"])
  | .loss n => H q = some (.tup [.str "loss", .int n])
  | .free s n => ∃ t, H q = some (.tup [.str "free", .ref t]) ∧ H t = some (.tup [.str s, .int n])
  | .late m n => H q = some (.tup [.str "late", .int m, .int n])
def Hope.Ok : Hope → Prop
  | .early => True
  | .loss n => 0 ≤ n
  | .free s n => s ∈ (["each", "some"] : List Str) ∧ 0 ≤ n ∧ n ≤ 100
  | .late m n => 1 ≤ m ∧ m ≤ 1000000 ∧ 0 ≤ n
def leO : Option Int → Int → Bool
  | some x, n => decide (x ≤ n)
  | none, _ => false
def holdB (B : Bk) : Hope → Bool
  | .early => decide (B.why = [])
  | .loss n => leO (lossB B) n
  | .free s n => (brkO B.ls B.due s n).isNone
  | .late m n => B.laid.isNone && decide (lateB B m ≤ n)
theorem HopeAt.same {H H' : Hp} {q : Addr} {h : Hope} (a : HopeAt H q h) (e : Same H H') : HopeAt H' q h := by
  cases h with
  | early => exact e _ _ a
  | loss n => exact e _ _ a
  | free s n =>
    obtain ⟨t, h1, h2⟩ := a
    exact ⟨t, e _ _ h1, e _ _ h2⟩
  | late m n => exact e _ _ a
def sp_is_count (K : PySem.W.Frag) : Sp := fun vs H Q _ => ∃ (x : V) (o : Option Int), vs = [x] ∧ NumV K H x o ∧ Q (.bl (cntO o)) H
def sp_is_wish (K : PySem.W.Frag) : Sp := fun vs H Q _ => ∃ (x : V) (b : Bool), vs = [x] ∧ Ww K H x b ∧ ∀ H', Same H H' → Q (.bl b) H'
def sp_does_keep (C : Addr) : Sp := fun vs H Q _ => ∃ (p q : Addr) (B : Bk) (h : Hope), vs = [.ref p, .ref q] ∧ BookAt C H p B ∧ B.Ok ∧ B.LaidOk ∧ HopeAt H q h ∧ h.Ok ∧ ∀ H', Same H H' → Q (.bl (holdB B h)) H'
theorem vw_int {K : PySem.W.Frag} {H : Hp} (i : Int) : Vw K H (.int i) false := .ty (.base (.int i)) (by decide +kernel)
theorem vw_two {K : PySem.W.Frag} {H : Hp} {t : Addr} {s : Str} {n : Int} (h : H t = some (.tup [.str s, .int n])) : Vw K H (.ref t) (vowB s (some n)) := .two h (.int n)
theorem num_tup {K : PySem.W.Frag} {H : Hp} {t : Addr} {xs : List V} (h : H t = some (.tup xs)) : NumV K H (.ref t) none := .no (b1 := false) (b2 := false) (.base (.tup h)) (kit_ty (by decide +kernel)) (kit_ty (by decide +kernel)) rfl
theorem hope_ww {K : PySem.W.Frag} {H : Hp} {q : Addr} {h : Hope} (a : HopeAt H q h) (ok : h.Ok) : Ww K H (.ref q) true := by
  cases h with
  | early => exact Ww.wd (s := "earlier") (as := []) a (by simp) (fun a h => by cases h)
  | loss n =>
    have z := Ww.wd (K := K) (s := "loss") (as := [((.int n, some n, false) : Arg)]) a (by simp) (fun a h => by rw [List.mem_singleton.mp h]; exact ⟨.int n, vw_int n⟩)
    have e : wishB "loss" [((.int n, some n, false) : Arg)] = true := by
      show (if ("loss" : Str) = "earlier" then _ else if ("loss" : Str) = "loss" then cntO (some n) else _) = true
      rw [if_neg (by decide +kernel), if_pos rfl]
      exact decide_eq_true ok
    rw [e] at z
    exact z
  | free s n =>
    obtain ⟨t, h1, h2⟩ := a
    have z := Ww.wd (K := K) (s := "free") (as := [((.ref t, none, vowB s (some n)) : Arg)]) h1 (by simp) (fun a h => by rw [List.mem_singleton.mp h]; exact ⟨num_tup h2, vw_two h2⟩)
    have e : wishB "free" [((.ref t, none, vowB s (some n)) : Arg)] = true := by
      show (if ("free" : Str) = "earlier" then _ else if ("free" : Str) = "loss" then cntO none else if ("free" : Str) = "free" then vowB s (some n) else _) = true
      rw [if_neg (by decide +kernel), if_neg (by decide +kernel), if_pos rfl]
      unfold vowB
      rw [decide_eq_true ok.1, inB_yes ok.2]
      rfl
    rw [e] at z
    exact z
  | late m n =>
    have z := Ww.wd (K := K) (s := "late") (as := [((.int m, some m, false) : Arg), ((.int n, some n, false) : Arg)]) a (by simp) (fun a h => by
      rcases List.mem_cons.mp h with rfl | h
      · exact ⟨.int m, vw_int m⟩
      · rw [List.mem_singleton.mp h]
        exact ⟨.int n, vw_int n⟩)
    have e : wishB "late" [((.int m, some m, false) : Arg), ((.int n, some n, false) : Arg)] = true := by
      show (if ("late" : Str) = "earlier" then _ else if ("late" : Str) = "loss" then false else if ("late" : Str) = "free" then false else if ("late" : Str) = "late" then (inB (some m) 1 1000000 && cntO (some n)) else false) = true
      rw [if_neg (by decide +kernel), if_neg (by decide +kernel), if_neg (by decide +kernel), if_pos rfl, inB_yes ⟨ok.1, ok.2.1⟩]
      exact decide_eq_true ok.2.2
    rw [e] at z
    exact z
section
variable {P : Program} {w : World} {K : PySem.W.Frag} {mg : Str → Option Value} {base : Heap}
theorem ok_is_count {f : Addr} {fd : FuncData} (T : Tx K mg) (F : FnP K "is_count" s_is_count f fd) (d_is_number : Dn P w K mg base CX0 1 "is_number" ["value"] (sp_is_number K)) : FnOk P w K mg base CX0 2 f fd ["value"] (sp_is_count K) := by
  have sc : FnScope ["value"] ["value"] (defScope s_is_count) := ⟨rfl, rfl, rfl, by decide +kernel, rfl, by decide +kernel, by decide +kernel⟩
  refine F.ok sc (by rintro vs H Q E ⟨_, _, rfl, _⟩; rfl) (fun cdv A outer s H vs Q E hr h => ⟨_, PSs.nox ((pss_one (ps_ret (pe_and (pe_fn d_is_number (hr.mono (by decide)) pass0 (pa_cons (pv 0) pa_nil)) (pe_one (pe_cmpR op_ge (pv 0) pe_int (nomark _))))))), ?_⟩)
  obtain ⟨x, o, rfl, hx, k⟩ := h
  walk_at "rd"
  refine ⟨x, o, rfl, hx, ?_⟩
  walk_at "rd"
  cases hx with
  | int i =>
    refine w_yes rfl ?_
    walk_at "rd"
    exact k
  | no h1 h2 h3 h4 =>
    walk_at "rd"
    exact k
theorem ok_is_wish {f : Addr} {fd : FuncData} (T : Tx K mg) (F : FnP K "is_wish" s_is_wish f fd) (d_is_count : Dn P w K mg base CX0 2 "is_count" ["value"] (sp_is_count K)) (d_is_promise : Dn P w K mg base CX0 3 "is_promise" ["value"] (sp_is_promise K))
    (d_is_number_in : Dn P w K mg base CX0 2 "is_number_in" ["value", "least", "most"] (sp_is_number_in K)) : FnOk P w K mg base CX0 4 f fd ["value"] (sp_is_wish K) := by
  have sc : FnScope ["value"] ["value"] (defScope s_is_wish) := ⟨rfl, rfl, rfl, by decide +kernel, rfl, by decide +kernel, by decide +kernel⟩
  refine F.ok sc (by rintro vs H Q E ⟨_, _, rfl, _⟩; rfl) (fun cdv A outer s H vs Q E hr h => ⟨_, PSs.nox ((pss_cons (ps_if (PW.pt (pw_or (pt_not (pt_val (pe_callB (c_isiK (K := K) rfl) (by rfl) T.b_isinstance (by decide +kernel) (pa_cons (pv 0) (pa_cons (pe_bltn (v := .ty "tuple") (by rfl) T.b_tuple (by decide +kernel) rfl) pa_nil))))) (pw_or (pt_cmpR op_eq (pe_callB (c_lenK (K := K) rfl) (by rfl) T.b_len (by decide +kernel) (pa_cons (pv 0) pa_nil)) pe_int (nomark _)) (pw_or1 (pt_not (pt_val (pe_callB (c_isiK (K := K) rfl) (by rfl) T.b_isinstance (by decide +kernel) (pa_cons (pe_ix (ix_tupK (K := K) rfl) (pv 0) pe_int (fun _ _ => rfl)) (pa_cons (pe_bltn (v := .ty "str") (by rfl) T.b_str (by decide +kernel) rfl) pa_nil))))))))) (pss_one (ps_ret pe_bl)) pss_nil)
      (pss_cons (ps_if (pt_cmpR op_eq (pe_ix (ix_tupK (K := K) rfl) (pv 0) pe_int (fun _ _ => rfl)) pe_str (nomark _)) (pss_one (ps_ret (pe_cmpR op_eq (pe_callB (c_lenK (K := K) rfl) (by rfl) T.b_len (by decide +kernel) (pa_cons (pv 0) pa_nil)) pe_int (nomark _)))) pss_nil)
      (pss_cons (ps_if (pt_cmpR op_eq (pe_ix (ix_tupK (K := K) rfl) (pv 0) pe_int (fun _ _ => rfl)) pe_str (nomark _)) (pss_one (ps_ret (pe_and (pe_cmpR op_eq (pe_callB (c_lenK (K := K) rfl) (by rfl) T.b_len (by decide +kernel) (pa_cons (pv 0) pa_nil)) pe_int (nomark _)) (pe_one (pe_fn d_is_count (hr.mono (by decide)) pass0 (pa_cons (pe_ix (ix_tupK (K := K) rfl) (pv 0) pe_int (fun _ _ => rfl)) pa_nil)))))) pss_nil)
      (pss_cons (ps_if (pt_cmpR op_eq (pe_ix (ix_tupK (K := K) rfl) (pv 0) pe_int (fun _ _ => rfl)) pe_str (nomark _)) (pss_one (ps_ret (pe_and (pe_cmpR op_eq (pe_callB (c_lenK (K := K) rfl) (by rfl) T.b_len (by decide +kernel) (pa_cons (pv 0) pa_nil)) pe_int (nomark _)) (pe_one (pe_fn d_is_promise (hr.mono (by decide)) pass0 (pa_cons (pe_ix (ix_tupK (K := K) rfl) (pv 0) pe_int (fun _ _ => rfl)) pa_nil)))))) pss_nil)
      (pss_one (ps_ret (pe_and (pe_cmpR op_eq (pe_ix (ix_tupK (K := K) rfl) (pv 0) pe_int (fun _ _ => rfl)) pe_str (nomark _)) (pe_and (pe_cmpR op_eq (pe_callB (c_lenK (K := K) rfl) (by rfl) T.b_len (by decide +kernel) (pa_cons (pv 0) pa_nil)) pe_int (nomark _)) (pe_and (pe_fn d_is_number_in (hr.mono (by decide)) pass0 (pa_cons (pe_ix (ix_tupK (K := K) rfl) (pv 0) pe_int (fun _ _ => rfl)) (pa_cons pe_int (pa_cons (pe_glob (v := .int 1000000) (by rfl) T.c_MOST_CAP.choose_spec ⟨_, rfl⟩) pa_nil)))) (pe_one (pe_fn d_is_count (hr.mono (by decide)) pass0 (pa_cons (pe_ix (ix_tupK (K := K) rfl) (pv 0) pe_int (fun _ _ => rfl)) pa_nil))))))))))))), ?_⟩)
  obtain ⟨x, b, rfl, hx, k⟩ := h
  walk_at "rd"
  cases hx with
  | ty h1 h2 =>
    refine r_isiT h1 h2 ?_
    walk_at "rd"
    exact k H (Same.refl _)
  | nil h1 =>
    refine r_isi_tt h1 ?_
    walk_at "rd"
    refine r_lenT (SqT.of h1) ?_
    walk_at "rd"
    refine w_dec (fun _ => ?_) (fun h => absurd rfl h)
    walk_at "rd"
    exact k H (Same.refl _)
  | @fst p x xs a h1 h2 h3 h4 =>
    refine r_isi_tt h1 ?_
    walk_at "rd"
    refine r_lenT (SqT.of h1) ?_
    walk_at "rd"
    refine w_dec (fun h => absurd h (by rw [List.length_cons]; omega)) (fun _ => ?_)
    walk_at "rd"
    refine r_ixT (SqT.of h1) (at_get (n := 0) rfl rfl) ?_
    walk_at "rd"
    refine r_isiT h3 h4 ?_
    walk_at "rd"
    exact k H (Same.refl _)
  | @wd p s as h1 h2 h3 =>
    have ix0 : ∀ {Q' : VK}, Q' (.str s) H → rIxT K (.ref p) (.int 0) H Q' := fun q => r_ixT (SqT.of h1) (at_get (n := 0) rfl rfl) q
    have ln : ∀ {Q' : VK}, Q' (.int ((as.length + 1 : Nat) : Int)) H → rLen K [.ref p] H Q' := fun {Q'} q => r_lenT (SqT.of h1) (by rw [List.length_cons, List.length_map]; exact q)
    have k0 := k
    have k := k H (Same.refl _)
    refine r_isi_tt h1 ?_
    walk_at "rd"
    refine ln ?_
    walk_at "rd"
    refine w_dec (fun h => absurd h (by omega)) (fun _ => ?_)
    walk_at "rd"
    refine ix0 ?_
    walk_at "rd"
    refine ix0 ?_
    walk_at "rd"
    refine w_dec (fun c1 => ?_) (fun c1 => ?_)
    · walk_at "rd"
      refine ln ?_
      walk_at "rd"
      unfold wishB at k
      rw [if_pos c1] at k
      have e : decide (((as.length + 1 : Nat) : Int) = 1) = decide (as.length = 0) := decide_eq_decide.mpr (by omega)
      rw [e]
      exact k
    walk_at "rd"
    refine ix0 ?_
    walk_at "rd"
    refine w_dec (fun c2 => ?_) (fun c2 => ?_)
    · walk_at "rd"
      refine ln ?_
      walk_at "rd"
      unfold wishB at k
      rw [if_neg c1, if_pos c2] at k
      refine w_dec (fun l2 => ?_) (fun l2 => ?_)
      · match as, h1, h3, k, l2 with
        | [a], h1, h3, k, _ =>
          walk_at "rd"
          refine r_ixT (SqT.of h1) (at_get (n := 1) rfl rfl) ?_
          walk_at "rd"
          exact ⟨a.1, a.2.1, rfl, (h3 a (List.mem_singleton.mpr rfl)).1, k⟩
        | [], _, _, _, l2 => exact absurd l2 (by decide)
        | _ :: _ :: _, _, _, _, l2 => exact absurd l2 (by simp only [List.length_cons]; omega)
      · walk_at "rd"
        match as, k, l2 with
        | [a], _, l2 => exact absurd rfl l2
        | [], k, _ => exact k
        | _ :: _ :: _, k, _ => exact k
    walk_at "rd"
    refine ix0 ?_
    walk_at "rd"
    refine w_dec (fun c3 => ?_) (fun c3 => ?_)
    · walk_at "rd"
      refine ln ?_
      walk_at "rd"
      unfold wishB at k
      rw [if_neg c1, if_neg c2, if_pos c3] at k
      refine w_dec (fun l2 => ?_) (fun l2 => ?_)
      · match as, h1, h3, k, l2 with
        | [a], h1, h3, k, _ =>
          walk_at "rd"
          refine r_ixT (SqT.of h1) (at_get (n := 1) rfl rfl) ?_
          walk_at "rd"
          refine ⟨a.1, a.2.2, rfl, (h3 a (List.mem_singleton.mpr rfl)).2, fun H' e => ?_⟩
          have k := k0 H' e
          unfold wishB at k
          rw [if_neg c1, if_neg c2, if_pos c3] at k
          exact k
        | [], _, _, _, l2 => exact absurd l2 (by decide)
        | _ :: _ :: _, _, _, _, l2 => exact absurd l2 (by simp only [List.length_cons]; omega)
      · walk_at "rd"
        match as, k, l2 with
        | [a], _, l2 => exact absurd rfl l2
        | [], k, _ => exact k
        | _ :: _ :: _, k, _ => exact k
    walk_at "rd"
    refine ix0 ?_
    walk_at "rd"
    refine w_dec (fun c4 => ?_) (fun c4 => ?_)
    · walk_at "rd"
      refine ln ?_
      walk_at "rd"
      unfold wishB at k
      rw [if_neg c1, if_neg c2, if_neg c3, if_pos c4] at k
      refine w_dec (fun l2 => ?_) (fun l2 => ?_)
      · match as, h1, h3, k, l2 with
        | [a, b], h1, h3, k, _ =>
          walk_at "rd"
          refine r_ixT (SqT.of h1) (at_get (n := 1) rfl rfl) ?_
          walk_at "rd"
          refine ⟨a.1, a.2.1, 1, 1000000, rfl, (h3 a (List.mem_cons_self ..)).1, ?_⟩
          cases hi : inB a.2.1 1 1000000 with
          | true =>
            walk_at "rd"
            refine r_ixT (SqT.of h1) (at_get (n := 2) rfl rfl) ?_
            walk_at "rd"
            refine ⟨b.1, b.2.1, rfl, (h3 b (by simp)).1, ?_⟩
            have k : Q (.bl (inB a.2.1 1 1000000 && cntO b.2.1)) H := k
            rw [hi, Bool.true_and] at k
            exact k
          | false =>
            walk_at "rd"
            have k : Q (.bl (inB a.2.1 1 1000000 && cntO b.2.1)) H := k
            rw [hi, Bool.false_and] at k
            exact k
        | [], _, _, _, l2 => exact absurd l2 (by decide)
        | [_], _, _, _, l2 => exact absurd l2 (by simp only [List.length_cons, List.length_nil]; omega)
        | _ :: _ :: _ :: _, _, _, _, l2 => exact absurd l2 (by simp only [List.length_cons]; omega)
      · walk_at "rd"
        match as, k, l2 with
        | [a, b], _, l2 => exact absurd rfl l2
        | [], k, _ => exact k
        | [_], k, _ => exact k
        | _ :: _ :: _ :: _, k, _ => exact k
    · walk_at "rd"
      unfold wishB at k
      rw [if_neg c1, if_neg c2, if_neg c3, if_neg c4] at k
      exact k
theorem ok_does_keep {f C : Addr} {fd : FuncData} (T : Tx K mg) (F : FnP K "does_keep" s_does_keep f fd) (d_never_costs_more : Dn P w K mg base CX0 5 "never_costs_more" ["book"] (sp_never_more C)) (d_greatest_loss : Dn P w K mg base CX0 5 "greatest_loss" ["book"] (sp_loss C))
    (d_breaker : Dn P w K mg base CX0 5 "breaker" ["book", "promise"] (sp_breaker C)) (d_greatest_late_of : Dn P w K mg base CX0 6 "greatest_late_of" ["book", "cap"] (sp_late_of C)) (m_laid : Dpr P w K mg base CX0 1 C "laid" (sp_g_laid C)) : FnOk P w K mg base CX0 7 f fd ["book", "wish"] (sp_does_keep C) := by
  have sc : FnScope ["book", "wish", "loss"] ["book", "wish"] (defScope s_does_keep) := ⟨rfl, rfl, rfl, by decide +kernel, rfl, by decide +kernel, by decide +kernel⟩
  refine F.ok sc (by rintro vs H Q E ⟨_, _, _, _, rfl, _⟩; rfl) (fun cdv A outer s H vs Q E hr h => ⟨_, PSs.nox ((pss_cons (ps_if (pt_cmpR op_eq (pe_ix (ix_tupK (K := K) rfl) (pv 1) pe_int (fun _ _ => rfl)) pe_str (nomark _)) (pss_one (ps_ret (pe_fn d_never_costs_more (hr.mono (by decide)) pass0 (pa_cons (pv 0) pa_nil)))) pss_nil)
      (pss_cons (ps_if (pt_cmpR op_eq (pe_ix (ix_tupK (K := K) rfl) (pv 1) pe_int (fun _ _ => rfl)) pe_str (nomark _)) (pss_cons (ps_set (i := 2) sc.nd rfl (by first | exact Or.inl rfl | exact Or.inr rfl) (pe_fn d_greatest_loss (hr.mono (by decide)) pass0 (pa_cons (pv 0) pa_nil)))
      (pss_one (ps_ret (pe_and (pe_cmpR op_notN1 (pv 2) pe_non (nomark _)) (pe_one (pe_cmpR op_le (pv 2) (pe_ix (ix_tupK (K := K) rfl) (pv 1) pe_int (fun _ _ => rfl)) (nomark _))))))) pss_nil)
      (pss_cons (ps_if (pt_cmpR op_eq (pe_ix (ix_tupK (K := K) rfl) (pv 1) pe_int (fun _ _ => rfl)) pe_str (nomark _)) (pss_one (ps_ret (pe_cmpR op_isN1 (pe_fn d_breaker (hr.mono (by decide)) pass0 (pa_cons (pv 0) (pa_cons (pe_ix (ix_tupK (K := K) rfl) (pv 1) pe_int (fun _ _ => rfl)) pa_nil))) pe_non (nomark _)))) pss_nil)
      (pss_one (ps_ret (pe_and (pe_cmpR op_isN1 (pe_propA m_laid (pv 0) (hr.mono (by decide)) pass0) pe_non (nomark _)) (pe_one (pe_cmpR op_le (pe_fn d_greatest_late_of (hr.mono (by decide)) pass0 (pa_cons (pv 0) (pa_cons (pe_ix (ix_tupK (K := K) rfl) (pv 1) pe_int (fun _ _ => rfl)) pa_nil))) (pe_ix (ix_tupK (K := K) rfl) (pv 1) pe_int (fun _ _ => rfl)) (nomark _)))))))))), ?_⟩)
  obtain ⟨p, q, B, h, rfl, hB, ok, lok, ha, ho, k⟩ := h
  obtain ⟨_, _, _, _, _, i1⟩ := id hB
  cases h with
  | early =>
    have ha : H q = some (.tup [.str "earlier"]) := ha
    walk_at "rd"
    refine r_ixT (SqT.of ha) (at_get (n := 0) rfl rfl) ?_
    walk_at "rd"
    refine w_dec (fun _ => ?_) (fun h => absurd rfl h)
    walk_at "rd"
    exact ⟨p, B, rfl, hB, ok, lok, fun H1 e1 => k H1 e1⟩
  | loss n =>
    have ha : H q = some (.tup [.str "loss", .int n]) := ha
    walk_at "rd"
    refine r_ixT (SqT.of ha) (at_get (n := 0) rfl rfl) ?_
    walk_at "rd"
    refine w_dec (fun h => absurd h (by decide +kernel)) (fun _ => ?_)
    walk_at "rd"
    refine r_ixT (SqT.of ha) (at_get (n := 0) rfl rfl) ?_
    walk_at "rd"
    refine w_dec (fun _ => ?_) (fun h => absurd rfl h)
    walk_at "rd"
    refine ⟨p, B, rfl, hB, ok, lok, fun H1 e1 => ?_⟩
    have k := k H1 e1
    have k : Q (.bl (leO (lossB B) n)) H1 := k
    cases hL : lossB B with
    | none =>
      rw [hL] at k
      walk_at "rd"
      exact k
    | some x =>
      rw [hL] at k
      walk_at "rd"
      refine r_ixT (SqT.of (e1 _ _ ha)) (at_get (n := 1) rfl rfl) ?_
      walk_at "rd"
      exact k
  | free s n =>
    obtain ⟨t, ha, ht⟩ := ha
    walk_at "rd"
    refine r_ixT (SqT.of ha) (at_get (n := 0) rfl rfl) ?_
    walk_at "rd"
    refine w_dec (fun h => absurd h (by decide +kernel)) (fun _ => ?_)
    walk_at "rd"
    refine r_ixT (SqT.of ha) (at_get (n := 0) rfl rfl) ?_
    walk_at "rd"
    refine w_dec (fun h => absurd h (by decide +kernel)) (fun _ => ?_)
    walk_at "rd"
    refine r_ixT (SqT.of ha) (at_get (n := 0) rfl rfl) ?_
    walk_at "rd"
    refine w_dec (fun _ => ?_) (fun h => absurd rfl h)
    walk_at "rd"
    refine r_ixT (SqT.of ha) (at_get (n := 1) rfl rfl) ?_
    walk_at "rd"
    refine ⟨p, t, B, s, n, rfl, hB, ok, ht, ho.1, ho.2.1, ho.2.2, fun H1 e1 => ?_⟩
    have k := k H1 e1
    have k : Q (.bl (brkO B.ls B.due s n).isNone) H1 := k
    cases hL : brkO B.ls B.due s n with
    | none =>
      rw [hL] at k
      walk_at "rd"
      exact k
    | some x =>
      rw [hL] at k
      walk_at "rd"
      exact k
  | late m n =>
    have ha : H q = some (.tup [.str "late", .int m, .int n]) := ha
    walk_at "rd"
    refine r_ixT (SqT.of ha) (at_get (n := 0) rfl rfl) ?_
    walk_at "rd"
    refine w_dec (fun h => absurd h (by decide +kernel)) (fun _ => ?_)
    walk_at "rd"
    refine r_ixT (SqT.of ha) (at_get (n := 0) rfl rfl) ?_
    walk_at "rd"
    refine w_dec (fun h => absurd h (by decide +kernel)) (fun _ => ?_)
    walk_at "rd"
    refine r_ixT (SqT.of ha) (at_get (n := 0) rfl rfl) ?_
    walk_at "rd"
    refine w_dec (fun h => absurd h (by decide +kernel)) (fun _ => ?_)
    walk_at "rd"
    refine r_kProp i1.i ⟨p, B, rfl, hB, fun lv hlv => ?_⟩
    have kk := fun H1 (e : Same H H1) => (show Q (.bl (B.laid.isNone && decide (lateB B m ≤ n))) H1 from k H1 e)
    cases hL : B.laid with
    | none =>
      rw [hL] at hlv
      obtain rfl : lv = .non := hlv
      walk_at "rd"
      refine r_ixT (SqT.of ha) (at_get (n := 1) rfl rfl) ?_
      walk_at "rd"
      refine ⟨p, B, m, rfl, hB, ok, ho.1, ho.2.1, fun H1 e1 => ?_⟩
      walk_at "rd"
      refine r_ixT (SqT.of (e1 _ _ ha)) (at_get (n := 2) rfl rfl) ?_
      walk_at "rd"
      have := kk H1 e1
      rw [hL] at this
      exact this
    | some ns =>
      rw [hL] at hlv
      obtain ⟨t, rfl, _⟩ := hlv
      walk_at "rd"
      have := kk H (Same.refl _)
      rw [hL] at this
      exact this
theorem ok_keeps {f C : Addr} {fd : FuncData} (T : Tx K mg) (F : FnP K "keeps" s_keeps f fd) (d_need_book : Dn P w K mg base CX0 1 "need_book" ["value"] (sp_need_book C)) (d_is_wish : Dn P w K mg base CX0 4 "is_wish" ["value"] (sp_is_wish K)) (d_does_keep : Dn P w K mg base CX0 7 "does_keep" ["book", "wish"] (sp_does_keep C)) :
    FnOk P w K mg base CX0 8 f fd ["book", "wish"] (sp_does_keep C) := by
  have sc : FnScope ["book", "wish"] ["book", "wish"] (defScope s_keeps) := ⟨rfl, rfl, rfl, by decide +kernel, rfl, by decide +kernel, by decide +kernel⟩
  refine F.ok sc (by rintro vs H Q E ⟨_, _, _, _, rfl, _⟩; rfl) (fun cdv A outer s H vs Q E hr h => ⟨_, PSs.nox ((pss_cons (ps_expr (pe_fn d_need_book (hr.mono (by decide)) pass0 (pa_cons (pv 0) pa_nil)))
      (pss_cons (ps_if (pt_not (pt_val (pe_fn d_is_wish (hr.mono (by decide)) pass0 (pa_cons (pv 1) pa_nil)))) (pss_one ps_never) pss_nil)
      (pss_one (ps_ret (pe_fn d_does_keep (hr.mono (by decide)) pass0 (pa_cons (pv 0) (pa_cons (pv 1) pa_nil)))))))), ?_⟩)
  obtain ⟨p, q, B, h, rfl, hB, ok, lok, ha, ho, k⟩ := h
  walk_at "rd"
  refine ⟨p, B, rfl, hB, ?_⟩
  walk_at "rd"
  refine ⟨.ref q, true, rfl, hope_ww ha ho, fun H1 e1 => ?_⟩
  walk_at "rd"
  exact ⟨p, q, B, h, rfl, hB.keep e1, ok, lok, ha.same e1, ho, fun H2 e2 => k H2 (e1.trans e2)⟩
end
end Wp
set_option Elab.async false
set_option linter.all false
set_option maxRecDepth 100000
set_option maxHeartbeats 4000000
/-! a tuple, whatever is in it, == (). -/
namespace Wp
open PySem PySem.Spec PyProof.Rows L2
def rEqT0 (K : PySem.W.Frag) : R2 := fun x y H Q => ∃ (p q : Addr) (xs : List V), x = .ref p ∧ y = .ref q ∧ SqT K H p xs ∧ SqT K H q [] ∧ Q (.bl (decide (xs = []))) H
theorem eqT0K {X : Cx} {K : PySem.W.Frag} (h : X.K = K) (hu : X.A.units + 64 < cLine) : OpR X (compareOp .Eq) (rEqT0 K) := by
  subst h
  intro pins s σ H x y v u Q I rx ry h
  obtain ⟨p, q, xs, rfl, rfl, h1, h2, k⟩ := h
  obtain rfl : v = .ref p := rx
  obtain rfl : u = .ref q := ry
  obtain ⟨us, rv, p1, _⟩ := I.tuple h1
  obtain ⟨ws, rw2, p2, _⟩ := I.tuple h2
  obtain rfl : ws = [] := by
    cases rw2
    rfl
  refine SeqAt.eq_tupleAt (e := fun _ => true) (show s.heap.IsTuple p us.toArray from p1) (show s.heap.IsTuple q ([] : List Value).toArray from p2) (by omega) (fun j _ h => absurd h (by simp)) ⟨.bl (decide (xs = [])), H, I, ?_, k⟩
  have e : ((List.range (min us.toArray.size ([] : List Value).toArray.size)).all (fun _ => true) && us.toArray.size == ([] : List Value).toArray.size) = decide (xs = []) := by
    cases rv with
    | nil => simp
    | cons a b => simp
  rw [e]
  rfl
theorem r_eqT0 {K : PySem.W.Frag} {H : Hp} {Q : VK} {p q : Addr} {xs : List V} (h1 : SqT K H p xs) (h2 : SqT K H q []) (k : Q (.bl (decide (xs = []))) H) : rEqT0 K (.ref p) (.ref q) H Q := ⟨p, q, xs, rfl, rfl, h1, h2, k⟩
end Wp
set_option Elab.async false
set_option linter.all false
set_option maxRecDepth 100000
set_option maxHeartbeats 4000000
/-! More of the draws; the law's own promise. -/
namespace Wp
open PySem PySem.Spec PyProof.Rows L2
/-- ints within bounds -/
def IntsIn (lo hi : Int) : List V → Prop
  | [] => True
  | x :: xs => (∃ z, x = .int z ∧ lo ≤ z ∧ z ≤ hi) ∧ IntsIn lo hi xs
theorem IntsIn.get {lo hi : Int} : ∀ {xs : List V} {i : Nat} {x : V}, IntsIn lo hi xs → xs[i]? = some x → ∃ z, x = .int z ∧ lo ≤ z ∧ z ≤ hi
  | [], _, _, _, h => by simp at h
  | _ :: _, 0, _, a, h => by
    have e := Option.some.inj h
    subst e
    exact a.1
  | _ :: r, i + 1, x, a, h => IntsIn.get (xs := r) (i := i) a.2 h
def AnyI : List V → Prop
  | [] => True
  | x :: xs => (∃ z, x = .int z) ∧ AnyI xs
theorem AnyI.get : ∀ {xs : List V} {i : Nat} {x : V}, AnyI xs → xs[i]? = some x → ∃ z, x = .int z
  | [], _, _, _, h => by simp at h
  | _ :: _, 0, _, a, h => by
    have e := Option.some.inj h
    subst e
    exact a.1
  | _ :: r, i + 1, x, a, h => AnyI.get (xs := r) (i := i) a.2 h
section
variable {K : PySem.W.Frag} {st l c p : Addr} {cs : List Int} {B n : Int} {H H0 H' : Hp} {Q : VK} {E : XK} {xs : List V}
theorem DS.nl (D : DS st l c cs B H) (h : H p = none) : p ≠ l := by
  obtain ⟨zs, _, hl⟩ := D.lg
  exact (ne_of_none hl h).symm
theorem DS.nst (D : DS st l c cs B H) (h : H p = none) : p ≠ st := by
  obtain ⟨r, t, _, _, _, hd⟩ := D.d
  exact (ne_of_none hd h).symm
theorem u_take (D : DS st l c cs B H) (hB : B ≤ 35184372088832) (h1 : 0 < n) (h2 : n < 1073741824) (k : ∀ (i : Int) (H' : Hp), 0 ≤ i → i < n → DS st l c cs (B + 1) H' → Kp st l H H' → Q (.int i) H') : sp_take [.ref st, .int n] H Q E :=
  ⟨st, l, c, cs, B, n, rfl, h1, h2, hB, D, k⟩
theorem u_pick (D : DS st l c cs B H0) (hB : B ≤ 35184372088832) (np : H0 p = none) (e : Same H0 H) (hp : H p = some (.lst xs)) (hne : xs ≠ []) (hlen : xs.length < 1000000)
    (k : ∀ (i : Nat) (x : V) (H' : Hp), xs[i]? = some x → DS st l c cs (B + 1) H' → Kp st l H0 H' → Q x H') : sp_pick [.ref st, .ref p] H Q E :=
  ⟨st, l, c, p, cs, B, xs, rfl, hB, D.keep e, hp, hne, hlen, D.nl np, fun i x H' hx D' k' => k i x H' hx D' ((Kp.of e).trans k')⟩
theorem Kp.tup {ys : List V} (k : Kp st l H H') (D : DS st l c cs B H) (h : H p = some (.tup ys)) : H' p = some (.tup ys) := by
  obtain ⟨zs, _, hl⟩ := D.lg
  obtain ⟨r, t, _, _, _, hd⟩ := D.d
  exact k _ _ h (ne_of h hd (by intro z; cases z)) (ne_of h hl (by intro z; cases z))
end
def spLaw (K : PySem.W.Frag) : Sp := fun vs H Q _ => ∃ (a : Addr) (cs : List Int), vs = [.ref a] ∧ SqL K H a (cs.map V.int) ∧ cs.length ≤ 63 ∧ ∀ H', Q (.bl true) H'
theorem SqL.kp {K : PySem.W.Frag} {st l a : Addr} {H H1 H2 : Hp} {xs : List V} (h : SqL K H a xs) (e : Same H H1) (n1 : H st = none) (n2 : H l = none) (k : Kp st l H1 H2) : SqL K H2 a xs := by
  rcases h with (h | ⟨o, h⟩) | h
  · exact .inl (.inl (k _ _ (e _ _ h) (ne_of_none h n1) (ne_of_none h n2)))
  · exact .inl (.inr ⟨o, k _ _ (e _ _ h) (ne_of_none h n1) (ne_of_none h n2)⟩)
  · exact .inr h
section
variable {st l c p : Addr} {cs : List Int} {B : Int} {H H0 H' : Hp}
theorem DS.nc (D : DS st l c cs B H) (h : H p = none) : p ≠ c := (ne_of_none D.cl h).symm
theorem DS.but {B' : Int} (D : DS st l c cs B H) (D0 : DS st l c cs B' H0) (n : H0 p = none) (b : But p H H') : DS st l c cs B H' := by
  obtain ⟨⟨r, t, hr, h0, h1, h⟩, ⟨zs, hz, h2⟩, h3, n1⟩ := D
  exact ⟨⟨r, t, hr, h0, h1, b _ _ h (D0.nst n).symm⟩, ⟨zs, hz, b _ _ h2 (D0.nl n).symm⟩, b _ _ h3 (D0.nc n).symm, n1⟩
/-- after a draw and a change of what was new -/
theorem Kp.mut {H1 H2 : Hp} (k : Kp st l H H1) (b : But p H1 H2) (n : H p = none) : Kp st l H H2 := fun x o h n1 n2 => b x o (k x o h n1 n2) (ne_of_none h n)
end
end Wp
set_option Elab.async false
set_option linter.all false
set_option maxRecDepth 100000
set_option maxHeartbeats 4000000
namespace Wp
open PySem PySem.Spec PyProof.Rows L2
abbrev s__law_some : Stmt := topS 62
local macro_rules | `(tactic| walk_at "val") => `(tactic| assumption)
local macro_rules | `(tactic| walk_at "rd1") => `(tactic| first
  | with_reducible refine r_seq ?_ | with_reducible refine r_next ?_ | with_reducible refine r_if ?_ | with_reducible refine r_asg ?_ | with_reducible refine r_gname ?_
  | with_reducible refine r_ret ?_ | with_reducible refine r_retN ?_ | with_reducible refine r_drop ?_ | with_reducible refine r_par ?_ | with_reducible refine r_kPar ?_
  | ((with_reducible refine' r_var ?hv ?_); (case hv => exact rfl)) | with_reducible refine r_c ?_ | with_reducible refine r_nil ?_ | with_reducible refine r_cons ?_
  | with_reducible refine r_fn ?_ | with_reducible refine r_cb ?_ | with_reducible refine r_op ?_ | with_reducible refine r_un ?_ | with_reducible refine r_I0 ?_
  | with_reducible refine r_pow5 ?_ | with_reducible refine r_pow6 ?_ | with_reducible refine r_pow7 ?_ | with_reducible refine r_pow9 ?_ | with_reducible refine r_pow18 ?_ | with_reducible refine r_pow20 ?_ | with_reducible refine r_pow30 ?_
  | with_reducible refine r_isN_non ?_ | with_reducible refine r_isN_ref ?_ | with_reducible refine r_isN_int ?_ | with_reducible refine r_isN_str ?_ | with_reducible refine r_isN_bl ?_ | with_reducible refine r_notN_non ?_ | with_reducible refine r_notN_ref ?_ | with_reducible refine r_notN_int ?_ | with_reducible refine r_notN_str ?_ | with_reducible refine r_notN_bl ?_
  | ((with_reducible refine r_I ?hc ?_); (case hc => walk_at "side")) | with_reducible refine r_U ?_
  | with_reducible refine r_eqI ?_ | with_reducible refine r_neI ?_ | with_reducible refine r_eqS ?_ | with_reducible refine r_neS ?_ | with_reducible refine r_eqB ?_ | with_reducible refine r_neB ?_
  | with_reducible refine r_chain ?_ | with_reducible refine r_test ?_ | with_reducible refine r_tB ?_ | with_reducible refine r_kTest ?_ | with_reducible refine r_not ?_
  | with_reducible refine r_and ?_ | with_reducible refine r_or ?_ | with_reducible refine r_tif ?_ | with_reducible refine r_andV ?_ | with_reducible refine r_orV ?_ | with_reducible refine r_notV ?_
  | with_reducible refine r_kAndV ?_ | with_reducible refine r_kOrV ?_ | with_reducible refine r_kNotV ?_
  | with_reducible refine w_T ?_ | with_reducible refine w_F ?_ | with_reducible refine w_NT ?_ | with_reducible refine w_NF ?_
  | with_reducible refine r_tup ?_ | with_reducible refine r_lst ?_ | with_reducible refine r_fld ?_ | with_reducible refine r_prop ?_ | ((with_reducible refine' r_aug ?h1 ?_); (case h1 => exact rfl)) | with_reducible refine r_ipI ?_ | with_reducible refine r_dget ?_ | with_reducible refine r_dput ?_ | with_reducible refine r_bm ?_
  | ((with_reducible refine' r_kDGetS ?h1 ?h2 ?_); (case h1 => assumption); (case h2 => walk_at "val"))
  | ((with_reducible refine' r_kBML ?h1 ?_); (case h1 => assumption))
  | with_reducible refine r_forL ?_ | with_reducible refine r_forR1 ?_ | with_reducible refine r_forR2 ?_ | with_reducible refine r_forT ?_ | with_reducible refine r_lcL ?_ | with_reducible refine r_lcR1 ?_
  | ((with_reducible refine r_kLcG ?hw ?_); (case hw => exact rfl)) | with_reducible refine r_kLcT ?_ | with_reducible refine r_yes ?_
  | with_reducible refine r_pnil ?_ | with_reducible refine r_pcons ?_
  | with_reducible refine r_fnK ?_ | ((with_reducible refine r_kFnK ?hl ?_); (case hl => exact rfl))
  | with_reducible refine r_isi_ii ?_ | with_reducible refine r_isi_ib ?_ | with_reducible refine r_isi_bi ?_ | with_reducible refine r_isi_bb ?_ | with_reducible refine r_isi_ss ?_ | with_reducible refine r_isi_is ?_ | with_reducible refine r_isi_it ?_
  | ((with_reducible refine' r_isi_tt ?h1 ?_); (case h1 => assumption))
  | with_reducible refine r_sfld ?_ | with_reducible refine r_gnil ?_ | with_reducible refine r_gcons ?_
  | ((with_reducible refine' r_gtup ?h1 ?h2 ?_); (case h1 => exact SqT.of (by assumption)); (case h2 => exact rfl))
  | with_reducible refine r_sl ?_ | with_reducible refine r_noPart ?_ | with_reducible refine r_part ?_ | with_reducible refine r_kPart ?_ | with_reducible refine r_m1 ?_ | with_reducible refine r_kM1 ?_ | with_reducible refine r_forS ?_ | with_reducible refine r_lcS ?_ | with_reducible refine r_lcTu ?_ | with_reducible refine r_lcK ?_ | with_reducible refine r_dcL ?_ | with_reducible refine r_dcK ?_ | with_reducible refine r_lc2L ?_ | with_reducible refine r_kLc2TL ?_ | with_reducible refine r_dcEn ?_ | with_reducible refine r_gslc ?_ | with_reducible refine r_lcEn ?_ | with_reducible refine r_lcEl ?_ | with_reducible refine r_lcR2 ?_ | with_reducible refine r_rg1 ?_ | with_reducible refine r_forET ?_ | with_reducible refine r_lenD ?_
  | ((with_reducible refine r_kDcG ?hw ?_); (case hw => exact rfl)) | with_reducible refine r_kDcT ?_
  | with_reducible refine r_fldaug ?_ | with_reducible refine r_daug ?_ | with_reducible refine r_rAdd ?_ | with_reducible refine r_rSub ?_ | with_reducible refine r_ddel ?_ | with_reducible refine r_bmF ?_ | with_reducible refine r_dget2 ?_ | with_reducible refine r_listItems ?_ | with_reducible refine r_bm0 ?_ | with_reducible refine r_lc2E ?_ | ((with_reducible refine r_kLc2G ?hw ?_); (case hw => exact rfl)) | with_reducible refine r_kLc2T ?_ | with_reducible refine r_forE ?_ | with_reducible refine r_orT ?_ | with_reducible refine r_din ?_ | with_reducible refine r_augS ?_ | with_reducible refine r_dnotin ?_ | with_reducible refine r_lcIT ?_ | with_reducible refine r_cont ?_ | with_reducible refine r_meth ?_ | with_reducible refine r_frz ?_ | with_reducible refine r_par3 ?_ | with_reducible refine r_kPar3 ?_ | with_reducible refine r_dz ?_ | with_reducible refine r_revL ?_ | with_reducible refine r_star ?_ | with_reducible refine r_int1 ?_ | with_reducible refine r_int1b ?_ | with_reducible refine r_min2 ?_ | with_reducible refine r_max2 ?_ | with_reducible refine r_gsub ?_)
local macro_rules | `(tactic| walk_at "rd") => `(tactic| repeat walk_at "rd1")
local macro_rules | `(tactic| walk_at "side") => `(tactic| first | assumption | exact Or.inr ⟨by decide, by decide⟩ | exact Or.inl ⟨by decide, by decide⟩ | (constructor <;> omega) | omega | decide | (refine Or.inl ⟨?_, ?_⟩ <;> omega) | (refine Or.inr ⟨?_, ?_⟩ <;> omega) | (refine ⟨?_, ?_, ?_⟩ <;> first | decide | omega))
theorem r_popAtN {l : Addr} {xs : List V} {n : Nat} {z : V} {i : Int} {H : Hp} {Q : VK} (h : H l = some (.lst xs)) (hi : i = (n : Int)) (hn : xs[n]? = some z) (hz : xs.length ≤ 1000000) (k : ∀ H', But l H H' → H' l = some (.lst (xs.eraseIdx n)) → Q z H') : rPopAt (.ref l) [.int i] H Q := by
  subst hi
  have hl := (List.getElem?_eq_some_iff.mp hn).1
  refine ⟨l, xs, (n : Int), n, z, rfl, rfl, h, by omega, by omega, ?_, hn, k _ But.upd upd_same⟩
  simp [seqIndex?]
  omega
theorem pop_perm {α : Type} : ∀ {xs : List α} {n : Nat} (h : n < xs.length), ([xs[n]] ++ xs.eraseIdx n).Perm xs
  | x :: xs, 0, _ => List.Perm.refl _
  | x :: xs, n + 1, h => by
    have hn : n < xs.length := by simpa using h
    have ih := pop_perm (xs := xs) (n := n) hn
    show (xs[n] :: x :: xs.eraseIdx n).Perm (x :: xs)
    exact (List.Perm.swap _ _ _).trans (List.Perm.cons x ih)
/-- some of them, drawn one by one -/
def sp_some : Sp := fun vs H Q _ => ∃ (st l c p : Addr) (cs : List Int) (B n : Int) (xs : List V), vs = [.ref st, .ref p, .int n] ∧ B ≤ 17592186044416 ∧ DS st l c cs B H ∧ H p = some (.lst xs) ∧ xs.length ≤ 100 ∧ 0 ≤ n ∧ n ≤ 100 ∧
  ∀ (t : Addr) (ys rest : List V) (H' : Hp), H t = none → (ys ++ rest).Perm xs → (ys.length : Int) = min (xs.length : Int) n → H' t = some (.lst ys) → DS st l c cs (B + 100) H' → Kp st l H H' → Q (.ref t) H'
section
variable {P : Program} {w : World} {K : PySem.W.Frag} {mg : Str → Option Value} {base : Heap}
theorem ok__law_some {f : Addr} {fd : FuncData} (T : Tx K mg) (F : FnP K "_law_some" s__law_some f fd) (d__law_take : Dn P w K mg base CX0 2 "_law_take" ["_law_state", "_law_size"] sp_take) :
    FnOk P w K mg base CX0 3 f fd ["_law_state", "_law_some_here", "_law_many"] sp_some := by
  have sc : FnScope ["_law_state", "_law_some_here", "_law_many", "_law_left", "_law_found", "_law_k"] ["_law_state", "_law_some_here", "_law_many"] (defScope s__law_some) := ⟨rfl, rfl, rfl, by decide +kernel, rfl, by decide +kernel, by decide +kernel⟩
  refine F.ok sc (by rintro vs H Q E ⟨_, _, _, _, _, _, _, _, rfl, _⟩; rfl) (fun cdv A outer s H vs Q E hr h => ⟨_, PSs.nox ((pss_cons (ps_par (i := 3) (j := 4) (by rfl) sc.nd rfl rfl (by decide) rfl rfl (pa_cons (pe_callTy (c_listK (K := K) rfl) (by rfl) T.b_list (by decide +kernel) (pa_cons (pv 1) pa_nil)) (pa_cons (pe_lst pa_nil) pa_nil)) (by rfl))
      (pss_cons (ps_for PassesOwn.never rfl (pi_range1 (by rfl) T.b_range (pa_cons (pe_callB (c_min2 rfl) (by rfl) T.b_min (by decide +kernel) (pa_cons (pe_callB (c_lenK (K := K) rfl) (by rfl) T.b_len (by decide +kernel) (pa_cons (pv 3) pa_nil)) (pa_cons (pv 2) pa_nil))) pa_nil)) (pg_name (i := 5) sc.nd rfl (by first | exact Or.inl rfl | exact Or.inr rfl)) (pss_one (ps_expr (pe_bmK (K := K) rfl PySem.F.plainAttrs_list PySem.F.slot_list_append PySem.F.type_list_append mt_append (pv 4) (pa_cons (pe_bmK (K := K) rfl PySem.F.plainAttrs_list PySem.F.slot_list_pop PySem.F.type_list_pop mt_popAt (pv 3) (pa_cons (pe_fn d__law_take (hr.mono (by decide)) pass0 (pa_cons (pv 0) (pa_cons (pe_callB (c_lenK (K := K) rfl) (by rfl) T.b_len (by decide +kernel) (pa_cons (pv 3) pa_nil)) pa_nil))) pa_nil)) pa_nil)))))
      (pss_one (ps_ret (pv 4)))))), ?_⟩)
  obtain ⟨st, l, c, p, cs, B, n, xs, rfl, hB, D, hp, hxl, n0, n1, k⟩ := h
  walk_at "rd"
  refine r_listL (SqL.of hp) fun lf H1 nlf e1 hlf => ?_
  walk_at "rd"
  refine r_kLst fun fo H2 nfo e2 hfo => ?_
  walk_at "rd"
  have D2 := (D.keep e1).keep e2
  have a1 : lf ≠ st := D.nst nlf
  have a2 : lf ≠ l := D.nl nlf
  have nfo0 : H fo = none := e1.free nfo
  have b1 : fo ≠ st := D.nst nfo0
  have b2 : fo ≠ l := D.nl nfo0
  have ne : lf ≠ fo := ne_of_none hlf nfo
  refine r_lenL (SqL.of (e2 _ _ hlf)) ?_
  walk_at "rd"
  refine r_kForR1 (fun i σ' H' => ∃ (y : Option V) (ys rest : List V), σ' = [some (.ref st), some (.ref p), some (.int n), some (.ref lf), some (.ref fo), y] ∧ (ys ++ rest).Perm xs ∧ ys.length = i ∧ H' lf = some (.lst rest) ∧ H' fo = some (.lst ys) ∧ DS st l c cs (B + (i : Int)) H' ∧ Kp st l H H')
    (by omega) ⟨_, [], xs, rfl, List.Perm.refl _, rfl, e2 _ _ hlf, hfo, D2.mono (by omega), Kp.of (e1.trans e2)⟩ ?_ ?_
  · rintro i σ' H3 hi ⟨y, ys, rest, rfl, pm, hyl, hr, hf, D3, k3⟩
    have hlen := pm.length_eq
    rw [List.length_append, hyl] at hlen
    have hr0 : 0 < rest.length := by omega
    walk_at "rd"
    refine r_lenL (SqL.of hr) ?_
    walk_at "rd"
    refine u_take D3 (by omega) (by omega) (by omega) fun m H4 m0 m1 D4 k4 => ?_
    have hr4 := k4 _ _ hr a1 a2
    have hf4 := k4 _ _ hf b1 b2
    walk_at "rd"
    have hmi : m.toNat < rest.length := by omega
    refine r_popAtN hr4 (n := m.toNat) (by omega) (List.getElem?_eq_getElem hmi) (by omega) fun H5 b5 h5 => ?_
    walk_at "rd"
    refine r_append (b5 _ _ hf4 ne.symm) (by omega) fun H6 b6 h6 => ?_
    refine ⟨_, ys ++ [rest[m.toNat]], rest.eraseIdx m.toNat, rfl, ?_, by simp [hyl], b6 _ _ h5 ne, h6, ?_, ?_⟩
    · refine List.Perm.trans ?_ pm
      rw [List.append_assoc]
      refine List.Perm.append_left ys ?_
      exact pop_perm hmi
    · have D5 := D4.but D nlf b5
      exact (D5.but D nfo0 b6).mono (by omega)
    · exact ((k3.trans k4).mut b5 nlf).mut b6 nfo0
  · rintro σ' H3 ⟨y, ys, rest, rfl, pm, hyl, hr, hf, D3, k3⟩
    walk_at "rd"
    exact k fo ys rest H3 nfo0 pm (by omega) hf (D3.mono (by omega)) k3
end
end Wp
set_option Elab.async false
set_option linter.all false
set_option maxRecDepth 100000
set_option maxHeartbeats 4000000
namespace Wp
open PySem PySem.Spec PyProof.Rows L2
abbrev s__law_names : Stmt := topS 63
local macro_rules | `(tactic| walk_at "val") => `(tactic| assumption)
local macro_rules | `(tactic| walk_at "rd1") => `(tactic| first
  | with_reducible refine r_seq ?_ | with_reducible refine r_next ?_ | with_reducible refine r_if ?_ | with_reducible refine r_asg ?_ | with_reducible refine r_gname ?_
  | with_reducible refine r_ret ?_ | with_reducible refine r_retN ?_ | with_reducible refine r_drop ?_ | with_reducible refine r_par ?_ | with_reducible refine r_kPar ?_
  | ((with_reducible refine' r_var ?hv ?_); (case hv => exact rfl)) | with_reducible refine r_c ?_ | with_reducible refine r_nil ?_ | with_reducible refine r_cons ?_
  | with_reducible refine r_fn ?_ | with_reducible refine r_cb ?_ | with_reducible refine r_op ?_ | with_reducible refine r_un ?_ | with_reducible refine r_I0 ?_
  | with_reducible refine r_pow5 ?_ | with_reducible refine r_pow6 ?_ | with_reducible refine r_pow7 ?_ | with_reducible refine r_pow9 ?_ | with_reducible refine r_pow18 ?_ | with_reducible refine r_pow20 ?_ | with_reducible refine r_pow30 ?_
  | with_reducible refine r_isN_non ?_ | with_reducible refine r_isN_ref ?_ | with_reducible refine r_isN_int ?_ | with_reducible refine r_isN_str ?_ | with_reducible refine r_isN_bl ?_ | with_reducible refine r_notN_non ?_ | with_reducible refine r_notN_ref ?_ | with_reducible refine r_notN_int ?_ | with_reducible refine r_notN_str ?_ | with_reducible refine r_notN_bl ?_
  | ((with_reducible refine r_I ?hc ?_); (case hc => walk_at "side")) | with_reducible refine r_U ?_
  | with_reducible refine r_eqI ?_ | with_reducible refine r_neI ?_ | with_reducible refine r_eqS ?_ | with_reducible refine r_neS ?_ | with_reducible refine r_eqB ?_ | with_reducible refine r_neB ?_
  | with_reducible refine r_chain ?_ | with_reducible refine r_test ?_ | with_reducible refine r_tB ?_ | with_reducible refine r_kTest ?_ | with_reducible refine r_not ?_
  | with_reducible refine r_and ?_ | with_reducible refine r_or ?_ | with_reducible refine r_tif ?_ | with_reducible refine r_andV ?_ | with_reducible refine r_orV ?_ | with_reducible refine r_notV ?_
  | with_reducible refine r_kAndV ?_ | with_reducible refine r_kOrV ?_ | with_reducible refine r_kNotV ?_
  | with_reducible refine w_T ?_ | with_reducible refine w_F ?_ | with_reducible refine w_NT ?_ | with_reducible refine w_NF ?_
  | with_reducible refine r_tup ?_ | with_reducible refine r_lst ?_ | with_reducible refine r_fld ?_ | with_reducible refine r_prop ?_ | ((with_reducible refine' r_aug ?h1 ?_); (case h1 => exact rfl)) | with_reducible refine r_ipI ?_ | with_reducible refine r_dget ?_ | with_reducible refine r_dput ?_ | with_reducible refine r_bm ?_
  | ((with_reducible refine' r_kDGetS ?h1 ?h2 ?_); (case h1 => assumption); (case h2 => walk_at "val"))
  | ((with_reducible refine' r_kBML ?h1 ?_); (case h1 => assumption))
  | with_reducible refine r_forL ?_ | with_reducible refine r_forR1 ?_ | with_reducible refine r_forR2 ?_ | with_reducible refine r_forT ?_ | with_reducible refine r_lcL ?_ | with_reducible refine r_lcR1 ?_
  | ((with_reducible refine r_kLcG ?hw ?_); (case hw => exact rfl)) | with_reducible refine r_kLcT ?_ | with_reducible refine r_yes ?_
  | with_reducible refine r_pnil ?_ | with_reducible refine r_pcons ?_
  | with_reducible refine r_fnK ?_ | ((with_reducible refine r_kFnK ?hl ?_); (case hl => exact rfl))
  | with_reducible refine r_isi_ii ?_ | with_reducible refine r_isi_ib ?_ | with_reducible refine r_isi_bi ?_ | with_reducible refine r_isi_bb ?_ | with_reducible refine r_isi_ss ?_ | with_reducible refine r_isi_is ?_ | with_reducible refine r_isi_it ?_
  | ((with_reducible refine' r_isi_tt ?h1 ?_); (case h1 => assumption))
  | with_reducible refine r_sfld ?_ | with_reducible refine r_gnil ?_ | with_reducible refine r_gcons ?_
  | ((with_reducible refine' r_gtup ?h1 ?h2 ?_); (case h1 => exact SqT.of (by assumption)); (case h2 => exact rfl))
  | with_reducible refine r_sl ?_ | with_reducible refine r_noPart ?_ | with_reducible refine r_part ?_ | with_reducible refine r_kPart ?_ | with_reducible refine r_m1 ?_ | with_reducible refine r_kM1 ?_ | with_reducible refine r_forS ?_ | with_reducible refine r_lcS ?_ | with_reducible refine r_lcTu ?_ | with_reducible refine r_lcK ?_ | with_reducible refine r_dcL ?_ | with_reducible refine r_dcK ?_ | with_reducible refine r_lc2L ?_ | with_reducible refine r_kLc2TL ?_ | with_reducible refine r_dcEn ?_ | with_reducible refine r_gslc ?_ | with_reducible refine r_lcEn ?_ | with_reducible refine r_lcEl ?_ | with_reducible refine r_lcR2 ?_ | with_reducible refine r_rg1 ?_ | with_reducible refine r_forET ?_ | with_reducible refine r_lenD ?_
  | ((with_reducible refine r_kDcG ?hw ?_); (case hw => exact rfl)) | with_reducible refine r_kDcT ?_
  | with_reducible refine r_fldaug ?_ | with_reducible refine r_daug ?_ | with_reducible refine r_rAdd ?_ | with_reducible refine r_rSub ?_ | with_reducible refine r_ddel ?_ | with_reducible refine r_bmF ?_ | with_reducible refine r_dget2 ?_ | with_reducible refine r_listItems ?_ | with_reducible refine r_bm0 ?_ | with_reducible refine r_lc2E ?_ | ((with_reducible refine r_kLc2G ?hw ?_); (case hw => exact rfl)) | with_reducible refine r_kLc2T ?_ | with_reducible refine r_forE ?_ | with_reducible refine r_orT ?_ | with_reducible refine r_din ?_ | with_reducible refine r_augS ?_ | with_reducible refine r_dnotin ?_ | with_reducible refine r_lcIT ?_ | with_reducible refine r_cont ?_ | with_reducible refine r_meth ?_ | with_reducible refine r_frz ?_ | with_reducible refine r_par3 ?_ | with_reducible refine r_kPar3 ?_ | with_reducible refine r_dz ?_ | with_reducible refine r_revL ?_ | with_reducible refine r_star ?_ | with_reducible refine r_int1 ?_ | with_reducible refine r_int1b ?_ | with_reducible refine r_min2 ?_ | with_reducible refine r_max2 ?_ | with_reducible refine r_gsub ?_)
local macro_rules | `(tactic| walk_at "rd") => `(tactic| repeat walk_at "rd1")
local macro_rules | `(tactic| walk_at "side") => `(tactic| first | assumption | exact Or.inr ⟨by decide, by decide⟩ | exact Or.inl ⟨by decide, by decide⟩ | (constructor <;> omega) | omega | decide | (refine Or.inl ⟨?_, ?_⟩ <;> omega) | (refine Or.inr ⟨?_, ?_⟩ <;> omega) | (refine ⟨?_, ?_, ?_⟩ <;> first | decide | omega))
section
variable {X : Cx} {K : PySem.W.Frag} {H : Hp} {Q : VK} {p : Addr} {z : Str}
def rJoin (K : PySem.W.Frag) : V → List V → Hp → VK → Prop := fun x xs H Q => ∃ a p, ∃ ys : List Str, x = .str a ∧ xs = [.ref p] ∧ (SqL K H p (ys.map V.str) ∨ SqT K H p (ys.map V.str)) ∧ (ys.map (·.length)).sum + ys.length * a.length ≤ 16777216 ∧ Q (.str (Txt.join a ys)) H
theorem pe_joinK {o e : Expr} {to te : TE} {apos pos : Pos} (h : X.K = K) (ho : PE X o to) (he : PE X e te) (hs : starEach [e] X.env = [(false, eval e X.env)] := by rfl) (hbase : attributeBase o "join" X.env (eval o X.env) = eval o X.env := by rfl)
    (hline : (apos.endLine == pos.line) = true := by rfl) : PE X (.Call (.Attribute o "join" apos) [e] [] pos) (tM1 (rJoin K) to te) := by
  subst h
  exact pe_join ho he hs hbase hline
theorem r_joinL {ys : List Str} (h : SqL K H p (ys.map V.str)) (hz : (ys.map (·.length)).sum + ys.length * z.length ≤ 16777216) (q : Q (.str (Txt.join z ys)) H) : rJoin K (.str z) [.ref p] H Q := ⟨z, p, ys, rfl, rfl, .inl h, hz, q⟩
theorem r_addS {a b : Str} (h : a.length + b.length ≤ 1000000) (q : Q (.str (a ++ b)) H) : ∃ i j, V.str a = .str i ∧ V.str b = .str j ∧ i.length + j.length ≤ sizeLine ∧ Q (.str (i ++ j)) H := ⟨a, b, rfl, rfl, sz5 h, q⟩
theorem r_split {a b : Str} (h1 : (b.length == 0) = false) (h2 : a.length + 2 ≤ 1000000) (q : ∀ p H', H p = none → Same H H' → H' p = some (.lst ((Txt.split a b).map V.str)) → Q (.ref p) H') :
    ∃ a' b', V.str a = .str a' ∧ [V.str b] = [.str b'] ∧ (b'.length == 0) = false ∧ a'.length + 2 ≤ sizeLine ∧ rNewStrs (Txt.split a' b') H Q := ⟨a, b, rfl, rfl, h1, sz5 h2, fun p hp => q p _ hp (Same.new hp) upd_same⟩
end
def sp_pickS : Sp := fun vs H Q _ => ∃ (st l c : Addr) (cs : List Int) (B : Int) (z : Str), vs = [.ref st, .str z] ∧ B ≤ 35184372088832 ∧ DS st l c cs B H ∧ 0 < z.length ∧ z.length < 1000 ∧
  ∀ (i : Nat) (d : Nat) (H' : Hp), z.cps.toList[i]? = some d → DS st l c cs (B + 1) H' → Kp st l H H' → Q (.str ⟨#[d]⟩) H'
def sp_names : Sp := fun vs H Q _ => ∃ (st l c : Addr) (cs : List Int) (B n : Int), vs = [.ref st, .int n] ∧ B ≤ 17592186044416 ∧ DS st l c cs B H ∧ 0 ≤ n ∧ n ≤ 20 ∧
  ∀ (t : Addr) (xs : List Str) (H' : Hp), H t = none → (xs.length : Int) = n → NamesOk xs → H' t = some (.lst (xs.map V.str)) → DS st l c cs (B + 11 * n) H' → Kp st l H H' → Q (.ref t) H'
section
variable {P : Program} {w : World} {K : PySem.W.Frag} {mg : Str → Option Value} {base : Heap}
theorem ok__law_pickS {f : Addr} {fd : FuncData} (T : Tx K mg) (F : FnP K "_law_pick" s__law_pick f fd) (d__law_take : Dn P w K mg base CX0 2 "_law_take" ["_law_state", "_law_size"] sp_take) :
    FnOk P w K mg base CX0 3 f fd ["_law_state", "_law_some_here"] sp_pickS := by
  have sc : FnScope ["_law_state", "_law_some_here"] ["_law_state", "_law_some_here"] (defScope s__law_pick) := ⟨rfl, rfl, rfl, by decide +kernel, rfl, by decide +kernel, by decide +kernel⟩
  refine F.ok sc (by rintro vs H Q E ⟨_, _, _, _, _, _, rfl, _⟩; rfl) (fun cdv A outer s H vs Q E hr h => ⟨_, PSs.nox ((pss_one (ps_ret (pe_ix ix_str (pv 1) (pe_fn d__law_take (hr.mono (by decide)) pass0 (pa_cons (pv 0) (pa_cons (pe_callB (c_lenK (K := K) rfl) (by rfl) T.b_len (by decide +kernel) (pa_cons (pv 1) pa_nil)) pa_nil))) (fun _ _ => rfl))))), ?_⟩)
  obtain ⟨st, l, c, cs, B, z, rfl, hB, D, h0, h1, k⟩ := h
  walk_at "rd"
  refine r_lenS (by omega) ?_
  walk_at "rd"
  refine ⟨st, l, c, cs, B, (z.length : Int), rfl, by omega, by omega, hB, D, fun i H' i0 i1 D' k' => ?_⟩
  have hl : z.length = z.cps.toList.length := by simp [Str.length]
  obtain ⟨j, rfl⟩ := Int.eq_ofNat_of_zero_le i0
  have hj : j < z.cps.toList.length := by omega
  have e : z.cps.toList[j]? = some z.cps.toList[j] := List.getElem?_eq_getElem hj
  exact r_ixS (by omega) (atI_nat e) (k j _ H' e D' k')
theorem ok__law_names {f : Addr} {fd : FuncData} (T : Tx K mg) (F : FnP K "_law_names" s__law_names f fd)
    (d__law_take : Dn P w K mg base CX0 2 "_law_take" ["_law_state", "_law_size"] sp_take) (d__law_pick : Dn P w K mg base CX0 3 "_law_pick" ["_law_state", "_law_some_here"] sp_pick) (d__law_pickS : Dn P w K mg base CX0 3 "_law_pick" ["_law_state", "_law_some_here"] sp_pickS) :
    FnOk P w K mg base CX0 4 f fd ["_law_state", "_law_many"] sp_names := by
  have sc : FnScope ["_law_state", "_law_many", "_law_letters", "_law_found", "_law_pool", "_law_k", "_law_label", "_law_near", "_law_j", "_law_letter", "_law_one_of"] ["_law_state", "_law_many"] (defScope s__law_names) := ⟨rfl, rfl, rfl, by decide +kernel, rfl, by decide +kernel, by decide +kernel⟩
  refine F.ok sc (by rintro vs H Q E ⟨_, _, _, _, _, _, rfl, _⟩; rfl) (fun cdv A outer s H vs Q E hr h => ⟨_, PSs.nox ((pss_cons (ps_asg (pe_tup (pa_cons pe_str (pa_cons (pe_lst pa_nil) pa_nil))) (pg_tupK (K := K) (n := 2) rfl rfl (pgs_cons (pg_name (i := 2) sc.nd rfl (by first | exact Or.inl rfl | exact Or.inr rfl)) (pgs_cons (pg_name (i := 3) sc.nd rfl (by first | exact Or.inl rfl | exact Or.inr rfl)) pgs_nil))))
      (pss_cons (ps_set (i := 4) sc.nd rfl (by first | exact Or.inl rfl | exact Or.inr rfl) (pe_split pe_str pe_str))
      (pss_cons (ps_for PassesOwn.never rfl (pi_range1 (by rfl) T.b_range (pa_cons (pv 1) pa_nil)) (pg_name (i := 5) sc.nd rfl (by first | exact Or.inl rfl | exact Or.inr rfl)) (pss_cons (ps_set (i := 6) sc.nd rfl (by first | exact Or.inl rfl | exact Or.inr rfl) (pe_slice sl_str (pe_fn d__law_pick (hr.mono (by decide)) pass0 (pa_cons (pv 0) (pa_cons (pv 4) pa_nil))) po_none (po_some pe_int)))
      (Evl.pss_cut (ps_if (pt_cmpR op_eq (pe_fn d__law_take (hr.mono (by decide)) pass0 (pa_cons (pv 0) (pa_cons pe_int pa_nil))) pe_int (nomark _)) (pss_one (ps_set (i := 6) sc.nd rfl (by first | exact Or.inl rfl | exact Or.inr rfl) (pe_joinK (K := K) rfl pe_str (pe_lc (own := [("_law_j", 8)]) (by rfl) sc.nd (pi_range1 (by rfl) T.b_range (pa_cons (pe_op op_add pe_int (pe_fn d__law_take (hr.mono (by decide)) pass0 (pa_cons (pv 0) (pa_cons pe_int pa_nil)))) pa_nil)) (blkOk_by (own := [("_law_j", 8)]) (N := ["_law_state", "_law_many", "_law_letters", "_law_found", "_law_pool", "_law_k", "_law_label", "_law_near", "_law_j", "_law_letter", "_law_one_of"]) (sc := defScope s__law_names) (by decide +kernel)) (fun _ _ _ _ _ => (pg_name (i := 8) sc.nd rfl (by first | exact Or.inl rfl | exact Or.inr rfl))) (fun _ _ _ _ _ => pts_nil) (fun _ _ _ _ _ => (pe_fn d__law_pickS (hr.mono (by decide)) pass0 (pa_cons (pv 0) (pa_cons (pv 2) pa_nil)))))))) pss_nil)
      (pss_cons (ps_set (i := 7) sc.nd rfl (by first | exact Or.inl rfl | exact Or.inr rfl) (pe_op op_cat (pe_lst (pa_cons (pv 6) pa_nil)) (pe_lc (own := [("_law_letter", 9)]) (by rfl) sc.nd (pi_str (pv 2)) (blkOk_by (own := [("_law_letter", 9)]) (N := ["_law_state", "_law_many", "_law_letters", "_law_found", "_law_pool", "_law_k", "_law_label", "_law_near", "_law_j", "_law_letter", "_law_one_of"]) (sc := defScope s__law_names) (by decide +kernel)) (fun _ _ _ _ _ => (pg_name (i := 9) sc.nd rfl (by first | exact Or.inl rfl | exact Or.inr rfl))) (fun _ _ _ _ _ => pts_nil) (fun _ _ _ _ _ => (pe_op op_add_str (pe_slice sl_str (pv 6) po_none (po_some pe_int)) (pv 9))))))
      (pss_one (ps_expr (pe_bmK (K := K) rfl PySem.F.plainAttrs_list PySem.F.slot_list_append PySem.F.type_list_append mt_append (pv 3) (pa_cons (pe_ix (ix_listK (K := K) rfl) (pe_lc (own := [("_law_one_of", 10)]) (by rfl) sc.nd (pi_listK (K := K) rfl (pv 7)) (blkOk_by (own := [("_law_one_of", 10)]) (N := ["_law_state", "_law_many", "_law_letters", "_law_found", "_law_pool", "_law_k", "_law_label", "_law_near", "_law_j", "_law_letter", "_law_one_of"]) (sc := defScope s__law_names) (by decide +kernel)) (fun _ _ _ _ _ => (pg_name (i := 10) sc.nd rfl (by first | exact Or.inl rfl | exact Or.inr rfl))) (fun _ _ _ _ _ => (pts_one (pt_cmpR (notIn_seqK (K := K) rfl) (pv 10) (pv 3) (by rfl)))) (fun _ _ _ _ _ => (pv 10))) pe_int (fun _ _ => rfl)) pa_nil))))))))
      (pss_one (ps_ret (pv 3))))))), ?_⟩)
  obtain ⟨st, l, c, cs, B, n, rfl, hB, D, n0, n1, k⟩ := h
  walk_at "rd"
  refine r_kLst fun t H1 nt e1 ht => ?_
  walk_at "rd"
  refine r_kTup fun tq H2 ntq e2 htq => ?_
  walk_at "rd"
  refine r_split (by decide +kernel) (by decide +kernel) fun pl H3 npl e3 hpl => ?_
  rw [split_pool] at hpl
  walk_at "rd"
  have D3 : DS st l c cs B H3 := ((D.keep e1).keep e2).keep e3
  have n1t : t ≠ l := D.nl nt
  have n2t : t ≠ st := D.nst nt
  have npl0 : H pl = none := (e1.trans e2).free npl
  have n1p : pl ≠ l := D.nl npl0
  have n2p : pl ≠ st := D.nst npl0
  have ntp : pl ≠ t := by
    rintro rfl
    rw [e2 _ _ ht] at npl
    cases npl
  refine r_kForR1 (fun i σ' H' => ∃ (xs : List Str) (y5 y6 y7 y8 y9 y10 : Option V), σ' = [some (.ref st), some (.int n), some (.str abc), some (.ref t), some (.ref pl), y5, y6, y7, y8, y9, y10] ∧ xs.length = i ∧ NamesOk xs ∧
    H' t = some (.lst (xs.map V.str)) ∧ H' pl = some (.lst (pool.map V.str)) ∧ DS st l c cs (B + 11 * (i : Int)) H' ∧ Kp st l H H') (by omega) ⟨[], _, _, _, _, _, _, rfl, rfl, NamesOk.nil, e3 _ _ (e2 _ _ ht), hpl, D3.mono (by omega), Kp.of ((e1.trans e2).trans e3)⟩ ?_ ?_
  · rintro i σ' H4 hi ⟨xs, y5, y6, y7, y8, y9, y10, rfl, hxl, hN, ht4, hpl4, D4, k4⟩
    walk_at "rd"
    refine ⟨st, l, c, pl, cs, _, _, rfl, by omega, D4, hpl4, by simp [pool], by simp [pool], n1p, fun j x H5 hx D5 k5 => ?_⟩
    obtain ⟨s0, rfl, hs0⟩ := strs_get hx
    have hsm := List.mem_of_getElem? hs0
    obtain ⟨hs1, hs2⟩ := lowB_ok (pool_ok s0 hsm)
    have hs3 := pool_len s0 hsm
    have ok0 := cut8 hs1 hs2
    walk_at "rd"
    refine r_slS (by omega) ?_
    walk_at "rd"
    have ht5 := k5 _ _ ht4 n2t n1t
    have hpl5 := k5 _ _ hpl4 n2p n1p
    refine r_cut (fun σ' H' => ∃ (lab : Str) (y7 y8 y9 y10 : Option V), σ' = [some (.ref st), some (.int n), some (.str abc), some (.ref t), some (.ref pl), some (.int (i : Int)), some (.str lab), y7, y8, y9, y10] ∧ NameOk lab ∧
      H' t = some (.lst (xs.map V.str)) ∧ H' pl = some (.lst (pool.map V.str)) ∧ DS st l c cs (B + 11 * (i : Int) + 11) H' ∧ Kp st l H H') ?_ ?_
    · walk_at "rd"
      refine u_take D5 (by omega) (by decide) (by decide) fun a1 H6 a1l a1h D6 k6 => ?_
      walk_at "rd"
      have ht6 := k6 _ _ ht5 n2t n1t
      have hpl6 := k6 _ _ hpl5 n2p n1p
      refine w_dec (fun hc => ?_) (fun hc => ?_)
      · walk_at "rd"
        refine u_take D6 (by omega) (by decide) (by decide) fun a2 H7 a2l a2h D7 k7 => ?_
        walk_at "rd"
        have ht7 := k7 _ _ ht6 n2t n1t
        have hpl7 := k7 _ _ hpl6 n2p n1p
        refine r_kLcR1 (fun Da j H' => ∃ ds : List Nat, ds.length = j ∧ H' Da = some (.lst (((ds.map fun d => (⟨#[d]⟩ : Str))).map V.str)) ∧ (∀ d ∈ ds, 97 ≤ d ∧ d ≤ 122) ∧ DS st l c cs (B + 11 * (i : Int) + 3 + (j : Int)) H' ∧ Kp st l H7 H') (by omega)
          (fun Da H' _ e h => ⟨[], rfl, h, (by intro d hd; cases hd), (D7.keep e).mono (by omega), Kp.of e⟩) ?_ ?_
        · rintro Da j H' hD hj ⟨ds, hdl, hDa, hds, D', k'⟩
          walk_at "rd"
          refine ⟨st, l, c, cs, _, abc, rfl, by omega, D', by decide +kernel, by decide +kernel, fun i2 d H8 hd D8 k8 => ?_⟩
          refine r_kLcE (k8 _ _ hDa (D7.nst hD) (D7.nl hD)) (by rw [List.length_map, List.length_map]; omega) fun H9 b9 h9 => ⟨ds ++ [d], by simp [hdl], ?_, ?_, (D8.but D7 hD b9).mono (by omega), (k'.trans k8).mut b9 hD⟩
          · rw [List.map_append, List.map_append]
            exact h9
          · intro d' hd'
            rcases List.mem_append.mp hd' with hd' | hd'
            · exact hds d' hd'
            · rw [List.mem_singleton.mp hd']
              exact abc_at hd
        · rintro Da H8 hD ⟨ds, hdl, hDa, hds, D8, k8⟩
          have hdl2 : 1 ≤ ds.length ∧ ds.length ≤ 8 := by omega
          walk_at "rd"
          refine r_joinL (ys := ds.map fun d => (⟨#[d]⟩ : Str)) (SqL.of hDa) ?_ ?_
          · have e0 : (Str.ofString "").length = 0 := by decide +kernel
            have e1 : ∀ l : List Nat, ((l.map fun d => (⟨#[d]⟩ : Str)).map (·.length)).sum = l.length := by
              intro l
              induction l with
              | nil => rfl
              | cons a r ih =>
                simp only [List.map_cons, List.sum_cons, ih, List.length_cons]
                show 1 + r.length = r.length + 1
                omega
            rw [e1, List.length_map]
            show ds.length + ds.length * (Str.ofString "").length ≤ 16777216
            rw [e0]
            omega
          · walk_at "rd"
            have ej : Txt.join (Str.ofString "") (ds.map fun d => (⟨#[d]⟩ : Str)) = ⟨ds.toArray⟩ := join_signs ds
            rw [ej]
            exact ⟨_, _, _, _, _, rfl, join_ok hdl2.1 hdl2.2 hds, k8 _ _ ht7 n2t n1t, k8 _ _ hpl7 n2p n1p, D8.mono (by omega), (((k4.trans k5).trans k6).trans k7).trans k8⟩
      · walk_at "rd"
        exact ⟨_, _, _, _, _, rfl, ok0, ht6, hpl6, D6.mono (by omega), (k4.trans k5).trans k6⟩
    rintro σ' H6 ⟨lab, z7, z8, z9, z10, rfl, okL, ht6, hpl6, D6, k6⟩
    have hl8 := okL.hi
    walk_at "rd"
    refine r_kLst fun q1 H7 nq1 e7 hq1 => ?_
    walk_at "rd"
    refine r_kLcS (fun Da j H' => Same H7 H' ∧ H' Da = some (.lst (((abc.cps.toList.take j).map (near lab)).map V.str))) (fun Da H' _ e h => ⟨e, h⟩) ?_ ?_
    · rintro Da j d H' hD hd ⟨e8, h8⟩
      walk_at "rd"
      refine r_slS (by omega) ?_
      walk_at "rd"
      have hcl : (cutS lab none (some 7)).length = min 7 lab.length := cut_len lab 7
      have h1d : (⟨#[d]⟩ : Str).length = 1 := rfl
      have hj : abc.cps.toList[j]? = some d := by
        rw [Array.getElem?_toList]
        exact hd
      have hjl : j < 26 := by
        have := (List.getElem?_eq_some_iff.mp hj).1
        have e := abc_len
        simp only [Str.length] at e
        simp at this
        omega
      refine r_addS (by omega) ?_
      refine r_kLcE h8 (by rw [List.length_map, List.length_map, List.length_take]; omega) fun H9 b9 h9 => ⟨Same.mut e8 b9 hD, ?_⟩
      rw [take_more hj, List.map_append, List.map_append]
      exact h9
    · rintro Da H8 hD ⟨e8, h8⟩
      have hsz : abc.cps.toList.take abc.cps.size = abc.cps.toList := by
        rw [← Array.length_toList, List.take_length]
      have h8 : H8 Da = some (.lst ((abc.cps.toList.map (near lab)).map V.str)) := by
        have h8' := h8
        rw [hsz] at h8'
        exact h8'
      walk_at "rd"
      have hal : abc.cps.toList.length = 26 := by rw [abc_list]; rfl
      refine r_cat (e8 _ _ hq1) h8 (by rw [List.length_map, List.length_map, hal]; simp) fun q2 H9 nq2 e9 hq2 => ?_
      have hcand : H9 q2 = some (.lst ((lab :: abc.cps.toList.map (near lab)).map V.str)) := hq2
      have e69 : Same H6 H9 := (e7.trans e8).trans e9
      have ht9 := e69 _ _ ht6
      walk_at "rd"
      refine r_kLcL (xs := (lab :: abc.cps.toList.map (near lab)).map V.str) (fun Db j H' => Same H9 H' ∧ H' Db = some (.lst ((((lab :: abc.cps.toList.map (near lab)).take j).filter fun s => !decide (s ∈ xs)).map V.str))) (SqL.of hcand) (fun Db H' _ e h => ⟨e, h⟩) (fun Db j H' ⟨e, _⟩ => SqL.of (e _ _ hcand)) ?_ ?_
      · rintro Db j y H' hD' hy ⟨e10, h10⟩
        obtain ⟨s1, rfl, hs1⟩ := strs_get hy
        walk_at "rd"
        refine r_notInS (SqL.of (e10 _ _ ht9)) ?_
        walk_at "rd"
        refine w_ndec (fun hne => ?_) (fun hin => ?_)
        · walk_at "rd"
          refine r_kLcE h10 ?_ fun H11 b11 h11 => ⟨Same.mut e10 b11 hD', ?_⟩
          · rw [List.length_map]
            have := List.length_filter_le (fun s => !decide (s ∈ xs)) ((lab :: abc.cps.toList.map (near lab)).take j)
            have h2 : ((lab :: abc.cps.toList.map (near lab)).take j).length ≤ 27 := by
              rw [List.length_take, List.length_cons, List.length_map, hal]
              omega
            omega
          · rw [take_more hs1, List.filter_append, List.map_append, List.filter_cons_of_pos (by simp [hne])]
            exact h11
        · refine ⟨e10, ?_⟩
          rw [take_more hs1, List.filter_append, List.map_append, List.filter_cons_of_neg (by simp [hin])]
          simpa using h10
      · rintro Db H10 hD' ⟨e10, h10⟩
        rw [List.length_map, List.take_length] at h10
        obtain ⟨d, hd1, hd2⟩ := near_new (z := lab) (found := xs) (by omega)
        have hmem : near lab d ∈ (lab :: abc.cps.toList.map (near lab)).filter fun s => !decide (s ∈ xs) :=
          List.mem_filter.mpr ⟨List.mem_cons_of_mem _ (List.mem_map.mpr ⟨d, hd1, rfl⟩), by simp [hd2]⟩
        obtain ⟨x0, r0, hF⟩ : ∃ x0 r0, (lab :: abc.cps.toList.map (near lab)).filter (fun s => !decide (s ∈ xs)) = x0 :: r0 := by
          cases hq : (lab :: abc.cps.toList.map (near lab)).filter fun s => !decide (s ∈ xs) with
          | nil =>
            rw [hq] at hmem
            cases hmem
          | cons a b => exact ⟨a, b, rfl⟩
        have hx0 : x0 ∈ (lab :: abc.cps.toList.map (near lab)).filter fun s => !decide (s ∈ xs) := by
          rw [hF]
          exact List.mem_cons_self ..
        obtain ⟨hx1, hx2⟩ := List.mem_filter.mp hx0
        have hx3 : x0 ∉ xs := by simpa using hx2
        have hx4 : NameOk x0 := by
          rcases List.mem_cons.mp hx1 with rfl | hx1
          · exact okL
          · obtain ⟨d', hd', rfl⟩ := List.mem_map.mp hx1
            exact near_ok okL.low (abc_mem.mp hd')
        rw [hF] at h10
        walk_at "rd"
        refine r_ixL (SqL.of h10) (at_get (n := 0) rfl rfl) ?_
        walk_at "rd"
        have ht10 := e10 _ _ ht9
        refine r_append ht10 (by rw [List.length_map]; omega) fun H11 b11 h11 => ?_
        have D11 : DS st l c cs (B + 11 * (i : Int) + 11) H11 := ((D6.keep e69).keep e10).but D nt b11
        have k11 : Kp st l H H11 := (k6.trans (Kp.of (e69.trans e10))).mut b11 nt
        refine ⟨xs ++ [x0], _, _, _, _, _, _, rfl, by simp [hxl], hN.snoc hx4 hx3, ?_, b11 _ _ (e10 _ _ (e69 _ _ hpl6)) ntp, D11.mono (by omega), k11⟩
        rw [List.map_append]
        exact h11
  · rintro σ' H4 ⟨xs, y5, y6, y7, y8, y9, y10, rfl, hxl, hN, ht4, hpl4, D4, k4⟩
    walk_at "rd"
    exact k t xs H4 nt (by omega) hN ht4 (D4.mono (by omega)) k4
end
end Wp
set_option Elab.async false
set_option linter.all false
set_option maxRecDepth 100000
set_option maxHeartbeats 4000000
/-! The law's own model of a book: a dict. -/
namespace Wp
open PySem PySem.Spec PyProof.Rows L2
def mk4 (a k d m : V) : List (Key × V) := [(Sum.inr ("lengths" : Str), a), (Sum.inr ("kinds" : Str), k), (Sum.inr ("laid" : Str), d), (Sum.inr ("memory" : Str), m)]
def mk5 (a k d m u : V) : List (Key × V) := mk4 a k d m ++ [(Sum.inr ("due" : Str), u)]
def mkv (a k d m u b : V) : List (Key × V) := [(Sum.inr ("lengths" : Str), a), (Sum.inr ("kinds" : Str), k), (Sum.inr ("laid" : Str), d), (Sum.inr ("memory" : Str), m), (Sum.inr ("due" : Str), u), (Sum.inr ("begins" : Str), b)]
section
variable {a k d m u b x : V}
theorem mk4_nd : ((mk4 a k d m).map (·.1)).Nodup := (by decide +kernel : ([Sum.inr ("lengths" : Str), Sum.inr ("kinds" : Str), Sum.inr ("laid" : Str), Sum.inr ("memory" : Str)] : List Key).Nodup)
theorem mp5 : putK (mk4 a k d m) (Sum.inr ("due" : Str)) u = mk5 a k d m u := by
  refine putK_new _ ?_
  unfold mk4
  rw [valV_neg (kne (by decide +kernel)), valV_neg (kne (by decide +kernel)), valV_neg (kne (by decide +kernel)), valV_neg (kne (by decide +kernel))]
  rfl
theorem mp6 : putK (mk5 a k d m u) (Sum.inr ("begins" : Str)) b = mkv a k d m u b := by
  refine putK_new _ ?_
  show valV [(Sum.inr ("lengths" : Str), a), (Sum.inr ("kinds" : Str), k), (Sum.inr ("laid" : Str), d), (Sum.inr ("memory" : Str), m), (Sum.inr ("due" : Str), u)] _ = none
  rw [valV_neg (kne (by decide +kernel)), valV_neg (kne (by decide +kernel)), valV_neg (kne (by decide +kernel)), valV_neg (kne (by decide +kernel)), valV_neg (kne (by decide +kernel))]
  rfl
theorem mv1 : valV (mkv a k d m u b) (Sum.inr ("lengths" : Str)) = some a := by
  unfold mkv
  rw [valV_pos rfl]
theorem mv2 : valV (mkv a k d m u b) (Sum.inr ("kinds" : Str)) = some k := by
  unfold mkv
  rw [valV_neg (kne (by decide +kernel)), valV_pos rfl]
theorem mv3 : valV (mkv a k d m u b) (Sum.inr ("laid" : Str)) = some d := by
  unfold mkv
  rw [valV_neg (kne (by decide +kernel)), valV_neg (kne (by decide +kernel)), valV_pos rfl]
theorem mv4 : valV (mkv a k d m u b) (Sum.inr ("memory" : Str)) = some m := by
  unfold mkv
  rw [valV_neg (kne (by decide +kernel)), valV_neg (kne (by decide +kernel)), valV_neg (kne (by decide +kernel)), valV_pos rfl]
theorem mv5 : valV (mkv a k d m u b) (Sum.inr ("due" : Str)) = some u := by
  unfold mkv
  rw [valV_neg (kne (by decide +kernel)), valV_neg (kne (by decide +kernel)), valV_neg (kne (by decide +kernel)), valV_neg (kne (by decide +kernel)), valV_pos rfl]
theorem mv6 : valV (mkv a k d m u b) (Sum.inr ("begins" : Str)) = some b := by
  unfold mkv
  rw [valV_neg (kne (by decide +kernel)), valV_neg (kne (by decide +kernel)), valV_neg (kne (by decide +kernel)), valV_neg (kne (by decide +kernel)), valV_neg (kne (by decide +kernel)), valV_pos rfl]
theorem mput {q : Key} (h : (valV (mkv a k d m u b) q).isSome = true) : putK (mkv a k d m u b) q x = (mkv a k d m u b).map (fun kv => if kv.1 = q then (kv.1, x) else kv) := by
  unfold putK
  rw [if_pos (by rw [valV_any]; exact h)]
theorem mq1 : putK (mkv a k d m u b) (Sum.inr ("lengths" : Str)) x = mkv x k d m u b := by
  rw [mput (by rw [mv1]; rfl)]
  simp only [mkv, List.map_cons, List.map_nil, if_pos trivial, if_neg (kne (x := "kinds") (y := "lengths") (by decide +kernel)), if_neg (kne (x := "laid") (y := "lengths") (by decide +kernel)), if_neg (kne (x := "memory") (y := "lengths") (by decide +kernel)), if_neg (kne (x := "due") (y := "lengths") (by decide +kernel)), if_neg (kne (x := "begins") (y := "lengths") (by decide +kernel))]
theorem mq2 : putK (mkv a k d m u b) (Sum.inr ("kinds" : Str)) x = mkv a x d m u b := by
  rw [mput (by rw [mv2]; rfl)]
  simp only [mkv, List.map_cons, List.map_nil, if_pos trivial, if_neg (kne (x := "lengths") (y := "kinds") (by decide +kernel)), if_neg (kne (x := "laid") (y := "kinds") (by decide +kernel)), if_neg (kne (x := "memory") (y := "kinds") (by decide +kernel)), if_neg (kne (x := "due") (y := "kinds") (by decide +kernel)), if_neg (kne (x := "begins") (y := "kinds") (by decide +kernel))]
theorem mq3 : putK (mkv a k d m u b) (Sum.inr ("laid" : Str)) x = mkv a k x m u b := by
  rw [mput (by rw [mv3]; rfl)]
  simp only [mkv, List.map_cons, List.map_nil, if_pos trivial, if_neg (kne (x := "lengths") (y := "laid") (by decide +kernel)), if_neg (kne (x := "kinds") (y := "laid") (by decide +kernel)), if_neg (kne (x := "memory") (y := "laid") (by decide +kernel)), if_neg (kne (x := "due") (y := "laid") (by decide +kernel)), if_neg (kne (x := "begins") (y := "laid") (by decide +kernel))]
theorem mq4 : putK (mkv a k d m u b) (Sum.inr ("memory" : Str)) x = mkv a k d x u b := by
  rw [mput (by rw [mv4]; rfl)]
  simp only [mkv, List.map_cons, List.map_nil, if_pos trivial, if_neg (kne (x := "lengths") (y := "memory") (by decide +kernel)), if_neg (kne (x := "kinds") (y := "memory") (by decide +kernel)), if_neg (kne (x := "laid") (y := "memory") (by decide +kernel)), if_neg (kne (x := "due") (y := "memory") (by decide +kernel)), if_neg (kne (x := "begins") (y := "memory") (by decide +kernel))]
theorem mq5 : putK (mkv a k d m u b) (Sum.inr ("due" : Str)) x = mkv a k d m x b := by
  rw [mput (by rw [mv5]; rfl)]
  simp only [mkv, List.map_cons, List.map_nil, if_pos trivial, if_neg (kne (x := "lengths") (y := "due") (by decide +kernel)), if_neg (kne (x := "kinds") (y := "due") (by decide +kernel)), if_neg (kne (x := "laid") (y := "due") (by decide +kernel)), if_neg (kne (x := "memory") (y := "due") (by decide +kernel)), if_neg (kne (x := "begins") (y := "due") (by decide +kernel))]
theorem mq6 : putK (mkv a k d m u b) (Sum.inr ("begins" : Str)) x = mkv a k d m u x := by
  rw [mput (by rw [mv6]; rfl)]
  simp only [mkv, List.map_cons, List.map_nil, if_pos trivial, if_neg (kne (x := "lengths") (y := "begins") (by decide +kernel)), if_neg (kne (x := "kinds") (y := "begins") (by decide +kernel)), if_neg (kne (x := "laid") (y := "begins") (by decide +kernel)), if_neg (kne (x := "memory") (y := "begins") (by decide +kernel)), if_neg (kne (x := "due") (y := "begins") (by decide +kernel))]
theorem mkv_len : (mkv a k d m u b).length = 6 := rfl
end
/-- a model stands at p, its parts at a, kd and lv -/
structure MdlIn (lg : Addr) (H : Hp) (p : Addr) (B : Bk) (ad kd : Addr) (lv : V) (kvs : List (Key × V)) : Prop where
  i : H p = some (.dK (mkv (.ref ad) (.ref kd) lv (.int B.mem) (.int B.due) (.str B.beg)))
  l : H ad = some (.lst (B.ls.map V.int))
  n : ad ≠ lg
  k : H kd = some (.dK kvs)
  a : KAt H kvs B.ks
  d : LaidV H B.laid lv
def Mdl (l : Addr) (H : Hp) (p : Addr) (B : Bk) : Prop := ∃ a kd lv kvs, MdlIn l H p B a kd lv kvs
theorem KAt.all {H : Hp} {kvs : List (Key × V)} {ks : List (Str × Int × Bool)} (h : KAt H kvs ks) : ∀ kv ∈ kvs, ∃ t, kv.2 = .ref t := by
  induction h with
  | nil => intro kv h; cases h
  | cons _ _ ih =>
    intro kv h
    rcases List.mem_cons.mp h with rfl | h
    · exact ⟨_, rfl⟩
    · exact ih kv h
section
variable {st l c p a kd : Addr} {cs : List Int} {n : Int} {H H' : Hp} {B : Bk} {lv : V} {kvs : List (Key × V)} {ks : List (Str × Int × Bool)}
theorem KAt.nst (h : KAt H kvs ks) (hk : H kd = some (.dK kvs)) (D : DS st l c cs n H) : kd ≠ st := by
  rintro rfl
  obtain ⟨r, t, _, _, _, hd⟩ := D.d
  rw [hd] at hk
  injection hk with hk
  injection hk with hk
  subst hk
  obtain ⟨t', h⟩ := h.all (Sum.inr ("rest" : Str), .int r) (by simp [dkv])
  cases h
theorem DS.dne {kvs : List (Key × V)} (D : DS st l c cs n H) (hk : H kd = some (.dK kvs)) (h : kvs.length ≠ 4) : kd ≠ st := by
  rintro rfl
  obtain ⟨r, t, _, _, _, hd⟩ := D.d
  rw [hd] at hk
  injection hk with hk
  injection hk with hk
  subst hk
  exact h rfl
theorem DS.nld {o : HO} (D : DS st l c cs n H) (hk : H kd = some o) (h : ∀ xs, o ≠ .lst xs) : kd ≠ l := by
  rintro rfl
  obtain ⟨zs, _, hd⟩ := D.lg
  rw [hd] at hk
  injection hk with hk
  exact h _ hk.symm
theorem Kp.frzs (k : Kp st l H H') (D : DS st l c cs n H) : ∀ t o xs, H t = some (.frz o (.tup xs)) → H' t = some (.frz o (.tup xs)) := fun t o xs h => by
  obtain ⟨zs, _, hl⟩ := D.lg
  obtain ⟨r, t', _, _, _, hd⟩ := D.d
  exact k _ _ h (ne_of h hd (by intro z; cases z)) (ne_of h hl (by intro z; cases z))
theorem Kp.tups (k : Kp st l H H') (D : DS st l c cs n H) : ∀ t xs, H t = some (.tup xs) → H' t = some (.tup xs) := fun t xs h => k.tup D h
theorem MdlIn.kp (h : MdlIn l H p B a kd lv kvs) (k : Kp st l H H') (D : DS st l c cs n H) : MdlIn l H' p B a kd lv kvs := by
  obtain ⟨h1, h2, h3, h4, h5, h6⟩ := h
  refine ⟨k _ _ h1 (D.dne h1 (by rw [mkv_len]; decide)) (D.nld h1 fun xs z => by cases z), k _ _ h2 ?_ h3, h3, k _ _ h4 (h5.nst h4 D) (D.nld h4 fun xs z => by cases z), h5.keep (k.tups D), h6.keep (k.frzs D)⟩
  rintro rfl
  obtain ⟨r, t, _, _, _, hd⟩ := D.d
  rw [hd] at h2
  cases h2
theorem Mdl.kp (h : Mdl l H p B) (k : Kp st l H H') (D : DS st l c cs n H) : Mdl l H' p B := by
  obtain ⟨a, kd, lv, kvs, h⟩ := h
  exact ⟨a, kd, lv, kvs, h.kp k D⟩
theorem MdlIn.keep (h : MdlIn l H p B a kd lv kvs) (e : Same H H') : MdlIn l H' p B a kd lv kvs :=
  ⟨e _ _ h.i, e _ _ h.l, h.n, e _ _ h.k, h.a.keepT e, h.d.keep fun t o xs ht => e _ _ ht⟩
theorem Mdl.keep (h : Mdl l H p B) (e : Same H H') : Mdl l H' p B := by
  obtain ⟨a, kd, lv, kvs, h⟩ := h
  exact ⟨a, kd, lv, kvs, h.keep e⟩
theorem BookAt.kp {C : Addr} (h : BookAt C H p B) (k : Kp st l H H') (D : DS st l c cs n H) : BookAt C H' p B := by
  obtain ⟨dx, tl, kd, lv, kvs, h1, h2, h3, h4, h5⟩ := h
  obtain ⟨r, t, _, _, _, hd⟩ := D.d
  exact ⟨dx, tl, kd, lv, kvs, k _ _ h1 (ne_of h1 hd (by intro z; cases z)) (D.nld h1 fun xs z => by cases z), k.tup D h2, k _ _ h3 (h4.nst h3 D) (D.nld h3 fun xs z => by cases z), h4.keep (k.tups D), h5.keep (k.frzs D)⟩
end
end Wp
set_option Elab.async false
set_option linter.all false
set_option maxRecDepth 100000
set_option maxHeartbeats 4000000
namespace Wp
open PySem PySem.Spec PyProof.Rows L2
abbrev s__law_model : Stmt := topS 64
abbrev s__law_made : Stmt := topS 65
local macro_rules | `(tactic| walk_at "val") => `(tactic| assumption)
local macro_rules | `(tactic| walk_at "rd1") => `(tactic| first
  | with_reducible refine r_seq ?_ | with_reducible refine r_next ?_ | with_reducible refine r_if ?_ | with_reducible refine r_asg ?_ | with_reducible refine r_gname ?_
  | with_reducible refine r_ret ?_ | with_reducible refine r_retN ?_ | with_reducible refine r_drop ?_ | with_reducible refine r_par ?_ | with_reducible refine r_kPar ?_
  | ((with_reducible refine' r_var ?hv ?_); (case hv => exact rfl)) | with_reducible refine r_c ?_ | with_reducible refine r_nil ?_ | with_reducible refine r_cons ?_
  | with_reducible refine r_fn ?_ | with_reducible refine r_cb ?_ | with_reducible refine r_op ?_ | with_reducible refine r_un ?_ | with_reducible refine r_I0 ?_
  | with_reducible refine r_pow5 ?_ | with_reducible refine r_pow6 ?_ | with_reducible refine r_pow7 ?_ | with_reducible refine r_pow9 ?_ | with_reducible refine r_pow18 ?_ | with_reducible refine r_pow20 ?_ | with_reducible refine r_pow30 ?_
  | with_reducible refine r_isN_non ?_ | with_reducible refine r_isN_ref ?_ | with_reducible refine r_isN_int ?_ | with_reducible refine r_isN_str ?_ | with_reducible refine r_isN_bl ?_ | with_reducible refine r_notN_non ?_ | with_reducible refine r_notN_ref ?_ | with_reducible refine r_notN_int ?_ | with_reducible refine r_notN_str ?_ | with_reducible refine r_notN_bl ?_
  | ((with_reducible refine r_I ?hc ?_); (case hc => walk_at "side")) | with_reducible refine r_U ?_
  | with_reducible refine r_eqI ?_ | with_reducible refine r_neI ?_ | with_reducible refine r_eqS ?_ | with_reducible refine r_neS ?_ | with_reducible refine r_eqB ?_ | with_reducible refine r_neB ?_
  | with_reducible refine r_chain ?_ | with_reducible refine r_test ?_ | with_reducible refine r_tB ?_ | with_reducible refine r_kTest ?_ | with_reducible refine r_not ?_
  | with_reducible refine r_and ?_ | with_reducible refine r_or ?_ | with_reducible refine r_tif ?_ | with_reducible refine r_andV ?_ | with_reducible refine r_orV ?_ | with_reducible refine r_notV ?_
  | with_reducible refine r_kAndV ?_ | with_reducible refine r_kOrV ?_ | with_reducible refine r_kNotV ?_
  | with_reducible refine w_T ?_ | with_reducible refine w_F ?_ | with_reducible refine w_NT ?_ | with_reducible refine w_NF ?_
  | with_reducible refine r_tup ?_ | with_reducible refine r_lst ?_ | with_reducible refine r_fld ?_ | with_reducible refine r_prop ?_ | ((with_reducible refine' r_aug ?h1 ?_); (case h1 => exact rfl)) | with_reducible refine r_ipI ?_ | with_reducible refine r_dget ?_ | with_reducible refine r_dput ?_ | with_reducible refine r_bm ?_
  | ((with_reducible refine' r_kDGetS ?h1 ?h2 ?_); (case h1 => assumption); (case h2 => walk_at "val"))
  | ((with_reducible refine' r_kBML ?h1 ?_); (case h1 => assumption))
  | with_reducible refine r_forL ?_ | with_reducible refine r_forR1 ?_ | with_reducible refine r_forR2 ?_ | with_reducible refine r_forT ?_ | with_reducible refine r_lcL ?_ | with_reducible refine r_lcR1 ?_
  | ((with_reducible refine r_kLcG ?hw ?_); (case hw => exact rfl)) | with_reducible refine r_kLcT ?_ | with_reducible refine r_yes ?_
  | with_reducible refine r_pnil ?_ | with_reducible refine r_pcons ?_
  | with_reducible refine r_fnK ?_ | ((with_reducible refine r_kFnK ?hl ?_); (case hl => exact rfl))
  | with_reducible refine r_isi_ii ?_ | with_reducible refine r_isi_ib ?_ | with_reducible refine r_isi_bi ?_ | with_reducible refine r_isi_bb ?_ | with_reducible refine r_isi_ss ?_ | with_reducible refine r_isi_is ?_ | with_reducible refine r_isi_it ?_
  | ((with_reducible refine' r_isi_tt ?h1 ?_); (case h1 => assumption))
  | with_reducible refine r_sfld ?_ | with_reducible refine r_gnil ?_ | with_reducible refine r_gcons ?_
  | ((with_reducible refine' r_gtup ?h1 ?h2 ?_); (case h1 => exact SqT.of (by assumption)); (case h2 => exact rfl))
  | with_reducible refine r_sl ?_ | with_reducible refine r_noPart ?_ | with_reducible refine r_part ?_ | with_reducible refine r_kPart ?_ | with_reducible refine r_m1 ?_ | with_reducible refine r_kM1 ?_ | with_reducible refine r_forS ?_ | with_reducible refine r_lcS ?_ | with_reducible refine r_lcTu ?_ | with_reducible refine r_lcK ?_ | with_reducible refine r_dcL ?_ | with_reducible refine r_dcK ?_ | with_reducible refine r_lc2L ?_ | with_reducible refine r_kLc2TL ?_ | with_reducible refine r_dcEn ?_ | with_reducible refine r_gslc ?_ | with_reducible refine r_lcEn ?_ | with_reducible refine r_lcEl ?_ | with_reducible refine r_lcR2 ?_ | with_reducible refine r_rg1 ?_ | with_reducible refine r_forET ?_ | with_reducible refine r_lenD ?_
  | ((with_reducible refine r_kDcG ?hw ?_); (case hw => exact rfl)) | with_reducible refine r_kDcT ?_
  | with_reducible refine r_fldaug ?_ | with_reducible refine r_daug ?_ | with_reducible refine r_rAdd ?_ | with_reducible refine r_rSub ?_ | with_reducible refine r_ddel ?_ | with_reducible refine r_bmF ?_ | with_reducible refine r_dget2 ?_ | with_reducible refine r_listItems ?_ | with_reducible refine r_bm0 ?_ | with_reducible refine r_lc2E ?_ | ((with_reducible refine r_kLc2G ?hw ?_); (case hw => exact rfl)) | with_reducible refine r_kLc2T ?_ | with_reducible refine r_forE ?_ | with_reducible refine r_orT ?_ | with_reducible refine r_din ?_ | with_reducible refine r_augS ?_ | with_reducible refine r_dnotin ?_ | with_reducible refine r_lcIT ?_ | with_reducible refine r_cont ?_ | with_reducible refine r_meth ?_ | with_reducible refine r_frz ?_ | with_reducible refine r_par3 ?_ | with_reducible refine r_kPar3 ?_ | with_reducible refine r_dz ?_ | with_reducible refine r_revL ?_ | with_reducible refine r_star ?_ | with_reducible refine r_int1 ?_ | with_reducible refine r_int1b ?_ | with_reducible refine r_min2 ?_ | with_reducible refine r_max2 ?_ | with_reducible refine r_gsub ?_)
local macro_rules | `(tactic| walk_at "rd") => `(tactic| repeat walk_at "rd1")
local macro_rules | `(tactic| walk_at "side") => `(tactic| first | assumption | exact Or.inr ⟨by decide, by decide⟩ | exact Or.inl ⟨by decide, by decide⟩ | (constructor <;> omega) | omega | decide | (refine Or.inl ⟨?_, ?_⟩ <;> omega) | (refine Or.inr ⟨?_, ?_⟩ <;> omega) | (refine ⟨?_, ?_, ?_⟩ <;> first | decide | omega))
local macro_rules | `(tactic| walk_at "val") => `(tactic| first | exact mv1 | exact mv2 | exact mv3 | exact mv4 | exact mv5 | exact mv6)
theorem r_dnewK {σ : L2.St} {H : Hp} {Q : VK} (q : ∀ p H', H p = none → Same H H' → H' p = some (.dK []) → Q (.ref p) H') : tDNewK σ H Q := fun p hp => q p _ hp (Same.new hp) upd_same
theorem r_minL {K : PySem.W.Frag} {H : Hp} {p : Addr} {Q : VK} {ns : List Int} (h : SqL K H p (ns.map V.int)) (h0 : 0 < ns.length) (k : ∀ m, m ∈ ns → (∀ y ∈ ns, m ≤ y) → Q (.int m) H) : rMin K [.ref p] H Q := ⟨p, ns, rfl, h, h0, k⟩
def sp_model : Sp := fun vs H Q _ => ∃ (st l c : Addr) (cs : List Int) (n many : Int) (il : Bool), vs = [.ref st, .int many, .bl il] ∧ n ≤ 8796093022208 ∧ DS st l c cs n H ∧ 1 ≤ many ∧ many ≤ 6 ∧
  ∀ p B H', H p = none → B.Ok → B.LaidOk → Mdl l H' p B → DS st l c cs (n + 200) H' → Kp st l H H' → Q (.ref p) H'
def sp_made (C : Addr) : Sp := fun vs H Q _ => ∃ (l p : Addr) (B : Bk), vs = [.ref p] ∧ B.Ok ∧ B.LaidOk ∧ Mdl l H p B ∧
  ∀ q H' ks, H q = none → Same H H' → ks.Perm B.ks → sortedS (ks.map (·.1)) = true → BookAt C H' q { B with ks := ks } → Q (.ref q) H'
section
variable {P : Program} {w : World} {K : PySem.W.Frag} {mg : Str → Option Value} {base : Heap}
theorem ok__law_made {f C : Addr} {fd : FuncData} (T : Tx K mg) (F : FnP K "_law_made" s__law_made f fd) (mk_Book : Dc P w K mg base CX0 5 "Book" (sp_Book C)) :
    FnOk P w K mg base CX0 7 f fd ["_law_model_here"] (sp_made C) := by
  have sc : FnScope ["_law_model_here", "_law_start"] ["_law_model_here"] (defScope s__law_made) := ⟨rfl, rfl, rfl, by decide +kernel, rfl, by decide +kernel, by decide +kernel⟩
  refine F.ok sc (by rintro vs H Q E ⟨_, _, _, rfl, _⟩; rfl) (fun cdv A outer s H vs Q E hr h => ⟨_, PSs.nox ((pss_cons (ps_set (i := 1) sc.nd rfl (by first | exact Or.inl rfl | exact Or.inr rfl) (pe_lst (pa_cons (pe_dget (hu_of hr) (pv 0) pe_str (fun _ _ => rfl)) (pa_cons (pe_dget (hu_of hr) (pv 0) pe_str (fun _ _ => rfl)) (pa_cons (pe_dget (hu_of hr) (pv 0) pe_str (fun _ _ => rfl)) pa_nil)))))
      (pss_one (ps_ret (pe_mk mk_Book (hr.mono (by decide)) pass0 (pa_cons (pe_ix (ix_listK (K := K) rfl) (pv 1) pe_int (fun _ _ => rfl)) (pa_cons (pe_ix (ix_listK (K := K) rfl) (pv 1) pe_int (fun _ _ => rfl)) (pa_cons (pe_ix (ix_listK (K := K) rfl) (pv 1) pe_int (fun _ _ => rfl)) (pa_cons (pe_dget (hu_of hr) (pv 0) pe_str (fun _ _ => rfl)) (pa_cons (pe_dget (hu_of hr) (pv 0) pe_str (fun _ _ => rfl)) (pa_cons (pe_dget (hu_of hr) (pv 0) pe_str (fun _ _ => rfl)) pa_nil))))))))))), ?_⟩)
  obtain ⟨l, p, B, rfl, ok, lok, ⟨a, kd, lv, kvs, hM⟩, k⟩ := h
  walk_at "rd"
  refine r_kDGetS hM.i mv1 ?_
  walk_at "rd"
  refine r_kDGetS hM.i mv5 ?_
  walk_at "rd"
  refine r_kDGetS hM.i mv2 ?_
  walk_at "rd"
  refine r_kLst fun t H1 nt e1 ht => ?_
  have hM1 := hM.keep e1
  walk_at "rd"
  refine r_ixL (SqL.of ht) (at_get (n := 0) rfl rfl) ?_
  walk_at "rd"
  refine r_ixL (SqL.of ht) (at_get (n := 1) rfl rfl) ?_
  walk_at "rd"
  refine r_ixL (SqL.of ht) (at_get (n := 2) rfl rfl) ?_
  walk_at "rd"
  refine r_kDGetS hM1.i mv4 ?_
  walk_at "rd"
  refine r_kDGetS hM1.i mv6 ?_
  walk_at "rd"
  refine r_kDGetS hM1.i mv3 ?_
  refine ⟨a, kd, B, lv, kvs, rfl, ok, lok, hM1.d, .inl hM1.l, hM1.k, hM1.a, fun q H' ks nq e2 p1 p2 hB => k q H' ks (e1.free nq) (e1.trans e2) p1 p2 hB⟩
theorem ok__law_model {f : Addr} {fd : FuncData} (T : Tx K mg) (F : FnP K "_law_model" s__law_model f fd)
    (d__law_take : Dn P w K mg base CX0 2 "_law_take" ["_law_state", "_law_size"] sp_take) (d__law_pick : Dn P w K mg base CX0 3 "_law_pick" ["_law_state", "_law_some_here"] sp_pick)
    (d__law_names : Dn P w K mg base CX0 4 "_law_names" ["_law_state", "_law_many"] sp_names) (d__law_some : Dn P w K mg base CX0 3 "_law_some" ["_law_state", "_law_some_here", "_law_many"] sp_some) :
    FnOk P w K mg base CX0 5 f fd ["_law_state", "_law_many", "_law_is_laid"] sp_model := by
  have sc : FnScope ["_law_state", "_law_many", "_law_is_laid", "_law_rounds", "_law_wide", "_law_sizes", "_law_model_here", "_law_label", "_law_rated", "_law_k"] ["_law_state", "_law_many", "_law_is_laid"] (defScope s__law_model) := ⟨rfl, rfl, rfl, by decide +kernel, rfl, by decide +kernel, by decide +kernel⟩
  refine F.ok sc (by rintro vs H Q E ⟨_, _, _, _, _, _, _, rfl, _⟩; rfl) (fun cdv A outer s H vs Q E hr h => ⟨_, PSs.nox ((pss_cons (ps_asg (pe_tup (pa_cons (pe_op op_add pe_int (pe_fn d__law_take (hr.mono (by decide)) pass0 (pa_cons (pv 0) (pa_cons (pe_fn d__law_pick (hr.mono (by decide)) pass0 (pa_cons (pv 0) (pa_cons (pe_lst (pa_cons pe_int (pa_cons pe_int (pa_cons pe_int pa_nil)))) pa_nil))) pa_nil)))) (pa_cons (pe_fn d__law_pick (hr.mono (by decide)) pass0 (pa_cons (pv 0) (pa_cons (pe_lst (pa_cons pe_int (pa_cons pe_int (pa_cons pe_int (pa_cons pe_int pa_nil))))) pa_nil))) pa_nil))) (pg_tupK (K := K) (n := 2) rfl rfl (pgs_cons (pg_name (i := 3) sc.nd rfl (by first | exact Or.inl rfl | exact Or.inr rfl)) (pgs_cons (pg_name (i := 4) sc.nd rfl (by first | exact Or.inl rfl | exact Or.inr rfl)) pgs_nil))))
      (pss_cons (ps_setLc (i := 5) (own := [("_law_k", 9)]) (by rfl) sc.nd rfl rfl (sw_true rfl rfl rfl (by decide +kernel)) (pi_range1 (by rfl) T.b_range (pa_cons (pv 3) pa_nil)) (blkOk_by (own := [("_law_k", 9)]) (N := ["_law_state", "_law_many", "_law_is_laid", "_law_rounds", "_law_wide", "_law_sizes", "_law_model_here", "_law_label", "_law_rated", "_law_k"]) (sc := defScope s__law_model) (by decide +kernel)) (fun _ _ _ _ _ => (pg_name (i := 9) sc.nd rfl (by first | exact Or.inl rfl | exact Or.inr rfl))) (fun _ _ _ _ _ => pts_nil) (fun _ _ _ _ _ => (pe_op op_add pe_int (pe_fn d__law_take (hr.mono (by decide)) pass0 (pa_cons (pv 0) (pa_cons (pv 4) pa_nil))))))
      (pss_cons (ps_set (i := 6) sc.nd rfl (by first | exact Or.inl rfl | exact Or.inr rfl) (pe_disp (pps_cons pe_str (pv 5) (pps_cons pe_str pe_dnewK (pps_cons pe_str pe_non (pps_cons pe_str (pe_fn d__law_take (hr.mono (by decide)) pass0 (pa_cons (pv 0) (pa_cons pe_int pa_nil))) pps_nil)))) (by rfl) (by rfl) (fun z => by cases z) (by decide)))
      (pss_cons (ps_dput (hu_of hr) (pv 6) pe_str (pe_fn d__law_pick (hr.mono (by decide)) pass0 (pa_cons (pv 0) (pa_cons (pe_lst (pa_cons pe_int (pa_cons (pe_op op_sub (pe_callB (c_minK (K := K) rfl rfl) (by rfl) T.b_min (by decide +kernel) (pa_cons (pv 5) pa_nil)) pe_int) (pa_cons (pe_fn d__law_take (hr.mono (by decide)) pass0 (pa_cons (pv 0) (pa_cons (pe_callB (c_minK (K := K) rfl rfl) (by rfl) T.b_min (by decide +kernel) (pa_cons (pv 5) pa_nil)) pa_nil))) pa_nil)))) pa_nil))) rfl)
      (pss_cons (ps_dput (hu_of hr) (pv 6) pe_str (pe_fn d__law_pick (hr.mono (by decide)) pass0 (pa_cons (pv 0) (pa_cons (pe_lst (pa_cons pe_str (pa_cons pe_str pa_nil))) pa_nil))) rfl)
      (pss_cons (ps_for PassesOwn.never rfl (pi_listK (K := K) rfl (pe_fn d__law_names (hr.mono (by decide)) pass0 (pa_cons (pv 0) (pa_cons (pe_op op_add pe_int (pe_fn d__law_take (hr.mono (by decide)) pass0 (pa_cons (pv 0) (pa_cons (pv 1) pa_nil)))) pa_nil)))) (pg_name (i := 7) sc.nd rfl (by first | exact Or.inl rfl | exact Or.inr rfl)) (pss_cons (ps_set (i := 8) sc.nd rfl (by first | exact Or.inl rfl | exact Or.inr rfl) (pe_fn d__law_pick (hr.mono (by decide)) pass0 (pa_cons (pv 0) (pa_cons (pe_lst (pa_cons pe_int (pa_cons pe_int (pa_cons pe_int (pa_cons pe_int (pa_cons pe_int (pa_cons (pe_fn d__law_take (hr.mono (by decide)) pass0 (pa_cons (pv 0) (pa_cons pe_int pa_nil))) pa_nil))))))) pa_nil))))
      (pss_one (ps_dput (hu_of hr) (pe_dget (hu_of hr) (pv 6) pe_str (fun _ _ => rfl)) (pv 7) (pe_tup (pa_cons (pv 8) (pa_cons (pe_cmpR op_gt (pe_fn d__law_take (hr.mono (by decide)) pass0 (pa_cons (pv 0) (pa_cons pe_int pa_nil))) pe_int (nomark _)) pa_nil))) rfl))))
      (Evl.pss_cut (ps_if (PW.pt (pw_and (pt_val (pv 2)) (pw_and1 (pt_cmpR op_gt (pe_fn d__law_take (hr.mono (by decide)) pass0 (pa_cons (pv 0) (pa_cons pe_int pa_nil))) pe_int (nomark _))))) (pss_one (ps_dput (hu_of hr) (pv 6) pe_str (pe_callTy (c_tupleF (K := K) rfl) (by rfl) T.b_tuple (by decide +kernel) (pa_cons (pe_fn d__law_some (hr.mono (by decide)) pass0 (pa_cons (pv 0) (pa_cons (pe_callTy (c_listD rfl) (by rfl) T.b_list (by decide +kernel) (pa_cons (pe_dget (hu_of hr) (pv 6) pe_str (fun _ _ => rfl)) pa_nil)) (pa_cons pe_int pa_nil)))) pa_nil)) rfl)) pss_nil)
      (pss_one (ps_ret (pv 6))))))))))), ?_⟩)
  obtain ⟨st, l, c, cs, n, many, il, rfl, hn, D, m1, m6, k⟩ := h
  walk_at "rd"
  refine r_kLst fun a1 H1 na1 e1 ha1 => ?_
  walk_at "rd"
  refine u_pick D (by omega) na1 e1 ha1 (by simp) (by simp) fun i1 x1 H2 hx1 D2 k2 => ?_
  obtain ⟨z1, rfl, z11, z12⟩ := IntsIn.get (lo := 1) (hi := 4) (by simp [IntsIn]) hx1
  walk_at "rd"
  refine u_take D2 (by omega) (by omega) (by omega) fun r H3 r0 r1 D3 k3 => ?_
  walk_at "rd"
  refine r_kLst fun a2 H4 na2 e4 ha2 => ?_
  walk_at "rd"
  refine u_pick D3 (by omega) na2 e4 ha2 (by simp) (by simp) fun i2 x2 H5 hx2 D5 k5 => ?_
  obtain ⟨z2, rfl, z21, z22⟩ := IntsIn.get (lo := 1) (hi := 30) (by simp [IntsIn]) hx2
  walk_at "rd"
  refine r_kTup fun tq H6 ntq e6 htq => ?_
  walk_at "rd"
  have k6 : Kp st l H H6 := ((k2.trans k3).trans k5).trans (Kp.of e6)
  have D6 := D5.keep e6
  refine r_kLcR1 (fun Da i H' => ∃ ls : List Int, ls.length = i ∧ (∀ z ∈ ls, 2 ≤ z ∧ z ≤ 31) ∧ H' Da = some (.lst (ls.map V.int)) ∧ DS st l c cs (n + 1 + 1 + 1 + (i : Int)) H' ∧ Kp st l H6 H') (by omega)
    (fun Da H' nD e h => ⟨[], rfl, fun z hz => (by cases hz), h, (D6.keep e).mono (by omega), Kp.of e⟩) ?_ ?_
  · rintro Da i H' nD hi ⟨ls, hl, hz, hDa, D7, k7⟩
    walk_at "rd"
    refine u_take D7 (by omega) (by omega) (by omega) fun y H8 y0 y1 D8 k8 => ?_
    walk_at "rd"
    refine r_kLcE (k8 _ _ hDa (D6.nst nD) (D6.nl nD)) (by rw [List.length_map]; omega) fun H9 b9 h9 => ?_
    refine ⟨ls ++ [2 + y], by simp [hl], ?_, by rw [List.map_append]; exact h9, (D8.but D6 nD b9).mono (by omega), (k7.trans k8).mut b9 nD⟩
    intro z hz'
    rcases List.mem_append.mp hz' with h | h
    · exact hz z h
    · rw [List.mem_singleton.mp h]
      omega
  rintro sz H7 nsz ⟨ls, hl, hz, hsz, D7, k7⟩
  walk_at "rd"
  have hn0 := D7
  refine r_disp fun p H8 np e8 hp => ?_
  walk_at "rd"
  refine r_dnewK fun kd H9 nkd e9 hkd => ?_
  walk_at "rd"
  have D9 := (D7.keep e8).keep e9
  have npk : p ≠ kd := ne_of_none hp nkd
  have np0 : H7 kd = none := e8.free nkd
  refine u_take D9 (by omega) (by omega) (by omega) fun m H10 m0 m1 D10 k10 => ?_
  have hp10 := k10 _ _ (e9 _ _ hp) (D7.nst np) (D7.nl np)
  have hkd10 := k10 _ _ hkd (D7.nst np0) (D7.nl np0)
  have hsz10 := k10 _ _ (e9 _ _ (e8 _ _ hsz)) (D6.nst nsz) (D6.nl nsz)
  walk_at "rd"
  refine r_kDisp (mk4 (.ref sz) (.ref kd) .non (.int m)) hp10 rfl (show 4 ≤ 15 by decide) mk4_nd fun H11 b11 hp11 => ?_
  have D11 := D10.but D7 np b11
  have kp11 : Kp st l H7 H11 := ((Kp.of (e8.trans e9)).trans k10).mut b11 np
  have hkd11 := b11 _ _ hkd10 npk.symm
  have nsp : sz ≠ p := ne_of_none hsz np
  have hsz11 := b11 _ _ hsz10 nsp
  walk_at "rd"
  have hlz : 0 < ls.length := by omega
  refine r_minL (SqL.of hsz11) hlz fun mn hmn hmin => ?_
  have hmn2 := hz mn hmn
  walk_at "rd"
  refine r_minL (SqL.of hsz11) hlz fun mn' hmn' hmin' => ?_
  obtain rfl : mn' = mn := Int.le_antisymm (hmin' _ hmn) (hmin _ hmn')
  walk_at "rd"
  refine u_take D11 (by omega) (by omega) (by omega) fun y H12 y0 y1 D12 k12 => ?_
  walk_at "rd"
  refine r_kLst fun a3 H13 na3 e13 ha3 => ?_
  walk_at "rd"
  refine u_pick D12 (by omega) na3 e13 ha3 (by simp) (by simp) fun i3 x3 H14 hx3 D14 k14 => ?_
  obtain ⟨due, rfl, due0, due1⟩ := IntsIn.get (lo := 0) (hi := mn' - 1) (by simp [IntsIn]; omega) hx3
  have kp14 := (kp11.trans k12).trans k14
  have k1114 := k12.trans k14
  have hp14 := k1114 _ _ hp11 (D7.nst np) (D7.nl np)
  walk_at "rd"
  refine r_kDPutS hp14 (by simp [mk4]) fun H15 b15 hp15 => ?_
  rw [mp5] at hp15
  have D15 := D14.but D7 np b15
  have kp15 := kp14.mut b15 np
  have hkd15 := b15 _ _ (k1114 _ _ hkd11 (D7.nst np0) (D7.nl np0)) npk.symm
  have hsz15 := b15 _ _ (k1114 _ _ hsz11 (D6.nst nsz) (D6.nl nsz)) nsp
  walk_at "rd"
  refine r_kLst fun a4 H16 na4 e16 ha4 => ?_
  walk_at "rd"
  refine u_pick D15 (by omega) na4 e16 ha4 (by simp) (by simp) fun i4 x4 H17 hx4 D17 k17 => ?_
  obtain ⟨bg, rfl, hbg⟩ : ∃ bg : Str, x4 = .str bg ∧ (bg = "day" ∨ bg = "statement") := by
    rcases List.mem_cons.mp (List.mem_of_getElem? hx4) with h | h
    · exact ⟨_, h, .inl rfl⟩
    · exact ⟨_, List.mem_singleton.mp h, .inr rfl⟩
  have hp17 := k17 _ _ hp15 (D7.nst np) (D7.nl np)
  walk_at "rd"
  refine r_kDPutS hp17 (by simp [mk4, mk5]) fun H18 b18 hp18 => ?_
  rw [mp6] at hp18
  have D18 := D17.but D7 np b18
  have kp18 := (kp15.trans k17).mut b18 np
  have hkd18 := b18 _ _ (k17 _ _ hkd15 (D7.nst np0) (D7.nl np0)) npk.symm
  have hsz18 := b18 _ _ (k17 _ _ hsz15 (D6.nst nsz) (D6.nl nsz)) nsp
  walk_at "rd"
  refine u_take D18 (by omega) (by omega) (by omega) fun q H19 q0 q1 D19 k19 => ?_
  walk_at "rd"
  refine ⟨st, l, c, cs, _, 1 + q, rfl, (by omega : _ ≤ (17592186044416 : Int)), D19, by omega, by omega, fun t nms H20 nt hnl hnm ht D20 k20 => ?_⟩
  have k1820 := k19.trans k20
  have D20' : DS st l c cs (n + 80) H20 := D20.mono (by omega)
  have kp20 := kp18.trans k1820
  have hp20 := k1820 _ _ hp18 (D7.nst np) (D7.nl np)
  have hkd19 := k19 _ _ hkd18 (D7.nst np0) (D7.nl np0)
  have hkd20 := k20 _ _ hkd19 (D7.nst np0) (D7.nl np0)
  have hsz20 := k1820 _ _ hsz18 (D6.nst nsz) (D6.nl nsz)
  have ntk : t ≠ kd := (ne_of_none hkd19 nt).symm
  have nt1 : t ≠ st := D19.nst nt
  have nt2 : t ≠ l := D19.nl nt
  have nsk : sz ≠ kd := ne_of_none hsz np0
  have hnl6 : nms.length ≤ 6 := by omega
  walk_at "rd"
  refine r_kForL (xs := nms.map V.str) (fun i σ' H' => ∃ (y7 y8 y9 : Option V) (kvs : List (Key × V)) (ks : List (Str × Int × Bool)), σ' = [some (.ref st), some (.int many), some (.bl il), some (.int (1 + r)), some (.int z2), some (.ref sz), some (.ref p), y7, y8, y9] ∧
      ks.map (·.1) = nms.take i ∧ (∀ k ∈ ks, 0 ≤ k.2.1 ∧ k.2.1 ≤ 1000) ∧ H' kd = some (.dK kvs) ∧ KAt H' kvs ks ∧ H' p = some (.dK (mkv (.ref sz) (.ref kd) .non (.int m) (.int due) (.str bg))) ∧ H' sz = some (.lst (ls.map V.int)) ∧ H' t = some (.lst (nms.map V.str)) ∧
      DS st l c cs (n + 80 + 3 * (i : Int)) H' ∧ Kp st l H7 H') (SqL.of ht) ⟨_, _, _, [], [], rfl, rfl, fun k h => (by cases h), hkd20, .nil, hp20, hsz20, ht, D20'.mono (by omega), kp20⟩
      (fun i σ' H' ⟨_, _, _, _, _, _, _, _, _, _, _, _, h, _⟩ => SqL.of h) ?_ ?_
  · rintro i x σ' H21 hx ⟨y7, y8, y9, kvs, ks, rfl, hks, hrt, hkd21, hK, hp21, hsz21, ht21, D21, kp21⟩
    obtain ⟨nm, rfl, hnx⟩ := strs_get hx
    have hil := (List.getElem?_eq_some_iff.mp hnx).1
    walk_at "rd"
    refine u_take D21 (by omega) (by omega) (by omega) fun y H22 y0 y1 D22 k22 => ?_
    walk_at "rd"
    refine r_kLst fun a5 H23 na5 e23 ha5 => ?_
    walk_at "rd"
    refine u_pick D22 (by omega) na5 e23 ha5 (by simp) (by simp) fun i5 x5 H24 hx5 D24 k24 => ?_
    obtain ⟨rt, rfl, rt0, rt1⟩ := IntsIn.get (lo := 0) (hi := 1000) (by simp [IntsIn]; omega) hx5
    walk_at "rd"
    refine u_take D24 (by omega) (by omega) (by omega) fun fr H25 fr0 fr1 D25 k25 => ?_
    have k2125 := (k22.trans k24).trans k25
    walk_at "rd"
    refine r_kTup fun tq H26 ntq e26 htq => ?_
    have k2126 := k2125.trans (Kp.of e26)
    have hp26 := k2126 _ _ hp21 (D7.nst np) (D7.nl np)
    have hkd26 := k2126 _ _ hkd21 (D7.nst np0) (D7.nl np0)
    have hlen := hK.len
    have hkl : ks.length = i := by
      have := congrArg List.length hks
      rw [List.length_map, List.length_take] at this
      omega
    have hfresh : nm ∉ ks.map (·.1) := fun z => by
      rw [hks] at z
      have nd2 : ((nms.take (i + 1))).Nodup := hnm.nd.sublist (List.take_sublist _ _)
      rw [take_more hnx, List.nodup_append] at nd2
      exact nd2.2.2 nm z nm (by simp) rfl
    walk_at "rd"
    refine r_kDPutS hkd26 (by omega) fun H27 b27 hkd27 => ?_
    rw [putK_new _ (hK.fresh hfresh)] at hkd27
    have hK26 : KAt H26 kvs ks := hK.keep (k2126.tups D21)
    have tk : ∀ u xs, H26 u = some (.tup xs) → H27 u = some (.tup xs) := fun u xs hu => b27 _ _ hu (ne_of hu hkd26 (by intro z; cases z))
    refine ⟨_, _, _, _, ks ++ [(nm, rt, _)], rfl, ?_, ?_, hkd27, (hK26.keep tk).snoc (tk _ _ htq), b27 _ _ hp26 npk, b27 _ _ (k2126 _ _ hsz21 (D6.nst nsz) (D6.nl nsz)) nsk, b27 _ _ (k2126 _ _ ht21 nt1 nt2) ntk, ((D25.keep e26).but D7 np0 b27).mono (by omega), (kp21.trans k2126).mut b27 np0⟩
    · rw [List.map_append, hks, take_more hnx]
      rfl
    · intro k' hk'
      rcases List.mem_append.mp hk' with h | h
      · exact hrt k' h
      · rw [List.mem_singleton.mp h]
        exact ⟨rt0, rt1⟩
  rintro σ' H21 ⟨y7, y8, y9, kvs, ks, rfl, hks, hrt, hkd21, hK, hp21, hsz21, ht21, D21, kp21⟩
  rw [List.length_map, List.take_length] at hks
  rw [List.length_map] at D21
  have hkl : ks.length = nms.length := by
    have := congrArg List.length hks
    rw [List.length_map] at this
    exact this
  have kok : KindsOk ks := ⟨by omega, by omega, by rw [hks]; exact hnm, hrt⟩
  have okB : ∀ o, (⟨ls, due, ks, m, bg, o⟩ : Bk).Ok := fun o => ⟨(show 1 ≤ ls.length by omega), (show ls.length ≤ 4 by omega), hz, due0, fun x hx => by have := hmin _ hx; show due < x; omega, kok, m0, (show m ≤ 2 by omega), hbg⟩
  have hp0 : H p = none := by
    rcases hq : H p with _ | o
    · rfl
    · have h1 := (k6.trans k7) _ _ hq (D7.nst np) (D7.nl np)
      rw [np] at h1
      cases h1
  refine r_cut (fun σ' H' => ∃ lv o, σ' = [some (.ref st), some (.int many), some (.bl il), some (.int (1 + r)), some (.int z2), some (.ref sz), some (.ref p), y7, y8, y9] ∧ MdlIn l H' p ⟨ls, due, ks, m, bg, o⟩ sz kd lv kvs ∧ (⟨ls, due, ks, m, bg, o⟩ : Bk).LaidOk ∧ DS st l c cs (n + 200) H' ∧ Kp st l H7 H') ?_ ?_
  · have none_ok : (⟨ls, due, ks, m, bg, none⟩ : Bk).LaidOk := fun ns h => by cases h
    have M0 : MdlIn l H21 p ⟨ls, due, ks, m, bg, none⟩ sz kd .non kvs := ⟨hp21, hsz21, D6.nl nsz, hkd21, hK, rfl⟩
    walk_at "rd"
    cases il with
    | false =>
      walk_at "rd"
      exact ⟨_, none, rfl, M0, none_ok, D21.mono (by omega), kp21⟩
    | true =>
      walk_at "rd"
      refine u_take D21 (by omega) (by omega) (by omega) fun w0 H22 w1 w2 D22 k22 => ?_
      have M2 := M0.kp k22 D21
      have hp22 := M2.i
      walk_at "rd"
      refine w_dec (fun cc => ?_) (fun cc => ?_)
      · walk_at "rd"
        refine r_listD M2.k fun l1 H23 nl1 e23 hl1 => ?_
        have hn' : (kvs.map fun kv => kV kv.1) = (ks.map (·.1)).map V.str := by
          have e := congrArg (List.map kV) hK.keys
          rw [List.map_map, List.map_map] at e
          exact e
        rw [hn'] at hl1
        walk_at "rd"
        refine ⟨st, l, c, l1, cs, _, 6, _, rfl, (by omega : _ ≤ (17592186044416 : Int)), D22.keep e23, hl1, by rw [List.length_map, List.length_map]; omega, by omega, by omega, fun t1 ys rest H24 nt1 pm hyl ht1 D24 k24 => ?_⟩
        have hrest : rest = [] := by
          have := pm.length_eq
          rw [List.length_append, List.length_map, List.length_map] at this
          rw [List.length_map, List.length_map] at hyl
          exact List.eq_nil_of_length_eq_zero (by omega)
        subst hrest
        rw [List.append_nil] at pm
        obtain ⟨ns, pn, rfl⟩ := perm_lift V.str ys (ks.map (·.1)) pm
        have M4 := (M2.keep e23).kp k24 (D22.keep e23)
        walk_at "rd"
        refine r_tupF (SqL.of ht1) fun tl H25 ntl e25 htl => ?_
        have M5 := M4.keep e25
        walk_at "rd"
        refine r_kDPutS M5.i (by rw [mkv_len]; decide) fun H26 b26 h26 => ?_
        rw [mq3] at h26
        have tk : ∀ u xs, H25 u = some (.tup xs) → H26 u = some (.tup xs) := fun u xs hu => b26 _ _ hu (ne_of hu M5.i (by intro z; cases z))
        refine ⟨_, some ns, rfl, ⟨h26, b26 _ _ M5.l nsp, M5.n, b26 _ _ M5.k npk.symm, M5.a.keep tk, ⟨tl, rfl, htl.keep fun u o xs hu => b26 _ _ hu (ne_of hu M5.i (by intro z; cases z))⟩⟩, fun ns' h => ?_, ((D24.keep e25).but D7 np b26).mono (by omega), ((((kp21.trans k22).trans (Kp.of e23)).trans k24).trans (Kp.of e25)).mut b26 np⟩
        obtain rfl := Option.some.inj h
        exact pn
      · walk_at "rd"
        exact ⟨_, none, rfl, M2, none_ok, D22.mono (by omega), kp21.trans k22⟩
  · rintro σ' H22 ⟨lv, o, rfl, hM, lo, D22, k22⟩
    walk_at "rd"
    exact k p _ H22 hp0 (okB o) lo ⟨_, _, _, _, hM⟩ D22 ((k6.trans k7).trans k22)
end
end Wp
set_option Elab.async false
set_option linter.all false
set_option maxRecDepth 100000
set_option maxHeartbeats 4000000
namespace Wp
open PySem PySem.Spec PyProof.Rows L2
abbrev s__law_first : Stmt := topS 66
abbrev s__law_month : Stmt := topS 67
abbrev s__law_due : Stmt := topS 68
local macro_rules | `(tactic| walk_at "val") => `(tactic| assumption)
local macro_rules | `(tactic| walk_at "rd1") => `(tactic| first
  | with_reducible refine r_seq ?_ | with_reducible refine r_next ?_ | with_reducible refine r_if ?_ | with_reducible refine r_asg ?_ | with_reducible refine r_gname ?_
  | with_reducible refine r_ret ?_ | with_reducible refine r_retN ?_ | with_reducible refine r_drop ?_ | with_reducible refine r_par ?_ | with_reducible refine r_kPar ?_
  | ((with_reducible refine' r_var ?hv ?_); (case hv => exact rfl)) | with_reducible refine r_c ?_ | with_reducible refine r_nil ?_ | with_reducible refine r_cons ?_
  | with_reducible refine r_fn ?_ | with_reducible refine r_cb ?_ | with_reducible refine r_op ?_ | with_reducible refine r_un ?_ | with_reducible refine r_I0 ?_
  | with_reducible refine r_pow5 ?_ | with_reducible refine r_pow6 ?_ | with_reducible refine r_pow7 ?_ | with_reducible refine r_pow9 ?_ | with_reducible refine r_pow18 ?_ | with_reducible refine r_pow20 ?_ | with_reducible refine r_pow30 ?_
  | with_reducible refine r_isN_non ?_ | with_reducible refine r_isN_ref ?_ | with_reducible refine r_isN_int ?_ | with_reducible refine r_isN_str ?_ | with_reducible refine r_isN_bl ?_ | with_reducible refine r_notN_non ?_ | with_reducible refine r_notN_ref ?_ | with_reducible refine r_notN_int ?_ | with_reducible refine r_notN_str ?_ | with_reducible refine r_notN_bl ?_
  | ((with_reducible refine r_I ?hc ?_); (case hc => walk_at "side")) | with_reducible refine r_U ?_
  | with_reducible refine r_eqI ?_ | with_reducible refine r_neI ?_ | with_reducible refine r_eqS ?_ | with_reducible refine r_neS ?_ | with_reducible refine r_eqB ?_ | with_reducible refine r_neB ?_
  | with_reducible refine r_chain ?_ | with_reducible refine r_test ?_ | with_reducible refine r_tB ?_ | with_reducible refine r_kTest ?_ | with_reducible refine r_not ?_
  | with_reducible refine r_and ?_ | with_reducible refine r_or ?_ | with_reducible refine r_tif ?_ | with_reducible refine r_andV ?_ | with_reducible refine r_orV ?_ | with_reducible refine r_notV ?_
  | with_reducible refine r_kAndV ?_ | with_reducible refine r_kOrV ?_ | with_reducible refine r_kNotV ?_
  | with_reducible refine w_T ?_ | with_reducible refine w_F ?_ | with_reducible refine w_NT ?_ | with_reducible refine w_NF ?_
  | with_reducible refine r_tup ?_ | with_reducible refine r_lst ?_ | with_reducible refine r_fld ?_ | with_reducible refine r_prop ?_ | ((with_reducible refine' r_aug ?h1 ?_); (case h1 => exact rfl)) | with_reducible refine r_ipI ?_ | with_reducible refine r_dget ?_ | with_reducible refine r_dput ?_ | with_reducible refine r_bm ?_
  | ((with_reducible refine' r_kDGetS ?h1 ?h2 ?_); (case h1 => assumption); (case h2 => walk_at "val"))
  | ((with_reducible refine' r_kBML ?h1 ?_); (case h1 => assumption))
  | with_reducible refine r_forL ?_ | with_reducible refine r_forR1 ?_ | with_reducible refine r_forR2 ?_ | with_reducible refine r_forT ?_ | with_reducible refine r_lcL ?_ | with_reducible refine r_lcR1 ?_
  | ((with_reducible refine r_kLcG ?hw ?_); (case hw => exact rfl)) | with_reducible refine r_kLcT ?_ | with_reducible refine r_yes ?_
  | with_reducible refine r_pnil ?_ | with_reducible refine r_pcons ?_
  | with_reducible refine r_fnK ?_ | ((with_reducible refine r_kFnK ?hl ?_); (case hl => exact rfl))
  | with_reducible refine r_isi_ii ?_ | with_reducible refine r_isi_ib ?_ | with_reducible refine r_isi_bi ?_ | with_reducible refine r_isi_bb ?_ | with_reducible refine r_isi_ss ?_ | with_reducible refine r_isi_is ?_ | with_reducible refine r_isi_it ?_
  | ((with_reducible refine' r_isi_tt ?h1 ?_); (case h1 => assumption))
  | with_reducible refine r_sfld ?_ | with_reducible refine r_gnil ?_ | with_reducible refine r_gcons ?_
  | ((with_reducible refine' r_gtup ?h1 ?h2 ?_); (case h1 => exact SqT.of (by assumption)); (case h2 => exact rfl))
  | with_reducible refine r_sl ?_ | with_reducible refine r_noPart ?_ | with_reducible refine r_part ?_ | with_reducible refine r_kPart ?_ | with_reducible refine r_m1 ?_ | with_reducible refine r_kM1 ?_ | with_reducible refine r_forS ?_ | with_reducible refine r_lcS ?_ | with_reducible refine r_lcTu ?_ | with_reducible refine r_lcK ?_ | with_reducible refine r_dcL ?_ | with_reducible refine r_dcK ?_ | with_reducible refine r_lc2L ?_ | with_reducible refine r_kLc2TL ?_ | with_reducible refine r_dcEn ?_ | with_reducible refine r_gslc ?_ | with_reducible refine r_lcEn ?_ | with_reducible refine r_lcEl ?_ | with_reducible refine r_lcR2 ?_ | with_reducible refine r_rg1 ?_ | with_reducible refine r_forET ?_ | with_reducible refine r_lenD ?_
  | ((with_reducible refine r_kDcG ?hw ?_); (case hw => exact rfl)) | with_reducible refine r_kDcT ?_
  | with_reducible refine r_fldaug ?_ | with_reducible refine r_daug ?_ | with_reducible refine r_rAdd ?_ | with_reducible refine r_rSub ?_ | with_reducible refine r_ddel ?_ | with_reducible refine r_bmF ?_ | with_reducible refine r_dget2 ?_ | with_reducible refine r_listItems ?_ | with_reducible refine r_bm0 ?_ | with_reducible refine r_lc2E ?_ | ((with_reducible refine r_kLc2G ?hw ?_); (case hw => exact rfl)) | with_reducible refine r_kLc2T ?_ | with_reducible refine r_forE ?_ | with_reducible refine r_orT ?_ | with_reducible refine r_din ?_ | with_reducible refine r_augS ?_ | with_reducible refine r_dnotin ?_ | with_reducible refine r_lcIT ?_ | with_reducible refine r_cont ?_ | with_reducible refine r_meth ?_ | with_reducible refine r_frz ?_ | with_reducible refine r_par3 ?_ | with_reducible refine r_kPar3 ?_ | with_reducible refine r_dz ?_ | with_reducible refine r_revL ?_ | with_reducible refine r_star ?_ | with_reducible refine r_int1 ?_ | with_reducible refine r_int1b ?_ | with_reducible refine r_min2 ?_ | with_reducible refine r_max2 ?_ | with_reducible refine r_gsub ?_)
local macro_rules | `(tactic| walk_at "rd") => `(tactic| repeat walk_at "rd1")
local macro_rules | `(tactic| walk_at "side") => `(tactic| first | assumption | exact Or.inr ⟨by decide, by decide⟩ | exact Or.inl ⟨by decide, by decide⟩ | (constructor <;> omega) | omega | decide | (refine Or.inl ⟨?_, ?_⟩ <;> omega) | (refine Or.inr ⟨?_, ?_⟩ <;> omega) | (refine ⟨?_, ?_, ?_⟩ <;> first | decide | omega))
local macro_rules | `(tactic| walk_at "val") => `(tactic| first | exact mv1 | exact mv2 | exact mv3 | exact mv4 | exact mv5 | exact mv6)
def sp_lfirst : Sp := fun vs H Q _ => ∃ (l p : Addr) (B : Bk) (m : Int), vs = [.ref p, .int m] ∧ Mdl l H p B ∧ LsOk B.ls ∧ ∀ H', Same H H' → Q (.int (firstL B.ls m)) H'
def sp_lmonth : Sp := fun vs H Q _ => ∃ (l p : Addr) (B : Bk) (d : Int), vs = [.ref p, .int d] ∧ Mdl l H p B ∧ LsOk B.ls ∧ ∀ H', Same H H' → Q (.int (monthL B.ls d)) H'
def sp_ldue : Sp := fun vs H Q _ => ∃ (l p : Addr) (B : Bk) (m : Int), vs = [.ref p, .int m] ∧ Mdl l H p B ∧ LsOk B.ls ∧ ∀ H', Same H H' → Q (.int (firstL B.ls (m + 1) + B.due)) H'
section
variable {P : Program} {w : World} {K : PySem.W.Frag} {mg : Str → Option Value} {base : Heap}
theorem ok__law_first {f : Addr} {fd : FuncData} (T : Tx K mg) (F : FnP K "_law_first" s__law_first f fd) : FnOk P w K mg base CX0 1 f fd ["_law_model_here", "_law_mon"] sp_lfirst := by
  have sc : FnScope ["_law_model_here", "_law_mon", "_law_sizes", "_law_count"] ["_law_model_here", "_law_mon"] (defScope s__law_first) := ⟨rfl, rfl, rfl, by decide +kernel, rfl, by decide +kernel, by decide +kernel⟩
  refine F.ok sc (by rintro vs H Q E ⟨_, _, _, _, rfl, _⟩; rfl) (fun cdv A outer s H vs Q E hr h => ⟨_, PSs.nox ((pss_cons (ps_set (i := 2) sc.nd rfl (by first | exact Or.inl rfl | exact Or.inr rfl) (pe_dget (hu_of hr) (pv 0) pe_str (fun _ _ => rfl)))
      (pss_cons (ps_set (i := 3) sc.nd rfl (by first | exact Or.inl rfl | exact Or.inr rfl) (pe_callB (c_lenK (K := K) rfl) (by rfl) T.b_len (by decide +kernel) (pa_cons (pv 2) pa_nil)))
      (pss_one (ps_ret (pe_op op_add (pe_op op_mul (pe_op op_fdiv (pv 1) (pv 3)) (pe_callB (c_sumK (K := K) rfl rfl) (by rfl) T.b_sum (by decide +kernel) (pa_cons (pv 2) pa_nil))) (pe_callB (c_sumK (K := K) rfl rfl) (by rfl) T.b_sum (by decide +kernel) (pa_cons (pe_slice (sl_listK (K := K) rfl) (pv 2) po_none (po_some (pe_op op_mod (pe_callTy c_int1 (by rfl) T.b_int (by decide +kernel) (pa_cons (pv 1) pa_nil)) (pv 3)))) pa_nil)))))))), ?_⟩)
  obtain ⟨l, p, B, m, rfl, ⟨ad, kd, lv, kvs, hM⟩, ok, k⟩ := h
  have hp := hM.i
  have l1 := ok.l1
  have l2 := ok.l2
  have hs := ok.sum
  have hm0 := Int.emod_nonneg m (b := (B.ls.length : Int)) (by omega)
  have hm1 := Int.emod_lt_of_pos m (b := (B.ls.length : Int)) (by omega)
  walk_at "rd"
  refine r_lenL (SqL.of hM.l) ?_
  rw [List.length_map]
  walk_at "rd"
  refine r_sum (SqL.of hM.l) ?_
  walk_at "rd"
  refine r_slL_take (SqL.of hM.l) hm0 fun t H1 nt e1 ht => ?_
  rw [← List.map_take] at ht
  walk_at "rd"
  refine r_sum (SqL.of ht) ?_
  walk_at "rd"
  exact k H1 e1
theorem ok__law_due {f : Addr} {fd : FuncData} (T : Tx K mg) (F : FnP K "_law_due" s__law_due f fd) (d__law_first : Dn P w K mg base CX0 1 "_law_first" ["_law_model_here", "_law_mon"] sp_lfirst) : FnOk P w K mg base CX0 2 f fd ["_law_model_here", "_law_mon"] sp_ldue := by
  have sc : FnScope ["_law_model_here", "_law_mon"] ["_law_model_here", "_law_mon"] (defScope s__law_due) := ⟨rfl, rfl, rfl, by decide +kernel, rfl, by decide +kernel, by decide +kernel⟩
  refine F.ok sc (by rintro vs H Q E ⟨_, _, _, _, rfl, _⟩; rfl) (fun cdv A outer s H vs Q E hr h => ⟨_, PSs.nox ((pss_one (ps_ret (pe_op op_add (pe_fn d__law_first (hr.mono (by decide)) pass0 (pa_cons (pv 0) (pa_cons (pe_op op_add (pv 1) pe_int) pa_nil))) (pe_dget (hu_of hr) (pv 0) pe_str (fun _ _ => rfl)))))), ?_⟩)
  obtain ⟨l, p, B, m, rfl, hM, ok, k⟩ := h
  walk_at "rd"
  refine ⟨l, p, B, m + 1, rfl, hM, ok, fun H1 e1 => ?_⟩
  obtain ⟨ad, kd, lv, kvs, hM1⟩ := hM.keep e1
  have hp := hM1.i
  walk_at "rd"
  exact k H1 e1
theorem ok__law_month {f : Addr} {fd : FuncData} (T : Tx K mg) (F : FnP K "_law_month" s__law_month f fd) (d__law_first : Dn P w K mg base CX0 1 "_law_first" ["_law_model_here", "_law_mon"] sp_lfirst) : FnOk P w K mg base CX0 2 f fd ["_law_model_here", "_law_date"] sp_lmonth := by
  have sc : FnScope ["_law_model_here", "_law_date", "_law_sizes", "_law_mon", "_law_k"] ["_law_model_here", "_law_date"] (defScope s__law_month) := ⟨rfl, rfl, rfl, by decide +kernel, rfl, by decide +kernel, by decide +kernel⟩
  refine F.ok sc (by rintro vs H Q E ⟨_, _, _, _, rfl, _⟩; rfl) (fun cdv A outer s H vs Q E hr h => ⟨_, PSs.nox ((pss_cons (ps_set (i := 2) sc.nd rfl (by first | exact Or.inl rfl | exact Or.inr rfl) (pe_dget (hu_of hr) (pv 0) pe_str (fun _ _ => rfl)))
      (pss_cons (ps_set (i := 3) sc.nd rfl (by first | exact Or.inl rfl | exact Or.inr rfl) (pe_op op_mul (pe_op op_fdiv (pv 1) (pe_callB (c_sumK (K := K) rfl rfl) (by rfl) T.b_sum (by decide +kernel) (pa_cons (pv 2) pa_nil))) (pe_callB (c_lenK (K := K) rfl) (by rfl) T.b_len (by decide +kernel) (pa_cons (pv 2) pa_nil))))
      (pss_cons (ps_for PassesOwn.never rfl (pi_range1 (by rfl) T.b_range (pa_cons (pe_callB (c_lenK (K := K) rfl) (by rfl) T.b_len (by decide +kernel) (pa_cons (pv 2) pa_nil)) pa_nil)) (pg_name (i := 4) sc.nd rfl (by first | exact Or.inl rfl | exact Or.inr rfl)) (pss_one (ps_set (i := 3) sc.nd rfl (by first | exact Or.inl rfl | exact Or.inr rfl) (pe_op op_add (pv 3) (pe_callTy c_int1 (by rfl) T.b_int (by decide +kernel) (pa_cons (pe_cmpR op_le (pe_fn d__law_first (hr.mono (by decide)) pass0 (pa_cons (pv 0) (pa_cons (pe_op op_add (pv 3) pe_int) pa_nil))) (pv 1) (nomark _)) pa_nil))))))
      (pss_one (ps_ret (pv 3))))))), ?_⟩)
  obtain ⟨l, p, B, d, rfl, hM0, ok, k⟩ := h
  obtain ⟨ad, kd, lv, kvs, hM⟩ := id hM0
  have hp := hM.i
  have l1 := ok.l1
  have l2 := ok.l2
  have hs := ok.sum
  have hr0 := Int.emod_nonneg d (b := B.ls.sum) (by omega)
  have hr1 := Int.emod_lt_of_pos d (b := B.ls.sum) (by omega)
  obtain ⟨c1, c2, c3⟩ := cntL_spec ok.l3 hr0 hr1
  walk_at "rd"
  refine r_sum (SqL.of hM.l) ?_
  walk_at "rd"
  refine r_lenL (SqL.of hM.l) ?_
  rw [List.length_map]
  walk_at "rd"
  refine r_lenL (SqL.of hM.l) ?_
  rw [List.length_map]
  walk_at "rd"
  refine r_kForR1 (fun i σ' H' => ∃ y, σ' = [some (.ref p), some (.int d), some (.ref ad), some (.int (d / B.ls.sum * (B.ls.length : Int) + (min i (cntL B.ls (d % B.ls.sum)) : Nat))), y] ∧ Same H H') (by omega) ⟨_, by simp; rfl, Same.refl _⟩ ?_ ?_
  · rintro i σ' H1 hi ⟨y, rfl, e1⟩
    walk_at "rd"
    refine ⟨l, p, B, _, rfl, hM0.keep e1, ok, fun H2 e2 => ?_⟩
    walk_at "rd"
    have hst := law_step ok d (min i (cntL B.ls (d % B.ls.sum))) (Nat.min_le_right _ _)
    refine ⟨some (.int (i : Int)), ?_, e1.trans e2⟩
    · rw [decide_eq_decide.mpr hst]
      have e : d / B.ls.sum * (B.ls.length : Int) + (min i (cntL B.ls (d % B.ls.sum)) : Nat) + (if decide (min i (cntL B.ls (d % B.ls.sum)) < cntL B.ls (d % B.ls.sum)) = true then 1 else 0) = d / B.ls.sum * (B.ls.length : Int) + (min (i + 1) (cntL B.ls (d % B.ls.sum)) : Nat) := by
        simp only [decide_eq_true_eq]
        split <;> omega
      rw [e]
      rfl
  · rintro σ' H1 ⟨y, rfl, e1⟩
    walk_at "rd"
    have e : d / B.ls.sum * (B.ls.length : Int) + (min (B.ls.length : Int).toNat (cntL B.ls (d % B.ls.sum)) : Nat) = monthL B.ls d := by
      unfold monthL
      rw [Int.toNat_natCast, Nat.min_eq_right (by omega)]
    rw [e]
    exact k H1 e1
end
end Wp
set_option Elab.async false
set_option linter.all false
set_option maxRecDepth 100000
set_option maxHeartbeats 4000000
/-! Promises of the law. -/
namespace Wp
open PySem PySem.Spec PyProof.Rows L2
abbrev s__law_can_stand : Stmt := topS 69
abbrev s__law_is_vow : Stmt := topS 70
abbrev s__law_broken : Stmt := topS 71
abbrev s__law_odd : Stmt := topS 72
local macro_rules | `(tactic| walk_at "val") => `(tactic| assumption)
local macro_rules | `(tactic| walk_at "rd1") => `(tactic| first
  | with_reducible refine r_seq ?_ | with_reducible refine r_next ?_ | with_reducible refine r_if ?_ | with_reducible refine r_asg ?_ | with_reducible refine r_gname ?_
  | with_reducible refine r_ret ?_ | with_reducible refine r_retN ?_ | with_reducible refine r_drop ?_ | with_reducible refine r_par ?_ | with_reducible refine r_kPar ?_
  | ((with_reducible refine' r_var ?hv ?_); (case hv => exact rfl)) | with_reducible refine r_c ?_ | with_reducible refine r_nil ?_ | with_reducible refine r_cons ?_
  | with_reducible refine r_fn ?_ | with_reducible refine r_cb ?_ | with_reducible refine r_op ?_ | with_reducible refine r_un ?_ | with_reducible refine r_I0 ?_
  | with_reducible refine r_pow5 ?_ | with_reducible refine r_pow6 ?_ | with_reducible refine r_pow7 ?_ | with_reducible refine r_pow9 ?_ | with_reducible refine r_pow18 ?_ | with_reducible refine r_pow20 ?_ | with_reducible refine r_pow30 ?_
  | with_reducible refine r_isN_non ?_ | with_reducible refine r_isN_ref ?_ | with_reducible refine r_isN_int ?_ | with_reducible refine r_isN_str ?_ | with_reducible refine r_isN_bl ?_ | with_reducible refine r_notN_non ?_ | with_reducible refine r_notN_ref ?_ | with_reducible refine r_notN_int ?_ | with_reducible refine r_notN_str ?_ | with_reducible refine r_notN_bl ?_
  | ((with_reducible refine r_I ?hc ?_); (case hc => walk_at "side")) | with_reducible refine r_U ?_
  | with_reducible refine r_eqI ?_ | with_reducible refine r_neI ?_ | with_reducible refine r_eqS ?_ | with_reducible refine r_neS ?_ | with_reducible refine r_eqB ?_ | with_reducible refine r_neB ?_
  | with_reducible refine r_chain ?_ | with_reducible refine r_test ?_ | with_reducible refine r_tB ?_ | with_reducible refine r_kTest ?_ | with_reducible refine r_not ?_
  | with_reducible refine r_and ?_ | with_reducible refine r_or ?_ | with_reducible refine r_tif ?_ | with_reducible refine r_andV ?_ | with_reducible refine r_orV ?_ | with_reducible refine r_notV ?_
  | with_reducible refine r_kAndV ?_ | with_reducible refine r_kOrV ?_ | with_reducible refine r_kNotV ?_
  | with_reducible refine w_T ?_ | with_reducible refine w_F ?_ | with_reducible refine w_NT ?_ | with_reducible refine w_NF ?_
  | with_reducible refine r_tup ?_ | with_reducible refine r_lst ?_ | with_reducible refine r_fld ?_ | with_reducible refine r_prop ?_ | ((with_reducible refine' r_aug ?h1 ?_); (case h1 => exact rfl)) | with_reducible refine r_ipI ?_ | with_reducible refine r_dget ?_ | with_reducible refine r_dput ?_ | with_reducible refine r_bm ?_
  | ((with_reducible refine' r_kDGetS ?h1 ?h2 ?_); (case h1 => assumption); (case h2 => walk_at "val"))
  | ((with_reducible refine' r_kBML ?h1 ?_); (case h1 => assumption))
  | with_reducible refine r_forL ?_ | with_reducible refine r_forR1 ?_ | with_reducible refine r_forR2 ?_ | with_reducible refine r_forT ?_ | with_reducible refine r_lcL ?_ | with_reducible refine r_lcR1 ?_
  | ((with_reducible refine r_kLcG ?hw ?_); (case hw => exact rfl)) | with_reducible refine r_kLcT ?_ | with_reducible refine r_yes ?_
  | with_reducible refine r_pnil ?_ | with_reducible refine r_pcons ?_
  | with_reducible refine r_fnK ?_ | ((with_reducible refine r_kFnK ?hl ?_); (case hl => exact rfl))
  | with_reducible refine r_isi_ii ?_ | with_reducible refine r_isi_ib ?_ | with_reducible refine r_isi_bi ?_ | with_reducible refine r_isi_bb ?_ | with_reducible refine r_isi_ss ?_ | with_reducible refine r_isi_is ?_ | with_reducible refine r_isi_it ?_
  | ((with_reducible refine' r_isi_tt ?h1 ?_); (case h1 => assumption))
  | with_reducible refine r_sfld ?_ | with_reducible refine r_gnil ?_ | with_reducible refine r_gcons ?_
  | ((with_reducible refine' r_gtup ?h1 ?h2 ?_); (case h1 => exact SqT.of (by assumption)); (case h2 => exact rfl))
  | with_reducible refine r_sl ?_ | with_reducible refine r_noPart ?_ | with_reducible refine r_part ?_ | with_reducible refine r_kPart ?_ | with_reducible refine r_m1 ?_ | with_reducible refine r_kM1 ?_ | with_reducible refine r_forS ?_ | with_reducible refine r_lcS ?_ | with_reducible refine r_lcTu ?_ | with_reducible refine r_lcK ?_ | with_reducible refine r_dcL ?_ | with_reducible refine r_dcK ?_ | with_reducible refine r_lc2L ?_ | with_reducible refine r_kLc2TL ?_ | with_reducible refine r_dcEn ?_ | with_reducible refine r_gslc ?_ | with_reducible refine r_lcEn ?_ | with_reducible refine r_lcEl ?_ | with_reducible refine r_lcR2 ?_ | with_reducible refine r_rg1 ?_ | with_reducible refine r_forET ?_ | with_reducible refine r_lenD ?_
  | ((with_reducible refine r_kDcG ?hw ?_); (case hw => exact rfl)) | with_reducible refine r_kDcT ?_
  | with_reducible refine r_fldaug ?_ | with_reducible refine r_daug ?_ | with_reducible refine r_rAdd ?_ | with_reducible refine r_rSub ?_ | with_reducible refine r_ddel ?_ | with_reducible refine r_bmF ?_ | with_reducible refine r_dget2 ?_ | with_reducible refine r_listItems ?_ | with_reducible refine r_bm0 ?_ | with_reducible refine r_lc2E ?_ | ((with_reducible refine r_kLc2G ?hw ?_); (case hw => exact rfl)) | with_reducible refine r_kLc2T ?_ | with_reducible refine r_forE ?_ | with_reducible refine r_orT ?_ | with_reducible refine r_din ?_ | with_reducible refine r_augS ?_ | with_reducible refine r_dnotin ?_ | with_reducible refine r_lcIT ?_ | with_reducible refine r_cont ?_ | with_reducible refine r_meth ?_ | with_reducible refine r_frz ?_ | with_reducible refine r_par3 ?_ | with_reducible refine r_kPar3 ?_ | with_reducible refine r_dz ?_ | with_reducible refine r_revL ?_ | with_reducible refine r_star ?_ | with_reducible refine r_int1 ?_ | with_reducible refine r_int1b ?_ | with_reducible refine r_min2 ?_ | with_reducible refine r_max2 ?_ | with_reducible refine r_gsub ?_)
local macro_rules | `(tactic| walk_at "rd") => `(tactic| repeat walk_at "rd1")
local macro_rules | `(tactic| walk_at "side") => `(tactic| first | assumption | exact Or.inr ⟨by decide, by decide⟩ | exact Or.inl ⟨by decide, by decide⟩ | (constructor <;> omega) | omega | decide | (refine Or.inl ⟨?_, ?_⟩ <;> omega) | (refine Or.inr ⟨?_, ?_⟩ <;> omega) | (refine ⟨?_, ?_, ?_⟩ <;> first | decide | omega))
local macro_rules | `(tactic| walk_at "val") => `(tactic| first | exact mv1 | exact mv2 | exact mv3 | exact mv4 | exact mv5 | exact mv6)
def sp_can_stand : Sp := fun vs H Q _ => ∃ (l p : Addr) (B : Bk) (d : Int), vs = [.ref p, .int d] ∧ Mdl l H p B ∧ LsOk B.ls ∧ ∀ H', Same H H' → Q (.int (fdL B.ls B.due d)) H'
def sp_broken : Sp := fun vs H Q _ => ∃ (l p t : Addr) (B : Bk) (s : Str) (n : Int), vs = [.ref p, .ref t] ∧ Mdl l H p B ∧ LsOk B.ls ∧ H t = some (.tup [.str s, .int n]) ∧ ∀ H', Same H H' → Q (oV (brkO B.ls B.due s n)) H'
def sp_odd : Sp := fun vs H Q _ => ∃ (st l c : Addr) (cs : List Int) (n : Int), vs = [.ref st] ∧ n ≤ 8796093022208 ∧ DS st l c cs n H ∧ ∀ x H', Sh st l H' x → DS st l c cs (n + 1) H' → Kp st l H H' → Q x H'
theorem fcons {α : Type} {p : α → Prop} {x : α} {xs : List α} (h : p x) (hs : ∀ y ∈ xs, p y) : ∀ y ∈ x :: xs, p y := List.forall_mem_cons.mpr ⟨h, hs⟩
theorem fapp {α : Type} {p : α → Prop} {xs ys : List α} (h : ∀ y ∈ xs, p y) (hs : ∀ y ∈ ys, p y) : ∀ y ∈ xs ++ ys, p y := List.forall_mem_append.mpr ⟨h, hs⟩
theorem r_dnewN2 {σ : L2.St} {H : Hp} {Q : VK} (q : ∀ p H', H p = none → Same H H' → H' p = some (.dK []) → Q (.ref p) H') : tDNewK σ H Q := fun p hp => q p _ hp (Same.new hp) upd_same
section
variable {P : Program} {w : World} {K : PySem.W.Frag} {mg : Str → Option Value} {base : Heap}
theorem ok__law_can_stand {f : Addr} {fd : FuncData} (T : Tx K mg) (F : FnP K "_law_can_stand" s__law_can_stand f fd) (d__law_month : Dn P w K mg base CX0 2 "_law_month" ["_law_model_here", "_law_date"] sp_lmonth) (d__law_due : Dn P w K mg base CX0 2 "_law_due" ["_law_model_here", "_law_mon"] sp_ldue) :
    FnOk P w K mg base CX0 3 f fd ["_law_model_here", "_law_date"] sp_can_stand := by
  have sc : FnScope ["_law_model_here", "_law_date"] ["_law_model_here", "_law_date"] (defScope s__law_can_stand) := ⟨rfl, rfl, rfl, by decide +kernel, rfl, by decide +kernel, by decide +kernel⟩
  refine F.ok sc (by rintro vs H Q E ⟨_, _, _, _, rfl, _⟩; rfl) (fun cdv A outer s H vs Q E hr h => ⟨_, PSs.nox ((pss_one (ps_ret (pe_op op_sub (pe_fn d__law_due (hr.mono (by decide)) pass0 (pa_cons (pv 0) (pa_cons (pe_fn d__law_month (hr.mono (by decide)) pass0 (pa_cons (pv 0) (pa_cons (pv 1) pa_nil))) pa_nil))) (pv 1))))), ?_⟩)
  obtain ⟨l, p, B, d, rfl, hM, ok, k⟩ := h
  walk_at "rd"
  refine ⟨l, p, B, d, rfl, hM, ok, fun H1 e1 => ?_⟩
  walk_at "rd"
  refine ⟨l, p, B, _, rfl, hM.keep e1, ok, fun H2 e2 => ?_⟩
  walk_at "rd"
  exact k H2 (e1.trans e2)
theorem ok__law_is_vow {f : Addr} {fd : FuncData} (T : Tx K mg) (F : FnP K "_law_is_vow" s__law_is_vow f fd) : FnOk P w K mg base CX0 1 f fd ["_law_thing"] (sp_is_promise K) := by
  have sc : FnScope ["_law_thing", "_law_is_amount"] ["_law_thing"] (defScope s__law_is_vow) := ⟨rfl, rfl, rfl, by decide +kernel, rfl, by decide +kernel, by decide +kernel⟩
  refine F.ok sc (by rintro vs H Q E ⟨_, _, rfl, _⟩; rfl) (fun cdv A outer s H vs Q E hr h => ⟨_, PSs.nox ((pss_cons (ps_if (PW.pt (pw_or (pt_not (pt_val (pe_callB (c_isiK (K := K) rfl) (by rfl) T.b_isinstance (by decide +kernel) (pa_cons (pv 0) (pa_cons (pe_bltn (v := .ty "tuple") (by rfl) T.b_tuple (by decide +kernel) rfl) pa_nil))))) (pw_or (pt_cmpR op_ne (pe_callB (c_lenK (K := K) rfl) (by rfl) T.b_len (by decide +kernel) (pa_cons (pv 0) pa_nil)) pe_int (nomark _)) (pw_or1 (pt_not (pt_val (pe_callB (c_isiK (K := K) rfl) (by rfl) T.b_isinstance (by decide +kernel) (pa_cons (pe_ix (ix_tupK (K := K) rfl) (pv 0) pe_int (fun _ _ => rfl)) (pa_cons (pe_bltn (v := .ty "str") (by rfl) T.b_str (by decide +kernel) rfl) pa_nil))))))))) (pss_one (ps_ret pe_bl)) pss_nil)
      (pss_cons (ps_set (i := 1) sc.nd rfl (by first | exact Or.inl rfl | exact Or.inr rfl) (pe_and (pe_callB (c_isiK (K := K) rfl) (by rfl) T.b_isinstance (by decide +kernel) (pa_cons (pe_ix (ix_tupK (K := K) rfl) (pv 0) pe_int (fun _ _ => rfl)) (pa_cons (pe_bltn (v := .ty "int") (by rfl) T.b_int (by decide +kernel) rfl) pa_nil))) (pe_one (pe_not (pe_callB (c_isiK (K := K) rfl) (by rfl) T.b_isinstance (by decide +kernel) (pa_cons (pe_ix (ix_tupK (K := K) rfl) (pv 0) pe_int (fun _ _ => rfl)) (pa_cons (pe_bltn (v := .ty "bool") (by rfl) T.b_bool (by decide +kernel) rfl) pa_nil)))))))
      (pss_one (ps_ret (pe_and (pe_cmpR (in_seqK (K := K) rfl) (pe_ix (ix_tupK (K := K) rfl) (pv 0) pe_int (fun _ _ => rfl)) (pe_lst (pa_cons pe_str (pa_cons pe_str pa_nil))) (by rfl)) (pe_and (pv 1) (pe_one (pe_chain op_le op_le pe_int (pe_ix (ix_tupK (K := K) rfl) (pv 0) pe_int (fun _ _ => rfl)) pe_int))))))))), ?_⟩)
  obtain ⟨v, b, rfl, hv, k⟩ := h
  walk_at "rd"
  cases hv with
  | ty h1 h2 =>
    refine r_isiT h1 h2 ?_
    walk_at "rd"
    exact k H (Same.refl _)
  | len h1 h2 h3 =>
    refine r_isi_tt h1 ?_
    walk_at "rd"
    refine r_lenT (SqT.of h1) ?_
    walk_at "rd"
    refine w_ndec (fun h => ?_) (fun h => ?_)
    · walk_at "rd"
      exact k H (Same.refl _)
    · exact absurd (by omega) h2
  | fst h1 h2 h3 =>
    refine r_isi_tt h1 ?_
    walk_at "rd"
    refine r_lenT (SqT.of h1) ?_
    walk_at "rd"
    refine w_ndec (fun h => absurd rfl h) (fun _ => ?_)
    walk_at "rd"
    refine r_ixT (SqT.of h1) (at_get (n := 0) rfl rfl) ?_
    walk_at "rd"
    refine r_isiT h2 h3 ?_
    walk_at "rd"
    exact k H (Same.refl _)
  | @two _ s y o h1 h2 =>
    refine r_isi_tt h1 ?_
    walk_at "rd"
    refine r_lenT (SqT.of h1) ?_
    walk_at "rd"
    refine w_ndec (fun h => absurd rfl h) (fun _ => ?_)
    walk_at "rd"
    refine r_ixT (SqT.of h1) (at_get (n := 0) rfl rfl) ?_
    walk_at "rd"
    refine r_ixT (SqT.of h1) (at_get (n := 1) rfl rfl) ?_
    walk_at "rd"
    cases h2 with
    | int i =>
      walk_at "rd"
      refine r_ixT (SqT.of h1) (at_get (n := 1) rfl rfl) ?_
      walk_at "rd"
      refine r_ixT (SqT.of h1) (at_get (n := 0) rfl rfl) ?_
      walk_at "rd"
      refine r_kLst fun a3 H1 na3 e1 ha3 => ?_
      refine r_inS (xs := ["each", "some"]) (SqL.of ha3) ?_
      have hk : ∀ b, vowB s (some i) = b → ∀ H', Same H1 H' → Q (.bl b) H' := fun b hb H' e' => by rw [← hb]; exact k H' (e1.trans e')
      have hi1 := e1 _ _ h1
      walk_at "rd"
      refine w_dec (fun g => ?_) (fun g => ?_)
      · walk_at "rd"
        refine r_ixT (SqT.of hi1) (at_get (n := 1) rfl rfl) ?_
        walk_at "rd"
        have hv1 : vowB s (some i) = (decide (0 ≤ i) && decide (i ≤ 100)) := by
          show (decide (s ∈ (["each", "some"] : List Str)) && (decide (0 ≤ i) && decide (i ≤ 100))) = _
          rw [decide_eq_true g, Bool.true_and]
        refine r_kChain (fun g1 => ?_) (fun g1 => ?_)
        · walk_at "rd"
          exact hk _ (by rw [hv1, g1, Bool.true_and]) _ (Same.refl _)
        · exact hk _ (by rw [hv1, g1, Bool.false_and]) _ (Same.refl _)
      · walk_at "rd"
        exact hk _ (by unfold vowB; rw [decide_eq_false g, Bool.false_and]) _ (Same.refl _)
    | @no _ t b1 b2 ht hb1 hb2 hb =>
      have hk : ∀ H', Same H H' → Q (.bl false) H' := fun H' e' => by
        have := k H' e'
        have hv0 : vowB s none = false := by
          unfold vowB inB
          rw [Bool.and_false]
        rwa [hv0] at this
      refine r_isi (.ty "int") ht hb1 ?_
      walk_at "rd"
      cases b1 with
      | false =>
        walk_at "rd"
        refine r_ixT (SqT.of h1) (at_get (n := 0) rfl rfl) ?_
        walk_at "rd"
        refine r_kLst fun a3 H1 na3 e1 ha3 => ?_
        refine r_inS (xs := ["each", "some"]) (SqL.of ha3) ?_
        walk_at "rd"
        refine w_dec (fun g => ?_) (fun g => ?_)
        · walk_at "rd"
          exact hk _ e1
        · walk_at "rd"
          exact hk _ e1
      | true =>
        have hb2' : b2 = true := by cases b2 with
          | true => rfl
          | false => exact absurd hb (by decide)
        subst hb2'
        walk_at "rd"
        refine r_ixT (SqT.of h1) (at_get (n := 1) rfl rfl) ?_
        walk_at "rd"
        refine r_isi (.ty "bool") ht hb2 ?_
        walk_at "rd"
        refine r_ixT (SqT.of h1) (at_get (n := 0) rfl rfl) ?_
        walk_at "rd"
        refine r_kLst fun a3 H1 na3 e1 ha3 => ?_
        refine r_inS (xs := ["each", "some"]) (SqL.of ha3) ?_
        walk_at "rd"
        refine w_dec (fun g => ?_) (fun g => ?_)
        · walk_at "rd"
          exact hk _ e1
        · walk_at "rd"
          exact hk _ e1
theorem ok__law_broken {f : Addr} {fd : FuncData} (T : Tx K mg) (F : FnP K "_law_broken" s__law_broken f fd) (d__law_can_stand : Dn P w K mg base CX0 3 "_law_can_stand" ["_law_model_here", "_law_date"] sp_can_stand) :
    FnOk P w K mg base CX0 4 f fd ["_law_model_here", "_law_vow"] sp_broken := by
  have sc : FnScope ["_law_model_here", "_law_vow", "_law_every", "_law_late", "_law_date"] ["_law_model_here", "_law_vow"] (defScope s__law_broken) := ⟨rfl, rfl, rfl, by decide +kernel, rfl, by decide +kernel, by decide +kernel⟩
  refine F.ok sc (by rintro vs H Q E ⟨_, _, _, _, _, _, rfl, _⟩; rfl) (fun cdv A outer s H vs Q E hr h => ⟨_, PSs.nox ((pss_cons (ps_set (i := 2) sc.nd rfl (by first | exact Or.inl rfl | exact Or.inr rfl) (pe_listRg1 (by rfl) (by rfl) T.b_list (by rfl) T.b_range (pa_cons (pe_callB (c_sumK (K := K) rfl rfl) (by rfl) T.b_sum (by decide +kernel) (pa_cons (pe_dget (hu_of hr) (pv 0) pe_str (fun _ _ => rfl)) pa_nil)) pa_nil)))
      (pss_cons (ps_setLc (i := 3) (own := [("_law_date", 4)]) (by rfl) sc.nd rfl rfl (sw_true rfl rfl rfl (by decide +kernel)) (pi_listK (K := K) rfl (pv 2)) (blkOk_by (own := [("_law_date", 4)]) (N := ["_law_model_here", "_law_vow", "_law_every", "_law_late", "_law_date"]) (sc := defScope s__law_broken) (by decide +kernel)) (fun _ _ _ _ _ => (pg_name (i := 4) sc.nd rfl (by first | exact Or.inl rfl | exact Or.inr rfl))) (fun _ _ _ _ _ => (pts_one (pt_cmpR op_lt (pe_fn d__law_can_stand (hr.mono (by decide)) pass0 (pa_cons (pv 0) (pa_cons (pv 4) pa_nil))) (pe_ix (ix_tupK (K := K) rfl) (pv 1) pe_int (fun _ _ => rfl)) (nomark _)))) (fun _ _ _ _ _ => (pv 4)))
      (pss_cons (ps_if (PW.pt (pw_or (pt_cmpR (eqNilK (K := K) rfl hr.units) (pv 3) (pe_lst pa_nil) (nomark _)) (pw_or1 (PW.pt (pw_and (pt_cmpR op_eq (pe_ix (ix_tupK (K := K) rfl) (pv 1) pe_int (fun _ _ => rfl)) pe_str (nomark _)) (pw_and1 (pt_cmpR op_lt (pe_callB (c_lenK (K := K) rfl) (by rfl) T.b_len (by decide +kernel) (pa_cons (pv 3) pa_nil)) (pe_callB (c_lenK (K := K) rfl) (by rfl) T.b_len (by decide +kernel) (pa_cons (pv 2) pa_nil)) (nomark _)))))))) (pss_one (ps_ret pe_non)) pss_nil)
      (pss_one (ps_ret (pe_ix (ix_listK (K := K) rfl) (pv 3) pe_int (fun _ _ => rfl)))))))), ?_⟩)
  obtain ⟨l, p, t, B, s, n, rfl, hM, ok, ht, k⟩ := h
  have hs := ok.sum
  have l1 := ok.l1
  have l2 := ok.l2
  obtain ⟨ad, kd, lv, kvs, hI⟩ := id hM
  have hp := hI.i
  walk_at "rd"
  refine r_sum (SqL.of hI.l) ?_
  walk_at "rd"
  refine r_kRg1 (by omega) (by omega) fun ev H1 nev e1 hev => ?_
  walk_at "rd"
  refine r_kLcL (xs := (List.range B.ls.sum.toNat).map fun k : Nat => V.int (k : Int)) (fun Da i H' => Same H1 H' ∧ H' Da = some (.lst ((lateL B.ls B.due n i).map V.int))) (SqL.of hev) (fun Da H' _ e h => ⟨e, h⟩) (fun Da i H' h => SqL.of (h.1 _ _ hev)) ?_ ?_
  · rintro Da i x H' hD hx ⟨e2, hDa⟩
    have hi := (List.getElem?_eq_some_iff.mp hx).1
    rw [List.length_map, List.length_range] at hi
    obtain rfl : x = V.int (i : Int) := by
      rw [List.getElem?_map, List.getElem?_range hi] at hx
      exact (Option.some.inj hx).symm
    have hl := lateL_len B.ls B.due n i
    have ht2 := e2 _ _ (e1 _ _ ht)
    walk_at "rd"
    refine ⟨l, p, B, _, rfl, hM.keep (e1.trans e2), ok, fun H3 e3 => ?_⟩
    walk_at "rd"
    refine r_ixT (SqT.of (e3 _ _ ht2)) (at_get (n := 1) rfl rfl) ?_
    walk_at "rd"
    refine w_dec (fun g => ?_) (fun g => ?_)
    · walk_at "rd"
      refine r_kLcE (e3 _ _ hDa) (by rw [List.length_map]; omega) fun H4 b4 h4 => ⟨Same.mut (e2.trans e3) b4 hD, ?_⟩
      rw [lateL_snoc, if_pos g, List.map_append]
      exact h4
    · exact ⟨e2.trans e3, by rw [lateL_snoc, if_neg g, List.append_nil]; exact e3 _ _ hDa⟩
  · rintro la H2 nla ⟨e2, hla⟩
    rw [List.length_map, List.length_range] at hla
    walk_at "rd"
    refine r_kLst fun a3 H4 na3 e4 ha3 => ?_
    have hla4 := e4 _ _ hla
    refine r_eqNilA (SqL.of hla4) (SqL.of ha3) ?_
    have e14 := (e1.trans e2).trans e4
    have hk : ∀ o, brkO B.ls B.due s n = o → ∀ H', Same H4 H' → Q (oV o) H' := fun o ho H' e' => by rw [← ho]; exact k H' (e14.trans e')
    have ht4 := e14 _ _ ht
    have hev4 := e4 _ _ (e2 _ _ hev)
    have hlen := lateL_len B.ls B.due n B.ls.sum.toNat
    walk_at "rd"
    refine w_dec (fun g => ?_) (fun g => ?_)
    · walk_at "rd"
      refine hk none ?_ _ (Same.refl _)
      have g' : lateL B.ls B.due n B.ls.sum.toNat = [] := List.map_eq_nil_iff.mp g
      unfold brkO
      rw [decide_eq_true g', Bool.true_or, if_pos rfl]
    · have g' : lateL B.ls B.due n B.ls.sum.toNat ≠ [] := fun h => g (by rw [h]; rfl)
      obtain ⟨x, xs, hxs⟩ := List.exists_cons_of_ne_nil g'
      have hfin : ∀ H', Same H4 H' → brkO B.ls B.due s n = some x → rIxL K (.ref la) (.int 0) H' fun v H2 => Q v H2 := fun H' e' ho => by
        have h0 := e' _ _ hla4
        rw [hxs] at h0
        exact r_ixL (SqL.of h0) (at_get (n := 0) rfl rfl) (hk _ ho H' e')
      walk_at "rd"
      refine r_ixT (SqT.of ht4) (at_get (n := 0) rfl rfl) ?_
      walk_at "rd"
      refine w_dec (fun g2 => ?_) (fun g2 => ?_)
      · walk_at "rd"
        refine r_lenL (SqL.of hla4) ?_
        rw [List.length_map]
        walk_at "rd"
        refine r_lenL (SqL.of hev4) ?_
        rw [List.length_map, List.length_range]
        walk_at "rd"
        refine w_dec (fun g3 => ?_) (fun g3 => ?_)
        · walk_at "rd"
          refine hk none ?_ _ (Same.refl _)
          unfold brkO
          rw [decide_eq_false g', decide_eq_true g2, decide_eq_true (show ((lateL B.ls B.due n B.ls.sum.toNat).length : Int) < B.ls.sum by omega)]
          rfl
        · walk_at "rd"
          refine hfin _ (Same.refl _) ?_
          unfold brkO
          rw [decide_eq_false g', decide_eq_true g2, decide_eq_false (show ¬ ((lateL B.ls B.due n B.ls.sum.toNat).length : Int) < B.ls.sum by omega), hxs]
          rfl
      · walk_at "rd"
        refine hfin _ (Same.refl _) ?_
        unfold brkO
        rw [decide_eq_false g', decide_eq_false g2, hxs]
        rfl
theorem ok__law_odd {f : Addr} {fd : FuncData} (T : Tx K mg) (F : FnP K "_law_odd" s__law_odd f fd) (d__law_pick : Dn P w K mg base CX0 3 "_law_pick" ["_law_state", "_law_some_here"] sp_pick) : FnOk P w K mg base CX0 4 f fd ["_law_state"] sp_odd := by
  have sc : FnScope ["_law_state", "_law_some_here"] ["_law_state"] (defScope s__law_odd) := ⟨rfl, rfl, rfl, by decide +kernel, rfl, by decide +kernel, by decide +kernel⟩
  refine F.ok sc (by rintro vs H Q E ⟨_, _, _, _, _, rfl, _⟩; rfl) (fun cdv A outer s H vs Q E hr h => ⟨_, PSs.nox ((pss_cons (ps_set (i := 1) sc.nd rfl (by first | exact Or.inl rfl | exact Or.inr rfl) (pe_lst (pa_cons pe_non (pa_cons pe_bl (pa_cons pe_bl (pa_cons pe_int (pa_cons pe_int (pa_cons (pe_un un_neg pe_int) (pa_cons pe_int (pa_cons (pe_op op_pow pe_int pe_int) (pa_cons pe_str (pa_cons pe_str (pa_cons pe_str (pa_cons pe_str (pa_cons (pe_tup pa_nil) (pa_cons (pe_tup (pa_cons pe_int pa_nil)) (pa_cons (pe_lst pa_nil) (pa_cons (pe_lst (pa_cons pe_int pa_nil)) (pa_cons pe_dnewK (pa_cons (pe_disp (pps_cons pe_int pe_int pps_nil) (by rfl) (by rfl) (fun z => by cases z) (by decide)) pa_nil))))))))))))))))))))
      (pss_cons (ps_set (i := 1) sc.nd rfl (by first | exact Or.inl rfl | exact Or.inr rfl) (pe_op op_cat (pv 1) (pe_lst (pa_cons (pe_tup (pa_cons pe_str (pa_cons pe_int pa_nil))) (pa_cons (pe_tup (pa_cons pe_str pa_nil)) (pa_cons pe_str (pa_cons (pe_tup (pa_cons pe_str (pa_cons pe_int pa_nil))) (pa_cons (pe_tup (pa_cons (pe_tup pa_nil) (pa_cons pe_int pa_nil))) (pa_cons (pe_tup (pa_cons (pe_lst pa_nil) (pa_cons pe_int pa_nil))) (pa_cons pe_int (pa_cons pe_int pa_nil)))))))))))
      (pss_one (ps_ret (pe_fn d__law_pick (hr.mono (by decide)) pass0 (pa_cons (pv 0) (pa_cons (pv 1) pa_nil)))))))), ?_⟩)
  obtain ⟨st, l, c, cs, n, rfl, hn, D, k⟩ := h
  walk_at "rd"
  refine r_kTup fun t1 H1 n1 e1 h1 => ?_
  walk_at "rd"
  refine r_kTup fun t2 H2 n2 e2 h2 => ?_
  walk_at "rd"
  refine r_kLst fun l1 H3 n3 e3 h3 => ?_
  walk_at "rd"
  refine r_kLst fun l2 H4 n4 e4 h4 => ?_
  walk_at "rd"
  refine r_dnewN2 fun d1 H5 n5 e5 h5 => ?_
  walk_at "rd"
  refine r_disp fun d2 H6 n6 e6 h6 => ?_
  walk_at "rd"
  refine r_kDisp [(Sum.inl 1, .int 2)] h6 rfl (by simp) (by simp) fun H7 b7 h7 => ?_
  have e57 := Same.mut e6 b7 n6
  walk_at "rd"
  refine r_kLst fun la H8 n8 e8 hla => ?_
  walk_at "rd"
  refine r_kTup fun t3 H9 n9 e9 h9 => ?_
  walk_at "rd"
  refine r_kTup fun t4 H10 n10 e10 h10 => ?_
  walk_at "rd"
  refine r_kTup fun t5 H11 n11 e11 h11 => ?_
  walk_at "rd"
  refine r_kTup fun t6 H12 n12 e12 h12 => ?_
  walk_at "rd"
  refine r_kTup fun t7 H13 n13 e13 h13 => ?_
  walk_at "rd"
  refine r_kLst fun l3 H14 n14 e14 h14 => ?_
  walk_at "rd"
  refine r_kTup fun t8 H15 n15 e15 h15 => ?_
  walk_at "rd"
  refine r_kLst fun lb H16 n16 e16 hlb => ?_
  have g14 := e15.trans e16
  have g13 := e14.trans g14
  have g12 := e13.trans g13
  have g11 := e12.trans g12
  have g10 := e11.trans g11
  have g9 := e10.trans g10
  have g8 := e9.trans g9
  have g7 := e8.trans g8
  have g5 := e57.trans g7
  have g4 := e5.trans g5
  have g3 := e4.trans g4
  have g2 := e3.trans g3
  have g1 := e2.trans g2
  have g0 := e1.trans g1
  have D1 := D.keep e1
  have D2 := D1.keep e2
  have D3 := D2.keep e3
  have D4 := D3.keep e4
  have D5 := D4.keep e5
  have D7 := D5.keep e57
  have D8 := D7.keep e8
  have D9 := D8.keep e9
  have D10 := D9.keep e10
  have D11 := D10.keep e11
  have D12 := D11.keep e12
  have D13 := D12.keep e13
  have D14 := D13.keep e14
  have z0 : ∀ y ∈ ([] : List V), Sh st l H16 y := fun _ h => (by cases h)
  have z1 : ∀ (i : Int), ∀ y ∈ [V.int i], Sh st l H16 y := fun i => fcons (.int i) z0
  have s1 : Sh st l H16 (.ref t1) := .tup (D.nst n1) (D.nl n1) (g1 _ _ h1) (by decide) z0
  have s2 : Sh st l H16 (.ref t2) := .tup (D1.nst n2) (D1.nl n2) (g2 _ _ h2) (by simp) (z1 0)
  have s3 : Sh st l H16 (.ref l1) := .lst (D2.nst n3) (D2.nl n3) (g3 _ _ h3)
  have s4 : Sh st l H16 (.ref l2) := .lst (D3.nst n4) (D3.nl n4) (g4 _ _ h4)
  have s5 : Sh st l H16 (.ref d1) := .dK (D4.nst n5) (D4.nl n5) (g5 _ _ h5)
  have s6 : Sh st l H16 (.ref d2) := .dK (D5.nst n6) (D5.nl n6) (g7 _ _ h7)
  have s9 : Sh st l H16 (.ref t3) := .tup (D8.nst n9) (D8.nl n9) (g9 _ _ h9) (by simp) (fcons (.str _) (z1 1))
  have s10 : Sh st l H16 (.ref t4) := .tup (D9.nst n10) (D9.nl n10) (g10 _ _ h10) (by simp) (fcons (.str _) z0)
  have s11 : Sh st l H16 (.ref t5) := .tup (D10.nst n11) (D10.nl n11) (g11 _ _ h11) (by simp) (fcons (.str _) (z1 1))
  have s12 : Sh st l H16 (.ref t6) := .tup (D11.nst n12) (D11.nl n12) (g12 _ _ h12) (by decide) z0
  have s13 : Sh st l H16 (.ref t7) := .tup (D12.nst n13) (D12.nl n13) (g13 _ _ h13) (by simp) (fcons s12 (z1 0))
  have s14 : Sh st l H16 (.ref l3) := .lst (D13.nst n14) (D13.nl n14) (g14 _ _ h14)
  have s15 : Sh st l H16 (.ref t8) := .tup (D14.nst n15) (D14.nl n15) (e16 _ _ h15) (by simp) (fcons s14 (z1 0))
  walk_at "rd"
  refine r_cat (g8 _ _ hla) hlb (by simp) fun lc H17 n17 e17 hlc => ?_
  walk_at "rd"
  refine u_pick (D.keep g0) (by omega) n17 e17 hlc (by simp) (by simp) fun i x H18 hx D18 k18 => ?_
  walk_at "rd"
  have hsh : ∀ (xs : List V), xs[i]? = some x → (∀ y ∈ xs, Sh st l H16 y) → Sh st l H16 x := fun xs h1 h2 => h2 x (List.mem_of_getElem? h1)
  exact k x H18 (Sh.kp k18 (hsh _ hx (fapp (fcons .non (fcons (.bl _) (fcons (.bl _) (fcons (.int _) (fcons (.int _) (fcons (.int _) (fcons (.int _) (fcons (.int _) (fcons (.str _) (fcons (.str _) (fcons (.str _) (fcons (.str _) (fcons s1 (fcons s2 (fcons s3 (fcons s4 (fcons s5 (fcons s6 z0)))))))))))))))))) (fcons s9 (fcons s10 (fcons (.str _) (fcons s11 (fcons s13 (fcons s15 (fcons (.int _) (fcons (.int _) z0))))))))))) D18 ((Kp.of g0).trans k18)
end
end Wp
set_option Elab.async false
set_option linter.all false
set_option maxRecDepth 100000
set_option maxHeartbeats 4000000
/-! the law's greatest late cost. -/
namespace Wp
open PySem PySem.Spec PyProof.Rows L2
abbrev s__law_stands : Stmt := topS 77
abbrev s__law_greatest_late : Stmt := topS 78
local macro_rules | `(tactic| walk_at "val") => `(tactic| assumption)
local macro_rules | `(tactic| walk_at "rd1") => `(tactic| first
  | with_reducible refine r_seq ?_ | with_reducible refine r_next ?_ | with_reducible refine r_if ?_ | with_reducible refine r_asg ?_ | with_reducible refine r_gname ?_
  | with_reducible refine r_ret ?_ | with_reducible refine r_retN ?_ | with_reducible refine r_drop ?_ | with_reducible refine r_par ?_ | with_reducible refine r_kPar ?_
  | ((with_reducible refine' r_var ?hv ?_); (case hv => exact rfl)) | with_reducible refine r_c ?_ | with_reducible refine r_nil ?_ | with_reducible refine r_cons ?_
  | with_reducible refine r_fn ?_ | with_reducible refine r_cb ?_ | with_reducible refine r_op ?_ | with_reducible refine r_un ?_ | with_reducible refine r_I0 ?_
  | with_reducible refine r_pow5 ?_ | with_reducible refine r_pow6 ?_ | with_reducible refine r_pow7 ?_ | with_reducible refine r_pow9 ?_ | with_reducible refine r_pow18 ?_ | with_reducible refine r_pow20 ?_ | with_reducible refine r_pow30 ?_
  | with_reducible refine r_isN_non ?_ | with_reducible refine r_isN_ref ?_ | with_reducible refine r_isN_int ?_ | with_reducible refine r_isN_str ?_ | with_reducible refine r_isN_bl ?_ | with_reducible refine r_notN_non ?_ | with_reducible refine r_notN_ref ?_ | with_reducible refine r_notN_int ?_ | with_reducible refine r_notN_str ?_ | with_reducible refine r_notN_bl ?_
  | ((with_reducible refine r_I ?hc ?_); (case hc => walk_at "side")) | with_reducible refine r_U ?_
  | with_reducible refine r_eqI ?_ | with_reducible refine r_neI ?_ | with_reducible refine r_eqS ?_ | with_reducible refine r_neS ?_ | with_reducible refine r_eqB ?_ | with_reducible refine r_neB ?_
  | with_reducible refine r_chain ?_ | with_reducible refine r_test ?_ | with_reducible refine r_tB ?_ | with_reducible refine r_kTest ?_ | with_reducible refine r_not ?_
  | with_reducible refine r_and ?_ | with_reducible refine r_or ?_ | with_reducible refine r_tif ?_ | with_reducible refine r_andV ?_ | with_reducible refine r_orV ?_ | with_reducible refine r_notV ?_
  | with_reducible refine r_kAndV ?_ | with_reducible refine r_kOrV ?_ | with_reducible refine r_kNotV ?_
  | with_reducible refine w_T ?_ | with_reducible refine w_F ?_ | with_reducible refine w_NT ?_ | with_reducible refine w_NF ?_
  | with_reducible refine r_tup ?_ | with_reducible refine r_lst ?_ | with_reducible refine r_fld ?_ | with_reducible refine r_prop ?_ | ((with_reducible refine' r_aug ?h1 ?_); (case h1 => exact rfl)) | with_reducible refine r_ipI ?_ | with_reducible refine r_dget ?_ | with_reducible refine r_dput ?_ | with_reducible refine r_bm ?_
  | ((with_reducible refine' r_kDGetS ?h1 ?h2 ?_); (case h1 => assumption); (case h2 => walk_at "val"))
  | ((with_reducible refine' r_kBML ?h1 ?_); (case h1 => assumption))
  | with_reducible refine r_forL ?_ | with_reducible refine r_forR1 ?_ | with_reducible refine r_forR2 ?_ | with_reducible refine r_forT ?_ | with_reducible refine r_lcL ?_ | with_reducible refine r_lcR1 ?_
  | ((with_reducible refine r_kLcG ?hw ?_); (case hw => exact rfl)) | with_reducible refine r_kLcT ?_ | with_reducible refine r_yes ?_
  | with_reducible refine r_pnil ?_ | with_reducible refine r_pcons ?_
  | with_reducible refine r_fnK ?_ | ((with_reducible refine r_kFnK ?hl ?_); (case hl => exact rfl))
  | with_reducible refine r_isi_ii ?_ | with_reducible refine r_isi_ib ?_ | with_reducible refine r_isi_bi ?_ | with_reducible refine r_isi_bb ?_ | with_reducible refine r_isi_ss ?_ | with_reducible refine r_isi_is ?_ | with_reducible refine r_isi_it ?_
  | ((with_reducible refine' r_isi_tt ?h1 ?_); (case h1 => assumption))
  | with_reducible refine r_sfld ?_ | with_reducible refine r_gnil ?_ | with_reducible refine r_gcons ?_
  | ((with_reducible refine' r_gtup ?h1 ?h2 ?_); (case h1 => exact SqT.of (by assumption)); (case h2 => exact rfl))
  | with_reducible refine r_sl ?_ | with_reducible refine r_noPart ?_ | with_reducible refine r_part ?_ | with_reducible refine r_kPart ?_ | with_reducible refine r_m1 ?_ | with_reducible refine r_kM1 ?_ | with_reducible refine r_forS ?_ | with_reducible refine r_lcS ?_ | with_reducible refine r_lcTu ?_ | with_reducible refine r_lcK ?_ | with_reducible refine r_dcL ?_ | with_reducible refine r_dcK ?_ | with_reducible refine r_lc2L ?_ | with_reducible refine r_kLc2TL ?_ | with_reducible refine r_dcEn ?_ | with_reducible refine r_gslc ?_ | with_reducible refine r_lcEn ?_ | with_reducible refine r_lcEl ?_ | with_reducible refine r_lcR2 ?_ | with_reducible refine r_rg1 ?_ | with_reducible refine r_forET ?_ | with_reducible refine r_lenD ?_
  | ((with_reducible refine r_kDcG ?hw ?_); (case hw => exact rfl)) | with_reducible refine r_kDcT ?_
  | with_reducible refine r_fldaug ?_ | with_reducible refine r_daug ?_ | with_reducible refine r_rAdd ?_ | with_reducible refine r_rSub ?_ | with_reducible refine r_ddel ?_ | with_reducible refine r_bmF ?_ | with_reducible refine r_dget2 ?_ | with_reducible refine r_listItems ?_ | with_reducible refine r_bm0 ?_ | with_reducible refine r_lc2E ?_ | ((with_reducible refine r_kLc2G ?hw ?_); (case hw => exact rfl)) | with_reducible refine r_kLc2T ?_ | with_reducible refine r_forE ?_ | with_reducible refine r_orT ?_ | with_reducible refine r_din ?_ | with_reducible refine r_augS ?_ | with_reducible refine r_dnotin ?_ | with_reducible refine r_lcIT ?_ | with_reducible refine r_cont ?_ | with_reducible refine r_meth ?_ | with_reducible refine r_frz ?_ | with_reducible refine r_par3 ?_ | with_reducible refine r_kPar3 ?_ | with_reducible refine r_dz ?_ | with_reducible refine r_revL ?_ | with_reducible refine r_star ?_ | with_reducible refine r_int1 ?_ | with_reducible refine r_int1b ?_ | with_reducible refine r_min2 ?_ | with_reducible refine r_max2 ?_ | with_reducible refine r_gsub ?_)
local macro_rules | `(tactic| walk_at "rd") => `(tactic| repeat walk_at "rd1")
local macro_rules | `(tactic| walk_at "side") => `(tactic| first | assumption | exact Or.inr ⟨by decide, by decide⟩ | exact Or.inl ⟨by decide, by decide⟩ | (constructor <;> omega) | omega | decide | (refine Or.inl ⟨?_, ?_⟩ <;> omega) | (refine Or.inr ⟨?_, ?_⟩ <;> omega) | (refine ⟨?_, ?_, ?_⟩ <;> first | decide | omega))
local macro_rules | `(tactic| walk_at "val") => `(tactic| first | exact mv1 | exact mv2 | exact mv3 | exact mv4 | exact mv5 | exact mv6)
def sp_stands : Sp := fun vs H Q _ => ∃ (l p : Addr) (B : Bk) (m : Int), vs = [.ref p, .int m] ∧ Mdl l H p B ∧ LsOk B.ls ∧ ∀ H', Same H H' → Q (.int (dI B m)) H'
def sp_llate : Sp := fun vs H Q _ => ∃ (l p : Addr) (B : Bk) (m : Int), vs = [.ref p, .int m] ∧ Mdl l H p B ∧ B.Ok ∧ 1 ≤ m ∧ m ≤ 1000000 ∧ ∀ H', Same H H' → Q (.int (lateB B m)) H'
/-- a statement run while a dict is locked -/
def lockEnds (d : Addr) (od : Obj) (u : HO) (D : Ends) : Ends := ⟨fun σ' H' => H' d = some (.frz od u) ∧ D.nx σ' (upd H' d u), fun v H' => H' d = some (.frz od u) ∧ D.rt v (upd H' d u), fun σ' H' => H' d = some (.frz od u) ∧ D.bk σ' (upd H' d u), fun σ' H' => H' d = some (.frz od u) ∧ D.ct σ' (upd H' d u)⟩
theorem r_lockS {d : Addr} {kvs : List (Key × V)} {t : TS} {D : Ends} {σ : L2.St} {H : Hp} (h : H d = some (.dK kvs)) (q : ∀ od H1, H1 d = some (.frz od (.dK kvs)) → (∀ b o, H b = some o → b ≠ d → H1 b = some o) → t (lockEnds d od (.dK kvs) D) σ H1) : tLock t D σ H :=
  ⟨d, .dK kvs, h, True.intro, fun od => q od _ upd_same fun b o e n => by rw [upd_ne n]; exact e⟩
theorem lock_end {d : Addr} {od : Obj} {u : HO} {H0 H1 H : Hp} {Pq : Hp → Prop} (h0 : H0 d = some u) (h1 : ∀ b o, H0 b = some o → b ≠ d → H1 b = some o) (hd : H1 d = some (.frz od u)) (e : Same H1 H) (q : ∀ H', Same H0 H' → (∀ b o, H b = some o → b ≠ d → H' b = some o) → Pq H') : H d = some (.frz od u) ∧ Pq (upd H d u) :=
  ⟨e _ _ hd, q _ (fun b o hb => by
    by_cases hbd : b = d
    · rw [hbd] at hb ⊢
      rw [upd_same, ← h0, hb]
    · rw [upd_ne hbd]
      exact e _ _ (h1 b o hb hbd)) fun b o hb n => by rw [upd_ne n]; exact hb⟩
theorem r_max3v {H : Hp} {Q : VK} {i j k : Int} (q : Q (.int (max (max i j) k)) H) : rNuC3 nuMax3 [.int i, .int j, .int k] H Q := ⟨_, _, _, _, rfl, by
  show (nuMax2 (.int i) (.int j)).bind (fun m => nuMax2 m (.int k)) = some (V.int (max (max i j) k))
  have e : ∀ a b : Int, nuMax2 (.int a) (.int b) = some (.int (max a b)) := fun a b => by
    have e : nuMax2 (.int a) (.int b) = some (if decide (a < b) = true then V.int b else V.int a) := rfl
    rw [e]
    by_cases h : a < b
    · rw [if_pos (decide_eq_true h), Int.max_eq_right (by omega)]
    · rw [if_neg (by rw [decide_eq_false h]; decide), Int.max_eq_left (by omega)]
  rw [e]
  exact e _ _, q⟩
section
variable {P : Program} {w : World} {K : PySem.W.Frag} {mg : Str → Option Value} {base : Heap}
theorem ok__law_stands {f : Addr} {fd : FuncData} (T : Tx K mg) (F : FnP K "_law_stands" s__law_stands f fd) (d__law_first : Dn P w K mg base CX0 1 "_law_first" ["_law_model_here", "_law_mon"] sp_lfirst) : FnOk P w K mg base CX0 2 f fd ["_law_model_here", "_law_mon"] sp_stands := by
  have sc : FnScope ["_law_model_here", "_law_mon", "_law_span"] ["_law_model_here", "_law_mon"] (defScope s__law_stands) := ⟨rfl, rfl, rfl, by decide +kernel, rfl, by decide +kernel, by decide +kernel⟩
  refine F.ok sc (by rintro vs H Q E ⟨_, _, _, _, rfl, _⟩; rfl) (fun cdv A outer s H vs Q E hr h => ⟨_, PSs.nox ((pss_cons (ps_set (i := 2) sc.nd rfl (by first | exact Or.inl rfl | exact Or.inr rfl) (pe_op op_sub (pe_fn d__law_first (hr.mono (by decide)) pass0 (pa_cons (pv 0) (pa_cons (pe_op op_add (pv 1) pe_int) pa_nil))) (pe_fn d__law_first (hr.mono (by decide)) pass0 (pa_cons (pv 0) (pa_cons (pv 1) pa_nil)))))
      (pss_one (ps_ret (pe_op op_add (pe_dget (hu_of hr) (pv 0) pe_str (fun _ _ => rfl)) (pe_ifExp (pt_cmpR op_eq (pe_dget (hu_of hr) (pv 0) pe_str (fun _ _ => rfl)) pe_str (nomark _)) (pv 2) pe_int)))))), ?_⟩)
  obtain ⟨l, p, B, m, rfl, hM0, ok, k⟩ := h
  obtain ⟨ad, kd, lv, kvs, hM⟩ := id hM0
  walk_at "rd"
  refine ⟨l, p, B, m + 1, rfl, hM0, ok, fun H1 e1 => ?_⟩
  walk_at "rd"
  refine ⟨l, p, B, m, rfl, hM0.keep e1, ok, fun H2 e2 => ?_⟩
  walk_at "rd"
  have hM2 := hM.keep (e1.trans e2)
  refine r_kDGetS hM2.i mv5 ?_
  walk_at "rd"
  refine r_kDGetS hM2.i mv6 ?_
  walk_at "rd"
  have z := k H2 (e1.trans e2)
  unfold dI at z
  refine w_dec (fun c => ?_) (fun c => ?_)
  · rw [if_pos c] at z
    walk_at "rd"
    exact z
  · rw [if_neg c] at z
    walk_at "rd"
    exact z
theorem ok__law_greatest_late {f : Addr} {fd : FuncData} (T : Tx K mg) (F : FnP K "_law_greatest_late" s__law_greatest_late f fd) (d__law_stands : Dn P w K mg base CX0 2 "_law_stands" ["_law_model_here", "_law_mon"] sp_stands) : FnOk P w K mg base CX0 3 f fd ["_law_model_here", "_law_most"] sp_llate := by
  have sc : FnScope ["_law_model_here", "_law_most", "_law_freed", "_law_fixed", "_law_peak", "_law_rate", "_law_mon", "_law_later", "_law_own", "_law_label", "_law_k"] ["_law_model_here", "_law_most"] (defScope s__law_greatest_late) := ⟨rfl, rfl, rfl, by decide +kernel, rfl, by decide +kernel, by decide +kernel⟩
  refine F.ok sc (by rintro vs H Q E ⟨_, _, _, _, rfl, _⟩; rfl) (fun cdv A outer s H vs Q E hr h => ⟨_, PSs.nox ((pss_cons (ps_lock (ps_setLc (i := 2) (own := [("_law_label", 9)]) (by rfl) sc.nd rfl rfl (sw_true rfl rfl rfl (by decide +kernel)) (pi_keys (pe_dget (hu_of hr) (pv 0) pe_str (fun _ _ => rfl))) (blkOk_by (own := [("_law_label", 9)]) (N := ["_law_model_here", "_law_most", "_law_freed", "_law_fixed", "_law_peak", "_law_rate", "_law_mon", "_law_later", "_law_own", "_law_label", "_law_k"]) (sc := defScope s__law_greatest_late) (by decide +kernel)) (fun _ _ _ _ _ => (pg_name (i := 9) sc.nd rfl (by first | exact Or.inl rfl | exact Or.inr rfl))) (fun _ _ _ _ _ => (pts_one (pt_val (pe_ix (ix_tupK (K := K) rfl) (pe_dget (hu_of hr) (pe_dget (hu_of hr) (pv 0) pe_str (fun _ _ => rfl)) (pv 9) (fun _ _ => rfl)) pe_int (fun _ _ => rfl))))) (fun _ _ _ _ _ => (pe_ix (ix_tupK (K := K) rfl) (pe_dget (hu_of hr) (pe_dget (hu_of hr) (pv 0) pe_str (fun _ _ => rfl)) (pv 9) (fun _ _ => rfl)) pe_int (fun _ _ => rfl)))))
      (pss_cons (ps_lock (ps_setLc (i := 3) (own := [("_law_label", 9)]) (by rfl) sc.nd rfl rfl (sw_true rfl rfl rfl (by decide +kernel)) (pi_keys (pe_dget (hu_of hr) (pv 0) pe_str (fun _ _ => rfl))) (blkOk_by (own := [("_law_label", 9)]) (N := ["_law_model_here", "_law_most", "_law_freed", "_law_fixed", "_law_peak", "_law_rate", "_law_mon", "_law_later", "_law_own", "_law_label", "_law_k"]) (sc := defScope s__law_greatest_late) (by decide +kernel)) (fun _ _ _ _ _ => (pg_name (i := 9) sc.nd rfl (by first | exact Or.inl rfl | exact Or.inr rfl))) (fun _ _ _ _ _ => (pts_one (pt_not (pt_val (pe_ix (ix_tupK (K := K) rfl) (pe_dget (hu_of hr) (pe_dget (hu_of hr) (pv 0) pe_str (fun _ _ => rfl)) (pv 9) (fun _ _ => rfl)) pe_int (fun _ _ => rfl)))))) (fun _ _ _ _ _ => (pe_ix (ix_tupK (K := K) rfl) (pe_dget (hu_of hr) (pe_dget (hu_of hr) (pv 0) pe_str (fun _ _ => rfl)) (pv 9) (fun _ _ => rfl)) pe_int (fun _ _ => rfl)))))
      (pss_cons (ps_par (i := 4) (j := 5) (by rfl) sc.nd rfl rfl (by decide) rfl rfl (pa_cons pe_int (pa_cons (pe_callB (c_maxK (K := K) rfl rfl) (by rfl) T.b_max (by decide +kernel) (pa_cons (pe_op op_cat (pe_lst (pa_cons pe_int pa_nil)) (pv 2)) pa_nil)) pa_nil)) (by rfl))
      (pss_cons (ps_for PassesOwn.never rfl (pi_range1 (by rfl) T.b_range (pa_cons (pe_callB (c_lenK (K := K) rfl) (by rfl) T.b_len (by decide +kernel) (pa_cons (pe_dget (hu_of hr) (pv 0) pe_str (fun _ _ => rfl)) pa_nil)) pa_nil)) (pg_name (i := 6) sc.nd rfl (by first | exact Or.inl rfl | exact Or.inr rfl)) (pss_cons (ps_set (i := 7) sc.nd rfl (by first | exact Or.inl rfl | exact Or.inr rfl) (pe_op op_mul (pv 1) (pe_callB (c_sumK (K := K) rfl rfl) (by rfl) T.b_sum (by decide +kernel) (pa_cons (pe_lc (own := [("_law_k", 10)]) (by rfl) sc.nd (pi_range1 (by rfl) T.b_range (pa_cons (pe_dget (hu_of hr) (pv 0) pe_str (fun _ _ => rfl)) pa_nil)) (blkOk_by (own := [("_law_k", 10)]) (N := ["_law_model_here", "_law_most", "_law_freed", "_law_fixed", "_law_peak", "_law_rate", "_law_mon", "_law_later", "_law_own", "_law_label", "_law_k"]) (sc := defScope s__law_greatest_late) (by decide +kernel)) (fun _ _ _ _ _ => (pg_name (i := 10) sc.nd rfl (by first | exact Or.inl rfl | exact Or.inr rfl))) (fun _ _ _ _ _ => pts_nil) (fun _ _ _ _ _ => (pe_fn d__law_stands (hr.mono (by decide)) pass0 (pa_cons (pv 0) (pa_cons (pe_op op_add (pe_op op_add (pv 6) (pv 10)) pe_int) pa_nil))))) pa_nil))))
      (pss_cons (ps_set (i := 8) sc.nd rfl (by first | exact Or.inl rfl | exact Or.inr rfl) (pe_fn d__law_stands (hr.mono (by decide)) pass0 (pa_cons (pv 0) (pa_cons (pv 6) pa_nil))))
      (pss_one (ps_set (i := 4) sc.nd rfl (by first | exact Or.inl rfl | exact Or.inr rfl) (pe_callB (call_max3Nu rfl) (by rfl) T.b_max (by decide +kernel) (pa_cons (pv 4) (pa_cons (pe_op op_mul (pv 5) (pe_op op_add (pe_op op_add (pe_op op_mul (pv 1) (pv 8)) (pv 7)) pe_int)) (pa_cons (pe_op op_add (pe_callB (c_maxK (K := K) rfl rfl) (by rfl) T.b_max (by decide +kernel) (pa_cons (pe_op op_cat (pe_lst (pa_cons pe_int pa_nil)) (pv 3)) pa_nil)) (pe_op op_mul (pv 5) (pe_op op_add (pe_op op_sub (pe_op op_mul (pv 1) (pv 8)) (pv 8)) (pv 7)))) pa_nil)))))))))
      (pss_one (ps_ret (pv 4)))))))), ?_⟩)
  obtain ⟨l, p, B, cap, rfl, hM0, ok, hc1, hc2, k⟩ := h
  obtain ⟨ad, kd, lv, kvs, hM⟩ := id hM0
  have nd := ok.kn.nm.nd
  have l6 := ok.kn.hi
  have nkp : kd ≠ p := fun z => by
    have h2 := hM.k
    rw [z, hM.i] at h2
    injection h2 with h2
    injection h2 with h2
    obtain ⟨t, h3⟩ := hM.a.all (Sum.inr ("memory" : Str), .int B.mem) (by rw [← h2]; simp [mkv])
    cases h3
  walk_at "rd"
  refine r_lockS hM.k fun od1 H1 hd1 o1 => ?_
  have i1 := o1 _ _ hM.i nkp.symm
  have A1 : KAt H1 kvs B.ks := hM.a.keep fun t xs ht => o1 _ _ ht (ne_of ht hM.k (by intro z; cases z))
  walk_at "rd"
  refine r_kLcK hd1 (fun Da i H' => Same H1 H' ∧ H' Da = some (.lst ((rsK true (B.ks.take i)).map V.int))) (fun Da H' _ e h => ⟨e, h⟩) (fun Da i H' h => h.1 _ _ hd1) ?_ ?_
  · rintro Da i key v H' hD hi ⟨e', hDa⟩
    obtain ⟨n, r, fb, t, rfl, rfl, ht, hks⟩ := A1.get hi
    have hil := (List.getElem?_eq_some_iff.mp hks).1
    obtain ⟨tv, htv, htt⟩ := A1.val nd (List.mem_of_getElem? hks)
    have ekV : ∀ z : Str, kV (Sum.inr z) = V.str z := fun _ => rfl
    rw [ekV]
    have fl := List.length_filter_le (fun k : Str × Int × Bool => k.2.2 == true) (B.ks.take i)
    rw [List.length_take] at fl
    have stp : rsK true (B.ks.take (i + 1)) = rsK true (B.ks.take i) ++ (if fb = true then [r] else []) := by
      unfold rsK
      rw [take_more hks, List.filter_append, List.map_append]
      cases fb <;> simp
    walk_at "rd"
    refine r_kDGetS (e' _ _ i1) mv2 ?_
    walk_at "rd"
    refine r_kDGetF (e' _ _ hd1) htv ?_
    walk_at "rd"
    refine r_ixT (SqT.of (e' _ _ htt)) (at_get (n := 1) rfl rfl) ?_
    walk_at "rd"
    refine w_b (fun cx => ?e1) (fun cx => ?e2)
    case e1 =>
      walk_at "rd"
      refine r_kDGetS (e' _ _ i1) mv2 ?_
      walk_at "rd"
      refine r_kDGetF (e' _ _ hd1) htv ?_
      walk_at "rd"
      refine r_ixT (SqT.of (e' _ _ htt)) (at_get (n := 0) rfl rfl) ?_
      refine r_kLcE hDa (by unfold rsK; rw [List.length_map, List.length_map]; omega) fun H4 b4 h4 => ⟨Same.mut e' b4 hD, ?_⟩
      rw [stp, if_pos cx, List.map_append]
      exact h4
    case e2 =>
      refine ⟨e', ?_⟩
      rw [stp, if_neg (by rw [cx]; decide), List.append_nil]
      exact hDa
  rintro D1 H2 nD1 ⟨e2, hD1⟩
  have tk1 : B.ks.take kvs.length = B.ks := by rw [hM.a.len, List.take_length]
  rw [tk1] at hD1
  walk_at "rd"
  refine lock_end (Pq := _) hM.k o1 hd1 e2 fun H3 e3 o3 => ?_
  have nk1 : D1 ≠ kd := fun z => by
    rw [z, hd1] at nD1
    cases nD1
  have hD3 := o3 _ _ hD1 nk1
  have hM3 := hM.keep e3
  walk_at "rd"
  refine r_lockS hM3.k fun od2 H4 hd4 o4 => ?_
  have i4 := o4 _ _ hM3.i nkp.symm
  have A4 : KAt H4 kvs B.ks := hM3.a.keep fun t xs ht => o4 _ _ ht (ne_of ht hM3.k (by intro z; cases z))
  walk_at "rd"
  refine r_kLcK hd4 (fun Da i H' => Same H4 H' ∧ H' Da = some (.lst ((rsK false (B.ks.take i)).map V.int))) (fun Da H' _ e h => ⟨e, h⟩) (fun Da i H' h => h.1 _ _ hd4) ?_ ?_
  · rintro Da i key v H' hD hi ⟨e', hDa⟩
    obtain ⟨n, r, fb, t, rfl, rfl, ht, hks⟩ := A4.get hi
    have hil := (List.getElem?_eq_some_iff.mp hks).1
    obtain ⟨tv, htv, htt⟩ := A4.val nd (List.mem_of_getElem? hks)
    have ekV : ∀ z : Str, kV (Sum.inr z) = V.str z := fun _ => rfl
    rw [ekV]
    have fl := List.length_filter_le (fun k : Str × Int × Bool => k.2.2 == false) (B.ks.take i)
    rw [List.length_take] at fl
    have stp : rsK false (B.ks.take (i + 1)) = rsK false (B.ks.take i) ++ (if fb = false then [r] else []) := by
      unfold rsK
      rw [take_more hks, List.filter_append, List.map_append]
      cases fb <;> simp
    walk_at "rd"
    refine r_kDGetS (e' _ _ i4) mv2 ?_
    walk_at "rd"
    refine r_kDGetF (e' _ _ hd4) htv ?_
    walk_at "rd"
    refine r_ixT (SqT.of (e' _ _ htt)) (at_get (n := 1) rfl rfl) ?_
    walk_at "rd"
    refine w_nb (fun cx => ?e1) (fun cx => ?e2)
    case e1 =>
      walk_at "rd"
      refine r_kDGetS (e' _ _ i4) mv2 ?_
      walk_at "rd"
      refine r_kDGetF (e' _ _ hd4) htv ?_
      walk_at "rd"
      refine r_ixT (SqT.of (e' _ _ htt)) (at_get (n := 0) rfl rfl) ?_
      refine r_kLcE hDa (by unfold rsK; rw [List.length_map, List.length_map]; omega) fun H4 b4 h4 => ⟨Same.mut e' b4 hD, ?_⟩
      rw [stp, if_pos cx, List.map_append]
      exact h4
    case e2 =>
      refine ⟨e', ?_⟩
      rw [stp, if_neg (by rw [cx]; decide), List.append_nil]
      exact hDa
  rintro D4 H5 nD4 ⟨e5, hD4⟩
  have tk4 : B.ks.take kvs.length = B.ks := by rw [hM3.a.len, List.take_length]
  rw [tk4] at hD4
  walk_at "rd"
  refine lock_end (Pq := _) hM3.k o4 hd4 e5 fun H6 e6 o6 => ?_
  have nk4 : D4 ≠ kd := fun z => by
    rw [z, hd4] at nD4
    cases nD4
  have hD6 := o6 _ _ hD4 nk4
  have hM6 := hM3.keep e6
  have hD36 := e6 _ _ hD3
  walk_at "rd"
  have rb := rsK_mem (b := true) ok.kn.rt
  have rb2 := rsK_mem (b := false) ok.kn.rt
  have x0 := mx0_nonneg (rsB true B)
  have x1 : mx0 (rsB true B) ≤ 1000 := mx0_hi fun y hy => (rb y hy).2
  have bl : ∀ b, (rsK b B.ks).length ≤ 6 := fun b => by
    unfold rsK
    rw [List.length_map]
    exact Nat.le_trans (List.length_filter_le ..) l6
  refine r_kLst fun a1 H7 na1 e7 ha1 => ?_
  walk_at "rd"
  refine r_cat ha1 (e7 _ _ hD36) (by rw [List.length_map]; have := bl true; simp; omega) fun a2 H8 na2 e8 ha2 => ?_
  have ha2' : H8 a2 = some (.lst ((0 :: rsB true B).map V.int)) := by rw [ha2]; simp [rsB]
  walk_at "rd"
  refine r_maxI (SqL.of ha2') (by simp) fun m1 hm1 hl1 => ?_
  obtain rfl : m1 = mx0 (rsB true B) := mx0_eq ⟨hm1, hl1⟩
  walk_at "rd"
  have e08 := (e3.trans e6).trans (e7.trans e8)
  have hM8 := hM.keep e08
  have hD68 := e8 _ _ (e7 _ _ hD6)
  refine r_kDGetS hM8.i mv1 ?_
  walk_at "rd"
  refine r_lenL (SqL.of hM8.l) ?_
  walk_at "rd"
  have hll : (B.ls.map V.int).length = B.ls.length := List.length_map _
  have l4 := ok.l2
  refine r_kForR1 (fun i σ' H' => ∃ (y6 y7 y8 y9 y10 : Option V), σ' = [some (.ref p), some (.int cap), some (.ref D1), some (.ref D4), some (.int (lateW (rsB true B) (rsB false B) cap (fun n => dI B (n : Int)) (laterB B) i)), some (.int (mx0 (rsB true B))), y6, y7, y8, y9, y10] ∧ Same H8 H')
    (by omega) ⟨_, _, _, _, _, rfl, Same.refl _⟩ ?_ ?_
  · rintro i σ' H9 hi ⟨y6, y7, y8, y9, y10, rfl, e9⟩
    rw [hll] at hi
    have m0 := ok.m0
    have m1 := ok.m1
    have e09 := e08.trans e9
    have hM9 := hM.keep e09
    walk_at "rd"
    refine r_kDGetS hM9.i mv4 ?_
    walk_at "rd"
    refine r_kLcR1 (fun Da j H' => Same H9 H' ∧ H' Da = some (.lst (((List.range j).map fun q : Nat => dI B ((i : Int) + 1 + (q : Int))).map V.int))) (by omega) (fun Da H' _ e h => ⟨e, h⟩) ?_ ?_
    · rintro Da j H10 nDa hj ⟨e10, hDa⟩
      walk_at "rd"
      refine ⟨l, p, B, _, rfl, hM0.keep (e09.trans e10), ok.ls, fun H11 e11 => ?_⟩
      refine r_kLcE (e11 _ _ hDa) (by rw [List.length_map, List.length_map, List.length_range]; omega) fun H12 b12 h12 => ⟨Same.mut (e10.trans e11) b12 nDa, ?_⟩
      rw [List.range_succ, List.map_append, List.map_append]
      have ez : (i : Int) + (j : Int) + 1 = (i : Int) + 1 + (j : Int) := by omega
      rw [ez] at h12
      exact h12
    rintro Da H10 nDa ⟨e10, hDa⟩
    walk_at "rd"
    refine r_sum (SqL.of hDa) ?_
    have els : ((List.range B.mem.toNat).map fun q : Nat => dI B ((i : Int) + 1 + (q : Int))).sum = laterB B i := rfl
    rw [els]
    have cm0 : CMul cap (laterB B i) := .inl ⟨by omega, by omega⟩
    walk_at "rd"
    refine ⟨l, p, B, _, rfl, hM0.keep (e09.trans e10), ok.ls, fun H11 e11 => ?_⟩
    walk_at "rd"
    have e911 := e10.trans e11
    have cm1 : CMul cap (dI B (i : Int)) := .inl ⟨by omega, by omega⟩
    refine r_kLst fun a3 H12 na3 e12 ha3 => ?_
    walk_at "rd"
    refine r_cat ha3 (e12 _ _ (e911 _ _ (e9 _ _ hD68))) (by rw [List.length_map]; have := bl false; simp; omega) fun a4 H13 na4 e13 ha4 => ?_
    have ha4' : H13 a4 = some (.lst ((0 :: rsB false B).map V.int)) := by rw [ha4]; simp [rsB]
    walk_at "rd"
    refine r_maxI (SqL.of ha4') (by simp) fun m2 hm2 hl2 => ?_
    obtain rfl : m2 = mx0 (rsB false B) := mx0_eq ⟨hm2, hl2⟩
    walk_at "rd"
    refine r_max3v ?_
    walk_at "rd"
    exact ⟨_, _, _, _, _, rfl, e9.trans (e911.trans (e12.trans e13))⟩
  · rintro σ' H9 ⟨y6, y7, y8, y9, y10, rfl, e9⟩
    rw [Int.toNat_natCast, hll]
    walk_at "rd"
    exact k H9 (e08.trans e9)
end
end Wp
set_option Elab.async false
set_option linter.all false
set_option maxRecDepth 100000
set_option maxHeartbeats 4000000
namespace Wp
open PySem PySem.Spec PyProof.Rows L2
abbrev s__law_why : Stmt := topS 73
local macro_rules | `(tactic| walk_at "val") => `(tactic| assumption)
local macro_rules | `(tactic| walk_at "rd1") => `(tactic| first
  | with_reducible refine r_seq ?_ | with_reducible refine r_next ?_ | with_reducible refine r_if ?_ | with_reducible refine r_asg ?_ | with_reducible refine r_gname ?_
  | with_reducible refine r_ret ?_ | with_reducible refine r_retN ?_ | with_reducible refine r_drop ?_ | with_reducible refine r_par ?_ | with_reducible refine r_kPar ?_
  | ((with_reducible refine' r_var ?hv ?_); (case hv => exact rfl)) | with_reducible refine r_c ?_ | with_reducible refine r_nil ?_ | with_reducible refine r_cons ?_
  | with_reducible refine r_fn ?_ | with_reducible refine r_cb ?_ | with_reducible refine r_op ?_ | with_reducible refine r_un ?_ | with_reducible refine r_I0 ?_
  | with_reducible refine r_pow5 ?_ | with_reducible refine r_pow6 ?_ | with_reducible refine r_pow7 ?_ | with_reducible refine r_pow9 ?_ | with_reducible refine r_pow18 ?_ | with_reducible refine r_pow20 ?_ | with_reducible refine r_pow30 ?_
  | with_reducible refine r_isN_non ?_ | with_reducible refine r_isN_ref ?_ | with_reducible refine r_isN_int ?_ | with_reducible refine r_isN_str ?_ | with_reducible refine r_isN_bl ?_ | with_reducible refine r_notN_non ?_ | with_reducible refine r_notN_ref ?_ | with_reducible refine r_notN_int ?_ | with_reducible refine r_notN_str ?_ | with_reducible refine r_notN_bl ?_
  | ((with_reducible refine r_I ?hc ?_); (case hc => walk_at "side")) | with_reducible refine r_U ?_
  | with_reducible refine r_eqI ?_ | with_reducible refine r_neI ?_ | with_reducible refine r_eqS ?_ | with_reducible refine r_neS ?_ | with_reducible refine r_eqB ?_ | with_reducible refine r_neB ?_
  | with_reducible refine r_chain ?_ | with_reducible refine r_test ?_ | with_reducible refine r_tB ?_ | with_reducible refine r_kTest ?_ | with_reducible refine r_not ?_
  | with_reducible refine r_and ?_ | with_reducible refine r_or ?_ | with_reducible refine r_tif ?_ | with_reducible refine r_andV ?_ | with_reducible refine r_orV ?_ | with_reducible refine r_notV ?_
  | with_reducible refine r_kAndV ?_ | with_reducible refine r_kOrV ?_ | with_reducible refine r_kNotV ?_
  | with_reducible refine w_T ?_ | with_reducible refine w_F ?_ | with_reducible refine w_NT ?_ | with_reducible refine w_NF ?_
  | with_reducible refine r_tup ?_ | with_reducible refine r_lst ?_ | with_reducible refine r_fld ?_ | with_reducible refine r_prop ?_ | ((with_reducible refine' r_aug ?h1 ?_); (case h1 => exact rfl)) | with_reducible refine r_ipI ?_ | with_reducible refine r_dget ?_ | with_reducible refine r_dput ?_ | with_reducible refine r_bm ?_
  | ((with_reducible refine' r_kDGetS ?h1 ?h2 ?_); (case h1 => assumption); (case h2 => walk_at "val"))
  | ((with_reducible refine' r_kBML ?h1 ?_); (case h1 => assumption))
  | with_reducible refine r_forL ?_ | with_reducible refine r_forR1 ?_ | with_reducible refine r_forR2 ?_ | with_reducible refine r_forT ?_ | with_reducible refine r_lcL ?_ | with_reducible refine r_lcR1 ?_
  | ((with_reducible refine r_kLcG ?hw ?_); (case hw => exact rfl)) | with_reducible refine r_kLcT ?_ | with_reducible refine r_yes ?_
  | with_reducible refine r_pnil ?_ | with_reducible refine r_pcons ?_
  | with_reducible refine r_fnK ?_ | ((with_reducible refine r_kFnK ?hl ?_); (case hl => exact rfl))
  | with_reducible refine r_isi_ii ?_ | with_reducible refine r_isi_ib ?_ | with_reducible refine r_isi_bi ?_ | with_reducible refine r_isi_bb ?_ | with_reducible refine r_isi_ss ?_ | with_reducible refine r_isi_is ?_ | with_reducible refine r_isi_it ?_
  | ((with_reducible refine' r_isi_tt ?h1 ?_); (case h1 => assumption))
  | with_reducible refine r_sfld ?_ | with_reducible refine r_gnil ?_ | with_reducible refine r_gcons ?_
  | ((with_reducible refine' r_gtup ?h1 ?h2 ?_); (case h1 => exact SqT.of (by assumption)); (case h2 => exact rfl))
  | with_reducible refine r_sl ?_ | with_reducible refine r_noPart ?_ | with_reducible refine r_part ?_ | with_reducible refine r_kPart ?_ | with_reducible refine r_m1 ?_ | with_reducible refine r_kM1 ?_ | with_reducible refine r_forS ?_ | with_reducible refine r_lcS ?_ | with_reducible refine r_lcTu ?_ | with_reducible refine r_lcK ?_ | with_reducible refine r_dcL ?_ | with_reducible refine r_dcK ?_ | with_reducible refine r_lc2L ?_ | with_reducible refine r_kLc2TL ?_ | with_reducible refine r_dcEn ?_ | with_reducible refine r_gslc ?_ | with_reducible refine r_lcEn ?_ | with_reducible refine r_lcEl ?_ | with_reducible refine r_lcR2 ?_ | with_reducible refine r_rg1 ?_ | with_reducible refine r_forET ?_ | with_reducible refine r_lenD ?_
  | ((with_reducible refine r_kDcG ?hw ?_); (case hw => exact rfl)) | with_reducible refine r_kDcT ?_
  | with_reducible refine r_fldaug ?_ | with_reducible refine r_daug ?_ | with_reducible refine r_rAdd ?_ | with_reducible refine r_rSub ?_ | with_reducible refine r_ddel ?_ | with_reducible refine r_bmF ?_ | with_reducible refine r_dget2 ?_ | with_reducible refine r_listItems ?_ | with_reducible refine r_bm0 ?_ | with_reducible refine r_lc2E ?_ | ((with_reducible refine r_kLc2G ?hw ?_); (case hw => exact rfl)) | with_reducible refine r_kLc2T ?_ | with_reducible refine r_forE ?_ | with_reducible refine r_orT ?_ | with_reducible refine r_din ?_ | with_reducible refine r_augS ?_ | with_reducible refine r_dnotin ?_ | with_reducible refine r_lcIT ?_ | with_reducible refine r_cont ?_ | with_reducible refine r_meth ?_ | with_reducible refine r_frz ?_ | with_reducible refine r_par3 ?_ | with_reducible refine r_kPar3 ?_ | with_reducible refine r_dz ?_ | with_reducible refine r_revL ?_ | with_reducible refine r_star ?_ | with_reducible refine r_int1 ?_ | with_reducible refine r_int1b ?_ | with_reducible refine r_min2 ?_ | with_reducible refine r_max2 ?_ | with_reducible refine r_gsub ?_)
local macro_rules | `(tactic| walk_at "rd") => `(tactic| repeat walk_at "rd1")
local macro_rules | `(tactic| walk_at "side") => `(tactic| first | assumption | exact Or.inr ⟨by decide, by decide⟩ | exact Or.inl ⟨by decide, by decide⟩ | (constructor <;> omega) | omega | decide | (refine Or.inl ⟨?_, ?_⟩ <;> omega) | (refine Or.inr ⟨?_, ?_⟩ <;> omega) | (refine ⟨?_, ?_, ?_⟩ <;> first | decide | omega))
local macro_rules | `(tactic| walk_at "val") => `(tactic| first | exact mv1 | exact mv2 | exact mv3 | exact mv4 | exact mv5 | exact mv6)
def sp_lwhy : Sp := fun vs H Q _ => ∃ (l p : Addr) (B : Bk) (a b : Str), vs = [.ref p, .str a, .str b] ∧ Mdl l H p B ∧ B.Ok ∧ a ∈ B.ks.map (·.1) ∧ b ∈ B.ks.map (·.1) ∧ Q (.str (wordB B.beg B.ks a b)) H
section
variable {P : Program} {w : World} {K : PySem.W.Frag} {mg : Str → Option Value} {base : Heap}
theorem ok__law_why {f : Addr} {fd : FuncData} (T : Tx K mg) (F : FnP K "_law_why" s__law_why f fd) : FnOk P w K mg base CX0 1 f fd ["_law_model_here", "_law_ahead", "_law_behind"] sp_lwhy := by
  have sc : FnScope ["_law_model_here", "_law_ahead", "_law_behind", "_law_rate", "_law_is_free", "_law_aim", "_law_can_stand_here"] ["_law_model_here", "_law_ahead", "_law_behind"] (defScope s__law_why) := ⟨rfl, rfl, rfl, by decide +kernel, rfl, by decide +kernel, by decide +kernel⟩
  refine F.ok sc (by rintro vs H Q E ⟨_, _, _, _, _, rfl, _⟩; rfl) (fun cdv A outer s H vs Q E hr h => ⟨_, PSs.nox ((pss_cons (ps_asg (pe_dget (hu_of hr) (pe_dget (hu_of hr) (pv 0) pe_str (fun _ _ => rfl)) (pv 1) (fun _ _ => rfl)) (pg_tupK (K := K) (n := 2) rfl rfl (pgs_cons (pg_name (i := 3) sc.nd rfl (by first | exact Or.inl rfl | exact Or.inr rfl)) (pgs_cons (pg_name (i := 4) sc.nd rfl (by first | exact Or.inl rfl | exact Or.inr rfl)) pgs_nil))))
      (pss_cons (ps_asg (pe_dget (hu_of hr) (pe_dget (hu_of hr) (pv 0) pe_str (fun _ _ => rfl)) (pv 2) (fun _ _ => rfl)) (pg_tupK (K := K) (n := 2) rfl rfl (pgs_cons (pg_name (i := 5) sc.nd rfl (by first | exact Or.inl rfl | exact Or.inr rfl)) (pgs_cons (pg_name (i := 6) sc.nd rfl (by first | exact Or.inl rfl | exact Or.inr rfl)) pgs_nil))))
      (pss_cons (ps_if (pt_cmpR op_gt (pv 3) (pv 5) (nomark _)) (pss_one (ps_ret pe_str)) pss_nil)
      (pss_cons (ps_if (PW.pt (pw_or (pt_not (pt_val (pv 6))) (pw_or (pt_cmpR op_eq (pv 3) pe_int (nomark _)) (pw_or1 (PW.pt (pw_and (pt_val (pv 4)) (pw_and1 (pt_cmpR op_eq (pe_dget (hu_of hr) (pv 0) pe_str (fun _ _ => rfl)) pe_str (nomark _))))))))) (pss_one (ps_ret pe_str)) pss_nil)
      (pss_one (ps_ret pe_str))))))), ?_⟩)
  obtain ⟨l, p, B, a, b, rfl, ⟨ad, kd, lv, kvs, hM⟩, ok, ha, hb, k⟩ := h
  have fin : ∀ s, wordF B.beg (look B.ks a) (look B.ks b) = s → Q (.str s) H := fun s e => by rw [← e]; exact k
  have nd := ok.kn.nm.nd
  have ma := lk_mem ha
  have mb := lk_mem hb
  have hra := (ok.kn.rt _ ma).1
  generalize look B.ks a = x at ma fin hra
  generalize look B.ks b = y at mb fin
  obtain ⟨ra, fa⟩ := x
  obtain ⟨rb, fb⟩ := y
  have hra : 0 ≤ ra := hra
  obtain ⟨ta, va, hta⟩ := hM.a.val nd ma
  obtain ⟨tb, vb, htb⟩ := hM.a.val nd mb
  have hp := hM.i
  have hk := hM.k
  walk_at "rd"
  refine w_dec (fun c1 => ?_) (fun c1 => ?_)
  · walk_at "rd"
    exact fin _ (by unfold wordF; rw [if_pos c1])
  have go1 : (¬ (fb = true ∧ ra > 0 ∧ (fa = false ∨ B.beg = "day"))) → wordF B.beg (ra, fa) (rb, fb) = "" := fun h => by
    unfold wordF
    rw [if_neg c1, if_neg h]
  have go2 : (fb = true ∧ ra > 0 ∧ (fa = false ∨ B.beg = "day")) → wordF B.beg (ra, fa) (rb, fb) = "free" := fun h => by
    unfold wordF
    rw [if_neg c1, if_pos h]
  walk_at "rd"
  refine w_nb (fun c2 => ?_) (fun c2 => ?_)
  · walk_at "rd"
    exact fin _ (go1 fun z => by rw [c2] at z; cases z.1)
  walk_at "rd"
  refine w_dec (fun c3 => ?_) (fun c3 => ?_)
  · walk_at "rd"
    exact fin _ (go1 fun z => by have := z.2.1; omega)
  walk_at "rd"
  refine w_b (fun c4 => ?_) (fun c4 => ?_)
  · walk_at "rd"
    refine w_dec (fun c5 => ?_) (fun c5 => ?_)
    · walk_at "rd"
      exact fin _ (go1 fun z => by
        rcases z.2.2 with h | h
        · rw [c4] at h; cases h
        · rw [c5] at h; exact absurd h (by decide +kernel))
    · walk_at "rd"
      exact fin _ (go2 ⟨c2, by omega, .inr (ok.bg.resolve_right c5)⟩)
  · walk_at "rd"
    exact fin _ (go2 ⟨c2, by omega, .inl c4⟩)
end
end Wp
set_option Elab.async false
set_option linter.all false
set_option maxRecDepth 100000
set_option maxHeartbeats 4000000
namespace Wp
open PySem PySem.Spec PyProof.Rows L2
abbrev s__law_all_why : Stmt := topS 74
local macro_rules | `(tactic| walk_at "val") => `(tactic| assumption)
local macro_rules | `(tactic| walk_at "rd1") => `(tactic| first
  | with_reducible refine r_seq ?_ | with_reducible refine r_next ?_ | with_reducible refine r_if ?_ | with_reducible refine r_asg ?_ | with_reducible refine r_gname ?_
  | with_reducible refine r_ret ?_ | with_reducible refine r_retN ?_ | with_reducible refine r_drop ?_ | with_reducible refine r_par ?_ | with_reducible refine r_kPar ?_
  | ((with_reducible refine' r_var ?hv ?_); (case hv => exact rfl)) | with_reducible refine r_c ?_ | with_reducible refine r_nil ?_ | with_reducible refine r_cons ?_
  | with_reducible refine r_fn ?_ | with_reducible refine r_cb ?_ | with_reducible refine r_op ?_ | with_reducible refine r_un ?_ | with_reducible refine r_I0 ?_
  | with_reducible refine r_pow5 ?_ | with_reducible refine r_pow6 ?_ | with_reducible refine r_pow7 ?_ | with_reducible refine r_pow9 ?_ | with_reducible refine r_pow18 ?_ | with_reducible refine r_pow20 ?_ | with_reducible refine r_pow30 ?_
  | with_reducible refine r_isN_non ?_ | with_reducible refine r_isN_ref ?_ | with_reducible refine r_isN_int ?_ | with_reducible refine r_isN_str ?_ | with_reducible refine r_isN_bl ?_ | with_reducible refine r_notN_non ?_ | with_reducible refine r_notN_ref ?_ | with_reducible refine r_notN_int ?_ | with_reducible refine r_notN_str ?_ | with_reducible refine r_notN_bl ?_
  | ((with_reducible refine r_I ?hc ?_); (case hc => walk_at "side")) | with_reducible refine r_U ?_
  | with_reducible refine r_eqI ?_ | with_reducible refine r_neI ?_ | with_reducible refine r_eqS ?_ | with_reducible refine r_neS ?_ | with_reducible refine r_eqB ?_ | with_reducible refine r_neB ?_
  | with_reducible refine r_chain ?_ | with_reducible refine r_test ?_ | with_reducible refine r_tB ?_ | with_reducible refine r_kTest ?_ | with_reducible refine r_not ?_
  | with_reducible refine r_and ?_ | with_reducible refine r_or ?_ | with_reducible refine r_tif ?_ | with_reducible refine r_andV ?_ | with_reducible refine r_orV ?_ | with_reducible refine r_notV ?_
  | with_reducible refine r_kAndV ?_ | with_reducible refine r_kOrV ?_ | with_reducible refine r_kNotV ?_
  | with_reducible refine w_T ?_ | with_reducible refine w_F ?_ | with_reducible refine w_NT ?_ | with_reducible refine w_NF ?_
  | with_reducible refine r_tup ?_ | with_reducible refine r_lst ?_ | with_reducible refine r_fld ?_ | with_reducible refine r_prop ?_ | ((with_reducible refine' r_aug ?h1 ?_); (case h1 => exact rfl)) | with_reducible refine r_ipI ?_ | with_reducible refine r_dget ?_ | with_reducible refine r_dput ?_ | with_reducible refine r_bm ?_
  | ((with_reducible refine' r_kDGetS ?h1 ?h2 ?_); (case h1 => assumption); (case h2 => walk_at "val"))
  | ((with_reducible refine' r_kBML ?h1 ?_); (case h1 => assumption))
  | with_reducible refine r_forL ?_ | with_reducible refine r_forR1 ?_ | with_reducible refine r_forR2 ?_ | with_reducible refine r_forT ?_ | with_reducible refine r_lcL ?_ | with_reducible refine r_lcR1 ?_
  | ((with_reducible refine r_kLcG ?hw ?_); (case hw => exact rfl)) | with_reducible refine r_kLcT ?_ | with_reducible refine r_yes ?_
  | with_reducible refine r_pnil ?_ | with_reducible refine r_pcons ?_
  | with_reducible refine r_fnK ?_ | ((with_reducible refine r_kFnK ?hl ?_); (case hl => exact rfl))
  | with_reducible refine r_isi_ii ?_ | with_reducible refine r_isi_ib ?_ | with_reducible refine r_isi_bi ?_ | with_reducible refine r_isi_bb ?_ | with_reducible refine r_isi_ss ?_ | with_reducible refine r_isi_is ?_ | with_reducible refine r_isi_it ?_
  | ((with_reducible refine' r_isi_tt ?h1 ?_); (case h1 => assumption))
  | with_reducible refine r_sfld ?_ | with_reducible refine r_gnil ?_ | with_reducible refine r_gcons ?_
  | ((with_reducible refine' r_gtup ?h1 ?h2 ?_); (case h1 => exact SqT.of (by assumption)); (case h2 => exact rfl))
  | with_reducible refine r_sl ?_ | with_reducible refine r_noPart ?_ | with_reducible refine r_part ?_ | with_reducible refine r_kPart ?_ | with_reducible refine r_m1 ?_ | with_reducible refine r_kM1 ?_ | with_reducible refine r_forS ?_ | with_reducible refine r_lcS ?_ | with_reducible refine r_lcTu ?_ | with_reducible refine r_lcK ?_ | with_reducible refine r_dcL ?_ | with_reducible refine r_dcK ?_ | with_reducible refine r_lc2L ?_ | with_reducible refine r_kLc2TL ?_ | with_reducible refine r_dcEn ?_ | with_reducible refine r_gslc ?_ | with_reducible refine r_lcEn ?_ | with_reducible refine r_lcEl ?_ | with_reducible refine r_lcR2 ?_ | with_reducible refine r_rg1 ?_ | with_reducible refine r_forET ?_ | with_reducible refine r_lenD ?_
  | ((with_reducible refine r_kDcG ?hw ?_); (case hw => exact rfl)) | with_reducible refine r_kDcT ?_
  | with_reducible refine r_fldaug ?_ | with_reducible refine r_daug ?_ | with_reducible refine r_rAdd ?_ | with_reducible refine r_rSub ?_ | with_reducible refine r_ddel ?_ | with_reducible refine r_bmF ?_ | with_reducible refine r_dget2 ?_ | with_reducible refine r_listItems ?_ | with_reducible refine r_bm0 ?_ | with_reducible refine r_lc2E ?_ | ((with_reducible refine r_kLc2G ?hw ?_); (case hw => exact rfl)) | with_reducible refine r_kLc2T ?_ | with_reducible refine r_forE ?_ | with_reducible refine r_orT ?_ | with_reducible refine r_din ?_ | with_reducible refine r_augS ?_ | with_reducible refine r_dnotin ?_ | with_reducible refine r_lcIT ?_ | with_reducible refine r_cont ?_ | with_reducible refine r_meth ?_ | with_reducible refine r_frz ?_ | with_reducible refine r_par3 ?_ | with_reducible refine r_kPar3 ?_ | with_reducible refine r_dz ?_ | with_reducible refine r_revL ?_ | with_reducible refine r_star ?_ | with_reducible refine r_int1 ?_ | with_reducible refine r_int1b ?_ | with_reducible refine r_min2 ?_ | with_reducible refine r_max2 ?_ | with_reducible refine r_gsub ?_)
local macro_rules | `(tactic| walk_at "rd") => `(tactic| repeat walk_at "rd1")
local macro_rules | `(tactic| walk_at "side") => `(tactic| first | assumption | exact Or.inr ⟨by decide, by decide⟩ | exact Or.inl ⟨by decide, by decide⟩ | (constructor <;> omega) | omega | decide | (refine Or.inl ⟨?_, ?_⟩ <;> omega) | (refine Or.inr ⟨?_, ?_⟩ <;> omega) | (refine ⟨?_, ?_, ?_⟩ <;> first | decide | omega))
local macro_rules | `(tactic| walk_at "val") => `(tactic| first | exact mv1 | exact mv2 | exact mv3 | exact mv4 | exact mv5 | exact mv6)
def sp_all_why : Sp := fun vs H Q _ => ∃ (l p : Addr) (B : Bk), vs = [.ref p] ∧ Mdl l H p B ∧ B.Ok ∧ B.LaidOk ∧ ∀ t H' ws, H t = none → Same H H' → H' t = some (.lst ws) → RL H' ws B.why → Q (.ref t) H'
theorem order_mem {B : Bk} (lok : B.LaidOk) : ∀ n ∈ B.order, n ∈ B.ks.map (·.1) := fun n hn => by
  cases hL : B.laid with
  | none => simp [Bk.order, hL] at hn
  | some ns => exact (lok ns hL).mem_iff.mp (by simpa [Bk.order, hL] using hn)
theorem order_len {B : Bk} (ok : B.Ok) (lok : B.LaidOk) : B.order.length ≤ 6 := by
  cases hL : B.laid with
  | none => simp [Bk.order, hL]
  | some ns =>
    have h1 := (lok ns hL).length_eq
    have h2 := ok.kn.hi
    rw [List.length_map] at h1
    simp [Bk.order, hL]
    omega
section
variable {P : Program} {w : World} {K : PySem.W.Frag} {mg : Str → Option Value} {base : Heap}
theorem ok__law_all_why {f : Addr} {fd : FuncData} (T : Tx K mg) (F : FnP K "_law_all_why" s__law_all_why f fd) (d__law_why : Dn P w K mg base CX0 1 "_law_why" ["_law_model_here", "_law_ahead", "_law_behind"] sp_lwhy) : FnOk P w K mg base CX0 2 f fd ["_law_model_here"] sp_all_why := by
  have sc : FnScope ["_law_model_here", "_law_found", "_law_queue", "_law_at", "_law_behind", "_law_ahead", "_law_tag"] ["_law_model_here"] (defScope s__law_all_why) := ⟨rfl, rfl, rfl, by decide +kernel, rfl, by decide +kernel, by decide +kernel⟩
  refine F.ok sc (by rintro vs H Q E ⟨_, _, _, rfl, _⟩; rfl) (fun cdv A outer s H vs Q E hr h => ⟨_, PSs.nox ((Evl.pss_cut (ps_par (i := 1) (j := 2) (by rfl) sc.nd rfl rfl (by decide) rfl rfl (pa_cons (pe_lst pa_nil) (pa_cons (pe_callTy (c_listK (K := K) rfl) (by rfl) T.b_list (by decide +kernel) (pa_cons (pe_orTK (K := K) rfl (pe_dget (hu_of hr) (pv 0) pe_str (fun _ _ => rfl)) (pe_one (pe_tup pa_nil))) pa_nil)) pa_nil)) (by rfl))
      (pss_cons (ps_for PassesOwn.never rfl (pi_enumK (K := K) rfl (by rfl) T.b_enumerate (pa_cons (pv 2) pa_nil)) (pg_tupK (K := K) (n := 2) rfl rfl (pgs_cons (pg_name (i := 3) sc.nd rfl (by first | exact Or.inl rfl | exact Or.inr rfl)) (pgs_cons (pg_name (i := 4) sc.nd rfl (by first | exact Or.inl rfl | exact Or.inr rfl)) pgs_nil))) (pss_one (ps_for PassesOwn.never rfl (pi_listK (K := K) rfl (pe_slice (sl_listK (K := K) rfl) (pv 2) po_none (po_some (pv 3)))) (pg_name (i := 5) sc.nd rfl (by first | exact Or.inl rfl | exact Or.inr rfl)) (pss_one (ps_set (i := 1) sc.nd rfl (by first | exact Or.inl rfl | exact Or.inr rfl) (pe_op op_cat (pv 1) (pe_lc (own := [("_law_tag", 6)]) (by rfl) sc.nd (pi_listK (K := K) rfl (pe_lst (pa_cons (pe_fn d__law_why (hr.mono (by decide)) pass0 (pa_cons (pv 0) (pa_cons (pv 5) (pa_cons (pv 4) pa_nil)))) pa_nil))) (blkOk_by (own := [("_law_tag", 6)]) (N := ["_law_model_here", "_law_found", "_law_queue", "_law_at", "_law_behind", "_law_ahead", "_law_tag"]) (sc := defScope s__law_all_why) (by decide +kernel)) (fun _ _ _ _ _ => (pg_name (i := 6) sc.nd rfl (by first | exact Or.inl rfl | exact Or.inr rfl))) (fun _ _ _ _ _ => (pts_one (pt_cmpR op_ne (pv 6) pe_str (nomark _)))) (fun _ _ _ _ _ => (pe_tup (pa_cons (pv 5) (pa_cons (pv 4) (pa_cons (pv 6) pa_nil))))))))))))
      (pss_one (ps_ret (pe_callB (c_sortD (K := K) rfl hr) (by rfl) T.b_sorted (by decide +kernel) (pa_cons (pv 1) pa_nil))))))), ?_⟩)
  obtain ⟨l, p, B, rfl, ⟨ad, kd, lv, kvs, hM⟩, ok, lok, k⟩ := h
  have hord := order_mem lok
  have hlen := order_len ok lok
  refine r_cut (fun σ' H' => ∃ f0 q, σ' = [some (.ref p), some (.ref f0), some (.ref q), none, none, none, none] ∧ Same H H' ∧ H' f0 = some (.lst []) ∧ H' q = some (.lst (B.order.map V.str))) ?_ ?_
  · walk_at "rd"
    refine r_kLst fun f0 H1 nf0 e1 hf0 => ?_
    have hM1 := hM.keep e1
    have hd := hM1.d
    walk_at "rd"
    refine r_kDGetS hM1.i mv3 ?_
    have empty : ∀ {tl : Addr} {H2 : Hp}, B.order = [] → H2 tl = some (.tup []) → H2 tl = some (.tup (B.order.map V.str)) := fun h1 h2 => by rw [h1]; exact h2
    cases hL : B.laid with
    | none =>
      have ho : B.order = [] := by simp [Bk.order, hL]
      rw [hL] at hd
      obtain rfl : lv = .non := hd
      refine r_kOrTn ?_
      walk_at "rd"
      refine r_kTup fun t H2 nt e2 ht => ?_
      walk_at "rd"
      refine r_listT (SqT.of (empty ho ht)) fun q H3 nq e3 hq => ?_
      walk_at "rd"
      exact ⟨f0, q, rfl, (e1.trans e2).trans e3, e3 _ _ (e2 _ _ hf0), hq⟩
    | some ns =>
      have ho : B.order = ns := by simp [Bk.order, hL]
      rw [hL] at hd
      obtain ⟨t, rfl, ht⟩ := hd
      refine r_kOrTt ht.sq (fun _ => ?_) (fun he => ?_)
      · rw [← ho] at ht
        walk_at "rd"
        refine r_listT ht.sq fun q H3 nq e3 hq => ?_
        walk_at "rd"
        exact ⟨f0, q, rfl, e1.trans e3, e3 _ _ hf0, hq⟩
      · have ho2 : B.order = [] := by rw [ho]; exact List.map_eq_nil_iff.mp he
        walk_at "rd"
        refine r_kTup fun t2 H2 nt2 e2 ht2 => ?_
        walk_at "rd"
        refine r_listT (SqT.of (empty ho2 ht2)) fun q H3 nq e3 hq => ?_
        walk_at "rd"
        exact ⟨f0, q, rfl, (e1.trans e2).trans e3, e3 _ _ (e2 _ _ hf0), hq⟩
  rintro σ' H1 ⟨f0, q, rfl, e1, hf0, hq⟩
  walk_at "rd"
  refine r_kForE (xs := B.order.map V.str) (fun i σ' H' => ∃ (fo : Addr) (vs : List V) (y3 y4 y5 y6 : Option V), σ' = [some (.ref p), some (.ref fo), some (.ref q), y3, y4, y5, y6] ∧ Same H1 H' ∧ H' fo = some (.lst vs) ∧ RL H' vs (rowsOf (wordB B.beg B.ks) (prs B.order i))) (SqL.of hq)
    ⟨f0, [], _, _, _, _, rfl, Same.refl _, hf0, RL.nil⟩ (fun i σ' H' ⟨_, _, _, _, _, _, _, e, _⟩ => SqL.of (e _ _ hq)) ?_ ?_
  · rintro i x T2 σ' H2 H3 hx ⟨fo, vs, y3, y4, y5, y6, rfl, e2, hfo, hR⟩ nT e3 hT
    obtain ⟨b, rfl, hb⟩ := strs_get hx
    have hil := (List.getElem?_eq_some_iff.mp hb).1
    walk_at "rd"
    refine r_slL_take (SqL.of (e3 _ _ (e2 _ _ hq))) (by omega) fun ts H4 nts e4 hts => ?_
    rw [Int.toNat_natCast, ← List.map_take] at hts
    have e24 := e3.trans e4
    refine r_kForL (xs := (B.order.take i).map V.str) (fun j σ' H' => ∃ (fo : Addr) (vs : List V) (y5 y6 : Option V), σ' = [some (.ref p), some (.ref fo), some (.ref q), some (.int (i : Nat)), some (.str b), y5, y6] ∧ Same H4 H' ∧ H' fo = some (.lst vs) ∧ RL H' vs (rowsOf (wordB B.beg B.ks) (prs B.order i ++ ((B.order.take i).take j).map (fun a => (a, b))))) (SqL.of hts)
      ⟨fo, vs, _, _, rfl, Same.refl _, e24 _ _ hfo, by rw [List.take_zero, List.map_nil, List.append_nil]; exact hR.keep fun t xs h => e24 _ _ h⟩ (fun j σ' H' ⟨_, _, _, _, _, e, _⟩ => SqL.of (e _ _ hts)) ?_ ?_
    · rintro j z σ' H5 hz ⟨fo5, vs5, y5, y6, rfl, e5, hfo5, hR5⟩
      obtain ⟨a, rfl, haj⟩ := strs_get hz
      have hpl := prs_len (ns := B.order) (i := i)
      have hmul : i * B.order.length ≤ 6 * 6 := Nat.mul_le_mul (by omega) hlen
      have hl5 := hR5.len
      have hl6 := rowsOf_len (w := wordB B.beg B.ks) (ps := prs B.order i ++ ((B.order.take i).take j).map (fun a => (a, b)))
      rw [List.length_append, List.length_map, List.length_take, List.length_take] at hl6
      have ma : a ∈ B.order := List.mem_of_mem_take (List.mem_of_getElem? haj)
      have mb : b ∈ B.order := List.mem_of_getElem? hb
      have e05 := ((e1.trans e2).trans e24).trans e5
      walk_at "rd"
      refine ⟨l, p, B, a, b, rfl, ⟨_, _, _, _, hM.keep e05⟩, ok, hord a ma, hord b mb, ?_⟩
      walk_at "rd"
      refine r_kLst fun l1 H6 nl1 e6 hl1 => ?_
      walk_at "rd"
      refine r_kLcL (xs := [V.str (wordB B.beg B.ks a b)]) (fun Db n H' => Same H6 H' ∧ ∃ ws, H' Db = some (.lst ws) ∧ RL H' ws (if n = 0 then [] else rowsOf (wordB B.beg B.ks) [(a, b)])) (SqL.of hl1) (fun Db H' _ e h => ⟨e, [], h, RL.nil⟩) (fun Db n H' ⟨e, _⟩ => SqL.of (e _ _ hl1)) ?_ ?_
      · rintro Db n x H7 nDb hx ⟨e7, ws, hDb, hRw⟩
        obtain ⟨rfl, rfl⟩ : n = 0 ∧ x = V.str (wordB B.beg B.ks a b) := by
          cases n with
          | zero => exact ⟨rfl, (Option.some.inj hx).symm⟩
          | succ n => simp at hx
        rw [if_pos rfl] at hRw
        walk_at "rd"
        refine w_ndec (fun hne => ?_) (fun hin => ?_)
        · walk_at "rd"
          refine r_kTup fun tq H8 ntq e8 htq => ?_
          have hl3 := hRw.len
          refine r_kLcE (e8 _ _ hDb) (by rw [hl3]; decide) fun H9 b9 h9 => ?_
          have tk : ∀ u xs, H8 u = some (.tup xs) → H9 u = some (.tup xs) := fun u xs hu => b9 _ _ hu (ne_of hu (e8 _ _ hDb) (by intro z; cases z))
          refine ⟨Same.mut (e7.trans e8) b9 nDb, _, h9, ?_⟩
          have er := rowsOf_snoc (w := wordB B.beg B.ks) (ps := []) (p := (a, b)) hne
          rw [if_neg (by omega)]
          rw [List.nil_append, rowsOf_nil] at er
          rw [er]
          exact (hRw.keep fun t xs h => tk _ _ (e8 _ _ h)).snoc ⟨tq, rfl, tk _ _ htq⟩
        · refine ⟨e7, ws, hDb, ?_⟩
          have er := rowsOf_skip (w := wordB B.beg B.ks) (ps := []) (p := (a, b)) hin
          rw [if_neg (by omega)]
          rw [List.nil_append, rowsOf_nil] at er
          rw [er]
          exact hRw
      rintro Db H7 nDb ⟨e7, ws, hDb, hRw⟩
      rw [if_neg (by show ¬ 1 = 0; decide)] at hRw
      have hl7 := hRw.len
      have hl8 := rowsOf_len (w := wordB B.beg B.ks) (ps := [(a, b)])
      rw [List.length_singleton] at hl8
      have e57 := e6.trans e7
      refine r_cat (e57 _ _ hfo5) hDb (by omega) fun fn H8 nfn e8 hfn => ?_
      walk_at "rd"
      refine ⟨fn, _, _, _, rfl, (e5.trans e57).trans e8, hfn, ?_⟩
      rw [take_more haj, List.map_append, ← List.append_assoc]
      have ea : ∀ ps, rowsOf (wordB B.beg B.ks) (ps ++ [(a, b)]) = rowsOf (wordB B.beg B.ks) ps ++ rowsOf (wordB B.beg B.ks) [(a, b)] := fun ps => by
        unfold rowsOf
        rw [List.map_append, List.filter_append]
      rw [List.map_cons, List.map_nil, ea]
      exact (hR5.keep fun t xs h => e8 _ _ (e57 _ _ h)).app (hRw.keep fun t xs h => e8 _ _ h)
    · rintro σ' H5 ⟨fo5, vs5, y5, y6, rfl, e5, hfo5, hR5⟩
      rw [List.length_map, List.take_length] at hR5
      exact ⟨fo5, vs5, _, _, _, _, rfl, (e2.trans e24).trans e5, hfo5, by rw [prs_next hb]; exact hR5⟩
  rintro σ' H2 ⟨fo, vs, y3, y4, y5, y6, rfl, e2, hfo, hR⟩
  rw [List.length_map] at hR
  walk_at "rd"
  have hps : (prs B.order B.order.length).length ≤ 36 := Nat.le_trans prs_len (Nat.mul_le_mul hlen hlen)
  refine r_sortR (.inl (SqL.of hfo)) hR ?_ fun t H4 ws4 nt e4 ht hR4 => ?_
  · have := rowsOf_len (w := wordB B.beg B.ks) (ps := prs B.order B.order.length)
    omega
  exact k t H4 ws4 ((e1.trans e2).free nt) ((e1.trans e2).trans e4) ht hR4
end
end Wp
set_option Elab.async false
set_option linter.all false
set_option maxRecDepth 100000
set_option maxHeartbeats 4000000
/-! the law's greatest loss. -/
namespace Wp
open PySem PySem.Spec PyProof.Rows L2
abbrev s__law_greatest : Stmt := topS 75
local macro_rules | `(tactic| walk_at "val") => `(tactic| assumption)
local macro_rules | `(tactic| walk_at "rd1") => `(tactic| first
  | with_reducible refine r_seq ?_ | with_reducible refine r_next ?_ | with_reducible refine r_if ?_ | with_reducible refine r_asg ?_ | with_reducible refine r_gname ?_
  | with_reducible refine r_ret ?_ | with_reducible refine r_retN ?_ | with_reducible refine r_drop ?_ | with_reducible refine r_par ?_ | with_reducible refine r_kPar ?_
  | ((with_reducible refine' r_var ?hv ?_); (case hv => exact rfl)) | with_reducible refine r_c ?_ | with_reducible refine r_nil ?_ | with_reducible refine r_cons ?_
  | with_reducible refine r_fn ?_ | with_reducible refine r_cb ?_ | with_reducible refine r_op ?_ | with_reducible refine r_un ?_ | with_reducible refine r_I0 ?_
  | with_reducible refine r_pow5 ?_ | with_reducible refine r_pow6 ?_ | with_reducible refine r_pow7 ?_ | with_reducible refine r_pow9 ?_ | with_reducible refine r_pow18 ?_ | with_reducible refine r_pow20 ?_ | with_reducible refine r_pow30 ?_
  | with_reducible refine r_isN_non ?_ | with_reducible refine r_isN_ref ?_ | with_reducible refine r_isN_int ?_ | with_reducible refine r_isN_str ?_ | with_reducible refine r_isN_bl ?_ | with_reducible refine r_notN_non ?_ | with_reducible refine r_notN_ref ?_ | with_reducible refine r_notN_int ?_ | with_reducible refine r_notN_str ?_ | with_reducible refine r_notN_bl ?_
  | ((with_reducible refine r_I ?hc ?_); (case hc => walk_at "side")) | with_reducible refine r_U ?_
  | with_reducible refine r_eqI ?_ | with_reducible refine r_neI ?_ | with_reducible refine r_eqS ?_ | with_reducible refine r_neS ?_ | with_reducible refine r_eqB ?_ | with_reducible refine r_neB ?_
  | with_reducible refine r_chain ?_ | with_reducible refine r_test ?_ | with_reducible refine r_tB ?_ | with_reducible refine r_kTest ?_ | with_reducible refine r_not ?_
  | with_reducible refine r_and ?_ | with_reducible refine r_or ?_ | with_reducible refine r_tif ?_ | with_reducible refine r_andV ?_ | with_reducible refine r_orV ?_ | with_reducible refine r_notV ?_
  | with_reducible refine r_kAndV ?_ | with_reducible refine r_kOrV ?_ | with_reducible refine r_kNotV ?_
  | with_reducible refine w_T ?_ | with_reducible refine w_F ?_ | with_reducible refine w_NT ?_ | with_reducible refine w_NF ?_
  | with_reducible refine r_tup ?_ | with_reducible refine r_lst ?_ | with_reducible refine r_fld ?_ | with_reducible refine r_prop ?_ | ((with_reducible refine' r_aug ?h1 ?_); (case h1 => exact rfl)) | with_reducible refine r_ipI ?_ | with_reducible refine r_dget ?_ | with_reducible refine r_dput ?_ | with_reducible refine r_bm ?_
  | ((with_reducible refine' r_kDGetS ?h1 ?h2 ?_); (case h1 => assumption); (case h2 => walk_at "val"))
  | ((with_reducible refine' r_kBML ?h1 ?_); (case h1 => assumption))
  | with_reducible refine r_forL ?_ | with_reducible refine r_forR1 ?_ | with_reducible refine r_forR2 ?_ | with_reducible refine r_forT ?_ | with_reducible refine r_lcL ?_ | with_reducible refine r_lcR1 ?_
  | ((with_reducible refine r_kLcG ?hw ?_); (case hw => exact rfl)) | with_reducible refine r_kLcT ?_ | with_reducible refine r_yes ?_
  | with_reducible refine r_pnil ?_ | with_reducible refine r_pcons ?_
  | with_reducible refine r_fnK ?_ | ((with_reducible refine r_kFnK ?hl ?_); (case hl => exact rfl))
  | with_reducible refine r_isi_ii ?_ | with_reducible refine r_isi_ib ?_ | with_reducible refine r_isi_bi ?_ | with_reducible refine r_isi_bb ?_ | with_reducible refine r_isi_ss ?_ | with_reducible refine r_isi_is ?_ | with_reducible refine r_isi_it ?_
  | ((with_reducible refine' r_isi_tt ?h1 ?_); (case h1 => assumption))
  | with_reducible refine r_sfld ?_ | with_reducible refine r_gnil ?_ | with_reducible refine r_gcons ?_
  | ((with_reducible refine' r_gtup ?h1 ?h2 ?_); (case h1 => exact SqT.of (by assumption)); (case h2 => exact rfl))
  | with_reducible refine r_sl ?_ | with_reducible refine r_noPart ?_ | with_reducible refine r_part ?_ | with_reducible refine r_kPart ?_ | with_reducible refine r_m1 ?_ | with_reducible refine r_kM1 ?_ | with_reducible refine r_forS ?_ | with_reducible refine r_lcS ?_ | with_reducible refine r_lcTu ?_ | with_reducible refine r_lcK ?_ | with_reducible refine r_dcL ?_ | with_reducible refine r_dcK ?_ | with_reducible refine r_lc2L ?_ | with_reducible refine r_kLc2TL ?_ | with_reducible refine r_dcEn ?_ | with_reducible refine r_gslc ?_ | with_reducible refine r_lcEn ?_ | with_reducible refine r_lcEl ?_ | with_reducible refine r_lcR2 ?_ | with_reducible refine r_rg1 ?_ | with_reducible refine r_forET ?_ | with_reducible refine r_lenD ?_
  | ((with_reducible refine r_kDcG ?hw ?_); (case hw => exact rfl)) | with_reducible refine r_kDcT ?_
  | with_reducible refine r_fldaug ?_ | with_reducible refine r_daug ?_ | with_reducible refine r_rAdd ?_ | with_reducible refine r_rSub ?_ | with_reducible refine r_ddel ?_ | with_reducible refine r_bmF ?_ | with_reducible refine r_dget2 ?_ | with_reducible refine r_listItems ?_ | with_reducible refine r_bm0 ?_ | with_reducible refine r_lc2E ?_ | ((with_reducible refine r_kLc2G ?hw ?_); (case hw => exact rfl)) | with_reducible refine r_kLc2T ?_ | with_reducible refine r_forE ?_ | with_reducible refine r_orT ?_ | with_reducible refine r_din ?_ | with_reducible refine r_augS ?_ | with_reducible refine r_dnotin ?_ | with_reducible refine r_lcIT ?_ | with_reducible refine r_cont ?_ | with_reducible refine r_meth ?_ | with_reducible refine r_frz ?_ | with_reducible refine r_par3 ?_ | with_reducible refine r_kPar3 ?_ | with_reducible refine r_dz ?_ | with_reducible refine r_revL ?_ | with_reducible refine r_star ?_ | with_reducible refine r_int1 ?_ | with_reducible refine r_int1b ?_ | with_reducible refine r_min2 ?_ | with_reducible refine r_max2 ?_ | with_reducible refine r_gsub ?_)
local macro_rules | `(tactic| walk_at "rd") => `(tactic| repeat walk_at "rd1")
local macro_rules | `(tactic| walk_at "side") => `(tactic| first | assumption | exact Or.inr ⟨by decide, by decide⟩ | exact Or.inl ⟨by decide, by decide⟩ | (constructor <;> omega) | omega | decide | (refine Or.inl ⟨?_, ?_⟩ <;> omega) | (refine Or.inr ⟨?_, ?_⟩ <;> omega) | (refine ⟨?_, ?_, ?_⟩ <;> first | decide | omega))
local macro_rules | `(tactic| walk_at "val") => `(tactic| first | exact mv1 | exact mv2 | exact mv3 | exact mv4 | exact mv5 | exact mv6)
def sp_lgreatest : Sp := fun vs H Q _ => ∃ (l p : Addr) (B : Bk), vs = [.ref p] ∧ Mdl l H p B ∧ B.Ok ∧ B.LaidOk ∧ ∀ H', Same H H' → Q (oV (lossB B)) H'
theorem prs_in {ns : List Str} : ∀ {n i j : Nat} {a b : Str}, i < j → j < n → ns[i]? = some a → ns[j]? = some b → (a, b) ∈ prs ns n
  | 0, i, j, a, b, h1, h2, _, _ => by omega
  | n + 1, i, j, a, b, h1, h2, ha, hb => by
    by_cases hj : j = n
    · subst hj
      rw [prs_next hb]
      refine List.mem_append_right _ (List.mem_map.mpr ⟨a, ?_, rfl⟩)
      exact List.mem_of_getElem? (by rw [List.getElem?_take_of_lt h1]; exact ha)
    · have ih := prs_in (n := n) h1 (by omega) ha hb
      unfold prs
      exact List.mem_append_left _ ih
/-- no word is about the rate: the rates do not fall -/
theorem mono_of {B : Bk} (h : ("rate" : Str) ∉ B.why.map (fun r => r.2.2)) : ∀ (i j : Nat) (a b : Str), i ≤ j → B.order[i]? = some a → B.order[j]? = some b → rtB B a ≤ rtB B b := fun i j a b hij ha hb => by
  by_cases e : i = j
  · subst e
    rw [ha] at hb
    obtain rfl := Option.some.inj hb
    exact Int.le_refl _
  · refine Int.not_lt.mp fun hlt => h ?_
    have hj := (List.getElem?_eq_some_iff.mp hb).1
    have hp := prs_in (n := B.order.length) (by omega) hj ha hb
    have hw : wordB B.beg B.ks a b = "rate" := by
      unfold wordB wordF
      exact if_pos hlt
    refine List.mem_map.mpr ⟨(a, b, "rate"), ?_, rfl⟩
    unfold Bk.why
    rw [srtR_mem]
    unfold rowsOf
    refine List.mem_filter.mpr ⟨List.mem_map.mpr ⟨(a, b), hp, by rw [hw]⟩, (by decide +kernel : (!decide (("rate" : Str) = "")) = true)⟩
/-- the law's own peak -/
theorem loss_pk {B : Bk} (ok : B.Ok) (lok : B.LaidOk) (h : ("rate" : Str) ∉ B.why.map (fun r => r.2.2)) : mx0 (winsB B) = pkW (rtB B) (frB B) (dayB B) (mx0 B.ls) B.due B.order B.order.length :=
  pk_win (mono_of h) (fun s hs => (ok.kn.rt _ (lk_mem (order_in lok s hs))).1) (mx0_nonneg _) ok.d0 _
section
variable {P : Program} {w : World} {K : PySem.W.Frag} {mg : Str → Option Value} {base : Heap}
theorem ok__law_greatest {f : Addr} {fd : FuncData} (T : Tx K mg) (F : FnP K "_law_greatest" s__law_greatest f fd) (d__law_all_why : Dn P w K mg base CX0 2 "_law_all_why" ["_law_model_here"] sp_all_why) : FnOk P w K mg base CX0 3 f fd ["_law_model_here"] sp_lgreatest := by
  have sc : FnScope ["_law_model_here", "_law_queue", "_law_peak", "_law_at", "_law_aim", "_law_fixed", "_law_freed", "_law_late", "_law_ahead", "_law_behind", "_law_tag", "_law_label"] ["_law_model_here"] (defScope s__law_greatest) := ⟨rfl, rfl, rfl, by decide +kernel, rfl, by decide +kernel, by decide +kernel⟩
  refine F.ok sc (by rintro vs H Q E ⟨_, _, _, rfl, _⟩; rfl) (fun cdv A outer s H vs Q E hr h => ⟨_, PSs.nox ((Evl.pss_cut (ps_par (i := 1) (j := 2) (by rfl) sc.nd rfl rfl (by decide) rfl rfl (pa_cons (pe_callTy (c_listK (K := K) rfl) (by rfl) T.b_list (by decide +kernel) (pa_cons (pe_orTK (K := K) rfl (pe_dget (hu_of hr) (pv 0) pe_str (fun _ _ => rfl)) (pe_one (pe_tup pa_nil))) pa_nil)) (pa_cons pe_int pa_nil)) (by rfl))
      (pss_cons (ps_if (pt_cmpR (in_seqK (K := K) rfl) pe_str (pe_lc (own := [("_law_ahead", 8), ("_law_behind", 9), ("_law_tag", 10)]) (by rfl) sc.nd (pi_listK (K := K) rfl (pe_fn d__law_all_why (hr.mono (by decide)) pass0 (pa_cons (pv 0) pa_nil))) (blkOk_by (own := [("_law_ahead", 8), ("_law_behind", 9), ("_law_tag", 10)]) (N := ["_law_model_here", "_law_queue", "_law_peak", "_law_at", "_law_aim", "_law_fixed", "_law_freed", "_law_late", "_law_ahead", "_law_behind", "_law_tag", "_law_label"]) (sc := defScope s__law_greatest) (by decide +kernel)) (fun _ _ _ _ _ => (pg_tupK (K := K) (n := 3) rfl rfl (pgs_cons (pg_name (i := 8) sc.nd rfl (by first | exact Or.inl rfl | exact Or.inr rfl)) (pgs_cons (pg_name (i := 9) sc.nd rfl (by first | exact Or.inl rfl | exact Or.inr rfl)) (pgs_cons (pg_name (i := 10) sc.nd rfl (by first | exact Or.inl rfl | exact Or.inr rfl)) pgs_nil))))) (fun _ _ _ _ _ => pts_nil) (fun _ _ _ _ _ => (pv 10))) (by rfl)) (pss_one (ps_ret pe_non)) pss_nil)
      (pss_cons (ps_for PassesOwn.never rfl (pi_enumK (K := K) rfl (by rfl) T.b_enumerate (pa_cons (pv 1) pa_nil)) (pg_tupK (K := K) (n := 2) rfl rfl (pgs_cons (pg_name (i := 3) sc.nd rfl (by first | exact Or.inl rfl | exact Or.inr rfl)) (pgs_cons (pg_name (i := 4) sc.nd rfl (by first | exact Or.inl rfl | exact Or.inr rfl)) pgs_nil))) (pss_one (ps_if (pt_val (pe_ix (ix_tupK (K := K) rfl) (pe_dget (hu_of hr) (pe_dget (hu_of hr) (pv 0) pe_str (fun _ _ => rfl)) (pv 4) (fun _ _ => rfl)) pe_int (fun _ _ => rfl))) (pss_cons (ps_setLc (i := 5) (own := [("_law_label", 11)]) (by rfl) sc.nd rfl rfl (sw_true rfl rfl rfl (by decide +kernel)) (pi_listK (K := K) rfl (pe_slice (sl_listK (K := K) rfl) (pv 1) po_none (po_some (pv 3)))) (blkOk_by (own := [("_law_label", 11)]) (N := ["_law_model_here", "_law_queue", "_law_peak", "_law_at", "_law_aim", "_law_fixed", "_law_freed", "_law_late", "_law_ahead", "_law_behind", "_law_tag", "_law_label"]) (sc := defScope s__law_greatest) (by decide +kernel)) (fun _ _ _ _ _ => (pg_name (i := 11) sc.nd rfl (by first | exact Or.inl rfl | exact Or.inr rfl))) (fun _ _ _ _ _ => (pts_one (pt_not (pt_val (pe_ix (ix_tupK (K := K) rfl) (pe_dget (hu_of hr) (pe_dget (hu_of hr) (pv 0) pe_str (fun _ _ => rfl)) (pv 11) (fun _ _ => rfl)) pe_int (fun _ _ => rfl)))))) (fun _ _ _ _ _ => (pe_ix (ix_tupK (K := K) rfl) (pe_dget (hu_of hr) (pe_dget (hu_of hr) (pv 0) pe_str (fun _ _ => rfl)) (pv 11) (fun _ _ => rfl)) pe_int (fun _ _ => rfl))))
      (pss_cons (ps_setLc (i := 6) (own := [("_law_label", 11)]) (by rfl) sc.nd rfl rfl (sw_true rfl rfl rfl (by decide +kernel)) (pi_listK (K := K) rfl (pe_slice (sl_listK (K := K) rfl) (pv 1) po_none (po_some (pv 3)))) (blkOk_by (own := [("_law_label", 11)]) (N := ["_law_model_here", "_law_queue", "_law_peak", "_law_at", "_law_aim", "_law_fixed", "_law_freed", "_law_late", "_law_ahead", "_law_behind", "_law_tag", "_law_label"]) (sc := defScope s__law_greatest) (by decide +kernel)) (fun _ _ _ _ _ => (pg_name (i := 11) sc.nd rfl (by first | exact Or.inl rfl | exact Or.inr rfl))) (fun _ _ _ _ _ => (pts_one (pt_cmpR op_eq (pe_dget (hu_of hr) (pv 0) pe_str (fun _ _ => rfl)) pe_str (nomark _)))) (fun _ _ _ _ _ => (pe_ix (ix_tupK (K := K) rfl) (pe_dget (hu_of hr) (pe_dget (hu_of hr) (pv 0) pe_str (fun _ _ => rfl)) (pv 11) (fun _ _ => rfl)) pe_int (fun _ _ => rfl))))
      (pss_cons (ps_set (i := 7) sc.nd rfl (by first | exact Or.inl rfl | exact Or.inr rfl) (pe_op op_mul (pe_callB (c_maxK (K := K) rfl rfl) (by rfl) T.b_max (by decide +kernel) (pa_cons (pe_op op_cat (pe_op op_cat (pe_lst (pa_cons pe_int pa_nil)) (pv 5)) (pv 6)) pa_nil)) (pe_op op_add (pe_dget (hu_of hr) (pv 0) pe_str (fun _ _ => rfl)) pe_int)))
      (pss_one (ps_set (i := 2) sc.nd rfl (by first | exact Or.inl rfl | exact Or.inr rfl) (pe_callB (c_max2 rfl) (by rfl) T.b_max (by decide +kernel) (pa_cons (pv 2) (pa_cons (pe_op op_add (pe_op op_mul (pe_callB (c_maxK (K := K) rfl rfl) (by rfl) T.b_max (by decide +kernel) (pa_cons (pe_op op_cat (pe_lst (pa_cons pe_int pa_nil)) (pv 5)) pa_nil)) (pe_callB (c_maxK (K := K) rfl rfl) (by rfl) T.b_max (by decide +kernel) (pa_cons (pe_dget (hu_of hr) (pv 0) pe_str (fun _ _ => rfl)) pa_nil))) (pv 7)) pa_nil)))))))) pss_nil)))
      (pss_one (ps_ret (pv 2))))))), ?_⟩)
  obtain ⟨l, p, B, rfl, ⟨ad, kd, lv, kvs, hM⟩, ok, lok, k⟩ := h
  have hord := order_in lok
  have hlen := order_le ok lok
  have nd := ok.kn.nm.nd
  have mem : ∀ n ∈ B.order, (n, rtB B n, frB B n) ∈ B.ks := fun n hn => lk_mem (hord n hn)
  refine r_cut (fun σ' H' => ∃ q, σ' = [some (.ref p), some (.ref q), some (.int 0), none, none, none, none, none, none, none, none, none] ∧ Same H H' ∧ H' q = some (.lst (B.order.map V.str))) ?_ ?_
  · walk_at "rd"
    refine r_kDGetS hM.i mv3 ?_
    have hd := hM.d
    have empty : ∀ {tl : Addr} {H2 : Hp}, B.order = [] → H2 tl = some (.tup []) → H2 tl = some (.tup (B.order.map V.str)) := fun h1 h2 => by rw [h1]; exact h2
    cases hL : B.laid with
    | none =>
      have ho : B.order = [] := by simp [Bk.order, hL]
      rw [hL] at hd
      obtain rfl : lv = .non := hd
      refine r_kOrTn ?_
      walk_at "rd"
      refine r_kTup fun t H2 nt e2 ht => ?_
      walk_at "rd"
      refine r_listT (SqT.of (empty ho ht)) fun q H3 nq e3 hq => ?_
      walk_at "rd"
      exact ⟨q, rfl, e2.trans e3, hq⟩
    | some ns =>
      have ho : B.order = ns := by simp [Bk.order, hL]
      rw [hL] at hd
      obtain ⟨t, rfl, ht⟩ := hd
      refine r_kOrTt ht.sq (fun _ => ?_) (fun he => ?_)
      · rw [← ho] at ht
        walk_at "rd"
        refine r_listT ht.sq fun q H3 nq e3 hq => ?_
        walk_at "rd"
        exact ⟨q, rfl, e3, hq⟩
      · have ho2 : B.order = [] := by rw [ho]; exact List.map_eq_nil_iff.mp he
        walk_at "rd"
        refine r_kTup fun t2 H2 nt2 e2 ht2 => ?_
        walk_at "rd"
        refine r_listT (SqT.of (empty ho2 ht2)) fun q H3 nq e3 hq => ?_
        walk_at "rd"
        exact ⟨q, rfl, e2.trans e3, hq⟩
  rintro σ' H1 ⟨q, rfl, e1, hq⟩
  walk_at "rd"
  refine ⟨l, p, B, rfl, ⟨ad, kd, lv, kvs, hM.keep e1⟩, ok, lok, fun t H2 ws nt e2 ht hR => ?_⟩
  walk_at "rd"
  have nwl : ws.length ≤ 36 := by
    rw [hR.len]
    have h1 := rowsOf_len (w := wordB B.beg B.ks) (ps := prs B.order B.order.length)
    have h2 : (prs B.order B.order.length).length ≤ 6 * 6 := Nat.le_trans prs_len (Nat.mul_le_mul hlen hlen)
    have h3 : B.why.length = (rowsOf (wordB B.beg B.ks) (prs B.order B.order.length)).length := by
      unfold Bk.why
      rw [srtR_len]
    omega
  have e02 := e1.trans e2
  refine r_kLcL (xs := ws) (fun Da i H' => Same H2 H' ∧ H' Da = some (.lst ((B.why.take i).map fun r => V.str r.2.2))) (SqL.of ht) (fun Da H' _ e h => ⟨e, h⟩) (fun Da i H' h => SqL.of (h.1 _ _ ht)) ?_ ?_
  · rintro Da i x H3 nDa hx ⟨e3, hDa⟩
    obtain ⟨tr, r, rfl, hr, htr⟩ := rl_get hR hx
    walk_at "rd"
    refine r_gtup (SqT.of (e3 _ _ htr)) rfl ?_
    walk_at "rd"
    have hil := (List.getElem?_eq_some_iff.mp hx).1
    refine r_kLcE hDa (by rw [List.length_map, List.length_take]; omega) fun H4 b4 h4 => ⟨Same.mut e3 b4 nDa, ?_⟩
    rw [take_more hr, List.map_append]
    exact h4
  rintro Da H3 nDa ⟨e3, hDa⟩
  have hwl : B.why.take ws.length = B.why := by rw [hR.len, List.take_length]
  rw [hwl] at hDa
  have hDa2 : H3 Da = some (.lst ((B.why.map fun r => r.2.2).map V.str)) := by rw [List.map_map]; exact hDa
  refine r_inS (SqL.of hDa2) ?_
  walk_at "rd"
  have e03 := e02.trans e3
  refine w_dec (fun c => ?_) (fun c => ?_)
  · walk_at "rd"
    have := k H3 e03
    unfold lossB at this
    rw [if_pos c] at this
    exact this
  have hq3 := e3 _ _ (e2 _ _ hq)
  have hk : ∀ {H'} (e : Same H H'), Q (.int (pkW (rtB B) (frB B) (dayB B) (mx0 B.ls) B.due B.order B.order.length)) H' := fun {H'} e => by
    have := k H' e
    unfold lossB at this
    rw [if_neg c, loss_pk ok lok c] at this
    exact this
  walk_at "rd"
  refine r_kForE (xs := B.order.map V.str) (fun i σ' H' => ∃ (y3 y4 y5 y6 y7 y8 y9 y10 y11 : Option V), σ' = [some (.ref p), some (.ref q), some (.int (pkW (rtB B) (frB B) (dayB B) (mx0 B.ls) B.due B.order i)), y3, y4, y5, y6, y7, y8, y9, y10, y11] ∧ Same H H' ∧ H' q = some (.lst (B.order.map V.str))) (SqL.of hq3)
    ⟨_, _, _, _, _, _, _, _, _, rfl, e03, hq3⟩ (fun i σ' H' ⟨_, _, _, _, _, _, _, _, _, _, _, h⟩ => SqL.of h) ?_ ?_
  · rintro i x T2 σ' H4 H5 hx ⟨y3, y4, y5, y6, y7, y8, y9, y10, y11, rfl, e4, hq4⟩ nT e5 hT
    obtain ⟨b, rfl, hb⟩ := strs_get hx
    have hbm := List.mem_of_getElem? hb
    have hil := (List.getElem?_eq_some_iff.mp hb).1
    have e05 := e4.trans e5
    have hM5 := hM.keep e05
    obtain ⟨tb, vb, htb⟩ := hM5.a.val nd (mem b hbm)
    have next : pkW (rtB B) (frB B) (dayB B) (mx0 B.ls) B.due B.order (i + 1) = if frB B b = true then max (pkW (rtB B) (frB B) (dayB B) (mx0 B.ls) B.due B.order i) (mx0 (fixW (rtB B) (frB B) (B.order.take i)) * mx0 B.ls + mx0 (fixW (rtB B) (frB B) (B.order.take i) ++ freeW (rtB B) (dayB B) (B.order.take i)) * (B.due + 1)) else pkW (rtB B) (frB B) (dayB B) (mx0 B.ls) B.due B.order i := by
      rw [pkW, hb]
    have mem2 : ∀ {n : Str}, n ∈ B.order.take i → (n, rtB B n, frB B n) ∈ B.ks := fun {n} hn => mem n (List.mem_of_mem_take hn)
    walk_at "rd"
    refine r_kDGetS hM5.i mv2 ?_
    walk_at "rd"
    refine r_kDGetS hM5.k vb ?_
    walk_at "rd"
    refine r_ixT (SqT.of htb) (at_get (n := 1) rfl rfl) ?_
    walk_at "rd"
    refine w_b (fun cf => ?_) (fun cf => ?e2)
    case e2 =>
      walk_at "rd"
      refine ⟨_, _, _, _, _, _, _, _, _, by rw [next, if_neg (by rw [cf]; decide)]; rfl, e05, e5 _ _ hq4⟩
    walk_at "rd"
    refine r_slL_take (SqL.of (e5 _ _ hq4)) (by omega) fun ts H6 nts e6 hts => ?_
    rw [Int.toNat_natCast, ← List.map_take] at hts
    have e06 := e05.trans e6
    refine r_kLcL (xs := (B.order.take i).map V.str) (fun Da n H' => Same H6 H' ∧ H' Da = some (.lst ((fixW (rtB B) (frB B) ((B.order.take i).take n)).map V.int))) (SqL.of hts) (fun Da H' _ e h => ⟨e, h⟩) (fun Da n H' h => SqL.of (h.1 _ _ hts)) ?_ ?_
    · rintro Da n x H7 nDa hx ⟨e7, hDa⟩
      obtain ⟨s, rfl, hs⟩ := strs_get hx
      have hsm := List.mem_of_getElem? hs
      have e07 := e06.trans e7
      have hM7 := hM.keep e07
      obtain ⟨tz, vz, htz⟩ := hM7.a.val nd (mem2 hsm)
      have fl := List.length_filter_le (fun k => !frB B k) ((B.order.take i).take n)
      have fl2 : ((B.order.take i).take n).length ≤ 6 := Nat.le_trans (List.length_take_le' ..) (Nat.le_trans (List.length_take_le' ..) hlen)
      walk_at "rd"
      refine r_kDGetS hM7.i mv2 ?_
      walk_at "rd"
      refine r_kDGetS hM7.k vz ?_
      walk_at "rd"
      refine r_ixT (SqT.of htz) (at_get (n := 1) rfl rfl) ?_
      walk_at "rd"
      have stp : fixW (rtB B) (frB B) ((B.order.take i).take (n + 1)) = fixW (rtB B) (frB B) ((B.order.take i).take n) ++ (if frB B s = true then [] else [rtB B s]) := by
        unfold fixW
        rw [take_more hs, List.filter_append, List.map_append]
        cases hz : frB B s <;> simp [hz]
      refine w_nb (fun cx => ?_) (fun cx => ?_)
      · walk_at "rd"
        refine r_kDGetS hM7.i mv2 ?_
        walk_at "rd"
        refine r_kDGetS hM7.k vz ?_
        walk_at "rd"
        refine r_ixT (SqT.of htz) (at_get (n := 0) rfl rfl) ?_
        refine r_kLcE hDa (by unfold fixW; rw [List.length_map, List.length_map]; omega) fun H8 b8 h8 => ⟨Same.mut e7 b8 nDa, ?_⟩
        rw [stp, if_neg (by rw [cx]; decide), List.map_append]
        exact h8
      · refine ⟨e7, ?_⟩
        rw [stp, if_pos cx, List.append_nil]
        exact hDa
    rintro Da H7 nDa ⟨e7, hDa⟩
    rw [List.length_map, List.take_length] at hDa
    have e07 := e06.trans e7
    walk_at "rd"
    have hq7 := e7 _ _ (e6 _ _ (e5 _ _ hq4))
    refine r_slL_take (SqL.of hq7) (by omega) fun tu H8 ntu e8 htu => ?_
    rw [Int.toNat_natCast, ← List.map_take] at htu
    have e08 := e07.trans e8
    refine r_kLcL (xs := (B.order.take i).map V.str) (fun Db n H' => Same H8 H' ∧ H' Db = some (.lst ((freeW (rtB B) (dayB B) ((B.order.take i).take n)).map V.int))) (SqL.of htu) (fun Db H' _ e h => ⟨e, by rw [List.take_zero]; unfold freeW; rw [List.map_nil, ite_self]; exact h⟩) (fun Db n H' h => SqL.of (h.1 _ _ htu)) ?_ ?_
    · rintro Db n x H9 nDb hx ⟨e9, hDb⟩
      obtain ⟨s, rfl, hs⟩ := strs_get hx
      have hsm := List.mem_of_getElem? hs
      have e09 := e08.trans e9
      have hM9 := hM.keep e09
      obtain ⟨tz, vz, htz⟩ := hM9.a.val nd (mem2 hsm)
      have fl2 : ((B.order.take i).take n).length ≤ 6 := Nat.le_trans (List.length_take_le' ..) (Nat.le_trans (List.length_take_le' ..) hlen)
      walk_at "rd"
      refine r_kDGetS hM9.i mv6 ?_
      walk_at "rd"
      have stp : freeW (rtB B) (dayB B) ((B.order.take i).take (n + 1)) = freeW (rtB B) (dayB B) ((B.order.take i).take n) ++ (if dayB B = true then [rtB B s] else []) := by
        unfold freeW
        cases dayB B with
        | false => rfl
        | true =>
          rw [if_pos rfl, if_pos rfl, if_pos rfl, take_more hs, List.map_append]
          rfl
      refine w_dec (fun cx => ?_) (fun cx => ?_)
      · walk_at "rd"
        refine r_kDGetS hM9.i mv2 ?_
        walk_at "rd"
        refine r_kDGetS hM9.k vz ?_
        walk_at "rd"
        refine r_ixT (SqT.of htz) (at_get (n := 0) rfl rfl) ?_
        refine r_kLcE hDb (by unfold freeW; split <;> simp <;> omega) fun H10 b10 h10 => ⟨Same.mut e9 b10 nDb, ?_⟩
        rw [stp, if_pos (show dayB B = true from decide_eq_true cx), List.map_append]
        exact h10
      · refine ⟨e9, ?_⟩
        rw [stp, if_neg (show ¬ dayB B = true from fun z => cx (of_decide_eq_true z)), List.append_nil]
        exact hDb
    rintro Db H9 nDb ⟨e9, hDb⟩
    rw [List.length_map, List.take_length] at hDb
    have e09 := e08.trans e9
    have hDa9 := e9 _ _ (e8 _ _ hDa)
    walk_at "rd"
    refine r_kLst fun a1 H10 na1 e10 ha1 => ?_
    walk_at "rd"
    have e910 := e9.trans e10
    have b1 : (fixW (rtB B) (frB B) (B.order.take i)).length ≤ 6 := by
      unfold fixW
      rw [List.length_map]
      exact Nat.le_trans (List.length_filter_le ..) (Nat.le_trans (List.length_take_le' ..) hlen)
    have b2 : (freeW (rtB B) (dayB B) (B.order.take i)).length ≤ 6 := by
      unfold freeW
      split
      · rw [List.length_map]
        exact Nat.le_trans (List.length_take_le' ..) hlen
      · exact Nat.zero_le _
    refine r_cat ha1 (e10 _ _ hDa9) (by simp; omega) fun a2 H11 na2 e11 ha2 => ?_
    walk_at "rd"
    refine r_cat ha2 (e11 _ _ (e10 _ _ hDb)) (by simp; omega) fun a3 H12 na3 e12 ha3 => ?_
    have ha3' : H12 a3 = some (.lst ((0 :: (fixW (rtB B) (frB B) (B.order.take i) ++ freeW (rtB B) (dayB B) (B.order.take i))).map V.int)) := by rw [ha3]; simp
    walk_at "rd"
    refine r_maxI (SqL.of ha3') (by simp) fun m1 hm1 hl1 => ?_
    obtain rfl : m1 = mx0 (fixW (rtB B) (frB B) (B.order.take i) ++ freeW (rtB B) (dayB B) (B.order.take i)) := mx0_eq ⟨hm1, hl1⟩
    walk_at "rd"
    have e012 := (e09.trans e10).trans (e11.trans e12)
    refine r_kDGetS (hM.keep e012).i mv5 ?_
    have lo := ok.d0
    have hi := ok.d1
    have hl0 : B.due < 31 := by
      have h1 := ok.l1
      match hls : B.ls, h1 with
      | x :: r, _ =>
        have := ok.d1 x (by rw [hls]; exact List.mem_cons_self ..)
        have := ok.l3 x (by rw [hls]; exact List.mem_cons_self ..)
        omega
    have cm1 : CMul (mx0 (fixW (rtB B) (frB B) (B.order.take i) ++ freeW (rtB B) (dayB B) (B.order.take i))) (B.due + 1) := .inr ⟨by omega, by omega⟩
    walk_at "rd"
    refine r_kLst fun a4 H13 na4 e13 ha4 => ?_
    walk_at "rd"
    refine r_cat ha4 (e13 _ _ (e12 _ _ (e11 _ _ (e10 _ _ hDa9)))) (by simp; omega) fun a5 H14 na5 e14 ha5 => ?_
    have ha5' : H14 a5 = some (.lst ((0 :: fixW (rtB B) (frB B) (B.order.take i)).map V.int)) := by rw [ha5]; simp
    walk_at "rd"
    refine r_maxI (SqL.of ha5') (by simp) fun m2 hm2 hl2 => ?_
    obtain rfl : m2 = mx0 (fixW (rtB B) (frB B) (B.order.take i)) := mx0_eq ⟨hm2, hl2⟩
    walk_at "rd"
    have e014 := e012.trans (e13.trans e14)
    have hM14 := hM.keep e014
    refine r_kDGetS hM14.i mv1 ?_
    walk_at "rd"
    refine r_maxI (SqL.of hM14.l) ok.l1 fun L hL1 hL2 => ?_
    obtain rfl : L = mx0 B.ls := mx0_eq ⟨List.mem_cons_of_mem _ hL1, fun y hy => by
      rcases List.mem_cons.mp hy with rfl | hy
      · have := ok.l3 _ hL1
        omega
      · exact hL2 y hy⟩
    have hL31 := ok.l3 _ hL1
    have cm2 : CMul (mx0 (fixW (rtB B) (frB B) (B.order.take i))) (mx0 B.ls) := .inr ⟨by omega, by omega⟩
    walk_at "rd"
    have hq14 := e14 _ _ (e13 _ _ (e12 _ _ (e11 _ _ (e10 _ _ (e9 _ _ (e8 _ _ hq7))))))
    exact ⟨_, _, _, _, _, _, _, _, _, by rw [next, if_pos cf]; rfl, e014, hq14⟩
  · rintro σ' H4 ⟨y3, y4, y5, y6, y7, y8, y9, y10, y11, rfl, e4, hq4⟩
    rw [List.length_map]
    walk_at "rd"
    exact hk e4
end
end Wp
set_option Elab.async false
set_option linter.all false
set_option maxRecDepth 100000
set_option maxHeartbeats 4000000
/-! the law's hopes: what is one, whether it holds. -/
namespace Wp
open PySem PySem.Spec PyProof.Rows L2
abbrev s__law_is_count : Stmt := topS 79
abbrev s__law_is_hope : Stmt := topS 80
abbrev s__law_does_hold : Stmt := topS 82
abbrev s__law_hope : Stmt := topS 81
local macro_rules | `(tactic| walk_at "val") => `(tactic| assumption)
local macro_rules | `(tactic| walk_at "rd1") => `(tactic| first
  | with_reducible refine r_seq ?_ | with_reducible refine r_next ?_ | with_reducible refine r_if ?_ | with_reducible refine r_asg ?_ | with_reducible refine r_gname ?_
  | with_reducible refine r_ret ?_ | with_reducible refine r_retN ?_ | with_reducible refine r_drop ?_ | with_reducible refine r_par ?_ | with_reducible refine r_kPar ?_
  | ((with_reducible refine' r_var ?hv ?_); (case hv => exact rfl)) | with_reducible refine r_c ?_ | with_reducible refine r_nil ?_ | with_reducible refine r_cons ?_
  | with_reducible refine r_fn ?_ | with_reducible refine r_cb ?_ | with_reducible refine r_op ?_ | with_reducible refine r_un ?_ | with_reducible refine r_I0 ?_
  | with_reducible refine r_pow5 ?_ | with_reducible refine r_pow6 ?_ | with_reducible refine r_pow7 ?_ | with_reducible refine r_pow9 ?_ | with_reducible refine r_pow18 ?_ | with_reducible refine r_pow20 ?_ | with_reducible refine r_pow30 ?_
  | with_reducible refine r_isN_non ?_ | with_reducible refine r_isN_ref ?_ | with_reducible refine r_isN_int ?_ | with_reducible refine r_isN_str ?_ | with_reducible refine r_isN_bl ?_ | with_reducible refine r_notN_non ?_ | with_reducible refine r_notN_ref ?_ | with_reducible refine r_notN_int ?_ | with_reducible refine r_notN_str ?_ | with_reducible refine r_notN_bl ?_
  | ((with_reducible refine r_I ?hc ?_); (case hc => walk_at "side")) | with_reducible refine r_U ?_
  | with_reducible refine r_eqI ?_ | with_reducible refine r_neI ?_ | with_reducible refine r_eqS ?_ | with_reducible refine r_neS ?_ | with_reducible refine r_eqB ?_ | with_reducible refine r_neB ?_
  | with_reducible refine r_chain ?_ | with_reducible refine r_test ?_ | with_reducible refine r_tB ?_ | with_reducible refine r_kTest ?_ | with_reducible refine r_not ?_
  | with_reducible refine r_and ?_ | with_reducible refine r_or ?_ | with_reducible refine r_tif ?_ | with_reducible refine r_andV ?_ | with_reducible refine r_orV ?_ | with_reducible refine r_notV ?_
  | with_reducible refine r_kAndV ?_ | with_reducible refine r_kOrV ?_ | with_reducible refine r_kNotV ?_
  | with_reducible refine w_T ?_ | with_reducible refine w_F ?_ | with_reducible refine w_NT ?_ | with_reducible refine w_NF ?_
  | with_reducible refine r_tup ?_ | with_reducible refine r_lst ?_ | with_reducible refine r_fld ?_ | with_reducible refine r_prop ?_ | ((with_reducible refine' r_aug ?h1 ?_); (case h1 => exact rfl)) | with_reducible refine r_ipI ?_ | with_reducible refine r_dget ?_ | with_reducible refine r_dput ?_ | with_reducible refine r_bm ?_
  | ((with_reducible refine' r_kDGetS ?h1 ?h2 ?_); (case h1 => assumption); (case h2 => walk_at "val"))
  | ((with_reducible refine' r_kBML ?h1 ?_); (case h1 => assumption))
  | with_reducible refine r_forL ?_ | with_reducible refine r_forR1 ?_ | with_reducible refine r_forR2 ?_ | with_reducible refine r_forT ?_ | with_reducible refine r_lcL ?_ | with_reducible refine r_lcR1 ?_
  | ((with_reducible refine r_kLcG ?hw ?_); (case hw => exact rfl)) | with_reducible refine r_kLcT ?_ | with_reducible refine r_yes ?_
  | with_reducible refine r_pnil ?_ | with_reducible refine r_pcons ?_
  | with_reducible refine r_fnK ?_ | ((with_reducible refine r_kFnK ?hl ?_); (case hl => exact rfl))
  | with_reducible refine r_isi_ii ?_ | with_reducible refine r_isi_ib ?_ | with_reducible refine r_isi_bi ?_ | with_reducible refine r_isi_bb ?_ | with_reducible refine r_isi_ss ?_ | with_reducible refine r_isi_is ?_ | with_reducible refine r_isi_it ?_
  | ((with_reducible refine' r_isi_tt ?h1 ?_); (case h1 => assumption))
  | with_reducible refine r_sfld ?_ | with_reducible refine r_gnil ?_ | with_reducible refine r_gcons ?_
  | ((with_reducible refine' r_gtup ?h1 ?h2 ?_); (case h1 => exact SqT.of (by assumption)); (case h2 => exact rfl))
  | with_reducible refine r_sl ?_ | with_reducible refine r_noPart ?_ | with_reducible refine r_part ?_ | with_reducible refine r_kPart ?_ | with_reducible refine r_m1 ?_ | with_reducible refine r_kM1 ?_ | with_reducible refine r_forS ?_ | with_reducible refine r_lcS ?_ | with_reducible refine r_lcTu ?_ | with_reducible refine r_lcK ?_ | with_reducible refine r_dcL ?_ | with_reducible refine r_dcK ?_ | with_reducible refine r_lc2L ?_ | with_reducible refine r_kLc2TL ?_ | with_reducible refine r_dcEn ?_ | with_reducible refine r_gslc ?_ | with_reducible refine r_lcEn ?_ | with_reducible refine r_lcEl ?_ | with_reducible refine r_lcR2 ?_ | with_reducible refine r_rg1 ?_ | with_reducible refine r_forET ?_ | with_reducible refine r_lenD ?_
  | ((with_reducible refine r_kDcG ?hw ?_); (case hw => exact rfl)) | with_reducible refine r_kDcT ?_
  | with_reducible refine r_fldaug ?_ | with_reducible refine r_daug ?_ | with_reducible refine r_rAdd ?_ | with_reducible refine r_rSub ?_ | with_reducible refine r_ddel ?_ | with_reducible refine r_bmF ?_ | with_reducible refine r_dget2 ?_ | with_reducible refine r_listItems ?_ | with_reducible refine r_bm0 ?_ | with_reducible refine r_lc2E ?_ | ((with_reducible refine r_kLc2G ?hw ?_); (case hw => exact rfl)) | with_reducible refine r_kLc2T ?_ | with_reducible refine r_forE ?_ | with_reducible refine r_orT ?_ | with_reducible refine r_din ?_ | with_reducible refine r_augS ?_ | with_reducible refine r_dnotin ?_ | with_reducible refine r_lcIT ?_ | with_reducible refine r_cont ?_ | with_reducible refine r_meth ?_ | with_reducible refine r_frz ?_ | with_reducible refine r_par3 ?_ | with_reducible refine r_kPar3 ?_ | with_reducible refine r_dz ?_ | with_reducible refine r_revL ?_ | with_reducible refine r_star ?_ | with_reducible refine r_int1 ?_ | with_reducible refine r_int1b ?_ | with_reducible refine r_min2 ?_ | with_reducible refine r_max2 ?_ | with_reducible refine r_gsub ?_)
local macro_rules | `(tactic| walk_at "rd") => `(tactic| repeat walk_at "rd1")
local macro_rules | `(tactic| walk_at "side") => `(tactic| first | assumption | exact Or.inr ⟨by decide, by decide⟩ | exact Or.inl ⟨by decide, by decide⟩ | (constructor <;> omega) | omega | decide | (refine Or.inl ⟨?_, ?_⟩ <;> omega) | (refine Or.inr ⟨?_, ?_⟩ <;> omega) | (refine ⟨?_, ?_, ?_⟩ <;> first | decide | omega))
local macro_rules | `(tactic| walk_at "val") => `(tactic| first | exact mv1 | exact mv2 | exact mv3 | exact mv4 | exact mv5 | exact mv6)
def sp_does_hold : Sp := fun vs H Q _ => ∃ (l p q : Addr) (B : Bk) (h : Hope), vs = [.ref p, .ref q] ∧ Mdl l H p B ∧ B.Ok ∧ B.LaidOk ∧ HopeAt H q h ∧ h.Ok ∧ ∀ H', Same H H' → Q (.bl (holdB B h)) H'
def sp_hope : Sp := fun vs H Q _ => ∃ (st l c p : Addr) (cs : List Int) (n : Int) (B : Bk), vs = [.ref st, .ref p] ∧ n ≤ 8796093022208 ∧ DS st l c cs n H ∧ Mdl l H p B ∧ B.Ok ∧ B.LaidOk ∧ ∀ q h H', HopeAt H' q h → h.Ok → DS st l c cs (n + 10) H' → Kp st l H H' → Q (.ref q) H'
section
variable {P : Program} {w : World} {K : PySem.W.Frag} {mg : Str → Option Value} {base : Heap}
theorem ok__law_is_count {f : Addr} {fd : FuncData} (T : Tx K mg) (F : FnP K "_law_is_count" s__law_is_count f fd) : FnOk P w K mg base CX0 1 f fd ["_law_thing"] (sp_is_count K) := by
  have sc : FnScope ["_law_thing"] ["_law_thing"] (defScope s__law_is_count) := ⟨rfl, rfl, rfl, by decide +kernel, rfl, by decide +kernel, by decide +kernel⟩
  refine F.ok sc (by rintro vs H Q E ⟨_, _, rfl, _⟩; rfl) (fun cdv A outer s H vs Q E hr h => ⟨_, PSs.nox ((pss_one (ps_ret (pe_and (pe_callB (c_isiK (K := K) rfl) (by rfl) T.b_isinstance (by decide +kernel) (pa_cons (pv 0) (pa_cons (pe_bltn (v := .ty "int") (by rfl) T.b_int (by decide +kernel) rfl) pa_nil))) (pe_and (pe_not (pe_callB (c_isiK (K := K) rfl) (by rfl) T.b_isinstance (by decide +kernel) (pa_cons (pv 0) (pa_cons (pe_bltn (v := .ty "bool") (by rfl) T.b_bool (by decide +kernel) rfl) pa_nil)))) (pe_one (pe_cmpR op_ge (pv 0) pe_int (nomark _)))))))), ?_⟩)
  obtain ⟨x, o, rfl, hx, k⟩ := h
  walk_at "rd"
  cases hx with
  | int i =>
    walk_at "rd"
    exact k
  | @no _ t b1 b2 ht h1 h2 h3 =>
    refine r_isi (.ty "int") ht h1 ?_
    walk_at "rd"
    cases b1 with
    | false =>
      walk_at "rd"
      exact k
    | true =>
      walk_at "rd"
      refine r_isi (.ty "bool") ht h2 ?_
      walk_at "rd"
      have e : (!b2) = false := h3
      rw [e]
      walk_at "rd"
      exact k
theorem ok__law_is_hope {f : Addr} {fd : FuncData} (T : Tx K mg) (F : FnP K "_law_is_hope" s__law_is_hope f fd) (d__law_is_count : Dn P w K mg base CX0 1 "_law_is_count" ["_law_thing"] (sp_is_count K)) (d__law_is_vow : Dn P w K mg base CX0 1 "_law_is_vow" ["_law_thing"] (sp_is_promise K)) :
    FnOk P w K mg base CX0 2 f fd ["_law_thing"] (sp_is_wish K) := by
  have sc : FnScope ["_law_thing"] ["_law_thing"] (defScope s__law_is_hope) := ⟨rfl, rfl, rfl, by decide +kernel, rfl, by decide +kernel, by decide +kernel⟩
  refine F.ok sc (by rintro vs H Q E ⟨_, _, rfl, _⟩; rfl) (fun cdv A outer s H vs Q E hr h => ⟨_, PSs.nox ((pss_cons (ps_if (PW.pt (pw_or (pt_not (pt_val (pe_callB (c_isiK (K := K) rfl) (by rfl) T.b_isinstance (by decide +kernel) (pa_cons (pv 0) (pa_cons (pe_bltn (v := .ty "tuple") (by rfl) T.b_tuple (by decide +kernel) rfl) pa_nil))))) (pw_or (pt_cmpR (eqT0K (K := K) rfl hr.units) (pv 0) (pe_tup pa_nil) (nomark _)) (pw_or1 (pt_not (pt_val (pe_callB (c_isiK (K := K) rfl) (by rfl) T.b_isinstance (by decide +kernel) (pa_cons (pe_ix (ix_tupK (K := K) rfl) (pv 0) pe_int (fun _ _ => rfl)) (pa_cons (pe_bltn (v := .ty "str") (by rfl) T.b_str (by decide +kernel) rfl) pa_nil))))))))) (pss_one (ps_ret pe_bl)) pss_nil)
      (pss_cons (ps_if (pt_cmpR op_eq (pe_ix (ix_tupK (K := K) rfl) (pv 0) pe_int (fun _ _ => rfl)) pe_str (nomark _)) (pss_one (ps_ret (pe_cmpR op_eq (pe_callB (c_lenK (K := K) rfl) (by rfl) T.b_len (by decide +kernel) (pa_cons (pv 0) pa_nil)) pe_int (nomark _)))) pss_nil)
      (pss_cons (ps_if (pt_cmpR (in_seqK (K := K) rfl) (pe_ix (ix_tupK (K := K) rfl) (pv 0) pe_int (fun _ _ => rfl)) (pe_lst (pa_cons pe_str (pa_cons pe_str pa_nil))) (by rfl)) (pss_one (ps_ret (pe_and (pe_cmpR op_eq (pe_callB (c_lenK (K := K) rfl) (by rfl) T.b_len (by decide +kernel) (pa_cons (pv 0) pa_nil)) pe_int (nomark _)) (pe_one (pe_ifExp (pt_cmpR op_eq (pe_ix (ix_tupK (K := K) rfl) (pv 0) pe_int (fun _ _ => rfl)) pe_str (nomark _)) (pe_fn d__law_is_count (hr.mono (by decide)) pass0 (pa_cons (pe_ix (ix_tupK (K := K) rfl) (pv 0) pe_int (fun _ _ => rfl)) pa_nil)) (pe_fn d__law_is_vow (hr.mono (by decide)) pass0 (pa_cons (pe_ix (ix_tupK (K := K) rfl) (pv 0) pe_int (fun _ _ => rfl)) pa_nil))))))) pss_nil)
      (pss_cons (ps_if (PW.pt (pw_or (pt_cmpR op_ne (pe_ix (ix_tupK (K := K) rfl) (pv 0) pe_int (fun _ _ => rfl)) pe_str (nomark _)) (pw_or (pt_cmpR op_ne (pe_callB (c_lenK (K := K) rfl) (by rfl) T.b_len (by decide +kernel) (pa_cons (pv 0) pa_nil)) pe_int (nomark _)) (pw_or (pt_not (pt_val (pe_fn d__law_is_count (hr.mono (by decide)) pass0 (pa_cons (pe_ix (ix_tupK (K := K) rfl) (pv 0) pe_int (fun _ _ => rfl)) pa_nil)))) (pw_or1 (pt_not (pt_val (pe_fn d__law_is_count (hr.mono (by decide)) pass0 (pa_cons (pe_ix (ix_tupK (K := K) rfl) (pv 0) pe_int (fun _ _ => rfl)) pa_nil))))))))) (pss_one (ps_ret pe_bl)) pss_nil)
      (pss_one (ps_ret (pe_chain op_le op_le pe_int (pe_ix (ix_tupK (K := K) rfl) (pv 0) pe_int (fun _ _ => rfl)) (pe_op op_pow pe_int pe_int))))))))), ?_⟩)
  obtain ⟨x, b, rfl, hx, k⟩ := h
  walk_at "rd"
  cases hx with
  | ty h1 h2 =>
    refine r_isiT h1 h2 ?_
    walk_at "rd"
    exact k H (Same.refl _)
  | nil h1 =>
    refine r_isi_tt h1 ?_
    walk_at "rd"
    refine r_kTup fun t1 H1 n1 e1 ht1 => ?_
    refine r_eqT0 (SqT.of (e1 _ _ h1)) (SqT.of ht1) ?_
    walk_at "rd"
    refine w_dec (fun _ => ?_) (fun h => absurd rfl h)
    walk_at "rd"
    exact k H1 e1
  | @fst p x xs a h1 h2 h3 h4 =>
    refine r_isi_tt h1 ?_
    walk_at "rd"
    refine r_kTup fun t1 H1 n1 e1 ht1 => ?_
    refine r_eqT0 (SqT.of (e1 _ _ h1)) (SqT.of ht1) ?_
    walk_at "rd"
    refine w_dec (fun h => by cases h) (fun _ => ?_)
    walk_at "rd"
    refine r_ixT (SqT.of (e1 _ _ h1)) (at_get (n := 0) rfl rfl) ?_
    walk_at "rd"
    refine r_isiT (TyX.same e1 h3) h4 ?_
    walk_at "rd"
    exact k H1 e1
  | @wd p s as h1 h2 h3 =>
    refine r_isi_tt h1 ?_
    walk_at "rd"
    refine r_kTup fun t1 H1 n1 e1 ht1 => ?_
    have h1' := e1 _ _ h1
    have k0 : ∀ H', Same H1 H' → Q (.bl (wishB s as)) H' := fun H' e => k H' (e1.trans e)
    have h3' : ∀ a ∈ as, NumV K H1 a.1 a.2.1 ∧ Vw K H1 a.1 a.2.2 := fun a ha => ⟨NumV.same e1 (h3 a ha).1, Vw.sameX e1 (h3 a ha).2⟩
    clear h3 h1 k
    have ix0 : ∀ {G : Hp} (eG : Same H1 G) {Q' : VK}, Q' (.str s) G → rIxT K (.ref p) (.int 0) G Q' := fun {G} eG {Q'} q => r_ixT (SqT.of (eG _ _ h1')) (at_get (n := 0) rfl rfl) q
    have ln : ∀ {G : Hp} (eG : Same H1 G) {Q' : VK}, Q' (.int ((as.length + 1 : Nat) : Int)) G → rLen K [.ref p] G Q' := fun {G} eG {Q'} q => r_lenT (SqT.of (eG _ _ h1')) (by rw [List.length_cons, List.length_map]; exact q)
    refine r_eqT0 (SqT.of h1') (SqT.of ht1) ?_
    walk_at "rd"
    refine w_dec (fun h => by cases h) (fun _ => ?_)
    walk_at "rd"
    refine ix0 (Same.refl _) ?_
    walk_at "rd"
    refine ix0 (Same.refl _) ?_
    walk_at "rd"
    refine w_dec (fun c1 => ?_) (fun c1 => ?_)
    · walk_at "rd"
      refine ln (Same.refl _) ?_
      walk_at "rd"
      have k := k0 H1 (Same.refl _)
      unfold wishB at k
      rw [if_pos c1] at k
      have e : decide (((as.length + 1 : Nat) : Int) = 1) = decide (as.length = 0) := decide_eq_decide.mpr (by omega)
      rw [e]
      exact k
    walk_at "rd"
    refine ix0 (Same.refl _) ?_
    walk_at "rd"
    refine r_kLst fun l2 H2 n2 e2 hl2 => ?_
    have h1'' := e2 _ _ h1'
    refine r_inS (xs := ["loss", "free"]) (SqL.of hl2) ?_
    walk_at "rd"
    refine w_dec (fun c2 => ?_) (fun c2 => ?_)
    · walk_at "rd"
      refine ln e2 ?_
      walk_at "rd"
      have k := k0 H2 e2
      unfold wishB at k
      rw [if_neg c1] at k
      refine w_dec (fun l2 => ?_) (fun l2 => ?_)
      · match as, h1'', h3', k, k0, l2 with
        | [a], h1'', h3', k, k0, _ =>
          obtain ⟨hn, hv⟩ := h3' a (List.mem_singleton.mpr rfl)
          walk_at "rd"
          refine r_ixT (SqT.of h1'') (at_get (n := 0) rfl rfl) ?_
          walk_at "rd"
          refine w_dec (fun c3 => ?_) (fun c3 => ?_)
          · walk_at "rd"
            refine r_ixT (SqT.of h1'') (at_get (n := 1) rfl rfl) ?_
            walk_at "rd"
            rw [if_pos c3] at k
            exact ⟨a.1, a.2.1, rfl, NumV.same e2 hn, k⟩
          · walk_at "rd"
            refine r_ixT (SqT.of h1'') (at_get (n := 1) rfl rfl) ?_
            walk_at "rd"
            refine ⟨a.1, a.2.2, rfl, Vw.sameX e2 hv, fun H' e => ?_⟩
            have c4 : s = "free" := by
              rcases List.mem_cons.mp c2 with h | h
              · exact absurd h c3
              · exact List.mem_singleton.mp h
            have k := k0 H' (e2.trans e)
            unfold wishB at k
            rw [if_neg c1, if_neg c3, if_pos c4] at k
            exact k
        | [], _, _, _, _, l2 => exact absurd l2 (by decide)
        | _ :: _ :: _, _, _, _, _, l2 => exact absurd l2 (by simp only [List.length_cons]; omega)
      · walk_at "rd"
        have : ∀ g : Bool, (match as with | [a] => g | _ => false) = false := fun g => by
          match as, l2 with
          | [a], l2 => exact absurd rfl l2
          | [], _ => rfl
          | _ :: _ :: _, _ => rfl
        by_cases c3 : s = "loss"
        · rw [if_pos c3] at k
          match as, k, l2 with
          | [a], _, l2 => exact absurd rfl l2
          | [], k, _ => exact k
          | _ :: _ :: _, k, _ => exact k
        · have c4 : s = "free" := by
            rcases List.mem_cons.mp c2 with h | h
            · exact absurd h c3
            · exact List.mem_singleton.mp h
          rw [if_neg c3, if_pos c4] at k
          match as, k, l2 with
          | [a], _, l2 => exact absurd rfl l2
          | [], k, _ => exact k
          | _ :: _ :: _, k, _ => exact k
    have c3 : s ≠ "loss" := fun z => c2 (by rw [z]; exact List.mem_cons_self ..)
    have c4 : s ≠ "free" := fun z => c2 (by rw [z]; exact List.mem_cons_of_mem _ (List.mem_singleton.mpr rfl))
    have k := k0 H2 e2
    unfold wishB at k
    rw [if_neg c1, if_neg c3, if_neg c4] at k
    walk_at "rd"
    refine ix0 e2 ?_
    walk_at "rd"
    refine w_ndec (fun c5 => ?_) (fun c5 => ?_)
    · walk_at "rd"
      rw [if_neg c5] at k
      exact k
    rw [if_pos c5] at k
    walk_at "rd"
    refine ln e2 ?_
    walk_at "rd"
    refine w_ndec (fun l3 => ?_) (fun l3 => ?_)
    · walk_at "rd"
      match as, k, l3 with
      | [a, b], _, l3 => exact absurd rfl l3
      | [], k, _ => exact k
      | [_], k, _ => exact k
      | _ :: _ :: _ :: _, k, _ => exact k
    match as, h1'', h3', k, l3 with
    | [a, b], h1'', h3', k, _ =>
      obtain ⟨hna, _⟩ := h3' a (List.mem_cons_self ..)
      obtain ⟨hnb, _⟩ := h3' b (List.mem_cons_of_mem _ (List.mem_singleton.mpr rfl))
      replace hna := NumV.same e2 hna
      replace hnb := NumV.same e2 hnb
      replace k : Q (.bl (inB a.2.1 1 1000000 && cntO b.2.1)) H2 := k
      clear h3'
      walk_at "rd"
      refine r_ixT (SqT.of h1'') (at_get (n := 1) rfl rfl) ?_
      walk_at "rd"
      refine ⟨a.1, a.2.1, rfl, hna, ?_⟩
      obtain ⟨av, ao, ab⟩ := a
      obtain ⟨bv, bo, bb⟩ := b
      dsimp only at hna hnb k h1'' ⊢
      cases hna with
      | no x1 x2 x3 x4 =>
        walk_at "rd"
        exact k
      | int i =>
        by_cases hi : 0 ≤ i
        · have e0 : cntO (some i) = true := decide_eq_true hi
          rw [e0]
          walk_at "rd"
          refine r_ixT (SqT.of h1'') (at_get (n := 2) rfl rfl) ?_
          walk_at "rd"
          refine ⟨bv, bo, rfl, hnb, ?_⟩
          cases hb : cntO bo with
          | false =>
            rw [hb, Bool.and_false] at k
            walk_at "rd"
            exact k
          | true =>
            rw [hb, Bool.and_true] at k
            walk_at "rd"
            refine r_ixT (SqT.of h1'') (at_get (n := 1) rfl rfl) ?_
            walk_at "rd"
            have ek : inB (some i) 1 1000000 = (decide (1 ≤ i) && decide (i ≤ 1000000)) := rfl
            rw [ek] at k
            show kChain _ _ _ (.int i) _ _ _
            refine r_kChain (fun g1 => ?_) (fun g1 => ?_)
            · walk_at "rd"
              rw [g1, Bool.true_and] at k
              exact k
            · rw [g1, Bool.false_and] at k
              walk_at "rd"
              exact k
        · have e0 : cntO (some i) = false := decide_eq_false hi
          rw [e0]
          have e1' : inB (some i) 1 1000000 = false := by
            show (decide (1 ≤ i) && decide (i ≤ 1000000)) = false
            rw [decide_eq_false (by omega)]
            rfl
          rw [e1', Bool.false_and] at k
          walk_at "rd"
          exact k
    | [], _, _, _, l3 => exact absurd l3 (by decide)
    | [_], _, _, _, l3 => exact absurd l3 (by simp only [List.length_cons, List.length_nil]; omega)
    | _ :: _ :: _ :: _, _, _, _, l3 => exact absurd l3 (by simp only [List.length_cons]; omega)
theorem ok__law_does_hold {f : Addr} {fd : FuncData} (T : Tx K mg) (F : FnP K "_law_does_hold" s__law_does_hold f fd) (d__law_all_why : Dn P w K mg base CX0 2 "_law_all_why" ["_law_model_here"] sp_all_why) (d__law_greatest : Dn P w K mg base CX0 3 "_law_greatest" ["_law_model_here"] sp_lgreatest)
    (d__law_broken : Dn P w K mg base CX0 4 "_law_broken" ["_law_model_here", "_law_vow"] sp_broken) (d__law_greatest_late : Dn P w K mg base CX0 3 "_law_greatest_late" ["_law_model_here", "_law_most"] sp_llate) : FnOk P w K mg base CX0 5 f fd ["_law_model_here", "_law_hope_here"] sp_does_hold := by
  have sc : FnScope ["_law_model_here", "_law_hope_here"] ["_law_model_here", "_law_hope_here"] (defScope s__law_does_hold) := ⟨rfl, rfl, rfl, by decide +kernel, rfl, by decide +kernel, by decide +kernel⟩
  refine F.ok sc (by rintro vs H Q E ⟨_, _, _, _, _, rfl, _⟩; rfl) (fun cdv A outer s H vs Q E hr h => ⟨_, PSs.nox ((pss_cons (ps_if (pt_cmpR op_eq (pe_ix (ix_tupK (K := K) rfl) (pv 1) pe_int (fun _ _ => rfl)) pe_str (nomark _)) (pss_one (ps_ret (pe_cmpR (eqNilK (K := K) rfl hr.units) (pe_fn d__law_all_why (hr.mono (by decide)) pass0 (pa_cons (pv 0) pa_nil)) (pe_lst pa_nil) (nomark _)))) pss_nil)
      (pss_cons (ps_if (pt_cmpR op_eq (pe_ix (ix_tupK (K := K) rfl) (pv 1) pe_int (fun _ _ => rfl)) pe_str (nomark _)) (pss_one (ps_ret (pe_and (pe_cmpR op_notN1 (pe_fn d__law_greatest (hr.mono (by decide)) pass0 (pa_cons (pv 0) pa_nil)) pe_non (nomark _)) (pe_one (pe_cmpR op_le (pe_fn d__law_greatest (hr.mono (by decide)) pass0 (pa_cons (pv 0) pa_nil)) (pe_ix (ix_tupK (K := K) rfl) (pv 1) pe_int (fun _ _ => rfl)) (nomark _)))))) pss_nil)
      (pss_cons (ps_if (pt_cmpR op_eq (pe_ix (ix_tupK (K := K) rfl) (pv 1) pe_int (fun _ _ => rfl)) pe_str (nomark _)) (pss_one (ps_ret (pe_cmpR op_isN1 (pe_fn d__law_broken (hr.mono (by decide)) pass0 (pa_cons (pv 0) (pa_cons (pe_ix (ix_tupK (K := K) rfl) (pv 1) pe_int (fun _ _ => rfl)) pa_nil))) pe_non (nomark _)))) pss_nil)
      (pss_one (ps_ret (pe_and (pe_cmpR op_isN1 (pe_dget (hu_of hr) (pv 0) pe_str (fun _ _ => rfl)) pe_non (nomark _)) (pe_one (pe_cmpR op_le (pe_fn d__law_greatest_late (hr.mono (by decide)) pass0 (pa_cons (pv 0) (pa_cons (pe_ix (ix_tupK (K := K) rfl) (pv 1) pe_int (fun _ _ => rfl)) pa_nil))) (pe_ix (ix_tupK (K := K) rfl) (pv 1) pe_int (fun _ _ => rfl)) (nomark _)))))))))), ?_⟩)
  obtain ⟨l, p, q, B, h, rfl, hM0, ok, lok, ha, ho, k⟩ := h
  obtain ⟨ad, kd, lv, kvs, hM⟩ := id hM0
  cases h with
  | early =>
    have ha : H q = some (.tup [.str "earlier"]) := ha
    walk_at "rd"
    refine r_ixT (SqT.of ha) (at_get (n := 0) rfl rfl) ?_
    walk_at "rd"
    refine w_dec (fun _ => ?_) (fun h => absurd rfl h)
    walk_at "rd"
    refine ⟨l, p, B, rfl, hM0, ok, lok, fun t H1 ws nt e1 ht hR => ?_⟩
    walk_at "rd"
    refine r_kLst fun t2 H2 nt2 e2 ht2 => ?_
    refine r_eqNilA (SqL.of (e2 _ _ ht)) (SqL.of ht2) ?_
    have e : decide (ws = []) = decide (B.why = []) := decide_eq_decide.mpr ⟨fun h => List.eq_nil_of_length_eq_zero (by rw [← hR.len, h]; rfl), fun h => List.eq_nil_of_length_eq_zero (by rw [hR.len, h]; rfl)⟩
    rw [e]
    exact k H2 (e1.trans e2)
  | loss n =>
    have ha : H q = some (.tup [.str "loss", .int n]) := ha
    walk_at "rd"
    refine r_ixT (SqT.of ha) (at_get (n := 0) rfl rfl) ?_
    walk_at "rd"
    refine w_dec (fun h => absurd h (by decide +kernel)) (fun _ => ?_)
    walk_at "rd"
    refine r_ixT (SqT.of ha) (at_get (n := 0) rfl rfl) ?_
    walk_at "rd"
    refine w_dec (fun _ => ?_) (fun h => absurd rfl h)
    walk_at "rd"
    refine ⟨l, p, B, rfl, hM0, ok, lok, fun H1 e1 => ?_⟩
    have kk : ∀ {G : Hp}, Same H G → Q (.bl (leO (lossB B) n)) G := fun {G} e => k G e
    cases hL : lossB B with
    | none =>
      rw [hL] at kk
      walk_at "rd"
      exact kk e1
    | some x =>
      rw [hL] at kk
      walk_at "rd"
      refine ⟨l, p, B, rfl, hM0.keep e1, ok, lok, fun H2 e2 => ?_⟩
      rw [hL]
      walk_at "rd"
      refine r_ixT (SqT.of (e2 _ _ (e1 _ _ ha))) (at_get (n := 1) rfl rfl) ?_
      walk_at "rd"
      exact kk (e1.trans e2)
  | free s n =>
    obtain ⟨t, ha, ht⟩ := ha
    walk_at "rd"
    refine r_ixT (SqT.of ha) (at_get (n := 0) rfl rfl) ?_
    walk_at "rd"
    refine w_dec (fun h => absurd h (by decide +kernel)) (fun _ => ?_)
    walk_at "rd"
    refine r_ixT (SqT.of ha) (at_get (n := 0) rfl rfl) ?_
    walk_at "rd"
    refine w_dec (fun h => absurd h (by decide +kernel)) (fun _ => ?_)
    walk_at "rd"
    refine r_ixT (SqT.of ha) (at_get (n := 0) rfl rfl) ?_
    walk_at "rd"
    refine w_dec (fun _ => ?_) (fun h => absurd rfl h)
    walk_at "rd"
    refine r_ixT (SqT.of ha) (at_get (n := 1) rfl rfl) ?_
    walk_at "rd"
    refine ⟨l, p, t, B, s, n, rfl, hM0, ok.ls, ht, fun H1 e1 => ?_⟩
    have k : Q (.bl (brkO B.ls B.due s n).isNone) H1 := k H1 e1
    cases hL : brkO B.ls B.due s n with
    | none =>
      rw [hL] at k
      walk_at "rd"
      exact k
    | some x =>
      rw [hL] at k
      walk_at "rd"
      exact k
  | late m n =>
    have ha : H q = some (.tup [.str "late", .int m, .int n]) := ha
    walk_at "rd"
    refine r_ixT (SqT.of ha) (at_get (n := 0) rfl rfl) ?_
    walk_at "rd"
    refine w_dec (fun h => absurd h (by decide +kernel)) (fun _ => ?_)
    walk_at "rd"
    refine r_ixT (SqT.of ha) (at_get (n := 0) rfl rfl) ?_
    walk_at "rd"
    refine w_dec (fun h => absurd h (by decide +kernel)) (fun _ => ?_)
    walk_at "rd"
    refine r_ixT (SqT.of ha) (at_get (n := 0) rfl rfl) ?_
    walk_at "rd"
    refine w_dec (fun h => absurd h (by decide +kernel)) (fun _ => ?_)
    walk_at "rd"
    refine r_kDGetS hM.i mv3 ?_
    have kk := fun H1 (e : Same H H1) => (show Q (.bl (B.laid.isNone && decide (lateB B m ≤ n))) H1 from k H1 e)
    have hlv := hM.d
    cases hL : B.laid with
    | none =>
      rw [hL] at hlv
      obtain rfl : lv = .non := hlv
      walk_at "rd"
      refine r_ixT (SqT.of ha) (at_get (n := 1) rfl rfl) ?_
      walk_at "rd"
      refine ⟨l, p, B, m, rfl, hM0, ok, ho.1, ho.2.1, fun H1 e1 => ?_⟩
      walk_at "rd"
      refine r_ixT (SqT.of (e1 _ _ ha)) (at_get (n := 2) rfl rfl) ?_
      walk_at "rd"
      have := kk H1 e1
      rw [hL] at this
      exact this
    | some ns =>
      rw [hL] at hlv
      obtain ⟨t, rfl, _⟩ := hlv
      walk_at "rd"
      have := kk H (Same.refl _)
      rw [hL] at this
      exact this
theorem loss_nonneg {B : Bk} {x : Int} (h : lossB B = some x) : 0 ≤ x := by
  unfold lossB at h
  split at h
  · cases h
  · rw [← Option.some.inj h]
    exact mx0_nonneg _
theorem ok__law_hope {f : Addr} {fd : FuncData} (T : Tx K mg) (F : FnP K "_law_hope" s__law_hope f fd) (d__law_take : Dn P w K mg base CX0 2 "_law_take" ["_law_state", "_law_size"] sp_take) (d__law_pick : Dn P w K mg base CX0 3 "_law_pick" ["_law_state", "_law_some_here"] sp_pick)
    (d__law_greatest : Dn P w K mg base CX0 3 "_law_greatest" ["_law_model_here"] sp_lgreatest) (d__law_greatest_late : Dn P w K mg base CX0 3 "_law_greatest_late" ["_law_model_here", "_law_most"] sp_llate) : FnOk P w K mg base CX0 4 f fd ["_law_state", "_law_model_here"] sp_hope := by
  have sc : FnScope ["_law_state", "_law_model_here", "_law_way", "_law_most", "_law_near", "_law_many", "_law_late"] ["_law_state", "_law_model_here"] (defScope s__law_hope) := ⟨rfl, rfl, rfl, by decide +kernel, rfl, by decide +kernel, by decide +kernel⟩
  refine F.ok sc (by rintro vs H Q E ⟨_, _, _, _, _, _, _, rfl, _⟩; rfl) (fun cdv A outer s H vs Q E hr h => ⟨_, PSs.nox ((pss_cons (ps_set (i := 2) sc.nd rfl (by first | exact Or.inl rfl | exact Or.inr rfl) (pe_fn d__law_take (hr.mono (by decide)) pass0 (pa_cons (pv 0) (pa_cons pe_int pa_nil))))
      (pss_cons (ps_if (pt_cmpR op_eq (pv 2) pe_int (nomark _)) (pss_one (ps_ret (pe_tup (pa_cons pe_str pa_nil)))) pss_nil)
      (pss_cons (ps_if (pt_cmpR op_eq (pv 2) pe_int (nomark _)) (pss_cons (ps_set (i := 3) sc.nd rfl (by first | exact Or.inl rfl | exact Or.inr rfl) (pe_fn d__law_greatest (hr.mono (by decide)) pass0 (pa_cons (pv 1) pa_nil)))
      (pss_cons (ps_set (i := 4) sc.nd rfl (by first | exact Or.inl rfl | exact Or.inr rfl) (pe_ifExp (pt_cmpR op_isN1 (pv 3) pe_non (nomark _)) (pe_lst (pa_cons pe_int (pa_cons pe_int (pa_cons (pe_op op_pow pe_int pe_int) pa_nil)))) (pe_lst (pa_cons (pv 3) (pa_cons (pe_callB (c_max2 rfl) (by rfl) T.b_max (by decide +kernel) (pa_cons pe_int (pa_cons (pe_op op_sub (pv 3) pe_int) pa_nil))) (pa_cons (pe_op op_add (pv 3) pe_int) (pa_cons pe_int pa_nil)))))))
      (pss_one (ps_ret (pe_tup (pa_cons pe_str (pa_cons (pe_fn d__law_pick (hr.mono (by decide)) pass0 (pa_cons (pv 0) (pa_cons (pv 4) pa_nil))) pa_nil))))))) pss_nil)
      (pss_cons (ps_if (pt_cmpR op_eq (pv 2) pe_int (nomark _)) (pss_cons (ps_set (i := 5) sc.nd rfl (by first | exact Or.inl rfl | exact Or.inr rfl) (pe_fn d__law_pick (hr.mono (by decide)) pass0 (pa_cons (pv 0) (pa_cons (pe_lst (pa_cons (pe_op op_add (pe_dget (hu_of hr) (pv 1) pe_str (fun _ _ => rfl)) pe_int) (pa_cons (pe_op op_add (pe_dget (hu_of hr) (pv 1) pe_str (fun _ _ => rfl)) pe_int) (pa_cons (pe_op op_add (pe_callB (c_maxK (K := K) rfl rfl) (by rfl) T.b_max (by decide +kernel) (pa_cons (pe_dget (hu_of hr) (pv 1) pe_str (fun _ _ => rfl)) pa_nil)) (pe_dget (hu_of hr) (pv 1) pe_str (fun _ _ => rfl))) (pa_cons pe_int (pa_cons pe_int pa_nil)))))) pa_nil))))
      (pss_one (ps_ret (pe_tup (pa_cons pe_str (pa_cons (pe_tup (pa_cons (pe_fn d__law_pick (hr.mono (by decide)) pass0 (pa_cons (pv 0) (pa_cons (pe_lst (pa_cons pe_str (pa_cons pe_str pa_nil))) pa_nil))) (pa_cons (pe_callB (c_min2 rfl) (by rfl) T.b_min (by decide +kernel) (pa_cons pe_int (pa_cons (pv 5) pa_nil))) pa_nil))) pa_nil)))))) pss_nil)
      (pss_cons (ps_set (i := 3) sc.nd rfl (by first | exact Or.inl rfl | exact Or.inr rfl) (pe_fn d__law_pick (hr.mono (by decide)) pass0 (pa_cons (pv 0) (pa_cons (pe_lst (pa_cons pe_int (pa_cons pe_int (pa_cons pe_int (pa_cons (pe_op op_pow pe_int pe_int) pa_nil))))) pa_nil))))
      (pss_cons (ps_set (i := 6) sc.nd rfl (by first | exact Or.inl rfl | exact Or.inr rfl) (pe_fn d__law_greatest_late (hr.mono (by decide)) pass0 (pa_cons (pv 1) (pa_cons (pv 3) pa_nil))))
      (pss_one (ps_ret (pe_tup (pa_cons pe_str (pa_cons (pv 3) (pa_cons (pe_fn d__law_pick (hr.mono (by decide)) pass0 (pa_cons (pv 0) (pa_cons (pe_lst (pa_cons (pv 6) (pa_cons (pv 6) (pa_cons (pe_callB (c_max2 rfl) (by rfl) T.b_max (by decide +kernel) (pa_cons pe_int (pa_cons (pe_op op_sub (pv 6) pe_int) pa_nil))) (pa_cons (pe_op op_add (pv 6) pe_int) (pa_cons pe_int pa_nil)))))) pa_nil))) pa_nil))))))))))))), ?_⟩)
  obtain ⟨st, l, c, p, cs, n, B, rfl, hn, D, hM, ok, lok, k⟩ := h
  walk_at "rd"
  refine u_take D (by omega) (by omega) (by omega) fun y H1 y0 y1 D1 k1 => ?_
  have hM1 := hM.kp k1 D
  walk_at "rd"
  refine w_dec (fun c1 => ?_) (fun c1 => ?_)
  · walk_at "rd"
    refine r_kTup fun t H2 nt e2 ht => ?_
    exact k t .early H2 ht trivial ((D1.keep e2).mono (by omega)) (k1.trans (Kp.of e2))
  walk_at "rd"
  refine w_dec (fun c2 => ?_) (fun c2 => ?_)
  · walk_at "rd"
    refine ⟨l, p, B, rfl, hM1, ok, lok, fun H2 e2 => ?_⟩
    have fin : ∀ (z : Int) (t : Addr) {G G' : Hp}, 0 ≤ z → Same G G' → G' t = some (.tup [.str "loss", .int z]) → DS st l c cs (n + 2) G → Kp st l H G → Q (.ref t) G' := fun z t {G G'} hz e ht DG kG => k t (.loss z) G' ht hz ((DG.keep e).mono (by omega)) (kG.trans (Kp.of e))
    have D2 := D1.keep e2
    have k2 := k1.trans (Kp.of e2)
    cases hL : lossB B with
    | none =>
      walk_at "rd"
      refine r_kLst fun a H3 na e3 ha => ?_
      walk_at "rd"
      refine u_pick D2 (by omega) na e3 ha (by simp) (by simp) fun i x H4 hx D4 k4 => ?_
      obtain ⟨z, rfl, z1, z2⟩ := IntsIn.get (lo := 0) (hi := 1000000) (by simp [IntsIn]) hx
      walk_at "rd"
      refine r_kTup fun t H5 nt e5 ht => ?_
      exact fin z t z1 e5 ht (D4.mono (by omega)) (k2.trans k4)
    | some x =>
      have x0 := loss_nonneg hL
      walk_at "rd"
      refine r_kLst fun a H3 na e3 ha => ?_
      walk_at "rd"
      refine u_pick D2 (by omega) na e3 ha (by simp) (by simp) fun i x' H4 hx D4 k4 => ?_
      obtain ⟨z, rfl, z1, z2⟩ := IntsIn.get (lo := 0) (hi := x + 1) (by simp [IntsIn]; omega) hx
      walk_at "rd"
      refine r_kTup fun t H5 nt e5 ht => ?_
      exact fin z t z1 e5 ht (D4.mono (by omega)) (k2.trans k4)
  walk_at "rd"
  obtain ⟨ad, kd, lv, kvs, hMi⟩ := id hM1
  have d0 := ok.d0
  refine w_dec (fun c3 => ?_) (fun c3 => ?_)
  · walk_at "rd"
    refine r_kDGetS hMi.i mv5 ?_
    walk_at "rd"
    refine r_kDGetS hMi.i mv5 ?_
    walk_at "rd"
    refine r_kDGetS hMi.i mv1 ?_
    walk_at "rd"
    refine r_maxI (SqL.of hMi.l) ok.l1 fun L hL1 hL2 => ?_
    have hL31 := ok.l3 _ hL1
    have hdL := ok.d1 _ hL1
    walk_at "rd"
    refine r_kDGetS hMi.i mv5 ?_
    walk_at "rd"
    refine r_kLst fun a H3 na e3 ha => ?_
    walk_at "rd"
    refine u_pick D1 (by omega) na e3 ha (by simp) (by simp) fun i x' H4 hx D4 k4 => ?_
    obtain ⟨z, rfl, z1, z2⟩ := IntsIn.get (lo := 0) (hi := 1000) (by simp [IntsIn]; omega) hx
    walk_at "rd"
    refine r_kLst fun a5 H5 na5 e5 ha5 => ?_
    walk_at "rd"
    refine u_pick D4 (by omega) na5 e5 ha5 (by simp) (by simp) fun j y H6 hy D6 k6 => ?_
    obtain ⟨s, rfl, hs⟩ : ∃ s : Str, y = .str s ∧ s ∈ (["each", "some"] : List Str) := by
      rcases List.mem_cons.mp (List.mem_of_getElem? hy) with h | h
      · exact ⟨_, h, List.mem_cons_self ..⟩
      · exact ⟨_, List.mem_singleton.mp h, List.mem_cons_of_mem _ (List.mem_singleton.mpr rfl)⟩
    walk_at "rd"
    refine r_kTup fun t7 H7 nt7 e7 ht7 => ?_
    walk_at "rd"
    refine r_kTup fun t8 H8 nt8 e8 ht8 => ?_
    exact k t8 (.free s (min 100 z)) H8 ⟨t7, ht8, e8 _ _ ht7⟩ ⟨hs, by omega, by omega⟩ (((D6.keep e7).keep e8).mono (by omega)) (((k1.trans k4).trans k6).trans (Kp.of (e7.trans e8)))
  · walk_at "rd"
    refine r_kLst fun a H3 na e3 ha => ?_
    walk_at "rd"
    refine u_pick D1 (by omega) na e3 ha (by simp) (by simp) fun i x' H4 hx D4 k4 => ?_
    obtain ⟨m, rfl, m1, m2⟩ := IntsIn.get (lo := 1) (hi := 1000000) (by simp [IntsIn]) hx
    walk_at "rd"
    refine ⟨l, p, B, m, rfl, hM1.kp k4 D1, ok, m1, m2, fun H5 e5 => ?_⟩
    have p0 : 0 ≤ lateB B m := lateW_nonneg _
    generalize lateB B m = lt at p0
    walk_at "rd"
    refine r_kLst fun a5 H6 na5 e6 ha5 => ?_
    walk_at "rd"
    refine u_pick (D4.keep e5) (by omega) na5 e6 ha5 (by simp) (by simp) fun j y H7 hy D7 k7 => ?_
    obtain ⟨z, rfl, z1, z2⟩ := IntsIn.get (lo := 0) (hi := lt + 1) (by simp [IntsIn]; omega) hy
    walk_at "rd"
    refine r_kTup fun t8 H8 nt8 e8 ht8 => ?_
    exact k t8 (.late m z) H8 ht8 ⟨m1, m2, z1⟩ ((D7.keep e8).mono (by omega)) ((((k1.trans k4).trans (Kp.of e5)).trans k7).trans (Kp.of e8))
end
end Wp
set_option Elab.async false
set_option linter.all false
set_option maxRecDepth 100000
set_option maxHeartbeats 4000000
/-! values near to hopes. -/
namespace Wp
open PySem PySem.Spec PyProof.Rows L2
abbrev s__law_near_hope : Stmt := topS 83
local macro_rules | `(tactic| walk_at "val") => `(tactic| assumption)
local macro_rules | `(tactic| walk_at "rd1") => `(tactic| first
  | with_reducible refine r_seq ?_ | with_reducible refine r_next ?_ | with_reducible refine r_if ?_ | with_reducible refine r_asg ?_ | with_reducible refine r_gname ?_
  | with_reducible refine r_ret ?_ | with_reducible refine r_retN ?_ | with_reducible refine r_drop ?_ | with_reducible refine r_par ?_ | with_reducible refine r_kPar ?_
  | ((with_reducible refine' r_var ?hv ?_); (case hv => exact rfl)) | with_reducible refine r_c ?_ | with_reducible refine r_nil ?_ | with_reducible refine r_cons ?_
  | with_reducible refine r_fn ?_ | with_reducible refine r_cb ?_ | with_reducible refine r_op ?_ | with_reducible refine r_un ?_ | with_reducible refine r_I0 ?_
  | with_reducible refine r_pow5 ?_ | with_reducible refine r_pow6 ?_ | with_reducible refine r_pow7 ?_ | with_reducible refine r_pow9 ?_ | with_reducible refine r_pow18 ?_ | with_reducible refine r_pow20 ?_ | with_reducible refine r_pow30 ?_
  | with_reducible refine r_isN_non ?_ | with_reducible refine r_isN_ref ?_ | with_reducible refine r_isN_int ?_ | with_reducible refine r_isN_str ?_ | with_reducible refine r_isN_bl ?_ | with_reducible refine r_notN_non ?_ | with_reducible refine r_notN_ref ?_ | with_reducible refine r_notN_int ?_ | with_reducible refine r_notN_str ?_ | with_reducible refine r_notN_bl ?_
  | ((with_reducible refine r_I ?hc ?_); (case hc => walk_at "side")) | with_reducible refine r_U ?_
  | with_reducible refine r_eqI ?_ | with_reducible refine r_neI ?_ | with_reducible refine r_eqS ?_ | with_reducible refine r_neS ?_ | with_reducible refine r_eqB ?_ | with_reducible refine r_neB ?_
  | with_reducible refine r_chain ?_ | with_reducible refine r_test ?_ | with_reducible refine r_tB ?_ | with_reducible refine r_kTest ?_ | with_reducible refine r_not ?_
  | with_reducible refine r_and ?_ | with_reducible refine r_or ?_ | with_reducible refine r_tif ?_ | with_reducible refine r_andV ?_ | with_reducible refine r_orV ?_ | with_reducible refine r_notV ?_
  | with_reducible refine r_kAndV ?_ | with_reducible refine r_kOrV ?_ | with_reducible refine r_kNotV ?_
  | with_reducible refine w_T ?_ | with_reducible refine w_F ?_ | with_reducible refine w_NT ?_ | with_reducible refine w_NF ?_
  | with_reducible refine r_tup ?_ | with_reducible refine r_lst ?_ | with_reducible refine r_fld ?_ | with_reducible refine r_prop ?_ | ((with_reducible refine' r_aug ?h1 ?_); (case h1 => exact rfl)) | with_reducible refine r_ipI ?_ | with_reducible refine r_dget ?_ | with_reducible refine r_dput ?_ | with_reducible refine r_bm ?_
  | ((with_reducible refine' r_kDGetS ?h1 ?h2 ?_); (case h1 => assumption); (case h2 => walk_at "val"))
  | ((with_reducible refine' r_kBML ?h1 ?_); (case h1 => assumption))
  | with_reducible refine r_forL ?_ | with_reducible refine r_forR1 ?_ | with_reducible refine r_forR2 ?_ | with_reducible refine r_forT ?_ | with_reducible refine r_lcL ?_ | with_reducible refine r_lcR1 ?_
  | ((with_reducible refine r_kLcG ?hw ?_); (case hw => exact rfl)) | with_reducible refine r_kLcT ?_ | with_reducible refine r_yes ?_
  | with_reducible refine r_pnil ?_ | with_reducible refine r_pcons ?_
  | with_reducible refine r_fnK ?_ | ((with_reducible refine r_kFnK ?hl ?_); (case hl => exact rfl))
  | with_reducible refine r_isi_ii ?_ | with_reducible refine r_isi_ib ?_ | with_reducible refine r_isi_bi ?_ | with_reducible refine r_isi_bb ?_ | with_reducible refine r_isi_ss ?_ | with_reducible refine r_isi_is ?_ | with_reducible refine r_isi_it ?_
  | ((with_reducible refine' r_isi_tt ?h1 ?_); (case h1 => assumption))
  | with_reducible refine r_sfld ?_ | with_reducible refine r_gnil ?_ | with_reducible refine r_gcons ?_
  | ((with_reducible refine' r_gtup ?h1 ?h2 ?_); (case h1 => exact SqT.of (by assumption)); (case h2 => exact rfl))
  | with_reducible refine r_sl ?_ | with_reducible refine r_noPart ?_ | with_reducible refine r_part ?_ | with_reducible refine r_kPart ?_ | with_reducible refine r_m1 ?_ | with_reducible refine r_kM1 ?_ | with_reducible refine r_forS ?_ | with_reducible refine r_lcS ?_ | with_reducible refine r_lcTu ?_ | with_reducible refine r_lcK ?_ | with_reducible refine r_dcL ?_ | with_reducible refine r_dcK ?_ | with_reducible refine r_lc2L ?_ | with_reducible refine r_kLc2TL ?_ | with_reducible refine r_dcEn ?_ | with_reducible refine r_gslc ?_ | with_reducible refine r_lcEn ?_ | with_reducible refine r_lcEl ?_ | with_reducible refine r_lcR2 ?_ | with_reducible refine r_rg1 ?_ | with_reducible refine r_forET ?_ | with_reducible refine r_lenD ?_
  | ((with_reducible refine r_kDcG ?hw ?_); (case hw => exact rfl)) | with_reducible refine r_kDcT ?_
  | with_reducible refine r_fldaug ?_ | with_reducible refine r_daug ?_ | with_reducible refine r_rAdd ?_ | with_reducible refine r_rSub ?_ | with_reducible refine r_ddel ?_ | with_reducible refine r_bmF ?_ | with_reducible refine r_dget2 ?_ | with_reducible refine r_listItems ?_ | with_reducible refine r_bm0 ?_ | with_reducible refine r_lc2E ?_ | ((with_reducible refine r_kLc2G ?hw ?_); (case hw => exact rfl)) | with_reducible refine r_kLc2T ?_ | with_reducible refine r_forE ?_ | with_reducible refine r_orT ?_ | with_reducible refine r_din ?_ | with_reducible refine r_augS ?_ | with_reducible refine r_dnotin ?_ | with_reducible refine r_lcIT ?_ | with_reducible refine r_cont ?_ | with_reducible refine r_meth ?_ | with_reducible refine r_frz ?_ | with_reducible refine r_par3 ?_ | with_reducible refine r_kPar3 ?_ | with_reducible refine r_dz ?_ | with_reducible refine r_revL ?_ | with_reducible refine r_star ?_ | with_reducible refine r_int1 ?_ | with_reducible refine r_int1b ?_ | with_reducible refine r_min2 ?_ | with_reducible refine r_max2 ?_ | with_reducible refine r_gsub ?_)
local macro_rules | `(tactic| walk_at "rd") => `(tactic| repeat walk_at "rd1")
local macro_rules | `(tactic| walk_at "side") => `(tactic| first | assumption | exact Or.inr ⟨by decide, by decide⟩ | exact Or.inl ⟨by decide, by decide⟩ | (constructor <;> omega) | omega | decide | (refine Or.inl ⟨?_, ?_⟩ <;> omega) | (refine Or.inr ⟨?_, ?_⟩ <;> omega) | (refine ⟨?_, ?_, ?_⟩ <;> first | decide | omega))
def sp_near_hope : Sp := fun vs H Q _ => ∃ (st l c q : Addr) (cs : List Int) (n : Int) (h : Hope), vs = [.ref st, .ref q] ∧ n ≤ 8796093000000 ∧ DS st l c cs n H ∧ HopeAt H q h ∧ ∀ x H', Sh st l H' x → DS st l c cs (n + 10) H' → Kp st l H H' → Q x H'
theorem sh_args {K : PySem.W.Frag} {st l : Addr} {H : Hp} : ∀ {xs : List V}, (∀ x ∈ xs, Sh st l H x) → ∃ as : List Arg, xs = as.map (·.1) ∧ ∀ a ∈ as, NumV K H a.1 a.2.1 ∧ Vw K H a.1 a.2.2
  | [], _ => ⟨[], rfl, fun a h => by cases h⟩
  | x :: xs, h => by
    obtain ⟨as, e, g⟩ := sh_args (K := K) fun y hy => h y (List.mem_cons_of_mem _ hy)
    have hx := h x (List.mem_cons_self ..)
    obtain ⟨o, ho⟩ := hx.num (K := K)
    obtain ⟨b, hb⟩ := hx.vw (K := K)
    refine ⟨(x, o, b) :: as, by rw [e]; rfl, fun a ha => ?_⟩
    rcases List.mem_cons.mp ha with rfl | ha
    · exact ⟨ho, hb⟩
    · exact g a ha
theorem Sh.ww {K : PySem.W.Frag} {st l : Addr} {H : Hp} {v : V} (h : Sh st l H v) : ∃ b, Ww K H v b := by
  cases h with
  | non => exact ⟨_, .ty (.base .non) (by decide +kernel)⟩
  | bl b => exact ⟨_, .ty (.base (.bl b)) (by decide +kernel)⟩
  | int i => exact ⟨_, .ty (.base (.int i)) (by decide +kernel)⟩
  | str z => exact ⟨_, .ty (.base (.str z)) (by decide +kernel)⟩
  | lst _ _ h => exact ⟨_, .ty (.base (.lst h)) (by decide +kernel)⟩
  | dK _ _ h => exact ⟨_, .ty (.base (.dK h)) (by decide +kernel)⟩
  | @tup p xs _ _ h hl hx =>
    match xs, h, hl, hx with
    | [], h, hl, _ => exact ⟨_, .nil h⟩
    | x :: xs, h, hl, hx =>
      rcases (hx x (List.mem_cons_self ..)).cls (K := K) with ⟨z, rfl⟩ | ⟨a, h1, h2⟩
      · obtain ⟨as, e, g⟩ := sh_args (K := K) fun y hy => hx y (List.mem_cons_of_mem _ hy)
        subst e
        rw [List.length_cons, List.length_map] at hl
        exact ⟨_, .wd h (by omega) g⟩
      · rw [List.length_cons] at hl
        exact ⟨_, .fst h (by omega) h1 h2⟩
theorem tup_nst {st l c q : Addr} {cs : List Int} {n : Int} {H : Hp} {xs : List V} (D : DS st l c cs n H) (h : H q = some (.tup xs)) : q ≠ st ∧ q ≠ l := by
  obtain ⟨zs, _, hl⟩ := D.lg
  obtain ⟨r, t, _, _, _, hd⟩ := D.d
  exact ⟨ne_of h hd (by intro z; cases z), ne_of h hl (by intro z; cases z)⟩
theorem hope_sh {st l c q : Addr} {cs : List Int} {n : Int} {H : Hp} {h : Hope} (D : DS st l c cs n H) (a : HopeAt H q h) : ∃ (s : Str) (rest : List V), H q = some (.tup (.str s :: rest)) ∧ rest.length ≤ 2 ∧ ∀ y ∈ rest, Sh st l H y := by
  cases h with
  | early => exact ⟨_, [], a, by simp, fun y h => by cases h⟩
  | loss n => exact ⟨_, [.int n], a, by simp, fun y h => by rw [List.mem_singleton.mp h]; exact .int n⟩
  | free s n =>
    obtain ⟨t, h1, h2⟩ := a
    obtain ⟨n1, n2⟩ := tup_nst D h2
    refine ⟨_, [.ref t], h1, by simp, fun y h => ?_⟩
    rw [List.mem_singleton.mp h]
    exact .tup n1 n2 h2 (by simp) (fcons (.str _) (fcons (.int _) fun _ h => by cases h))
  | late m n => exact ⟨_, [.int m, .int n], a, by simp, fcons (.int _) (fcons (.int _) fun _ h => by cases h)⟩
theorem Sh.same {st l : Addr} {H H' : Hp} (e : Same H H') {v : V} (h : Sh st l H v) : Sh st l H' v := Sh.kp (Kp.of e) h
theorem r_catH1 {K : PySem.W.Frag} {H : Hp} {Q : VK} {a b : Addr} {xs : List V} {y : V} (h1 : H a = some (.tup xs)) (h2 : H b = some (.tup [y])) (hz : xs.length ≤ 1000) (q : ∀ p H', Same H H' → H' p = some (.tup (xs ++ [y])) → Q (.ref p) H') : rCatA K (.ref a) (.ref b) H Q := by
  refine ⟨a, b, xs, [y], rfl, rfl, SqT.of h1, SqT.of h2, sz5 (by rw [List.length_singleton]; omega), fun e => ?_, fun _ e => (by cases e), fun _ _ p hp => q p _ (Same.new hp) upd_same⟩
  refine q b H (Same.refl _) ?_
  rw [e, h2]
  rfl
theorem r_slT_m1 {K : PySem.W.Frag} {H : Hp} {Q : VK} {p : Addr} {xs : List V} (h : SqT K H p xs) (h1 : 0 < xs.length) (q : ∀ t H', H t = none → Same H H' → H' t = some (.tup (xs.take (xs.length - 1))) → Q (.ref t) H') : rSlT K (.ref p) none (some (-1)) H Q := by
  have e : HT.sIx xs.length xs.length (some (-1)) = xs.length - 1 := by
    have e0 : HT.sIx xs.length xs.length (some (-1)) = ((-1 : Int) + (xs.length : Int)).toNat := rfl
    rw [e0]
    omega
  refine ⟨p, xs, rfl, h, ?_, fun t ht => ?_⟩
  · rintro ⟨_, e2⟩
    rw [e] at e2
    omega
  · have e3 : cutV xs none (some (-1)) = xs.take (xs.length - 1) := by
      unfold cutV
      rw [e, HT.sIx_none, List.drop_zero]
      try rfl
    rw [e3]
    exact q t _ ht (Same.new ht) upd_same
section
variable {P : Program} {w : World} {K : PySem.W.Frag} {mg : Str → Option Value} {base : Heap}
theorem ok__law_near_hope {f : Addr} {fd : FuncData} (T : Tx K mg) (F : FnP K "_law_near_hope" s__law_near_hope f fd) (d__law_pick : Dn P w K mg base CX0 3 "_law_pick" ["_law_state", "_law_some_here"] sp_pick) (d__law_odd : Dn P w K mg base CX0 4 "_law_odd" ["_law_state"] sp_odd) : FnOk P w K mg base CX0 5 f fd ["_law_state", "_law_hope_here"] sp_near_hope := by
  have sc : FnScope ["_law_state", "_law_hope_here", "_law_some_here"] ["_law_state", "_law_hope_here"] (defScope s__law_near_hope) := ⟨rfl, rfl, rfl, by decide +kernel, rfl, by decide +kernel, by decide +kernel⟩
  refine F.ok sc (by rintro vs H Q E ⟨_, _, _, _, _, _, _, rfl, _⟩; rfl) (fun cdv A outer s H vs Q E hr h => ⟨_, PSs.nox ((pss_cons (ps_set (i := 2) sc.nd rfl (by first | exact Or.inl rfl | exact Or.inr rfl) (pe_lst (pa_cons (pv 1) (pa_cons (pe_callTy (c_listK (K := K) rfl) (by rfl) T.b_list (by decide +kernel) (pa_cons (pv 1) pa_nil)) (pa_cons (pe_op (op_catAK (K := K) rfl) (pv 1) (pe_tup (pa_cons pe_int pa_nil))) (pa_cons (pe_slice (sl_tupK (K := K) rfl) (pv 1) po_none (po_some (pe_un un_neg pe_int))) (pa_cons (pe_tup (pa_cons (pe_ix (ix_tupK (K := K) rfl) (pv 1) pe_int (fun _ _ => rfl)) (pa_cons (pe_un un_neg pe_int) pa_nil))) (pa_cons (pe_tup (pa_cons (pe_ix (ix_tupK (K := K) rfl) (pv 1) pe_int (fun _ _ => rfl)) (pa_cons pe_bl pa_nil))) (pa_cons (pe_tup (pa_cons (pe_ix (ix_tupK (K := K) rfl) (pv 1) pe_int (fun _ _ => rfl)) pa_nil)) (pa_cons (pe_tup (pa_cons (pe_ix (ix_tupK (K := K) rfl) (pv 1) pe_int (fun _ _ => rfl)) (pa_cons (pe_tup (pa_cons pe_str (pa_cons pe_int pa_nil))) pa_nil))) pa_nil))))))))))
      (pss_cons (ps_set (i := 2) sc.nd rfl (by first | exact Or.inl rfl | exact Or.inr rfl) (pe_op op_cat (pv 2) (pe_lst (pa_cons (pe_tup (pa_cons pe_str (pa_cons pe_int (pa_cons pe_int pa_nil)))) (pa_cons (pe_tup (pa_cons pe_str (pa_cons (pe_op op_add (pe_op op_pow pe_int pe_int) pe_int) (pa_cons pe_int pa_nil)))) (pa_cons (pe_tup (pa_cons pe_str (pa_cons pe_int (pa_cons (pe_un un_neg pe_int) pa_nil)))) (pa_cons (pe_tup (pa_cons pe_str (pa_cons pe_int (pa_cons pe_non pa_nil)))) (pa_cons (pe_tup (pa_cons pe_str (pa_cons pe_str pa_nil))) (pa_cons (pe_tup (pa_cons pe_str (pa_cons pe_non pa_nil))) pa_nil)))))))))
      (pss_one (ps_ret (pe_fn d__law_pick (hr.mono (by decide)) pass0 (pa_cons (pv 0) (pa_cons (pe_op op_cat (pv 2) (pe_lst (pa_cons (pe_tup (pa_cons pe_str (pa_cons (pe_lst (pa_cons pe_str (pa_cons pe_int pa_nil))) pa_nil))) (pa_cons (pe_tup (pa_cons pe_str (pa_cons pe_int pa_nil))) (pa_cons (pe_tup pa_nil) (pa_cons (pe_fn d__law_odd (hr.mono (by decide)) pass0 (pa_cons (pv 0) pa_nil)) (pa_cons (pe_tup (pa_cons (pe_fn d__law_odd (hr.mono (by decide)) pass0 (pa_cons (pv 0) pa_nil)) (pa_cons pe_int pa_nil))) pa_nil))))))) pa_nil)))))))), ?_⟩)
  obtain ⟨st, l, c, q, cs, n, h, rfl, hn, D, ha, k⟩ := h
  obtain ⟨s, rest, hq, hrl, hrs⟩ := hope_sh D ha
  obtain ⟨nq1, nq2⟩ := tup_nst D hq
  have no : ∀ {G : Hp}, ∀ y ∈ ([] : List V), Sh st l G y := fun _ h => by cases h
  walk_at "rd"
  refine r_listT (SqT.of hq) fun l1 H1 n1 e1 h1 => ?_
  walk_at "rd"
  refine r_kTup fun t2 H2 n2 e2 h2 => ?_
  walk_at "rd"
  refine r_catH1 (e2 _ _ (e1 _ _ hq)) h2 (by rw [List.length_cons]; omega) fun p3 H3 e3 h3 => ?_
  have hq3 := e3 _ _ (e2 _ _ (e1 _ _ hq))
  have D3 := ((D.keep e1).keep e2).keep e3
  walk_at "rd"
  refine r_slT_m1 (SqT.of hq3) (by simp) fun t4 H4 n4 e4 h4 => ?_
  have hq4 := e4 _ _ hq3
  walk_at "rd"
  refine r_ixT (SqT.of hq4) (at_get (n := 0) rfl rfl) ?_
  walk_at "rd"
  refine r_kTup fun t5 H5 n5 e5 h5 => ?_
  have hq5 := e5 _ _ hq4
  walk_at "rd"
  refine r_ixT (SqT.of hq5) (at_get (n := 0) rfl rfl) ?_
  walk_at "rd"
  refine r_kTup fun t6 H6 n6 e6 h6 => ?_
  have hq6 := e6 _ _ hq5
  walk_at "rd"
  refine r_ixT (SqT.of hq6) (at_get (n := 0) rfl rfl) ?_
  walk_at "rd"
  refine r_kTup fun t7 H7 n7 e7 h7 => ?_
  have hq7 := e7 _ _ hq6
  walk_at "rd"
  refine r_ixT (SqT.of hq7) (at_get (n := 0) rfl rfl) ?_
  walk_at "rd"
  refine r_kTup fun t8 H8 n8 e8 h8 => ?_
  walk_at "rd"
  refine r_kTup fun t9 H9 n9 e9 h9 => ?_
  have D4 := D3.keep e4
  have D5 := D4.keep e5
  have D6 := D5.keep e6
  have D7 := D6.keep e7
  have D8 := D7.keep e8
  have D9 := D8.keep e9
  have g8 : Same H8 H9 := e9
  have g7 := e8.trans g8
  have g6 := e7.trans g7
  have g5 := e6.trans g6
  have g4 := e5.trans g5
  have g3 := e4.trans g4
  have g1 := e2.trans (e3.trans g3)
  have g0 := e1.trans g1
  have hs0 : ∀ {p : Addr} {xs : List V} {G : Hp} {m : Int}, DS st l c cs m G → G p = some (.tup xs) → xs.length ≤ 1000 → (∀ y ∈ xs, Sh st l G y) → Sh st l G (.ref p) := fun {p xs G m} DG h hl hx => .tup (tup_nst DG h).1 (tup_nst DG h).2 h hl hx
  walk_at "rd"
  refine r_kLst fun lA H10 nA e10 hA => ?_
  have D10 := D9.keep e10
  have s0 : Sh st l H9 (.ref q) := hs0 D9 (g3 _ _ hq3) (by rw [List.length_cons]; omega) (fcons (.str _) fun y hy => (hrs y hy).same (g0))
  walk_at "rd"
  refine r_kTup fun u0 H11 nu0 e11 hu0 => ?_
  walk_at "rd"
  have D11 := D10.keep e11
  refine r_kTup fun u1 H12 nu1 e12 hu1 => ?_
  walk_at "rd"
  have D12 := D11.keep e12
  refine r_kTup fun u2 H13 nu2 e13 hu2 => ?_
  walk_at "rd"
  have D13 := D12.keep e13
  refine r_kTup fun u3 H14 nu3 e14 hu3 => ?_
  walk_at "rd"
  have D14 := D13.keep e14
  refine r_kTup fun u4 H15 nu4 e15 hu4 => ?_
  walk_at "rd"
  have D15 := D14.keep e15
  refine r_kTup fun u5 H16 nu5 e16 hu5 => ?_
  walk_at "rd"
  have D16 := D15.keep e16
  refine r_kLst fun lB H17 nB e17 hB => ?_
  have D17 := D16.keep e17
  walk_at "rd"
  have g16 : Same H16 H17 := e17
  have g15 := e16.trans g16
  have g14 := e15.trans g15
  have g13 := e14.trans g14
  have g12 := e13.trans g13
  have g11 := e12.trans g12
  have g10 := e11.trans g11
  refine r_cat (g10 _ _ hA) hB (by simp) fun lC H18 nC e18 hC => ?_
  have D18 := D17.keep e18
  walk_at "rd"
  refine r_kLst fun m1 H19 nm1 e19 hm1 => ?_
  have D19 := D18.keep e19
  walk_at "rd"
  refine r_kTup fun v1 H20 nv1 e20 hv1 => ?_
  have D20 := D19.keep e20
  walk_at "rd"
  refine r_kTup fun v2 H21 nv2 e21 hv2 => ?_
  have D21 := D20.keep e21
  walk_at "rd"
  refine r_kTup fun v3 H22 nv3 e22 hv3 => ?_
  have D22 := D21.keep e22
  walk_at "rd"
  refine ⟨st, l, c, cs, _, rfl, (by omega : _ ≤ (8796093022208 : Int)), D22, fun o1 H23 sh1 D23 k23 => ?_⟩
  walk_at "rd"
  refine ⟨st, l, c, cs, _, rfl, (by omega : _ ≤ (8796093022208 : Int)), D23, fun o2 H24 sh2 D24 k24 => ?_⟩
  walk_at "rd"
  refine r_kTup fun v4 H25 nv4 e25 hv4 => ?_
  have D25 := D24.keep e25
  walk_at "rd"
  refine r_kLst fun lD H26 nD e26 hD => ?_
  have D26 := D25.keep e26
  walk_at "rd"
  have f25 : Kp st l H25 H26 := Kp.of e26
  have f24 : Kp st l H24 H26 := (Kp.of e25).trans f25
  have f23 := k24.trans f24
  have f22 := k23.trans f23
  have f21 : Kp st l H21 H26 := (Kp.of e22).trans f22
  have f20 : Kp st l H20 H26 := (Kp.of e21).trans f21
  have f19 : Kp st l H19 H26 := (Kp.of e20).trans f20
  have f18 : Kp st l H18 H26 := (Kp.of e19).trans f19
  have f17 : Kp st l H17 H26 := (Kp.of e18).trans f18
  have f10 : Kp st l H10 H26 := (Kp.of g10).trans f17
  have f9 : Kp st l H9 H26 := (Kp.of e10).trans f10
  refine r_cat (f18 _ _ hC (D17.nst nC) (D17.nl nC)) hD (by simp) fun lE H27 nE e27 hE => ?_
  have z9 : ∀ {G : Hp}, ∀ y ∈ ([] : List V), Sh st l G y := fun _ h => by cases h
  have z1 : ∀ {G : Hp} (i : Int), ∀ y ∈ [V.int i], Sh st l G y := fun i => fcons (.int i) z9
  have a0 : Sh st l H9 (.ref q) := s0
  have a1 : Sh st l H9 (.ref l1) := .lst (D.nst n1) (D.nl n1) (g1 _ _ h1)
  have a3 : Sh st l H9 (.ref p3) := hs0 D9 (g3 _ _ h3) (by rw [List.length_append, List.length_cons, List.length_singleton]; omega) fun y hy => by
    rcases List.mem_append.mp hy with hy | hy
    · rcases List.mem_cons.mp hy with rfl | hy
      · exact .str _
      · exact (hrs y hy).same g0
    · exact z1 1 y hy
  have a4 : Sh st l H9 (.ref t4) := hs0 D9 (g4 _ _ h4) (Nat.le_trans (List.length_take_le' _ _) (by rw [List.length_cons]; omega)) fun y hy => by
    rcases List.mem_cons.mp (List.mem_of_mem_take hy) with rfl | hy
    · exact .str _
    · exact (hrs y hy).same g0
  have a5 : Sh st l H9 (.ref t5) := hs0 D9 (g5 _ _ h5) (by simp) (fcons (.str _) (z1 _))
  have a6 : Sh st l H9 (.ref t6) := hs0 D9 (g6 _ _ h6) (by simp) (fcons (.str _) (fcons (.bl _) z9))
  have a7 : Sh st l H9 (.ref t7) := hs0 D9 (g7 _ _ h7) (by simp) (fcons (.str _) z9)
  have a8 : Sh st l H9 (.ref t8) := hs0 D9 (g8 _ _ h8) (by simp) (fcons (.str _) (z1 _))
  have a9 : Sh st l H9 (.ref t9) := hs0 D9 h9 (by simp) (fcons (.str _) (fcons a8 z9))
  have b0 : Sh st l H17 (.ref u0) := hs0 D17 ((e12.trans g12) _ _ hu0) (by simp) (fcons (.str _) (fcons (.int _) (z1 _)))
  have b1 : Sh st l H17 (.ref u1) := hs0 D17 (g12 _ _ hu1) (by simp) (fcons (.str _) (fcons (.int _) (z1 _)))
  have b2 : Sh st l H17 (.ref u2) := hs0 D17 (g13 _ _ hu2) (by simp) (fcons (.str _) (fcons (.int _) (z1 _)))
  have b3 : Sh st l H17 (.ref u3) := hs0 D17 (g14 _ _ hu3) (by simp) (fcons (.str _) (fcons (.int _) (fcons .non z9)))
  have b4 : Sh st l H17 (.ref u4) := hs0 D17 (g15 _ _ hu4) (by simp) (fcons (.str _) (fcons (.str _) z9))
  have b5 : Sh st l H17 (.ref u5) := hs0 D17 (g16 _ _ hu5) (by simp) (fcons (.str _) (fcons .non z9))
  have c0 : Sh st l H20 (.ref v1) := hs0 D20 hv1 (by simp) (fcons (.str _) (fcons (.lst (D18.nst nm1) (D18.nl nm1) (e20 _ _ hm1)) z9))
  have c1 : Sh st l H21 (.ref v2) := hs0 D21 hv2 (by simp) (fcons (.str _) (z1 _))
  have c2 : Sh st l H22 (.ref v3) := hs0 D22 hv3 (by simp) z9
  have c4 : Sh st l H25 (.ref v4) := hs0 D25 hv4 (by simp) (fcons (sh2.kp (Kp.of e25)) (z1 _))
  walk_at "rd"
  refine u_pick D26 (by omega) nE e27 hE (by simp) (by simp) fun i x H28 hx D28 k28 => ?_
  have all : ∀ y ∈ ([.ref q, .ref l1, .ref p3, .ref t4, .ref t5, .ref t6, .ref t7, .ref t9] ++ [.ref u0, .ref u1, .ref u2, .ref u3, .ref u4, .ref u5] ++ [.ref v1, .ref v2, .ref v3, o1, .ref v4] : List V), Sh st l H26 y := fun y hy => by
    rcases List.mem_append.mp hy with hy | hy
    · rcases List.mem_append.mp hy with hy | hy
      · exact Sh.kp f9 ((fcons a0 (fcons a1 (fcons a3 (fcons a4 (fcons a5 (fcons a6 (fcons a7 (fcons a9 z9))))))) : ∀ y ∈ _, _) y hy)
      · exact Sh.kp f17 ((fcons b0 (fcons b1 (fcons b2 (fcons b3 (fcons b4 (fcons b5 z9))))) : ∀ y ∈ _, _) y hy)
    · exact (fcons (c0.kp f20) (fcons (c1.kp f21) (fcons (c2.kp f22) (fcons (sh1.kp f23) (fcons (c4.kp f25) z9)))) : ∀ y ∈ _, _) y hy
  refine k x H28 (Sh.kp k28 (all _ (List.mem_of_getElem? hx))) (D28.mono (by omega)) ?_
  exact (Kp.of g0).trans (f9.trans k28)
end
end Wp
set_option Elab.async false
set_option linter.all false
set_option maxRecDepth 100000
set_option maxHeartbeats 4000000
/-! dict(a list of pairs). -/
namespace Wp
open PySem PySem.Spec PyProof.Rows L2
def rDictP (K : PySem.W.Frag) : List V → Hp → VK → Prop := fun xs H Q => ∃ (a : Addr) (ps : List Addr) (kvs : List (Key × V)), xs = [.ref a] ∧ SqL K H a (ps.map V.ref) ∧ Paired (fun p kv => SqT K H p [kV kv.1, kv.2]) ps kvs ∧ ∀ p, H p = none → Q (.ref p) (upd H p (.dK (mergeK [] kvs)))
theorem c_dictP {X : Cx} {K : PySem.W.Frag} (h : X.K = K) (hc : X.calm = true) : CallR X (.type "dict") (rDictP K) := by
  subst h
  exact call_dictP hc
theorem pairedApp {α β : Type} {R : α → β → Prop} {as cs : List α} {bs ds : List β} (h : Paired R as bs) (h2 : Paired R cs ds) : Paired R (as ++ cs) (bs ++ ds) := by
  induction h with
  | nil => exact h2
  | cons h _ ih => exact .cons h ih
theorem pairedImp {α β : Type} {R S : α → β → Prop} {as : List α} {bs : List β} (h : Paired R as bs) (f : ∀ a b, R a b → S a b) : Paired S as bs := by
  induction h with
  | nil => exact .nil
  | cons h _ ih => exact .cons (f _ _ h) ih
section
variable {K : PySem.W.Frag} {H : Hp} {Q : VK} {a : Addr}
theorem r_dictP {ps : List Addr} {kvs : List (Key × V)} (h : H a = some (.lst (ps.map V.ref))) (hp : Paired (fun (p : Addr) (kv : Key × V) => H p = some (.tup [kV kv.1, kv.2])) ps kvs) (nd : (kvs.map (·.1)).Nodup) (q : ∀ p H', H p = none → Same H H' → H' p = some (.dK kvs) → Q (.ref p) H') : rDictP K [.ref a] H Q :=
  ⟨a, ps, kvs, rfl, SqL.of h, pairedImp hp fun _ _ e => SqT.of e, fun p hp => q p _ hp (Same.new hp) (by rw [mergeK_nil nd]; exact upd_same)⟩
end
end Wp
set_option Elab.async false
set_option linter.all false
set_option maxRecDepth 100000
set_option maxHeartbeats 4000000
/-! a model whose rates rise along laid. -/
namespace Wp
open PySem PySem.Spec PyProof.Rows L2
abbrev s__law_rising : Stmt := topS 76
local macro_rules | `(tactic| walk_at "val") => `(tactic| assumption)
local macro_rules | `(tactic| walk_at "rd1") => `(tactic| first
  | with_reducible refine r_seq ?_ | with_reducible refine r_next ?_ | with_reducible refine r_if ?_ | with_reducible refine r_asg ?_ | with_reducible refine r_gname ?_
  | with_reducible refine r_ret ?_ | with_reducible refine r_retN ?_ | with_reducible refine r_drop ?_ | with_reducible refine r_par ?_ | with_reducible refine r_kPar ?_
  | ((with_reducible refine' r_var ?hv ?_); (case hv => exact rfl)) | with_reducible refine r_c ?_ | with_reducible refine r_nil ?_ | with_reducible refine r_cons ?_
  | with_reducible refine r_fn ?_ | with_reducible refine r_cb ?_ | with_reducible refine r_op ?_ | with_reducible refine r_un ?_ | with_reducible refine r_I0 ?_
  | with_reducible refine r_pow5 ?_ | with_reducible refine r_pow6 ?_ | with_reducible refine r_pow7 ?_ | with_reducible refine r_pow9 ?_ | with_reducible refine r_pow18 ?_ | with_reducible refine r_pow20 ?_ | with_reducible refine r_pow30 ?_
  | with_reducible refine r_isN_non ?_ | with_reducible refine r_isN_ref ?_ | with_reducible refine r_isN_int ?_ | with_reducible refine r_isN_str ?_ | with_reducible refine r_isN_bl ?_ | with_reducible refine r_notN_non ?_ | with_reducible refine r_notN_ref ?_ | with_reducible refine r_notN_int ?_ | with_reducible refine r_notN_str ?_ | with_reducible refine r_notN_bl ?_
  | ((with_reducible refine r_I ?hc ?_); (case hc => walk_at "side")) | with_reducible refine r_U ?_
  | with_reducible refine r_eqI ?_ | with_reducible refine r_neI ?_ | with_reducible refine r_eqS ?_ | with_reducible refine r_neS ?_ | with_reducible refine r_eqB ?_ | with_reducible refine r_neB ?_
  | with_reducible refine r_chain ?_ | with_reducible refine r_test ?_ | with_reducible refine r_tB ?_ | with_reducible refine r_kTest ?_ | with_reducible refine r_not ?_
  | with_reducible refine r_and ?_ | with_reducible refine r_or ?_ | with_reducible refine r_tif ?_ | with_reducible refine r_andV ?_ | with_reducible refine r_orV ?_ | with_reducible refine r_notV ?_
  | with_reducible refine r_kAndV ?_ | with_reducible refine r_kOrV ?_ | with_reducible refine r_kNotV ?_
  | with_reducible refine w_T ?_ | with_reducible refine w_F ?_ | with_reducible refine w_NT ?_ | with_reducible refine w_NF ?_
  | with_reducible refine r_tup ?_ | with_reducible refine r_lst ?_ | with_reducible refine r_fld ?_ | with_reducible refine r_prop ?_ | ((with_reducible refine' r_aug ?h1 ?_); (case h1 => exact rfl)) | with_reducible refine r_ipI ?_ | with_reducible refine r_dget ?_ | with_reducible refine r_dput ?_ | with_reducible refine r_bm ?_
  | ((with_reducible refine' r_kDGetS ?h1 ?h2 ?_); (case h1 => assumption); (case h2 => walk_at "val"))
  | ((with_reducible refine' r_kBML ?h1 ?_); (case h1 => assumption))
  | with_reducible refine r_forL ?_ | with_reducible refine r_forR1 ?_ | with_reducible refine r_forR2 ?_ | with_reducible refine r_forT ?_ | with_reducible refine r_lcL ?_ | with_reducible refine r_lcR1 ?_
  | ((with_reducible refine r_kLcG ?hw ?_); (case hw => exact rfl)) | with_reducible refine r_kLcT ?_ | with_reducible refine r_yes ?_
  | with_reducible refine r_pnil ?_ | with_reducible refine r_pcons ?_
  | with_reducible refine r_fnK ?_ | ((with_reducible refine r_kFnK ?hl ?_); (case hl => exact rfl))
  | with_reducible refine r_isi_ii ?_ | with_reducible refine r_isi_ib ?_ | with_reducible refine r_isi_bi ?_ | with_reducible refine r_isi_bb ?_ | with_reducible refine r_isi_ss ?_ | with_reducible refine r_isi_is ?_ | with_reducible refine r_isi_it ?_
  | ((with_reducible refine' r_isi_tt ?h1 ?_); (case h1 => assumption))
  | with_reducible refine r_sfld ?_ | with_reducible refine r_gnil ?_ | with_reducible refine r_gcons ?_
  | ((with_reducible refine' r_gtup ?h1 ?h2 ?_); (case h1 => exact SqT.of (by assumption)); (case h2 => exact rfl))
  | with_reducible refine r_sl ?_ | with_reducible refine r_noPart ?_ | with_reducible refine r_part ?_ | with_reducible refine r_kPart ?_ | with_reducible refine r_m1 ?_ | with_reducible refine r_kM1 ?_ | with_reducible refine r_forS ?_ | with_reducible refine r_lcS ?_ | with_reducible refine r_lcTu ?_ | with_reducible refine r_lcK ?_ | with_reducible refine r_dcL ?_ | with_reducible refine r_dcK ?_ | with_reducible refine r_lc2L ?_ | with_reducible refine r_kLc2TL ?_ | with_reducible refine r_dcEn ?_ | with_reducible refine r_gslc ?_ | with_reducible refine r_lcEn ?_ | with_reducible refine r_lcEl ?_ | with_reducible refine r_lcR2 ?_ | with_reducible refine r_rg1 ?_ | with_reducible refine r_forET ?_ | with_reducible refine r_lenD ?_
  | ((with_reducible refine r_kDcG ?hw ?_); (case hw => exact rfl)) | with_reducible refine r_kDcT ?_
  | with_reducible refine r_fldaug ?_ | with_reducible refine r_daug ?_ | with_reducible refine r_rAdd ?_ | with_reducible refine r_rSub ?_ | with_reducible refine r_ddel ?_ | with_reducible refine r_bmF ?_ | with_reducible refine r_dget2 ?_ | with_reducible refine r_listItems ?_ | with_reducible refine r_bm0 ?_ | with_reducible refine r_lc2E ?_ | ((with_reducible refine r_kLc2G ?hw ?_); (case hw => exact rfl)) | with_reducible refine r_kLc2T ?_ | with_reducible refine r_forE ?_ | with_reducible refine r_orT ?_ | with_reducible refine r_din ?_ | with_reducible refine r_augS ?_ | with_reducible refine r_dnotin ?_ | with_reducible refine r_lcIT ?_ | with_reducible refine r_cont ?_ | with_reducible refine r_meth ?_ | with_reducible refine r_frz ?_ | with_reducible refine r_par3 ?_ | with_reducible refine r_kPar3 ?_ | with_reducible refine r_dz ?_ | with_reducible refine r_revL ?_ | with_reducible refine r_star ?_ | with_reducible refine r_int1 ?_ | with_reducible refine r_int1b ?_ | with_reducible refine r_min2 ?_ | with_reducible refine r_max2 ?_ | with_reducible refine r_gsub ?_)
local macro_rules | `(tactic| walk_at "rd") => `(tactic| repeat walk_at "rd1")
local macro_rules | `(tactic| walk_at "side") => `(tactic| first | assumption | exact Or.inr ⟨by decide, by decide⟩ | exact Or.inl ⟨by decide, by decide⟩ | (constructor <;> omega) | omega | decide | (refine Or.inl ⟨?_, ?_⟩ <;> omega) | (refine Or.inr ⟨?_, ?_⟩ <;> omega) | (refine ⟨?_, ?_, ?_⟩ <;> first | decide | omega))
local macro_rules | `(tactic| walk_at "val") => `(tactic| first | exact mv1 | exact mv2 | exact mv3 | exact mv4 | exact mv5 | exact mv6)
def sp_rising : Sp := fun vs H Q _ => ∃ (st l c : Addr) (cs : List Int) (n : Int), vs = [.ref st] ∧ n ≤ 8796093022208 ∧ DS st l c cs n H ∧
  ∀ p B H', H p = none → B.Ok → B.LaidOk → Mdl l H' p B → DS st l c cs (n + 210) H' → Kp st l H H' → Q (.ref p) H'
/-- the kinds in the order ns with the rates ys -/
def zipK (ns : List Str) (ys : List Int) (fr : Str → Bool) : List (Str × Int × Bool) := (ns.zip ys).map fun z => (z.1, z.2, fr z.1)
theorem zipK_names {ns : List Str} {ys : List Int} {fr : Str → Bool} (h : ys.length = ns.length) : (zipK ns ys fr).map (·.1) = ns := by
  unfold zipK
  rw [List.map_map]
  exact List.map_fst_zip (by omega)
theorem zipK_len {ns : List Str} {ys : List Int} {fr : Str → Bool} (h : ys.length = ns.length) : (zipK ns ys fr).length = ns.length := by
  rw [← List.length_map (f := (·.1)), zipK_names h]
theorem zipK_get {ns : List Str} {ys : List Int} {fr : Str → Bool} {i : Nat} {n : Str} {y : Int} (h1 : ns[i]? = some n) (h2 : ys[i]? = some y) : (zipK ns ys fr)[i]? = some (n, y, fr n) := by
  unfold zipK
  have e : (ns.zip ys)[i]? = some (n, y) := List.getElem?_zip_eq_some.mpr ⟨h1, h2⟩
  rw [List.getElem?_map, e]
  rfl
section
variable {P : Program} {w : World} {K : PySem.W.Frag} {mg : Str → Option Value} {base : Heap}
theorem ok__law_rising {f : Addr} {fd : FuncData} (T : Tx K mg) (F : FnP K "_law_rising" s__law_rising f fd) (d__law_model : Dn P w K mg base CX0 5 "_law_model" ["_law_state", "_law_many", "_law_is_laid"] sp_model) (d__law_take : Dn P w K mg base CX0 2 "_law_take" ["_law_state", "_law_size"] sp_take) :
    FnOk P w K mg base CX0 6 f fd ["_law_state"] sp_rising := by
  have sc : FnScope ["_law_state", "_law_model_here", "_law_rated", "_law_label", "_law_at"] ["_law_state"] (defScope s__law_rising) := ⟨rfl, rfl, rfl, by decide +kernel, rfl, by decide +kernel, by decide +kernel⟩
  refine F.ok sc (by rintro vs H Q E ⟨_, _, _, _, _, rfl, _⟩; rfl) (fun cdv A outer s H vs Q E hr h => ⟨_, PSs.nox ((pss_cons (ps_set (i := 1) sc.nd rfl (by first | exact Or.inl rfl | exact Or.inr rfl) (pe_fn d__law_model (hr.mono (by decide)) pass0 (pa_cons (pv 0) (pa_cons pe_int (pa_cons pe_bl pa_nil)))))
      (pss_cons (ps_if (PW.pt (pw_and (pt_cmpR op_notN1 (pe_dget (hu_of hr) (pv 1) pe_str (fun _ _ => rfl)) pe_non (nomark _)) (pw_and1 (pt_cmpR op_gt (pe_fn d__law_take (hr.mono (by decide)) pass0 (pa_cons (pv 0) (pa_cons pe_int pa_nil))) pe_int (nomark _))))) (Evl.pss_cut (ps_set (i := 2) sc.nd rfl (by first | exact Or.inl rfl | exact Or.inr rfl) (pe_callB (c_sortedIK (K := K) rfl) (by rfl) T.b_sorted (by decide +kernel) (pa_cons (pe_lc (own := [("_law_label", 3)]) (by rfl) sc.nd (pi_tupK (K := K) rfl (pe_dget (hu_of hr) (pv 1) pe_str (fun _ _ => rfl))) (blkOk_by (own := [("_law_label", 3)]) (N := ["_law_state", "_law_model_here", "_law_rated", "_law_label", "_law_at"]) (sc := defScope s__law_rising) (by decide +kernel)) (fun _ _ _ _ _ => (pg_name (i := 3) sc.nd rfl (by first | exact Or.inl rfl | exact Or.inr rfl))) (fun _ _ _ _ _ => pts_nil) (fun _ _ _ _ _ => (pe_ix (ix_tupK (K := K) rfl) (pe_dget (hu_of hr) (pe_dget (hu_of hr) (pv 1) pe_str (fun _ _ => rfl)) (pv 3) (fun _ _ => rfl)) pe_int (fun _ _ => rfl)))) pa_nil)))
      (pss_one (ps_dput (hu_of hr) (pv 1) pe_str (pe_callTy (c_dictP (K := K) rfl rfl) (by rfl) T.b_dict (by decide +kernel) (pa_cons (pe_lc (own := [("_law_at", 4), ("_law_label", 3)]) (by rfl) sc.nd (pi_enumTK (K := K) rfl (by rfl) T.b_enumerate (pa_cons (pe_dget (hu_of hr) (pv 1) pe_str (fun _ _ => rfl)) pa_nil)) (blkOk_by (own := [("_law_at", 4), ("_law_label", 3)]) (N := ["_law_state", "_law_model_here", "_law_rated", "_law_label", "_law_at"]) (sc := defScope s__law_rising) (by decide +kernel)) (fun _ _ _ _ _ => (pg_tupK (K := K) (n := 2) rfl rfl (pgs_cons (pg_name (i := 4) sc.nd rfl (by first | exact Or.inl rfl | exact Or.inr rfl)) (pgs_cons (pg_name (i := 3) sc.nd rfl (by first | exact Or.inl rfl | exact Or.inr rfl)) pgs_nil)))) (fun _ _ _ _ _ => pts_nil) (fun _ _ _ _ _ => (pe_tup (pa_cons (pv 3) (pa_cons (pe_tup (pa_cons (pe_ix (ix_listK (K := K) rfl) (pv 2) (pv 4) (fun _ _ => rfl)) (pa_cons (pe_ix (ix_tupK (K := K) rfl) (pe_dget (hu_of hr) (pe_dget (hu_of hr) (pv 1) pe_str (fun _ _ => rfl)) (pv 3) (fun _ _ => rfl)) pe_int (fun _ _ => rfl)) pa_nil))) pa_nil))))) pa_nil)) rfl))) pss_nil)
      (pss_one (ps_ret (pv 1)))))), ?_⟩)
  obtain ⟨st, l, c, cs, n, rfl, hn, D, k⟩ := h
  walk_at "rd"
  refine ⟨st, l, c, cs, n, 5, true, rfl, hn, D, by omega, by omega, fun p B H1 np ok lok hM0 D1 k1 => ?_⟩
  obtain ⟨ad, kd, lv, kvs, hM⟩ := id hM0
  walk_at "rd"
  refine r_kDGetS hM.i mv3 ?_
  cases hL : B.laid with
  | none =>
    have hd := hM.d
    rw [hL] at hd
    obtain rfl : lv = .non := hd
    walk_at "rd"
    exact k p B H1 np ok lok hM0 (D1.mono (by omega)) k1
  | some ns =>
    have hd := hM.d
    rw [hL] at hd
    obtain ⟨tl, rfl, htl⟩ := hd
    have pn := lok ns hL
    have nl := pn.length_eq
    rw [List.length_map] at nl
    have l6 := ok.kn.hi
    have l1 := ok.kn.lo
    have nd := ok.kn.nm.nd
    have nin : ∀ z ∈ ns, (z, rtB B z, frB B z) ∈ B.ks := fun z hz => lk_mem (pn.mem_iff.mp hz)
    walk_at "rd"
    refine u_take D1 (by omega) (by omega) (by omega) fun y H2 y0 y1 D2 k2 => ?_
    have hM2 := hM.kp k2 D1
    have htl2 := htl.keep (k2.frzs D1)
    walk_at "rd"
    refine w_dec (fun g => ?_) (fun g => ?_)
    · refine r_cut (fun σ' H' => ∃ (tr : Addr) (ys : List Int), σ' = [some (.ref st), some (.ref p), some (.ref tr), none, none] ∧ Same H2 H' ∧ H' tr = some (.lst (ys.map V.int)) ∧ ys.Perm (ns.map (rtB B))) ?_ ?_
      · walk_at "rd"
        refine r_kDGetS hM2.i mv3 ?_
        refine r_kLcTu (xs := ns.map V.str) (fun Da i H' => Same H2 H' ∧ H' Da = some (.lst (((ns.map (rtB B)).take i).map V.int))) htl2.sq (fun Da H' _ e h => ⟨e, h⟩) (fun Da i H' h => (htl2.same h.1).sq) ?_ ?_
        · rintro Da i x H3 nDa hx ⟨e3, hDa⟩
          obtain ⟨s, rfl, hs⟩ := strs_get hx
          have hil := (List.getElem?_eq_some_iff.mp hs).1
          have hM3 := hM2.keep e3
          obtain ⟨tz, vz, htz⟩ := hM3.a.val nd (nin s (List.mem_of_getElem? hs))
          walk_at "rd"
          refine r_kDGetS hM3.i mv2 ?_
          walk_at "rd"
          refine r_kDGetS hM3.k vz ?_
          walk_at "rd"
          refine r_ixT (SqT.of htz) (at_get (n := 0) rfl rfl) ?_
          refine r_kLcE hDa (by rw [List.length_map, List.length_take, List.length_map]; omega) fun H4 b4 h4 => ⟨Same.mut e3 b4 nDa, ?_⟩
          rw [take_more (show (ns.map (rtB B))[i]? = some (rtB B s) by rw [List.getElem?_map, hs]; rfl), List.map_append]
          exact h4
        rintro Da H3 nDa ⟨e3, hDa⟩
        have e1 : (ns.map (rtB B)).take (ns.map V.str).length = ns.map (rtB B) := by rw [List.take_of_length_le (by rw [List.length_map, List.length_map]; exact Nat.le_refl _)]
        rw [e1] at hDa
        walk_at "rd"
        refine r_sortedI (SqL.of hDa) fun ms tr H4 pm _ ntr e4 htr => ?_
        walk_at "rd"
        exact ⟨tr, ms, rfl, e3.trans e4, htr, pm⟩
      rintro σ' H3 ⟨tr, ys, rfl, e3, htr, pm⟩
      have yl : ys.length = ns.length := by rw [pm.length_eq, List.length_map]
      have hM3 := hM2.keep e3
      have htl3 := htl2.same e3
      walk_at "rd"
      refine r_kDGetS hM3.i mv3 ?_
      walk_at "rd"
      have zl := zipK_len (fr := frB B) yl
      refine r_kLcEn (xs := ns.map V.str) htl3.sq (fun Da i H' => Same H3 H' ∧ ∃ (ps : List Addr) (kv2 : List (Key × V)), H' Da = some (.lst (ps.map V.ref)) ∧ Paired (fun (p : Addr) (kv : Key × V) => H' p = some (.tup [kV kv.1, kv.2])) ps kv2 ∧ KAt H' kv2 ((zipK ns ys (frB B)).take i) ∧ ps.length = i)
        (fun Da H' _ e h => ⟨e, [], [], h, .nil, .nil, rfl⟩) (fun Da i H' h => (htl3.same h.1).sq) ?_ ?_
      · rintro Da i x T5 H5 H6 nDa hx ⟨e5, ps, kv2, hDa, hP, hK, hpl⟩ nT e6 hT
        obtain ⟨s, rfl, hs⟩ := strs_get hx
        have hil := (List.getElem?_eq_some_iff.mp hs).1
        have e36 := e5.trans e6
        have hM6 := hM3.keep e36
        obtain ⟨tz, vz, htz⟩ := hM6.a.val nd (nin s (List.mem_of_getElem? hs))
        obtain ⟨yi, hyi⟩ : ∃ yi, ys[i]? = some yi := ⟨_, List.getElem?_eq_getElem (by omega)⟩
        walk_at "rd"
        refine r_ixL (SqL.of (e36 _ _ htr)) (at_get (n := i) rfl (by rw [List.getElem?_map, hyi]; rfl)) ?_
        walk_at "rd"
        refine r_kDGetS hM6.i mv2 ?_
        walk_at "rd"
        refine r_kDGetS hM6.k vz ?_
        walk_at "rd"
        refine r_ixT (SqT.of htz) (at_get (n := 1) rfl rfl) ?_
        walk_at "rd"
        refine r_kTup fun t7 H7 nt7 e7 ht7 => ?_
        walk_at "rd"
        refine r_kTup fun t8 H8 nt8 e8 ht8 => ?_
        have e68 := e7.trans e8
        have hDa8 := e68 _ _ (e6 _ _ hDa)
        refine r_kLcE hDa8 (by rw [List.length_map]; omega) fun H9 b9 h9 => ?_
        have tk : ∀ u xs, H8 u = some (.tup xs) → H9 u = some (.tup xs) := fun u xs hu => b9 _ _ hu (ne_of hu hDa8 (by intro z; cases z))
        refine ⟨Same.mut (e36.trans e68) b9 nDa, ps ++ [t8], kv2 ++ [(Sum.inr s, .ref t7)], by rw [List.map_append]; exact h9, pairedApp (pairedImp hP fun a b h => tk _ _ (e68 _ _ (e6 _ _ h))) (.cons (show H9 t8 = some (.tup [kV (Sum.inr s), .ref t7]) from tk _ _ ht8) .nil), ?_, by rw [List.length_append, hpl]; rfl⟩
        rw [take_more (zipK_get hs hyi)]
        exact (hK.keep fun u xs hu => tk _ _ (e68 _ _ (e6 _ _ hu))).snoc (tk _ _ (e8 _ _ ht7))
      rintro Da H5 nDa ⟨e5, ps, kv2, hDa, hP, hK, hpl⟩
      have ztake : (zipK ns ys (frB B)).take (ns.map V.str).length = zipK ns ys (frB B) := List.take_of_length_le (by rw [List.length_map, zl]; exact Nat.le_refl _)
      rw [ztake] at hK
      have nns : ns.Nodup := pn.nodup_iff.mpr nd
      have ndk : (kv2.map (·.1)).Nodup := by
        rw [hK.keys, zipK_names yl]
        exact List.Pairwise.map _ (fun a b hab e => hab (Sum.inr.inj e)) nns
      walk_at "rd"
      refine r_dictP hDa hP ndk fun kd2 H6 nkd2 e6 hkd2 => ?_
      have e36 := e5.trans e6
      have hM6 := hM3.keep e36
      walk_at "rd"
      refine r_kDPutS hM6.i (by rw [mkv_len]; decide) fun H7 b7 h7 => ?_
      rw [mq2] at h7
      have nkp : kd2 ≠ p := (ne_of_none (hM3.keep e5).i nkd2).symm
      have tk7 : ∀ u xs, H6 u = some (.tup xs) → H7 u = some (.tup xs) := fun u xs hu => b7 _ _ hu (ne_of hu hM6.i (by intro z; cases z))
      have fk7 : ∀ u o xs, H6 u = some (.frz o (.tup xs)) → H7 u = some (.frz o (.tup xs)) := fun u o xs hu => b7 _ _ hu (ne_of hu hM6.i (by intro z; cases z))
      have k16 := (k1.trans k2).trans (Kp.of (e3.trans e36))
      have D6 := (D2.keep e3).keep e36
      have nkn : (zipK ns ys (frB B)).map (·.1) = ns := zipK_names yl
      have okk : KindsOk (zipK ns ys (frB B)) := ⟨by rw [zl]; omega, by rw [zl]; omega, by rw [nkn]; exact ⟨fun z hz => ok.kn.nm.ok z (pn.mem_iff.mp hz), nns⟩, fun q hq => by
        obtain ⟨z, hz, rfl⟩ := List.mem_map.mp hq
        have hy : z.2 ∈ ys := (List.of_mem_zip hz).2
        obtain ⟨m, hm, e⟩ := List.mem_map.mp (pm.mem_iff.mp hy)
        have := ok.kn.rt _ (nin m hm)
        show 0 ≤ z.2 ∧ z.2 ≤ 1000
        rw [← e]
        exact this⟩
      walk_at "rd"
      refine k p { B with ks := zipK ns ys (frB B) } H7 np ⟨ok.l1, ok.l2, ok.l3, ok.d0, ok.d1, okk, ok.m0, ok.m1, ok.bg⟩ (fun ns' h => ?_) ⟨ad, kd2, .ref tl, kv2, ⟨h7, b7 _ _ hM6.l ?_, hM6.n, b7 _ _ (hkd2) nkp, (hK.keepT e6).keep tk7, ?_⟩⟩ ((D6.but D np b7).mono (by omega)) (k16.mut b7 np)
      · have e : B.laid = some ns' := h
        rw [hL] at e
        obtain rfl := Option.some.inj e
        show ns.Perm ((zipK ns ys (frB B)).map (·.1))
        rw [nkn]
      · intro z
        have := hM6.l
        rw [z, hM6.i] at this
        cases this
      · show LaidV H7 B.laid (.ref tl)
        rw [hL]
        exact ⟨tl, rfl, (htl3.same e36).keep fk7⟩
    · walk_at "rd"
      exact k p B H2 np ok lok ⟨ad, kd, _, kvs, hM2⟩ (D2.mono (by omega)) (k1.trans k2)
end
end Wp
set_option Elab.async false
set_option linter.all false
set_option maxRecDepth 100000
set_option maxHeartbeats 4000000
/-! A model and a book of it. -/
namespace Wp
open PySem PySem.Spec PyProof.Rows L2
/-- a model and a book of it -/
structure Two (C l : Addr) (H : Hp) (p q : Addr) (B : Bk) : Prop where
  m : Mdl l H p B
  o : B.Ok
  lo : B.LaidOk
  b : ∃ ks, ks.Perm B.ks ∧ BookAt C H q { B with ks := ks }
theorem Two.keep {C l p q : Addr} {H H' : Hp} {B : Bk} (h : Two C l H p q B) (e : Same H H') : Two C l H' p q B := by
  obtain ⟨ks, h1, h2⟩ := h.b
  exact ⟨h.m.keep e, h.o, h.lo, ks, h1, h2.keep e⟩
theorem Two.kp {C st l c p q : Addr} {cs : List Int} {n : Int} {H H' : Hp} {B : Bk} (h : Two C l H p q B) (k : Kp st l H H') (D : DS st l c cs n H) : Two C l H' p q B := by
  obtain ⟨ks, h1, h2⟩ := h.b
  exact ⟨h.m.kp k D, h.o, h.lo, ks, h1, h2.kp k D⟩
theorem Bk.Ok.perm {B : Bk} (ok : B.Ok) {ks : List (Str × Int × Bool)} (p : ks.Perm B.ks) : ({ B with ks := ks } : Bk).Ok := by
  obtain ⟨h1, h2, h3, h4, h5, ⟨k1, k2, ⟨k3, k4⟩, k5⟩, h7, h8, h9⟩ := ok
  have pn := p.map (·.1)
  exact ⟨h1, h2, h3, h4, h5, ⟨by rw [p.length_eq]; exact k1, by rw [p.length_eq]; exact k2, ⟨fun z hz => k3 z (pn.mem_iff.mp hz), pn.nodup_iff.mpr k4⟩, fun k hk => k5 k (p.mem_iff.mp hk)⟩, h7, h8, h9⟩
theorem Bk.LaidOk.perm {B : Bk} (lo : B.LaidOk) {ks : List (Str × Int × Bool)} (p : ks.Perm B.ks) : ({ B with ks := ks } : Bk).LaidOk := fun ns h => (lo ns h).trans (p.map (·.1)).symm
end Wp
set_option Elab.async false
set_option linter.all false
set_option maxRecDepth 100000
set_option maxHeartbeats 4000000
/-! law k53. -/
namespace Wp
open PySem PySem.Spec PyProof.Rows L2
abbrev s_law : Stmt := topS 84
local macro_rules | `(tactic| walk_at "val") => `(tactic| assumption)
local macro_rules | `(tactic| walk_at "rd1") => `(tactic| first
  | with_reducible refine r_seq ?_ | with_reducible refine r_next ?_ | with_reducible refine r_if ?_ | with_reducible refine r_asg ?_ | with_reducible refine r_gname ?_
  | with_reducible refine r_ret ?_ | with_reducible refine r_retN ?_ | with_reducible refine r_drop ?_ | with_reducible refine r_par ?_ | with_reducible refine r_kPar ?_
  | ((with_reducible refine' r_var ?hv ?_); (case hv => exact rfl)) | with_reducible refine r_c ?_ | with_reducible refine r_nil ?_ | with_reducible refine r_cons ?_
  | with_reducible refine r_fn ?_ | with_reducible refine r_cb ?_ | with_reducible refine r_op ?_ | with_reducible refine r_un ?_ | with_reducible refine r_I0 ?_
  | with_reducible refine r_pow5 ?_ | with_reducible refine r_pow6 ?_ | with_reducible refine r_pow7 ?_ | with_reducible refine r_pow9 ?_ | with_reducible refine r_pow18 ?_ | with_reducible refine r_pow20 ?_ | with_reducible refine r_pow30 ?_
  | with_reducible refine r_isN_non ?_ | with_reducible refine r_isN_ref ?_ | with_reducible refine r_isN_int ?_ | with_reducible refine r_isN_str ?_ | with_reducible refine r_isN_bl ?_ | with_reducible refine r_notN_non ?_ | with_reducible refine r_notN_ref ?_ | with_reducible refine r_notN_int ?_ | with_reducible refine r_notN_str ?_ | with_reducible refine r_notN_bl ?_
  | ((with_reducible refine r_I ?hc ?_); (case hc => walk_at "side")) | with_reducible refine r_U ?_
  | with_reducible refine r_eqI ?_ | with_reducible refine r_neI ?_ | with_reducible refine r_eqS ?_ | with_reducible refine r_neS ?_ | with_reducible refine r_eqB ?_ | with_reducible refine r_neB ?_
  | with_reducible refine r_chain ?_ | with_reducible refine r_test ?_ | with_reducible refine r_tB ?_ | with_reducible refine r_kTest ?_ | with_reducible refine r_not ?_
  | with_reducible refine r_and ?_ | with_reducible refine r_or ?_ | with_reducible refine r_tif ?_ | with_reducible refine r_andV ?_ | with_reducible refine r_orV ?_ | with_reducible refine r_notV ?_
  | with_reducible refine r_kAndV ?_ | with_reducible refine r_kOrV ?_ | with_reducible refine r_kNotV ?_
  | with_reducible refine w_T ?_ | with_reducible refine w_F ?_ | with_reducible refine w_NT ?_ | with_reducible refine w_NF ?_
  | with_reducible refine r_tup ?_ | with_reducible refine r_lst ?_ | with_reducible refine r_fld ?_ | with_reducible refine r_prop ?_ | ((with_reducible refine' r_aug ?h1 ?_); (case h1 => exact rfl)) | with_reducible refine r_ipI ?_ | with_reducible refine r_dget ?_ | with_reducible refine r_dput ?_ | with_reducible refine r_bm ?_
  | ((with_reducible refine' r_kDGetS ?h1 ?h2 ?_); (case h1 => assumption); (case h2 => walk_at "val"))
  | ((with_reducible refine' r_kBML ?h1 ?_); (case h1 => assumption))
  | with_reducible refine r_forL ?_ | with_reducible refine r_forR1 ?_ | with_reducible refine r_forR2 ?_ | with_reducible refine r_forT ?_ | with_reducible refine r_lcL ?_ | with_reducible refine r_lcR1 ?_
  | ((with_reducible refine r_kLcG ?hw ?_); (case hw => exact rfl)) | with_reducible refine r_kLcT ?_ | with_reducible refine r_yes ?_
  | with_reducible refine r_pnil ?_ | with_reducible refine r_pcons ?_
  | with_reducible refine r_fnK ?_ | ((with_reducible refine r_kFnK ?hl ?_); (case hl => exact rfl))
  | with_reducible refine r_isi_ii ?_ | with_reducible refine r_isi_ib ?_ | with_reducible refine r_isi_bi ?_ | with_reducible refine r_isi_bb ?_ | with_reducible refine r_isi_ss ?_ | with_reducible refine r_isi_is ?_ | with_reducible refine r_isi_it ?_
  | ((with_reducible refine' r_isi_tt ?h1 ?_); (case h1 => assumption))
  | with_reducible refine r_sfld ?_ | with_reducible refine r_gnil ?_ | with_reducible refine r_gcons ?_
  | ((with_reducible refine' r_gtup ?h1 ?h2 ?_); (case h1 => exact SqT.of (by assumption)); (case h2 => exact rfl))
  | with_reducible refine r_sl ?_ | with_reducible refine r_noPart ?_ | with_reducible refine r_part ?_ | with_reducible refine r_kPart ?_ | with_reducible refine r_m1 ?_ | with_reducible refine r_kM1 ?_ | with_reducible refine r_forS ?_ | with_reducible refine r_lcS ?_ | with_reducible refine r_lcTu ?_ | with_reducible refine r_lcK ?_ | with_reducible refine r_dcL ?_ | with_reducible refine r_dcK ?_ | with_reducible refine r_lc2L ?_ | with_reducible refine r_kLc2TL ?_ | with_reducible refine r_dcEn ?_ | with_reducible refine r_gslc ?_ | with_reducible refine r_lcEn ?_ | with_reducible refine r_lcEl ?_ | with_reducible refine r_lcR2 ?_ | with_reducible refine r_rg1 ?_ | with_reducible refine r_forET ?_ | with_reducible refine r_lenD ?_
  | ((with_reducible refine r_kDcG ?hw ?_); (case hw => exact rfl)) | with_reducible refine r_kDcT ?_
  | with_reducible refine r_fldaug ?_ | with_reducible refine r_daug ?_ | with_reducible refine r_rAdd ?_ | with_reducible refine r_rSub ?_ | with_reducible refine r_ddel ?_ | with_reducible refine r_bmF ?_ | with_reducible refine r_dget2 ?_ | with_reducible refine r_listItems ?_ | with_reducible refine r_bm0 ?_ | with_reducible refine r_lc2E ?_ | ((with_reducible refine r_kLc2G ?hw ?_); (case hw => exact rfl)) | with_reducible refine r_kLc2T ?_ | with_reducible refine r_forE ?_ | with_reducible refine r_orT ?_ | with_reducible refine r_din ?_ | with_reducible refine r_augS ?_ | with_reducible refine r_dnotin ?_ | with_reducible refine r_lcIT ?_ | with_reducible refine r_cont ?_ | with_reducible refine r_meth ?_ | with_reducible refine r_frz ?_ | with_reducible refine r_par3 ?_ | with_reducible refine r_kPar3 ?_ | with_reducible refine r_dz ?_ | with_reducible refine r_revL ?_ | with_reducible refine r_star ?_ | with_reducible refine r_int1 ?_ | with_reducible refine r_int1b ?_ | with_reducible refine r_min2 ?_ | with_reducible refine r_max2 ?_ | with_reducible refine r_gsub ?_)
local macro_rules | `(tactic| walk_at "rd") => `(tactic| repeat walk_at "rd1")
local macro_rules | `(tactic| walk_at "side") => `(tactic| first | assumption | exact Or.inr ⟨by decide, by decide⟩ | exact Or.inl ⟨by decide, by decide⟩ | (constructor <;> omega) | omega | decide | (refine Or.inl ⟨?_, ?_⟩ <;> omega) | (refine Or.inr ⟨?_, ?_⟩ <;> omega) | (refine ⟨?_, ?_, ?_⟩ <;> first | decide | omega))
local macro_rules | `(tactic| walk_at "val") => `(tactic| first | exact mv1 | exact mv2 | exact mv3 | exact mv4 | exact mv5 | exact mv6)
theorem r_repB {l : Addr} {k : Int} {xs : List V} {H : Hp} {Q : VK} (h : H l = some (.lst xs)) (h0 : 0 ≤ k) (h1 : k ≤ 1000) (hz : xs.length ≤ 1000) (q : ∀ p H', H p = none → Same H H' → H' p = some (.lst (List.replicate k.toNat xs).flatten) → Q (.ref p) H') : rRep (.ref l) (.int k) H Q := by
  refine ⟨l, k, xs, rfl, rfl, h, by omega, by omega, ?_, fun p hp => q p _ hp (Same.new hp) upd_same⟩
  refine sz5 (Nat.le_trans (Nat.mul_le_mul hz (show k.toNat ≤ 1000 by omega)) (by decide))
theorem why_permH {B : Bk} {ks : List (Str × Int × Bool)} (ok : B.Ok) (lok : B.LaidOk) (p : ks.Perm B.ks) : ({ B with ks := ks } : Bk).why = B.why := by
  show srtR (rowsOf (wordB B.beg ks) (prs B.order B.order.length)) = srtR (rowsOf (wordB B.beg B.ks) (prs B.order B.order.length))
  rw [rowsOf_congr (w' := wordB B.beg B.ks)]
  intro x hx
  obtain ⟨h1, h2⟩ := prs_mem hx
  unfold wordB
  rw [look_perm p ok.kn.nm.nd (order_in lok _ h1), look_perm p ok.kn.nm.nd (order_in lok _ h2)]
theorem winP_congr {α : Type} {r r' : α → Int} {f f' : α → Bool} {day : Bool} {L u : Int} {pre : List α} (h : ∀ x ∈ pre, r x = r' x ∧ f x = f' x) : ∀ n, winP r f day L u pre n = winP r' f' day L u pre n
  | 0 => rfl
  | n + 1 => by
    unfold winP
    rw [winP_congr h n]
    refine congrArg _ ?_
    cases e : pre[n]? with
    | none => rfl
    | some s =>
      obtain ⟨h1, h2⟩ := h s (List.mem_of_getElem? e)
      show (if eligW f day s then r s * (u + 1) :: ((pre.take (n + 1)).filter fun k => !f k).map (fun k => r s * (u + 1) + r k * L) else []) = (if eligW f' day s then r' s * (u + 1) :: ((pre.take (n + 1)).filter fun k => !f' k).map (fun k => r' s * (u + 1) + r' k * L) else [])
      have e1 : (pre.take (n + 1)).filter (fun k => !f k) = (pre.take (n + 1)).filter (fun k => !f' k) := List.filter_congr fun x hx => by rw [(h x (List.mem_of_mem_take hx)).2]
      have e2 : ((pre.take (n + 1)).filter fun k => !f' k).map (fun k => r' s * (u + 1) + r k * L) = ((pre.take (n + 1)).filter fun k => !f' k).map (fun k => r' s * (u + 1) + r' k * L) := List.map_congr_left fun k hk => by rw [(h k (List.mem_of_mem_take (List.mem_filter.mp hk).1)).1]
      unfold eligW
      rw [h1, h2, e1, e2]
theorem winO_congr {α : Type} {r r' : α → Int} {f f' : α → Bool} {day : Bool} {L u : Int} {ord : List α} (h : ∀ x ∈ ord, r x = r' x ∧ f x = f' x) : ∀ n, winO r f day L u ord n = winO r' f' day L u ord n
  | 0 => rfl
  | n + 1 => by
    unfold winO
    rw [winO_congr h n]
    refine congrArg _ ?_
    cases e : ord[n]? with
    | none => rfl
    | some s =>
      obtain ⟨h1, h2⟩ := h s (List.mem_of_getElem? e)
      show (if f s then winP r f day L u (ord.take n) (ord.take n).length else []) = (if f' s then winP r' f' day L u (ord.take n) (ord.take n).length else [])
      rw [h2, winP_congr fun x hx => h x (List.mem_of_mem_take hx)]
theorem lossB_perm {B : Bk} {ks : List (Str × Int × Bool)} (ok : B.Ok) (lok : B.LaidOk) (p : ks.Perm B.ks) : lossB { B with ks := ks } = lossB B := by
  have e : winsB { B with ks := ks } = winsB B := winO_congr (fun x hx => by
    have z := look_perm p ok.kn.nm.nd (order_in lok _ hx)
    exact ⟨congrArg (·.1) z, congrArg (·.2) z⟩) _
  unfold lossB
  rw [why_permH ok lok p, e]
theorem lateW_congr {fr fr' nf nf' : List Int} {cap : Int} {d later : Nat → Int} (h1 : mx0 fr = mx0 fr') (h2 : mx0 nf = mx0 nf') : ∀ n, lateW fr nf cap d later n = lateW fr' nf' cap d later n
  | 0 => rfl
  | n + 1 => by
    unfold lateW
    rw [lateW_congr h1 h2 n, h1, h2]
theorem lateB_perm {B : Bk} {ks : List (Str × Int × Bool)} (p : ks.Perm B.ks) (m : Int) : lateB { B with ks := ks } m = lateB B m :=
  lateW_congr (mx0_perm ((p.filter _).map _)) (mx0_perm ((p.filter _).map _)) _
theorem holdB_perm {B : Bk} {ks : List (Str × Int × Bool)} (ok : B.Ok) (lok : B.LaidOk) (p : ks.Perm B.ks) (h : Hope) : holdB { B with ks := ks } h = holdB B h := by
  cases h with
  | early => exact congrArg (fun z : List Row => decide (z = [])) (why_permH ok lok p)
  | loss n => exact congrArg (leO · n) (lossB_perm ok lok p)
  | free s n => rfl
  | late m n => exact congrArg (fun z : Int => B.laid.isNone && decide (z ≤ n)) (lateB_perm p m)
theorem Ww.same {K : PySem.W.Frag} {H H' : Hp} (e : Same H H') {v : V} {b : Bool} (h : Ww K H v b) : Ww K H' v b := by
  cases h with
  | ty h a => exact .ty (TyX.same e h) a
  | nil h => exact .nil (e _ _ h)
  | fst h a b c => exact .fst (e _ _ h) a (TyX.same e b) c
  | wd h a b => exact .wd (e _ _ h) a fun x hx => ⟨NumV.same e (b x hx).1, Vw.sameX e (b x hx).2⟩
section
variable {P : Program} {w : World} {K : PySem.W.Frag} {mg : Str → Option Value} {base : Heap}
theorem ok_law {f C : Addr} {fd : FuncData} (T : Tx K mg) (F : FnP K "law" s_law f fd)
    (d__law_begun : Dn P w K mg base CX0 1 "_law_begun" ["_law_script"] (sp_begun K)) (d__law_take : Dn P w K mg base CX0 2 "_law_take" ["_law_state", "_law_size"] sp_take)
    (d__law_rising : Dn P w K mg base CX0 6 "_law_rising" ["_law_state"] sp_rising) (d__law_model : Dn P w K mg base CX0 5 "_law_model" ["_law_state", "_law_many", "_law_is_laid"] sp_model) (d__law_made : Dn P w K mg base CX0 7 "_law_made" ["_law_model_here"] (sp_made C))
    (d__law_hope : Dn P w K mg base CX0 4 "_law_hope" ["_law_state", "_law_model_here"] sp_hope) (d__law_does_hold : Dn P w K mg base CX0 5 "_law_does_hold" ["_law_model_here", "_law_hope_here"] sp_does_hold)
    (d__law_near_hope : Dn P w K mg base CX0 5 "_law_near_hope" ["_law_state", "_law_hope_here"] sp_near_hope) (d__law_is_hope : Dn P w K mg base CX0 2 "_law_is_hope" ["_law_thing"] (sp_is_wish K))
    (d_keeps : Dn P w K mg base CX0 8 "keeps" ["book", "wish"] (sp_does_keep C)) (k_keeps_wish_book : Dq P w K mg base CX0 8 "keeps" ["wish", "book"] swap2 (sp_does_keep C))
    (d_is_wish : Dn P w K mg base CX0 4 "is_wish" ["value"] (sp_is_wish K)) (k_is_wish_value : Dq P w K mg base CX0 4 "is_wish" ["value"] keep1 (sp_is_wish K)) :
    FnG P w K mg base CX0 10 f fd ["_law_script"] (spLaw K) := by
  have sc : FnScope ["_law_script", "_law_state", "_law_turn", "_law_model_here", "_law_made_here", "_law_lap", "_law_hope_here", "_law_due_here", "_law_odd_here"] ["_law_script"] (defScope s_law) := ⟨rfl, rfl, rfl, by decide +kernel, rfl, by decide +kernel, by decide +kernel⟩
  refine F.okG sc (by rintro vs H Q E ⟨_, _, rfl, _⟩; rfl) (fun cdv A outer s H vs Q E hr hG h => ⟨_, PSs.nox ((pss_cons (ps_set (i := 1) sc.nd rfl (by first | exact Or.inl rfl | exact Or.inr rfl) (pe_fn d__law_begun (hr.mono (by decide)) pass0 (pa_cons (pv 0) pa_nil)))
      (pss_cons (ps_for PassesOwn.never rfl (pi_range1 (by rfl) T.b_range (pa_cons (pe_op op_add pe_int (pe_callB (c_min2 rfl) (by rfl) T.b_min (by decide +kernel) (pa_cons (pe_callB (c_lenK (K := K) rfl) (by rfl) T.b_len (by decide +kernel) (pa_cons (pv 0) pa_nil)) (pa_cons pe_int pa_nil)))) pa_nil)) (pg_name (i := 2) sc.nd rfl (by first | exact Or.inl rfl | exact Or.inr rfl)) (Evl.pss_cut (ps_set (i := 3) sc.nd rfl (by first | exact Or.inl rfl | exact Or.inr rfl) (pe_ifExp (pt_cmpR op_eq (pe_fn d__law_take (hr.mono (by decide)) pass0 (pa_cons (pv 1) (pa_cons pe_int pa_nil))) pe_int (nomark _)) (pe_fn d__law_rising (hr.mono (by decide)) pass0 (pa_cons (pv 1) pa_nil)) (pe_fn d__law_model (hr.mono (by decide)) pass0 (pa_cons (pv 1) (pa_cons pe_int (pa_cons (pe_cmpR op_eq (pe_fn d__law_take (hr.mono (by decide)) pass0 (pa_cons (pv 1) (pa_cons pe_int pa_nil))) pe_int (nomark _)) pa_nil))))))
      (pss_cons (ps_set (i := 4) sc.nd rfl (by first | exact Or.inl rfl | exact Or.inr rfl) (pe_fn d__law_made (hr.mono (by decide)) pass0 (pa_cons (pv 3) pa_nil)))
      (pss_one (ps_for PassesOwn.never rfl (pi_range1 (by rfl) T.b_range (pa_cons pe_int pa_nil)) (pg_name (i := 5) sc.nd rfl (by first | exact Or.inl rfl | exact Or.inr rfl)) (pss_cons (ps_set (i := 6) sc.nd rfl (by first | exact Or.inl rfl | exact Or.inr rfl) (pe_fn d__law_hope (hr.mono (by decide)) pass0 (pa_cons (pv 1) (pa_cons (pv 3) pa_nil))))
      (pss_cons (ps_set (i := 7) sc.nd rfl (by first | exact Or.inl rfl | exact Or.inr rfl) (pe_fn d__law_does_hold (hr.mono (by decide)) pass0 (pa_cons (pv 3) (pa_cons (pv 6) pa_nil))))
      (pss_cons (ps_if (pt_cmpR op_ne (pe_callB (c_reprK (K := K) rfl hG hr) (by rfl) T.b_repr (by decide +kernel) (pa_cons (pe_lst (pa_cons (pe_fn d_keeps (hr.mono (by decide)) pass0 (pa_cons (pv 4) (pa_cons (pv 6) pa_nil))) (pa_cons (pe_fnK0 k_keeps_wish_book (hr.mono (by decide)) pass0 (pk_cons (pv 6) (pk_cons (pv 4) pk_nil))) pa_nil))) pa_nil)) (pe_callB (c_reprK (K := K) rfl hG hr) (by rfl) T.b_repr (by decide +kernel) (pa_cons (pe_lst (pa_cons (pv 7) (pa_cons (pv 7) pa_nil))) pa_nil)) (nomark _)) (pss_one (ps_ret pe_bl)) pss_nil)
      (pss_cons (ps_set (i := 8) sc.nd rfl (by first | exact Or.inl rfl | exact Or.inr rfl) (pe_fn d__law_near_hope (hr.mono (by decide)) pass0 (pa_cons (pv 1) (pa_cons (pv 6) pa_nil))))
      (pss_one (ps_if (pt_cmpR op_ne (pe_callB (c_reprK (K := K) rfl hG hr) (by rfl) T.b_repr (by decide +kernel) (pa_cons (pe_lst (pa_cons (pe_fn d_is_wish (hr.mono (by decide)) pass0 (pa_cons (pv 8) pa_nil)) (pa_cons (pe_fnK0 k_is_wish_value (hr.mono (by decide)) pass0 (pk_cons (pv 8) pk_nil)) pa_nil))) pa_nil)) (pe_callB (c_reprK (K := K) rfl hG hr) (by rfl) T.b_repr (by decide +kernel) (pa_cons (pe_op op_rep (pe_lst (pa_cons (pe_fn d__law_is_hope (hr.mono (by decide)) pass0 (pa_cons (pv 8) pa_nil)) pa_nil)) pe_int) pa_nil)) (nomark _)) (pss_one (ps_ret pe_bl)) pss_nil)))))))))))
      (pss_one (ps_ret pe_bl))))), ?_⟩)
  obtain ⟨a, cs, rfl, hS, hlen, k⟩ := h
  walk_at "rd"
  refine ⟨a, cs, rfl, hS, hlen, fun st l c H1 nst nl nc e1 D1 => ?_⟩
  walk_at "rd"
  have hS2 : SqL K H1 a (cs.map V.int) := SqL.kp hS e1 nst nl (Kp.refl)
  refine r_lenL hS2 ?_
  walk_at "rd"
  refine r_kForR1 (fun i σ' H' => ∃ (x2 x3 x4 x5 x6 x7 x8 : Option V), σ' = [some (.ref a), some (.ref st), x2, x3, x4, x5, x6, x7, x8] ∧ DS st l c cs (1000 * (i : Int)) H') (by rw [List.length_map]; omega) ⟨_, _, _, _, _, _, _, rfl, D1.mono (by omega)⟩ ?_ ?_
  · rintro i0 σ' H3 hi ⟨x2, x3, x4, x5, x6, x7, x8, rfl, D3⟩
    have hi2 : (i0 : Int) ≤ 100 := by
      rw [List.length_map] at hi
      omega
    walk_at "rd"
    refine r_cut (fun σ' H' => ∃ (p : Addr) (B : Bk), σ' = [some (.ref a), some (.ref st), some (.int (i0 : Int)), some (.ref p), x4, x5, x6, x7, x8] ∧ B.Ok ∧ B.LaidOk ∧ Mdl l H' p B ∧ DS st l c cs (1000 * (i0 : Int) + 300) H') ?_ ?_
    · walk_at "rd"
      refine u_take D3 (by omega) (by omega) (by omega) fun y H4 y0 y1 D4 k4 => ?_
      walk_at "rd"
      refine w_dec (fun _ => ?_) (fun _ => ?_)
      · walk_at "rd"
        refine ⟨st, l, c, cs, _, rfl, (by omega : _ ≤ (8796093022208 : Int)), D4, fun p B H5 np ok lok hM D5 k5 => ?_⟩
        walk_at "rd"
        exact ⟨p, B, rfl, ok, lok, hM, D5.mono (by omega)⟩
      · walk_at "rd"
        refine u_take D4 (by omega) (by omega) (by omega) fun y H5 y0 y1 D5 k5 => ?_
        walk_at "rd"
        refine ⟨st, l, c, cs, _, 4, _, rfl, by omega, D5, by decide, by decide, fun p B H6 np ok lok hM D6 k6 => ?_⟩
        walk_at "rd"
        exact ⟨p, B, rfl, ok, lok, hM, D6.mono (by omega)⟩
    rintro σ' H4 ⟨p, B, rfl, ok, lok, hM4, D4⟩
    clear D3
    walk_at "rd"
    refine ⟨l, p, B, rfl, ok, lok, hM4, fun q H5 ks nq e5 pm so hBk5 => ?_⟩
    have okp : ({ B with ks := ks } : Bk).Ok := ok.perm pm
    have lokp : ({ B with ks := ks } : Bk).LaidOk := lok.perm pm
    have D5 := D4.keep e5
    have hM5 := hM4.keep e5
    walk_at "rd"
    refine r_kForR1 (fun j σ' H' => ∃ (y5 y6 y7 y8 : Option V), σ' = [some (.ref a), some (.ref st), some (.int (i0 : Int)), some (.ref p), some (.ref q), y5, y6, y7, y8] ∧ DS st l c cs (1000 * (i0 : Int) + 300 + 50 * (j : Int)) H' ∧ Kp st l H5 H')
      (by omega) ⟨_, _, _, _, rfl, D5.mono (by omega), Kp.refl⟩ ?_ ?_
    · rintro j σ' H6 hj ⟨y5, y6, y7, y8, rfl, D6, k6⟩
      walk_at "rd"
      refine ⟨st, l, c, p, cs, _, B, rfl, (by omega : _ ≤ (8796093022208 : Int)), D6, hM5.kp k6 D5, ok, lok, fun h hp H7 ha ho D7 k7 => ?_⟩
      have k57 := k6.trans k7
      walk_at "rd"
      refine ⟨l, p, h, B, hp, rfl, hM5.kp k57 D5, ok, lok, ha, ho, fun H8 e8 => ?_⟩
      have k58 := k57.trans (Kp.of e8)
      have ha8 := ha.same e8
      walk_at "rd"
      refine ⟨q, h, { B with ks := ks }, hp, rfl, hBk5.kp k58 D5, okp, lokp, ha8, ho, fun H9 e9 => ?_⟩
      rw [holdB_perm ok lok pm]
      walk_at "rd"
      refine ⟨q, h, { B with ks := ks }, hp, rfl, (hBk5.kp k58 D5).keep e9, okp, lokp, ha8.same e9, ho, fun H10 e10 => ?_⟩
      rw [holdB_perm ok lok pm]
      walk_at "rd"
      refine r_kLst fun v1 H11 nv1 e11 hv1 => ?_
      walk_at "rd"
      refine r_reprBB (SqL.of hv1) ?_
      walk_at "rd"
      refine r_kLst fun v2 H12 nv2 e12 hv2 => ?_
      walk_at "rd"
      refine r_reprBB (SqL.of hv2) ?_
      walk_at "rd"
      refine w_ndec (fun h => absurd rfl h) (fun _ => ?_)
      have e812 := e9.trans (e10.trans (e11.trans e12))
      have D12 := (D7.keep e8).keep e812
      have k512 := k58.trans (Kp.of e812)
      walk_at "rd"
      refine ⟨st, l, c, h, cs, _, hp, rfl, (by omega : _ ≤ (8796093000000 : Int)), D12, ha8.same e812, fun x H13 sx D13 k13 => ?_⟩
      obtain ⟨b, hb⟩ := sx.ww (K := K)
      walk_at "rd"
      refine ⟨x, b, rfl, hb, fun H14 e14 => ?_⟩
      walk_at "rd"
      refine ⟨x, b, rfl, hb.same e14, fun H15 e15 => ?_⟩
      walk_at "rd"
      refine r_kLst fun v3 H16 nv3 e16 hv3 => ?_
      walk_at "rd"
      refine r_reprBB (SqL.of hv3) ?_
      walk_at "rd"
      have e1316 := e14.trans (e15.trans e16)
      refine ⟨x, b, rfl, hb.same e1316, fun H17 e17 => ?_⟩
      walk_at "rd"
      refine r_kLst fun v4 H18 nv4 e18 hv4 => ?_
      walk_at "rd"
      refine r_repB hv4 (by decide) (by decide) (by simp) fun v5 H19 nv5 e19 hv5 => ?_
      walk_at "rd"
      refine r_reprBB (b := b) (SqL.of hv5) ?_
      walk_at "rd"
      refine w_ndec (fun h => absurd rfl h) (fun _ => ?_)
      have e1319 := e1316.trans (e17.trans (e18.trans e19))
      walk_at "rd"
      exact ⟨_, _, _, _, rfl, (D13.keep e1319).mono (by rw [Int.natCast_add]; omega), (k512.trans k13).trans (Kp.of e1319)⟩
    rintro σ' H6 ⟨y5, y6, y7, y8, rfl, D6, k6⟩
    walk_at "rd"
    exact ⟨_, _, _, _, _, _, _, rfl, D6.mono (by rw [Int.natCast_add]; omega)⟩
  · rintro σ' H3 ⟨x2, x3, x4, x5, x6, x7, x8, rfl, D3⟩
    walk_at "rd"
    exact k H3
end
end Wp
set_option Elab.async false
set_option linter.all false
set_option maxRecDepth 100000
set_option maxHeartbeats 0
namespace Wp
open PySem PySem.Spec PyProof.Rows L2
theorem factsL {P : Program} {w : World} {K : PySem.W.Frag} {h : Heap} {mg : Str → Option Value} {f : Addr} (X : K.In h) (G : h.Ns mainGlobals mg) (hfa : mg ("law" : Str) = some (.ref f)) (c : He.SaysD faL fnL K) (ex : exB K = true) (gg : ∀ d ∈ gsL, PropOf K (He.ga K d.c) d.f (He.ma K (He.ga K d.c) d.f) (gAd K d.c d.f) ∧ ∃ fd, FunD K d.f d.qual d.params d.body d.scope [] [] (gAd K d.c d.f) fd) :
    ∃ fd : FuncData, (∀ (s : Shared) (v : Value), BindsTo s fd ⟨[v], []⟩ [("_law_script", v)]) ∧ ∀ base : Heap, K.In base → base.Ns mainGlobals mg → FnG P w K mg base CX0 10 f fd ["_law_script"] (spLaw K) := by
  obtain ⟨fd__law_begun, F__law_begun⟩ := c.def_ 0 (d := D__law_begun) rfl
  obtain ⟨fd__law_mixed, F__law_mixed⟩ := c.def_ 1 (d := D__law_mixed) rfl
  obtain ⟨fd__law_take, F__law_take⟩ := c.def_ 2 (d := D__law_take) rfl
  obtain ⟨fd__law_pick, F__law_pick⟩ := c.def_ 3 (d := D__law_pick) rfl
  obtain ⟨fd__law_names, F__law_names⟩ := c.def_ 4 (d := D__law_names) rfl
  obtain ⟨fd__law_some, F__law_some⟩ := c.def_ 5 (d := D__law_some) rfl
  obtain ⟨fd_is_number, F_is_number⟩ := c.def_ 6 (d := D_is_number) rfl
  obtain ⟨fd_is_number_in, F_is_number_in⟩ := c.def_ 7 (d := D_is_number_in) rfl
  obtain ⟨fd_is_list, F_is_list⟩ := c.def_ 8 (d := D_is_list) rfl
  obtain ⟨fd_is_name, F_is_name⟩ := c.def_ 9 (d := D_is_name) rfl
  obtain ⟨fd_are_lengths, F_are_lengths⟩ := c.def_ 10 (d := D_are_lengths) rfl
  obtain ⟨fd_is_kind, F_is_kind⟩ := c.def_ 11 (d := D_is_kind) rfl
  obtain ⟨fd_are_kinds, F_are_kinds⟩ := c.def_ 12 (d := D_are_kinds) rfl
  obtain ⟨fd_is_order, F_is_order⟩ := c.def_ 13 (d := D_is_order) rfl
  obtain ⟨fd_Book___init__, F_Book___init__⟩ := c.def_ 14 (d := D_Book___init__) rfl
  obtain ⟨fd_Book_rate_of, F_Book_rate_of⟩ := c.def_ 15 (d := D_Book_rate_of) rfl
  obtain ⟨fd_Book_is_free, F_Book_is_free⟩ := c.def_ 16 (d := D_Book_is_free) rfl
  obtain ⟨fd_Book_month_at, F_Book_month_at⟩ := c.def_ 17 (d := D_Book_month_at) rfl
  obtain ⟨fd_Book_first_at, F_Book_first_at⟩ := c.def_ 18 (d := D_Book_first_at) rfl
  obtain ⟨fd_Book_due_at, F_Book_due_at⟩ := c.def_ 19 (d := D_Book_due_at) rfl
  obtain ⟨fd_need_book, F_need_book⟩ := c.def_ 20 (d := D_need_book) rfl
  obtain ⟨fd_days_at, F_days_at⟩ := c.def_ 21 (d := D_days_at) rfl
  obtain ⟨fd_round_of, F_round_of⟩ := c.def_ 22 (d := D_round_of) rfl
  obtain ⟨fd_word_for, F_word_for⟩ := c.def_ 23 (d := D_word_for) rfl
  obtain ⟨fd_reasons_of, F_reasons_of⟩ := c.def_ 24 (d := D_reasons_of) rfl
  obtain ⟨fd_never_costs_more, F_never_costs_more⟩ := c.def_ 25 (d := D_never_costs_more) rfl
  obtain ⟨fd_windows_of, F_windows_of⟩ := c.def_ 26 (d := D_windows_of) rfl
  obtain ⟨fd_greatest_loss, F_greatest_loss⟩ := c.def_ 27 (d := D_greatest_loss) rfl
  obtain ⟨fd_is_promise, F_is_promise⟩ := c.def_ 28 (d := D_is_promise) rfl
  obtain ⟨fd_breaker, F_breaker⟩ := c.def_ 29 (d := D_breaker) rfl
  obtain ⟨fd_days_in, F_days_in⟩ := c.def_ 30 (d := D_days_in) rfl
  obtain ⟨fd_dearest, F_dearest⟩ := c.def_ 31 (d := D_dearest) rfl
  obtain ⟨fd_candidates, F_candidates⟩ := c.def_ 32 (d := D_candidates) rfl
  obtain ⟨fd_greatest_late_of, F_greatest_late_of⟩ := c.def_ 33 (d := D_greatest_late_of) rfl
  obtain ⟨fd_is_count, F_is_count⟩ := c.def_ 34 (d := D_is_count) rfl
  obtain ⟨fd_is_wish, F_is_wish⟩ := c.def_ 35 (d := D_is_wish) rfl
  obtain ⟨fd_does_keep, F_does_keep⟩ := c.def_ 36 (d := D_does_keep) rfl
  obtain ⟨fd_keeps, F_keeps⟩ := c.def_ 37 (d := D_keeps) rfl
  obtain ⟨fd__law_model, F__law_model⟩ := c.def_ 38 (d := D__law_model) rfl
  obtain ⟨fd__law_made, F__law_made⟩ := c.def_ 39 (d := D__law_made) rfl
  obtain ⟨fd__law_first, F__law_first⟩ := c.def_ 40 (d := D__law_first) rfl
  obtain ⟨fd__law_month, F__law_month⟩ := c.def_ 41 (d := D__law_month) rfl
  obtain ⟨fd__law_due, F__law_due⟩ := c.def_ 42 (d := D__law_due) rfl
  obtain ⟨fd__law_can_stand, F__law_can_stand⟩ := c.def_ 43 (d := D__law_can_stand) rfl
  obtain ⟨fd__law_is_vow, F__law_is_vow⟩ := c.def_ 44 (d := D__law_is_vow) rfl
  obtain ⟨fd__law_broken, F__law_broken⟩ := c.def_ 45 (d := D__law_broken) rfl
  obtain ⟨fd__law_odd, F__law_odd⟩ := c.def_ 46 (d := D__law_odd) rfl
  obtain ⟨fd__law_why, F__law_why⟩ := c.def_ 47 (d := D__law_why) rfl
  obtain ⟨fd__law_all_why, F__law_all_why⟩ := c.def_ 48 (d := D__law_all_why) rfl
  obtain ⟨fd__law_greatest, F__law_greatest⟩ := c.def_ 49 (d := D__law_greatest) rfl
  obtain ⟨fd__law_rising, F__law_rising⟩ := c.def_ 50 (d := D__law_rising) rfl
  obtain ⟨fd__law_stands, F__law_stands⟩ := c.def_ 51 (d := D__law_stands) rfl
  obtain ⟨fd__law_greatest_late, F__law_greatest_late⟩ := c.def_ 52 (d := D__law_greatest_late) rfl
  obtain ⟨fd__law_is_count, F__law_is_count⟩ := c.def_ 53 (d := D__law_is_count) rfl
  obtain ⟨fd__law_is_hope, F__law_is_hope⟩ := c.def_ 54 (d := D__law_is_hope) rfl
  obtain ⟨fd__law_hope, F__law_hope⟩ := c.def_ 55 (d := D__law_hope) rfl
  obtain ⟨fd__law_does_hold, F__law_does_hold⟩ := c.def_ 56 (d := D__law_does_hold) rfl
  obtain ⟨fd__law_near_hope, F__law_near_hope⟩ := c.def_ 57 (d := D__law_near_hope) rfl
  obtain ⟨fd_law, F_law⟩ := c.def_ 58 (d := D_law) rfl
  obtain ⟨pr_Book_lengths, fd_Book_lengths, F_Book_lengths⟩ := gg G_Book_lengths (List.mem_of_getElem? (i := 0) rfl)
  obtain ⟨pr_Book_due, fd_Book_due, F_Book_due⟩ := gg G_Book_due (List.mem_of_getElem? (i := 1) rfl)
  obtain ⟨pr_Book_kinds, fd_Book_kinds, F_Book_kinds⟩ := gg G_Book_kinds (List.mem_of_getElem? (i := 2) rfl)
  obtain ⟨pr_Book_memory, fd_Book_memory, F_Book_memory⟩ := gg G_Book_memory (List.mem_of_getElem? (i := 3) rfl)
  obtain ⟨pr_Book_begins, fd_Book_begins, F_Book_begins⟩ := gg G_Book_begins (List.mem_of_getElem? (i := 4) rfl)
  obtain ⟨pr_Book_laid, fd_Book_laid, F_Book_laid⟩ := gg G_Book_laid (List.mem_of_getElem? (i := 5) rfl)
  have e := hfa.symm.trans (He.glo_ok X G (c.fact 52 (f := .glo "law") rfl))
  cases e
  have ex12 : (insB K (He.ga K "Book") && true) = true := ex
  have T : Tx K mg := { b_all := He.free_ok X G (c.fact 59 (f := .free "all") rfl), b_bool := He.free_ok X G (c.fact 60 (f := .free "bool") rfl), b_dict := He.free_ok X G (c.fact 61 (f := .free "dict") rfl), b_enumerate := He.free_ok X G (c.fact 62 (f := .free "enumerate") rfl), b_int := He.free_ok X G (c.fact 63 (f := .free "int") rfl), b_isinstance := He.free_ok X G (c.fact 64 (f := .free "isinstance") rfl), b_len := He.free_ok X G (c.fact 65 (f := .free "len") rfl), b_list := He.free_ok X G (c.fact 66 (f := .free "list") rfl), b_max := He.free_ok X G (c.fact 67 (f := .free "max") rfl), b_min := He.free_ok X G (c.fact 68 (f := .free "min") rfl), b_range := He.free_ok X G (c.fact 69 (f := .free "range") rfl), b_repr := He.free_ok X G (c.fact 70 (f := .free "repr") rfl), b_sorted := He.free_ok X G (c.fact 71 (f := .free "sorted") rfl), b_str := He.free_ok X G (c.fact 72 (f := .free "str") rfl), b_sum := He.free_ok X G (c.fact 73 (f := .free "sum") rfl), b_super := He.free_ok X G (c.fact 74 (f := .free "super") rfl), b_tuple := He.free_ok X G (c.fact 75 (f := .free "tuple") rfl), c_DAY := He.str_ok X G (c.fact 76 (f := .str "DAY" "day") rfl), c_EACH := He.str_ok X G (c.fact 77 (f := .str "EACH" "each") rfl), c_FREE := He.str_ok X G (c.fact 78 (f := .str "FREE" "free") rfl), c_LETTERS := He.str_ok X G (c.fact 79 (f := .str "LETTERS" "abcdefghijklmnopqrstuvwxyz") rfl), c_LONGEST := He.int_ok X G (c.fact 80 (f := .int "LONGEST" 31) rfl), c_MOST_CAP := He.int_ok X G (c.fact 81 (f := .int "MOST_CAP" 1000000) rfl), c_MOST_DAY := He.int_ok X G (c.fact 82 (f := .int "MOST_DAY" 2000) rfl), c_MOST_DAYS := He.int_ok X G (c.fact 83 (f := .int "MOST_DAYS" 100) rfl), c_MOST_KINDS := He.int_ok X G (c.fact 84 (f := .int "MOST_KINDS" 6) rfl), c_MOST_LENGTHS := He.int_ok X G (c.fact 85 (f := .int "MOST_LENGTHS" 4) rfl), c_MOST_MEMORY := He.int_ok X G (c.fact 86 (f := .int "MOST_MEMORY" 2) rfl), c_MOST_NAME := He.int_ok X G (c.fact 87 (f := .int "MOST_NAME" 8) rfl), c_MOST_RATE := He.int_ok X G (c.fact 88 (f := .int "MOST_RATE" 1000) rfl), c_RATE := He.str_ok X G (c.fact 89 (f := .str "RATE" "rate") rfl), c_SHORTEST := He.int_ok X G (c.fact 90 (f := .int "SHORTEST" 2) rfl), c_SOME := He.str_ok X G (c.fact 91 (f := .str "SOME" "some") rfl), c_STATEMENT := He.str_ok X G (c.fact 92 (f := .str "STATEMENT" "statement") rfl), g_CreditError := He.glo_ok X G (c.fact 53 (f := .glo "CreditError") rfl), g_BadBook := He.glo_ok X G (c.fact 54 (f := .glo "BadBook") rfl), g_BadNumber := He.glo_ok X G (c.fact 55 (f := .glo "BadNumber") rfl), g_BadPromise := He.glo_ok X G (c.fact 56 (f := .glo "BadPromise") rfl), g_BadWish := He.glo_ok X G (c.fact 57 (f := .glo "BadWish") rfl), g_Book := He.glo_ok X G (c.fact 58 (f := .glo "Book") rfl) }
  have clBook := He.cls_ok (c.fact 93 (f := .cls "Book") rfl)
  have mkBook := He.mkr_ok (c.fact 94 (f := .mkr "Book") rfl)
  have insBook := insB_ok clBook (He.ba ex12).1
  have bcBook : BkC K (He.ga K "Book") := ⟨clBook, He.noat_ok (c.fact 95 (f := .noat "Book" "b_lengths") rfl), He.noat_ok (c.fact 96 (f := .noat "Book" "b_due") rfl), He.noat_ok (c.fact 97 (f := .noat "Book" "b_kinds") rfl), He.noat_ok (c.fact 98 (f := .noat "Book" "b_memory") rfl), He.noat_ok (c.fact 99 (f := .noat "Book" "b_begins") rfl), He.noat_ok (c.fact 100 (f := .noat "Book" "b_laid") rfl)⟩
  obtain ⟨bds, bvs, bBook'⟩ := FunD.binds1 (ps := ["self", "lengths", "due", "kinds", "memory", "begins", "laid"]) F_Book___init__ 7 3 (List.cons_ne_nil _ _) rfl (fun T' kV doc pm an cdv ct us its h1 h2 => match us, its, h1, h2 with | [_, _, _, _, _, _, _], [_, _, _], _, _ => ⟨_, rfl, rfl⟩)
  have bBook : Binds K fd_Book___init__ ["self", "lengths", "due", "kinds", "memory", "begins", "laid"] [] := by cases bvs; exact bBook'
  have b := FunD.bindsA (ps := ["_law_script"]) F_law fun _ _ _ _ _ _ us hl => match us, hl with | [_], _ => rfl
  refine ⟨fd_law, fun s v => b s [v] rfl, fun base inB nsB => ?_⟩
  have m_lengths : Dpr P w K mg base CX0 1 (He.ga K "Book") "lengths" (sp_g_lengths (He.ga K "Book")) := ⟨⟨_, _, _, _, pr_Book_lengths, ok_Book_lengths T bcBook F_Book_lengths, FunD.bindsN F_Book_lengths fun _ _ _ _ _ _ us hl => match us, hl with | [_], _ => rfl⟩, clBook⟩
  have m_due : Dpr P w K mg base CX0 1 (He.ga K "Book") "due" (sp_g_due (He.ga K "Book")) := ⟨⟨_, _, _, _, pr_Book_due, ok_Book_due T bcBook F_Book_due, FunD.bindsN F_Book_due fun _ _ _ _ _ _ us hl => match us, hl with | [_], _ => rfl⟩, clBook⟩
  have m_kinds : Dpr P w K mg base CX0 1 (He.ga K "Book") "kinds" (sp_g_kinds (He.ga K "Book")) := ⟨⟨_, _, _, _, pr_Book_kinds, ok_Book_kinds T bcBook F_Book_kinds, FunD.bindsN F_Book_kinds fun _ _ _ _ _ _ us hl => match us, hl with | [_], _ => rfl⟩, clBook⟩
  have m_memory : Dpr P w K mg base CX0 1 (He.ga K "Book") "memory" (sp_g_memory (He.ga K "Book")) := ⟨⟨_, _, _, _, pr_Book_memory, ok_Book_memory T bcBook F_Book_memory, FunD.bindsN F_Book_memory fun _ _ _ _ _ _ us hl => match us, hl with | [_], _ => rfl⟩, clBook⟩
  have m_begins : Dpr P w K mg base CX0 1 (He.ga K "Book") "begins" (sp_g_begins (He.ga K "Book")) := ⟨⟨_, _, _, _, pr_Book_begins, ok_Book_begins T bcBook F_Book_begins, FunD.bindsN F_Book_begins fun _ _ _ _ _ _ us hl => match us, hl with | [_], _ => rfl⟩, clBook⟩
  have m_laid : Dpr P w K mg base CX0 1 (He.ga K "Book") "laid" (sp_g_laid (He.ga K "Book")) := ⟨⟨_, _, _, _, pr_Book_laid, ok_Book_laid T bcBook F_Book_laid, FunD.bindsN F_Book_laid fun _ _ _ _ _ _ us hl => match us, hl with | [_], _ => rfl⟩, clBook⟩
  have d__law_begun : Dn P w K mg base CX0 1 "_law_begun" ["_law_script"] (sp_begun K) := ⟨⟨_, ok__law_begun T F__law_begun, FunD.bindsN F__law_begun fun _ _ _ _ _ _ us hl => match us, hl with | [_], _ => rfl⟩, He.glo_ok X G (c.fact 0 (f := .glo "_law_begun") rfl), F__law_begun.kp⟩
  have d__law_mixed : Dn P w K mg base CX0 1 "_law_mixed" ["_law_state"] sp_mixed := ⟨⟨_, ok__law_mixed T F__law_mixed, FunD.bindsN F__law_mixed fun _ _ _ _ _ _ us hl => match us, hl with | [_], _ => rfl⟩, He.glo_ok X G (c.fact 1 (f := .glo "_law_mixed") rfl), F__law_mixed.kp⟩
  have d__law_take : Dn P w K mg base CX0 2 "_law_take" ["_law_state", "_law_size"] sp_take := ⟨⟨_, ok__law_take T F__law_take d__law_mixed, FunD.bindsN F__law_take fun _ _ _ _ _ _ us hl => match us, hl with | [_, _], _ => rfl⟩, He.glo_ok X G (c.fact 2 (f := .glo "_law_take") rfl), F__law_take.kp⟩
  have d__law_pick : Dn P w K mg base CX0 3 "_law_pick" ["_law_state", "_law_some_here"] sp_pick := ⟨⟨_, ok__law_pick T F__law_pick d__law_take, FunD.bindsN F__law_pick fun _ _ _ _ _ _ us hl => match us, hl with | [_, _], _ => rfl⟩, He.glo_ok X G (c.fact 3 (f := .glo "_law_pick") rfl), F__law_pick.kp⟩
  have d__law_pickS : Dn P w K mg base CX0 3 "_law_pick" ["_law_state", "_law_some_here"] sp_pickS := ⟨⟨_, ok__law_pickS T F__law_pick d__law_take, FunD.bindsN F__law_pick fun _ _ _ _ _ _ us hl => match us, hl with | [_, _], _ => rfl⟩, d__law_pick.gm, d__law_pick.kp⟩
  have d__law_names : Dn P w K mg base CX0 4 "_law_names" ["_law_state", "_law_many"] sp_names := ⟨⟨_, ok__law_names T F__law_names d__law_take d__law_pick d__law_pickS, FunD.bindsN F__law_names fun _ _ _ _ _ _ us hl => match us, hl with | [_, _], _ => rfl⟩, He.glo_ok X G (c.fact 4 (f := .glo "_law_names") rfl), F__law_names.kp⟩
  have d__law_some : Dn P w K mg base CX0 3 "_law_some" ["_law_state", "_law_some_here", "_law_many"] sp_some := ⟨⟨_, ok__law_some T F__law_some d__law_take, FunD.bindsN F__law_some fun _ _ _ _ _ _ us hl => match us, hl with | [_, _, _], _ => rfl⟩, He.glo_ok X G (c.fact 5 (f := .glo "_law_some") rfl), F__law_some.kp⟩
  have d_is_number : Dn P w K mg base CX0 1 "is_number" ["value"] (sp_is_number K) := ⟨⟨_, ok_is_number T F_is_number, FunD.bindsN F_is_number fun _ _ _ _ _ _ us hl => match us, hl with | [_], _ => rfl⟩, He.glo_ok X G (c.fact 6 (f := .glo "is_number") rfl), F_is_number.kp⟩
  have d_is_number_in : Dn P w K mg base CX0 2 "is_number_in" ["value", "least", "most"] (sp_is_number_in K) := ⟨⟨_, ok_is_number_in T F_is_number_in d_is_number, FunD.bindsN F_is_number_in fun _ _ _ _ _ _ us hl => match us, hl with | [_, _, _], _ => rfl⟩, He.glo_ok X G (c.fact 7 (f := .glo "is_number_in") rfl), F_is_number_in.kp⟩
  have d_is_list : Dn P w K mg base CX0 1 "is_list" ["value"] (sp_is_list K) := ⟨⟨_, ok_is_list T F_is_list, FunD.bindsN F_is_list fun _ _ _ _ _ _ us hl => match us, hl with | [_], _ => rfl⟩, He.glo_ok X G (c.fact 8 (f := .glo "is_list") rfl), F_is_list.kp⟩
  have d_is_name : Dn P w K mg base CX0 1 "is_name" ["value"] sp_is_name := ⟨⟨_, ok_is_name T F_is_name, FunD.bindsN F_is_name fun _ _ _ _ _ _ us hl => match us, hl with | [_], _ => rfl⟩, He.glo_ok X G (c.fact 9 (f := .glo "is_name") rfl), F_is_name.kp⟩
  have d_are_lengths : Dn P w K mg base CX0 3 "are_lengths" ["value"] (sp_are_lengths K) := ⟨⟨_, ok_are_lengths T F_are_lengths d_is_list d_is_number_in, FunD.bindsN F_are_lengths fun _ _ _ _ _ _ us hl => match us, hl with | [_], _ => rfl⟩, He.glo_ok X G (c.fact 10 (f := .glo "are_lengths") rfl), F_are_lengths.kp⟩
  have d_is_kind : Dn P w K mg base CX0 3 "is_kind" ["value"] sp_is_kind := ⟨⟨_, ok_is_kind T F_is_kind d_is_number_in, FunD.bindsN F_is_kind fun _ _ _ _ _ _ us hl => match us, hl with | [_], _ => rfl⟩, He.glo_ok X G (c.fact 11 (f := .glo "is_kind") rfl), F_is_kind.kp⟩
  have d_are_kinds : Dn P w K mg base CX0 4 "are_kinds" ["value"] sp_are_kinds := ⟨⟨_, ok_are_kinds T F_are_kinds d_is_name d_is_kind, FunD.bindsN F_are_kinds fun _ _ _ _ _ _ us hl => match us, hl with | [_], _ => rfl⟩, He.glo_ok X G (c.fact 12 (f := .glo "are_kinds") rfl), F_are_kinds.kp⟩
  have d_is_order : Dn P w K mg base CX0 2 "is_order" ["names", "value"] sp_is_order := ⟨⟨_, ok_is_order T F_is_order d_is_name, FunD.bindsN F_is_order fun _ _ _ _ _ _ us hl => match us, hl with | [_, _], _ => rfl⟩, He.glo_ok X G (c.fact 13 (f := .glo "is_order") rfl), F_is_order.kp⟩
  have mk_Book : Dc P w K mg base CX0 5 "Book" (sp_Book (He.ga K "Book")) := ⟨⟨_, _, _, _, [], [], mkBook, ok_Book_init T bcBook F_Book___init__ d_is_number_in d_are_lengths d_are_kinds d_is_order, bBook, .nil, fun vs H Q E z => imp_Book vs H Q E z⟩, T.g_Book⟩
  have mt_Book_rate_of : Dm P w K mg base CX0 1 (He.ga K "Book") "rate_of" (sp_rate_of (He.ga K "Book")) := ⟨⟨_, _, _, He.meth_ok (c.fact 101 (f := .meth "Book" "rate_of") rfl), ok_Book_rate_of T bcBook F_Book_rate_of, FunD.bindsN F_Book_rate_of fun _ _ _ _ _ _ us hl => match us, hl with | [_, _], _ => rfl⟩, clBook⟩
  have mt_Book_is_free : Dm P w K mg base CX0 1 (He.ga K "Book") "is_free" (sp_is_free (He.ga K "Book")) := ⟨⟨_, _, _, He.meth_ok (c.fact 102 (f := .meth "Book" "is_free") rfl), ok_Book_is_free T bcBook F_Book_is_free, FunD.bindsN F_Book_is_free fun _ _ _ _ _ _ us hl => match us, hl with | [_, _], _ => rfl⟩, clBook⟩
  have mt_Book_month_at : Dm P w K mg base CX0 1 (He.ga K "Book") "month_at" (sp_month_at (He.ga K "Book")) := ⟨⟨_, _, _, He.meth_ok (c.fact 103 (f := .meth "Book" "month_at") rfl), ok_Book_month_at T bcBook F_Book_month_at, FunD.bindsN F_Book_month_at fun _ _ _ _ _ _ us hl => match us, hl with | [_, _], _ => rfl⟩, clBook⟩
  have mt_Book_first_at : Dm P w K mg base CX0 1 (He.ga K "Book") "first_at" (sp_first_at (He.ga K "Book")) := ⟨⟨_, _, _, He.meth_ok (c.fact 104 (f := .meth "Book" "first_at") rfl), ok_Book_first_at T bcBook F_Book_first_at, FunD.bindsN F_Book_first_at fun _ _ _ _ _ _ us hl => match us, hl with | [_, _], _ => rfl⟩, clBook⟩
  have mt_Book_due_at : Dm P w K mg base CX0 2 (He.ga K "Book") "due_at" (sp_due_at (He.ga K "Book")) := ⟨⟨_, _, _, He.meth_ok (c.fact 105 (f := .meth "Book" "due_at") rfl), ok_Book_due_at T bcBook F_Book_due_at mt_Book_first_at, FunD.bindsN F_Book_due_at fun _ _ _ _ _ _ us hl => match us, hl with | [_, _], _ => rfl⟩, clBook⟩
  have d_need_book : Dn P w K mg base CX0 1 "need_book" ["value"] (sp_need_book (He.ga K "Book")) := ⟨⟨_, ok_need_book T insBook F_need_book, FunD.bindsN F_need_book fun _ _ _ _ _ _ us hl => match us, hl with | [_], _ => rfl⟩, He.glo_ok X G (c.fact 14 (f := .glo "need_book") rfl), F_need_book.kp⟩
  have d_days_at : Dn P w K mg base CX0 3 "days_at" ["book", "day"] (sp_days_at (He.ga K "Book")) := ⟨⟨_, ok_days_at T F_days_at mt_Book_month_at mt_Book_due_at, FunD.bindsN F_days_at fun _ _ _ _ _ _ us hl => match us, hl with | [_, _], _ => rfl⟩, He.glo_ok X G (c.fact 15 (f := .glo "days_at") rfl), F_days_at.kp⟩
  have d_round_of : Dn P w K mg base CX0 4 "round_of" ["book"] (sp_round_of (He.ga K "Book")) := ⟨⟨_, ok_round_of T F_round_of m_lengths d_days_at, FunD.bindsN F_round_of fun _ _ _ _ _ _ us hl => match us, hl with | [_], _ => rfl⟩, He.glo_ok X G (c.fact 16 (f := .glo "round_of") rfl), F_round_of.kp⟩
  have d_word_for : Dn P w K mg base CX0 3 "word_for" ["book", "ahead", "behind"] (sp_word_for (He.ga K "Book")) := ⟨⟨_, ok_word_for T F_word_for mt_Book_rate_of mt_Book_is_free m_begins, FunD.bindsN F_word_for fun _ _ _ _ _ _ us hl => match us, hl with | [_, _, _], _ => rfl⟩, He.glo_ok X G (c.fact 17 (f := .glo "word_for") rfl), F_word_for.kp⟩
  have d_reasons_of : Dn P w K mg base CX0 4 "reasons_of" ["book"] (sp_reasons (He.ga K "Book")) := ⟨⟨_, ok_reasons_of T F_reasons_of m_laid d_word_for, FunD.bindsN F_reasons_of fun _ _ _ _ _ _ us hl => match us, hl with | [_], _ => rfl⟩, He.glo_ok X G (c.fact 18 (f := .glo "reasons_of") rfl), F_reasons_of.kp⟩
  have d_never_costs_more : Dn P w K mg base CX0 5 "never_costs_more" ["book"] (sp_never_more (He.ga K "Book")) := ⟨⟨_, ok_never_costs_more T F_never_costs_more d_need_book d_reasons_of, FunD.bindsN F_never_costs_more fun _ _ _ _ _ _ us hl => match us, hl with | [_], _ => rfl⟩, He.glo_ok X G (c.fact 19 (f := .glo "never_costs_more") rfl), F_never_costs_more.kp⟩
  have d_windows_of : Dn P w K mg base CX0 3 "windows_of" ["book"] (sp_windows (He.ga K "Book")) := ⟨⟨_, ok_windows_of T F_windows_of mt_Book_rate_of mt_Book_is_free m_begins m_laid m_lengths m_due, FunD.bindsN F_windows_of fun _ _ _ _ _ _ us hl => match us, hl with | [_], _ => rfl⟩, He.glo_ok X G (c.fact 20 (f := .glo "windows_of") rfl), F_windows_of.kp⟩
  have d_greatest_loss : Dn P w K mg base CX0 5 "greatest_loss" ["book"] (sp_loss (He.ga K "Book")) := ⟨⟨_, ok_greatest_loss T F_greatest_loss d_need_book d_reasons_of d_windows_of, FunD.bindsN F_greatest_loss fun _ _ _ _ _ _ us hl => match us, hl with | [_], _ => rfl⟩, He.glo_ok X G (c.fact 21 (f := .glo "greatest_loss") rfl), F_greatest_loss.kp⟩
  have d_is_promise : Dn P w K mg base CX0 3 "is_promise" ["value"] (sp_is_promise K) := ⟨⟨_, ok_is_promise T F_is_promise d_is_number_in, FunD.bindsN F_is_promise fun _ _ _ _ _ _ us hl => match us, hl with | [_], _ => rfl⟩, He.glo_ok X G (c.fact 22 (f := .glo "is_promise") rfl), F_is_promise.kp⟩
  have d_breaker : Dn P w K mg base CX0 5 "breaker" ["book", "promise"] (sp_breaker (He.ga K "Book")) := ⟨⟨_, ok_breaker T F_breaker d_need_book d_is_promise m_lengths d_round_of, FunD.bindsN F_breaker fun _ _ _ _ _ _ us hl => match us, hl with | [_, _], _ => rfl⟩, He.glo_ok X G (c.fact 23 (f := .glo "breaker") rfl), F_breaker.kp⟩
  have d_days_in : Dn P w K mg base CX0 4 "days_in" ["book", "month"] (sp_days_in (He.ga K "Book")) := ⟨⟨_, ok_days_in T F_days_in mt_Book_first_at mt_Book_due_at m_begins, FunD.bindsN F_days_in fun _ _ _ _ _ _ us hl => match us, hl with | [_, _], _ => rfl⟩, He.glo_ok X G (c.fact 24 (f := .glo "days_in") rfl), F_days_in.kp⟩
  have d_dearest : Dn P w K mg base CX0 3 "dearest" ["book", "is_free"] (sp_dearest (He.ga K "Book")) := ⟨⟨_, ok_dearest T F_dearest mt_Book_rate_of mt_Book_is_free m_kinds, FunD.bindsN F_dearest fun _ _ _ _ _ _ us hl => match us, hl with | [_, _], _ => rfl⟩, He.glo_ok X G (c.fact 25 (f := .glo "dearest") rfl), F_dearest.kp⟩
  have d_candidates : Dn P w K mg base CX0 5 "candidates" ["book", "cap"] (sp_candidates (He.ga K "Book")) := ⟨⟨_, ok_candidates T F_candidates d_dearest d_days_in m_lengths m_memory, FunD.bindsN F_candidates fun _ _ _ _ _ _ us hl => match us, hl with | [_, _], _ => rfl⟩, He.glo_ok X G (c.fact 26 (f := .glo "candidates") rfl), F_candidates.kp⟩
  have d_greatest_late_of : Dn P w K mg base CX0 6 "greatest_late_of" ["book", "cap"] (sp_late_of (He.ga K "Book")) := ⟨⟨_, ok_greatest_late_of T F_greatest_late_of d_candidates, FunD.bindsN F_greatest_late_of fun _ _ _ _ _ _ us hl => match us, hl with | [_, _], _ => rfl⟩, He.glo_ok X G (c.fact 27 (f := .glo "greatest_late_of") rfl), F_greatest_late_of.kp⟩
  have d_is_count : Dn P w K mg base CX0 2 "is_count" ["value"] (sp_is_count K) := ⟨⟨_, ok_is_count T F_is_count d_is_number, FunD.bindsN F_is_count fun _ _ _ _ _ _ us hl => match us, hl with | [_], _ => rfl⟩, He.glo_ok X G (c.fact 28 (f := .glo "is_count") rfl), F_is_count.kp⟩
  have d_is_wish : Dn P w K mg base CX0 4 "is_wish" ["value"] (sp_is_wish K) := ⟨⟨_, ok_is_wish T F_is_wish d_is_count d_is_promise d_is_number_in, FunD.bindsN F_is_wish fun _ _ _ _ _ _ us hl => match us, hl with | [_], _ => rfl⟩, He.glo_ok X G (c.fact 29 (f := .glo "is_wish") rfl), F_is_wish.kp⟩
  have d_does_keep : Dn P w K mg base CX0 7 "does_keep" ["book", "wish"] (sp_does_keep (He.ga K "Book")) := ⟨⟨_, ok_does_keep T F_does_keep d_never_costs_more d_greatest_loss d_breaker d_greatest_late_of m_laid, FunD.bindsN F_does_keep fun _ _ _ _ _ _ us hl => match us, hl with | [_, _], _ => rfl⟩, He.glo_ok X G (c.fact 30 (f := .glo "does_keep") rfl), F_does_keep.kp⟩
  have d_keeps : Dn P w K mg base CX0 8 "keeps" ["book", "wish"] (sp_does_keep (He.ga K "Book")) := ⟨⟨_, ok_keeps T F_keeps d_need_book d_is_wish d_does_keep, FunD.bindsN F_keeps fun _ _ _ _ _ _ us hl => match us, hl with | [_, _], _ => rfl⟩, He.glo_ok X G (c.fact 31 (f := .glo "keeps") rfl), F_keeps.kp⟩
  have k_keeps_wish_book : Dq P w K mg base CX0 8 "keeps" ["wish", "book"] swap2 (sp_does_keep (He.ga K "Book")) := ⟨⟨_, ["book", "wish"], _, ok_keeps T F_keeps d_need_book d_is_wish d_does_keep, kbn_of F_keeps swap2_rel fun _ _ _ _ _ _ ws hl => match ws, hl with | [_, _], _ => rfl⟩, He.glo_ok X G (c.fact 31 (f := .glo "keeps") rfl), F_keeps.kp⟩
  have k_is_wish_value : Dq P w K mg base CX0 4 "is_wish" ["value"] keep1 (sp_is_wish K) := ⟨⟨_, ["value"], _, ok_is_wish T F_is_wish d_is_count d_is_promise d_is_number_in, kbn_of F_is_wish keep1_rel fun _ _ _ _ _ _ ws hl => match ws, hl with | [_], _ => rfl⟩, He.glo_ok X G (c.fact 29 (f := .glo "is_wish") rfl), F_is_wish.kp⟩
  have d__law_model : Dn P w K mg base CX0 5 "_law_model" ["_law_state", "_law_many", "_law_is_laid"] sp_model := ⟨⟨_, ok__law_model T F__law_model d__law_take d__law_pick d__law_names d__law_some, FunD.bindsN F__law_model fun _ _ _ _ _ _ us hl => match us, hl with | [_, _, _], _ => rfl⟩, He.glo_ok X G (c.fact 32 (f := .glo "_law_model") rfl), F__law_model.kp⟩
  have d__law_made : Dn P w K mg base CX0 7 "_law_made" ["_law_model_here"] (sp_made (He.ga K "Book")) := ⟨⟨_, ok__law_made T F__law_made mk_Book, FunD.bindsN F__law_made fun _ _ _ _ _ _ us hl => match us, hl with | [_], _ => rfl⟩, He.glo_ok X G (c.fact 33 (f := .glo "_law_made") rfl), F__law_made.kp⟩
  have d__law_first : Dn P w K mg base CX0 1 "_law_first" ["_law_model_here", "_law_mon"] sp_lfirst := ⟨⟨_, ok__law_first T F__law_first , FunD.bindsN F__law_first fun _ _ _ _ _ _ us hl => match us, hl with | [_, _], _ => rfl⟩, He.glo_ok X G (c.fact 34 (f := .glo "_law_first") rfl), F__law_first.kp⟩
  have d__law_month : Dn P w K mg base CX0 2 "_law_month" ["_law_model_here", "_law_date"] sp_lmonth := ⟨⟨_, ok__law_month T F__law_month d__law_first, FunD.bindsN F__law_month fun _ _ _ _ _ _ us hl => match us, hl with | [_, _], _ => rfl⟩, He.glo_ok X G (c.fact 35 (f := .glo "_law_month") rfl), F__law_month.kp⟩
  have d__law_due : Dn P w K mg base CX0 2 "_law_due" ["_law_model_here", "_law_mon"] sp_ldue := ⟨⟨_, ok__law_due T F__law_due d__law_first, FunD.bindsN F__law_due fun _ _ _ _ _ _ us hl => match us, hl with | [_, _], _ => rfl⟩, He.glo_ok X G (c.fact 36 (f := .glo "_law_due") rfl), F__law_due.kp⟩
  have d__law_can_stand : Dn P w K mg base CX0 3 "_law_can_stand" ["_law_model_here", "_law_date"] sp_can_stand := ⟨⟨_, ok__law_can_stand T F__law_can_stand d__law_month d__law_due, FunD.bindsN F__law_can_stand fun _ _ _ _ _ _ us hl => match us, hl with | [_, _], _ => rfl⟩, He.glo_ok X G (c.fact 37 (f := .glo "_law_can_stand") rfl), F__law_can_stand.kp⟩
  have d__law_is_vow : Dn P w K mg base CX0 1 "_law_is_vow" ["_law_thing"] (sp_is_promise K) := ⟨⟨_, ok__law_is_vow T F__law_is_vow , FunD.bindsN F__law_is_vow fun _ _ _ _ _ _ us hl => match us, hl with | [_], _ => rfl⟩, He.glo_ok X G (c.fact 38 (f := .glo "_law_is_vow") rfl), F__law_is_vow.kp⟩
  have d__law_broken : Dn P w K mg base CX0 4 "_law_broken" ["_law_model_here", "_law_vow"] sp_broken := ⟨⟨_, ok__law_broken T F__law_broken d__law_can_stand, FunD.bindsN F__law_broken fun _ _ _ _ _ _ us hl => match us, hl with | [_, _], _ => rfl⟩, He.glo_ok X G (c.fact 39 (f := .glo "_law_broken") rfl), F__law_broken.kp⟩
  have d__law_odd : Dn P w K mg base CX0 4 "_law_odd" ["_law_state"] sp_odd := ⟨⟨_, ok__law_odd T F__law_odd d__law_pick, FunD.bindsN F__law_odd fun _ _ _ _ _ _ us hl => match us, hl with | [_], _ => rfl⟩, He.glo_ok X G (c.fact 40 (f := .glo "_law_odd") rfl), F__law_odd.kp⟩
  have d__law_why : Dn P w K mg base CX0 1 "_law_why" ["_law_model_here", "_law_ahead", "_law_behind"] sp_lwhy := ⟨⟨_, ok__law_why T F__law_why , FunD.bindsN F__law_why fun _ _ _ _ _ _ us hl => match us, hl with | [_, _, _], _ => rfl⟩, He.glo_ok X G (c.fact 41 (f := .glo "_law_why") rfl), F__law_why.kp⟩
  have d__law_all_why : Dn P w K mg base CX0 2 "_law_all_why" ["_law_model_here"] sp_all_why := ⟨⟨_, ok__law_all_why T F__law_all_why d__law_why, FunD.bindsN F__law_all_why fun _ _ _ _ _ _ us hl => match us, hl with | [_], _ => rfl⟩, He.glo_ok X G (c.fact 42 (f := .glo "_law_all_why") rfl), F__law_all_why.kp⟩
  have d__law_greatest : Dn P w K mg base CX0 3 "_law_greatest" ["_law_model_here"] sp_lgreatest := ⟨⟨_, ok__law_greatest T F__law_greatest d__law_all_why, FunD.bindsN F__law_greatest fun _ _ _ _ _ _ us hl => match us, hl with | [_], _ => rfl⟩, He.glo_ok X G (c.fact 43 (f := .glo "_law_greatest") rfl), F__law_greatest.kp⟩
  have d__law_rising : Dn P w K mg base CX0 6 "_law_rising" ["_law_state"] sp_rising := ⟨⟨_, ok__law_rising T F__law_rising d__law_model d__law_take, FunD.bindsN F__law_rising fun _ _ _ _ _ _ us hl => match us, hl with | [_], _ => rfl⟩, He.glo_ok X G (c.fact 44 (f := .glo "_law_rising") rfl), F__law_rising.kp⟩
  have d__law_stands : Dn P w K mg base CX0 2 "_law_stands" ["_law_model_here", "_law_mon"] sp_stands := ⟨⟨_, ok__law_stands T F__law_stands d__law_first, FunD.bindsN F__law_stands fun _ _ _ _ _ _ us hl => match us, hl with | [_, _], _ => rfl⟩, He.glo_ok X G (c.fact 45 (f := .glo "_law_stands") rfl), F__law_stands.kp⟩
  have d__law_greatest_late : Dn P w K mg base CX0 3 "_law_greatest_late" ["_law_model_here", "_law_most"] sp_llate := ⟨⟨_, ok__law_greatest_late T F__law_greatest_late d__law_stands, FunD.bindsN F__law_greatest_late fun _ _ _ _ _ _ us hl => match us, hl with | [_, _], _ => rfl⟩, He.glo_ok X G (c.fact 46 (f := .glo "_law_greatest_late") rfl), F__law_greatest_late.kp⟩
  have d__law_is_count : Dn P w K mg base CX0 1 "_law_is_count" ["_law_thing"] (sp_is_count K) := ⟨⟨_, ok__law_is_count T F__law_is_count , FunD.bindsN F__law_is_count fun _ _ _ _ _ _ us hl => match us, hl with | [_], _ => rfl⟩, He.glo_ok X G (c.fact 47 (f := .glo "_law_is_count") rfl), F__law_is_count.kp⟩
  have d__law_is_hope : Dn P w K mg base CX0 2 "_law_is_hope" ["_law_thing"] (sp_is_wish K) := ⟨⟨_, ok__law_is_hope T F__law_is_hope d__law_is_count d__law_is_vow, FunD.bindsN F__law_is_hope fun _ _ _ _ _ _ us hl => match us, hl with | [_], _ => rfl⟩, He.glo_ok X G (c.fact 48 (f := .glo "_law_is_hope") rfl), F__law_is_hope.kp⟩
  have d__law_hope : Dn P w K mg base CX0 4 "_law_hope" ["_law_state", "_law_model_here"] sp_hope := ⟨⟨_, ok__law_hope T F__law_hope d__law_take d__law_pick d__law_greatest d__law_greatest_late, FunD.bindsN F__law_hope fun _ _ _ _ _ _ us hl => match us, hl with | [_, _], _ => rfl⟩, He.glo_ok X G (c.fact 49 (f := .glo "_law_hope") rfl), F__law_hope.kp⟩
  have d__law_does_hold : Dn P w K mg base CX0 5 "_law_does_hold" ["_law_model_here", "_law_hope_here"] sp_does_hold := ⟨⟨_, ok__law_does_hold T F__law_does_hold d__law_all_why d__law_greatest d__law_broken d__law_greatest_late, FunD.bindsN F__law_does_hold fun _ _ _ _ _ _ us hl => match us, hl with | [_, _], _ => rfl⟩, He.glo_ok X G (c.fact 50 (f := .glo "_law_does_hold") rfl), F__law_does_hold.kp⟩
  have d__law_near_hope : Dn P w K mg base CX0 5 "_law_near_hope" ["_law_state", "_law_hope_here"] sp_near_hope := ⟨⟨_, ok__law_near_hope T F__law_near_hope d__law_pick d__law_odd, FunD.bindsN F__law_near_hope fun _ _ _ _ _ _ us hl => match us, hl with | [_, _], _ => rfl⟩, He.glo_ok X G (c.fact 51 (f := .glo "_law_near_hope") rfl), F__law_near_hope.kp⟩
  exact ok_law T F_law d__law_begun d__law_take d__law_rising d__law_model d__law_made d__law_hope d__law_does_hold d__law_near_hope d__law_is_hope d_keeps k_keeps_wish_book d_is_wish k_is_wish_value
end Wp
open PySem PySem.W PySem.Calls PyProof.Rows
set_option maxRecDepth 100000 in
set_option maxHeartbeats 0 in
theorem PySem.Challenge.cw_wholepaid_k53_wishes_that_books_keep_holds : PySem.Challenge.rw_wholepaid_k53_wishes_that_books_keep.Holds := by
  w_on; o_law
  refine HandSHeadRun.head_any (r := Wp.Rw) (q := view Wp.Rw.prog [84]) (H := Wp.hkL) (ob := Wp.obL) (M := 16000) (loose := Wp.looseL) (d := HandSHeadRun.topDef Wp.Rw.prog 84) (kwd := []) Wp.obL_eq
    (by kernel_rfl) (fun s => by kernel_rfl) Wp.runL (by kernel_rfl) (by kernel_rfl) (by kernel_rfl) (by rfl) (by first | assumption | decide +kernel) (by decide +kernel) ⟨rfl, rfl, rfl, rfl, rfl, by decide +kernel⟩ ?hw ?hc
  case hw => w_witness2
  case hc =>
    refine Wp.walk_ofG (l := PySem.Challenge.rw_wholepaid_k53_wishes_that_books_keep) (n := 63) (k := 10) (x := "_law_script") (CX := L2.CX0) rfl (by decide) (by kernel_rfl) ⟨rfl, by decide, by decide⟩ ?F (fun _ _ _ _ z => z)
    intro w mg fa h Y G hmg0
    obtain ⟨K, inK, cX⟩ := Y
    have hmg : mg ("law" : PySem.Str) = some (.ref fa) := by
      have e : (HandSHeadRun.topDef Wp.Rw.prog 84).name = ("law" : PySem.Str) := by kernel_rfl
      rw [← e]
      exact hmg0
    obtain ⟨fd, hb, hF⟩ := Wp.factsL (P := (PySem.Challenge.rw_wholepaid_k53_wishes_that_books_keep).prog) (w := w) inK G hmg cX.x.t.d cX.x.more cX.g
    exact ⟨K, fd, Wp.spLaw K, inK, hb, fun H a zs hl _ hS => ⟨a, zs, rfl, hS, hl, fun _ => rfl⟩, hF⟩
