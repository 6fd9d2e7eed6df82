import PyProof.Rows.All
import Wide.All
import OpenK.AllK
import Wide.FinOn
import KE.KStateDown
import Lean
import HandS.ForMost
import HandS.Exc
import HandS.WordsExc
import HandS.Flow
import HandS.Style
import HandS.IsInst
import HandS.Defaults
import HandS.Conv
import HandS.Evl
import HandS.Steps
import HandS.Head0
import HandS.Head1
import HandS.Head2
import HandS.HeadEnd
import HandS.HeadHook1
import HandS.HeadHook2
import PyProof.ReprRoads
import HandS.MakeKwOnly
import HandS.Codes
import HandS.Property
import HandS.HeadHook3
import HandS.HeadHook4
import HandS.Text
import HandS.Iter
import HandS.DictComp
import HandS.More
import HandS.WordsDict
import KE.KDictZip
import HandS.Zip0
import HandS.Star
import KE.SortData
import HandS.Flt
import PyProof.ReprLen
import HandS.ListItems
import HandS.Finally
import HandS.SortInts
import KE.DataMinMax
import PyProof.Rows.RowBridgeK
import HandS.Strs
import HandS.TupSets
import KE.GoesEnum
import HandS.DictTup
import HandS.DictSubView
import PySem.Challenge.RW_wholepaid_k10_statements
set_option Elab.async false
set_option linter.all false
set_option maxRecDepth 100000
set_option maxHeartbeats 4000000
/-! The layer of this repo over the hand layer: defs called by their names, repr of data, the draws. -/
namespace Wp
open PySem PySem.Spec PyProof.Rows L2

/-- a def of the top as it stands -/
abbrev FnP (K : PySem.W.Frag) (x : Str) (st : Stmt) (f : Addr) (fd : FuncData) : Prop :=
  FunD K x x (defArgs st) (defBody st) (defScope st) [] [] f fd

/-- a def of the top that is called by its name -/
structure Dn (P : Program) (w : World) (K : PySem.W.Frag) (mg : Str → Option Value) (base : Heap)
    (CX : CXT) (k : Nat) (x : Str) (ps : List Str) (sp : Sp) : Prop where
  ex : ∃ fd, FnOk P w K mg base CX k (He.ga K x) fd ps sp ∧ Binds K fd ps []
  gm : mg x = some (.ref (He.ga K x))
  kp : PySem.W.keepIn K (.ref (He.ga K x)) = true

def tFn (sp : Sp) (E : XK) (t : TA) : TE := fun σ H Q => t σ H fun vs H1 => sp vs H1 Q E

section
variable {X : Cx}
theorem pe_fn {CX : CXT} {k : Nat} {x : Str} {ps : List Str} {sp : Sp} {E : XK} {e : Expr} {es : List Expr}
    {t : TA} {p pos : Pos} (D : Dn X.prog X.w X.K X.mg X.base CX k x ps sp) (hr : Room k X.A)
    (hx : Passes CX X E) (ha : PA X (e :: es) t) (hg : Gl X x := by rfl)
    (hdb : (x == ("__debug__" : Str)) = false := by decide)
    (he : starEach (e :: es) X.env = (false, eval e X.env) :: starEach es X.env := by rfl)
    (hpl : (backTo pos (starEach es X.env)).any (·.1) = false := by rfl) :
    PE X (.Call (.Name x p) (e :: es) [] pos) (tFn sp E t) := by
  obtain ⟨fd, F, b⟩ := D.ex
  refine ⟨fun pins s σ H Q I h => ?_⟩
  have q := pe_call (CX := CX) (E := E) (dvs := []) (p := p) (pos := pos) F hr hg D.gm D.kp b .nil hx ha hdb he hpl
  refine q.run pins s σ H Q I ?_
  have e2 : (fun vs H1 => sp (vs ++ []) H1 Q E) = fun vs H1 => sp vs H1 Q E := by
    funext vs H1
    rw [List.append_nil]
  show t σ H (fun vs H1 => sp (vs ++ []) H1 Q E)
  rw [e2]
  exact h
end
end Wp
set_option Elab.async false
set_option linter.all false
set_option maxRecDepth 100000
set_option maxHeartbeats 4000000
namespace Wp
open PySem PySem.Spec PyProof.Rows L2
def topS (i : Nat) : Stmt := PySem.Challenge.pw_wholepaid_k10_statements.main.body.getD i (.Pass ⟨0, 0, 0, 0⟩)
end Wp
set_option Elab.async false
set_option linter.all false
set_option maxRecDepth 100000
set_option maxHeartbeats 4000000
/-! Readings, step by step: one lemma for each head. -/
namespace Wp
open PySem PySem.Spec PyProof.Rows L2

theorem sz5 {n : Nat} (h : n ≤ 1000000) : n ≤ sizeLine := Nat.le_trans h (by decide)
theorem sz6 {n : Nat} (h : n < 1000000) : n < sizeLine := Nat.lt_of_lt_of_le h (by decide)
/-- all but the object at a is as it was -/
def But (a : Addr) (H H' : Hp) : Prop := ∀ b o, H b = some o → b ≠ a → H' b = some o
theorem Same.new {H : Hp} {p : Addr} {o : HO} (h : H p = none) : Same H (upd H p o) := fun b u e => by
  rw [upd_ne (ne_of_none e h)]
  exact e
theorem But.upd {H : Hp} {p : Addr} {o : HO} : But p H (upd H p o) := fun b u e n => by
  rw [upd_ne n]
  exact e
theorem But.same {H H1 H2 : Hp} {p : Addr} (a : But p H H1) (b : Same H1 H2) : But p H H2 := fun c o e n => b c o (a c o e n)
theorem Same.but {H H1 H2 : Hp} {p : Addr} (a : Same H H1) (b : But p H1 H2) : But p H H2 := fun c o e n => b c o (a c o e) n
/-- what is new may change -/
theorem Same.mut {H H1 H2 : Hp} {p : Addr} (a : Same H H1) (b : But p H1 H2) (n : H p = none) : Same H H2 := fun c o e => b c o (a c o e) (ne_of_none e n)

section
variable {t u : TS} {D : Ends} {σ : L2.St} {H : Hp} {te ta tb tc : TE} {ca cb : TT} {tr : TA} {g : TG} {gs : TGs} {Q : VK} {QB : Bool → Hp → Prop} {QA : List V → Hp → Prop} {QS : L2.St → Hp → Prop} {v x y : V} {i j : Int} {n : Nat} {b : Bool} {K : PySem.W.Frag}
/-! statements -/
theorem r_seq (h : t { D with nx := u D } σ H) : tSeq t u D σ H := h
theorem r_next (h : D.nx σ H) : tNext D σ H := h
theorem r_if {c : TT} (h : c σ H fun b H1 => if b = true then t D σ H1 else u D σ H1) : tIfS c t u D σ H := h
theorem r_asg (h : te σ H fun x H1 => g x σ H1 D.nx) : tAsg te g D σ H := h
theorem r_gname (h : QS (σ.set n (some v)) H) : gName n v σ H QS := h
theorem r_ret (h : te σ H D.rt) : tRet te D σ H := h
theorem r_retN (h : D.rt .non H) : tRetN D σ H := h
theorem r_drop (h : te σ H fun _ H1 => D.nx σ H1) : tDrop te D σ H := h
def kPar (m n : Nat) (D : Ends) (σ : L2.St) : List V → Hp → Prop := fun vs H1 => ∃ v w, vs = [v, w] ∧ D.nx ((σ.set m (some v)).set n (some w)) H1
theorem r_par {m : Nat} (h : tr σ H (kPar m n D σ)) : tPar m n tr D σ H := h
theorem r_kPar {m : Nat} (h : D.nx ((σ.set m (some x)).set n (some y)) H) : kPar m n D σ [x, y] H := ⟨x, y, rfl, h⟩
theorem r_gtup {a : Addr} {xs : List V} (h : SqT K H a xs) (l : xs.length = n) (q : gs xs σ H QS) : gTup K n gs (.ref a) σ H QS := ⟨a, xs, rfl, h, l, q⟩
theorem r_gnil (q : QS σ H) : gNil [] σ H QS := ⟨rfl, q⟩
theorem r_gcons {r : List V} (q : g v σ H fun σ' H' => gs r σ' H' QS) : gCons g gs (v :: r) σ H QS := ⟨v, r, rfl, q⟩
/-! names, constants, arguments -/
theorem r_var (h : σ[n]? = some (some v)) (q : Q v H) : tVar n σ H Q := ⟨v, h, q⟩
theorem r_c (q : Q v H) : tC v σ H Q := q
theorem r_nil (q : QA [] H) : tNil σ H QA := q
theorem r_cons (q : te σ H fun x H1 => tr σ H1 fun xs H2 => QA (x :: xs) H2) : tCons te tr σ H QA := q
theorem r_fn {sp : Sp} {E : XK} (q : tr σ H fun vs H1 => sp vs H1 Q E) : tFn sp E tr σ H Q := q
theorem r_cb {r : List V → Hp → VK → Prop} (q : tr σ H fun vs H1 => r vs H1 Q) : tCB r tr σ H Q := q
/-! operators -/
theorem r_op {r : R2} (q : ta σ H fun x H1 => tb σ H1 fun y H2 => r x y H2 Q) : tOp r ta tb σ H Q := q
theorem r_un {r : V → Hp → VK → Prop} (q : ta σ H fun x H1 => r x H1 Q) : tUn r ta σ H Q := q
theorem r_I0 {f : Int → Int → V} (q : Q (f i j) H) : rI0 f (.int i) (.int j) H Q := ⟨i, j, rfl, rfl, q⟩
theorem r_I {C : Int → Int → Prop} {f : Int → Int → V} (c : C i j) (q : Q (f i j) H) : rI C f (.int i) (.int j) H Q := ⟨i, j, rfl, rfl, c, q⟩
theorem r_U {f : Int → V} (q : Q (f i) H) : rU f (.int i) H Q := ⟨i, rfl, q⟩
theorem decI {i j : Int} : decide (V.int i = V.int j) = decide (i = j) := by
  by_cases h : i = j
  · rw [h]; simp
  · rw [decide_eq_false h, decide_eq_false fun z => h (V.int.inj z)]
theorem decS {i j : Str} : decide (V.str i = V.str j) = decide (i = j) := by
  by_cases h : i = j
  · rw [h]; simp
  · rw [decide_eq_false h, decide_eq_false fun z => h (V.str.inj z)]
theorem decB {i j : Bool} : decide (V.bl i = V.bl j) = decide (i = j) := by
  by_cases h : i = j
  · rw [h]; simp
  · rw [decide_eq_false h, decide_eq_false fun z => h (V.bl.inj z)]
theorem r_eqI (q : Q (.bl (decide (i = j))) H) : rEq (.int i) (.int j) H Q := ⟨rfl, by rw [decI]; exact q⟩
theorem r_neI (q : Q (.bl (!decide (i = j))) H) : rNe (.int i) (.int j) H Q := ⟨rfl, by rw [decI]; exact q⟩
theorem r_eqS {a c : Str} (q : Q (.bl (decide (a = c))) H) : rEq (.str a) (.str c) H Q := ⟨rfl, by rw [decS]; exact q⟩
theorem r_neS {a c : Str} (q : Q (.bl (!decide (a = c))) H) : rNe (.str a) (.str c) H Q := ⟨rfl, by rw [decS]; exact q⟩
theorem r_eqB {a c : Bool} (q : Q (.bl (decide (a = c))) H) : rEq (.bl a) (.bl c) H Q := ⟨rfl, by rw [decB]; exact q⟩
theorem r_neB {a c : Bool} (q : Q (.bl (!decide (a = c))) H) : rNe (.bl a) (.bl c) H Q := ⟨rfl, by rw [decB]; exact q⟩
def kChain (r' : R2) (tc : TE) (σ : L2.St) (y : V) (Q : VK) : VK := fun z H3 => ∃ k, z = .bl k ∧ (if k = true then tc σ H3 fun w' H4 => r' y w' H4 Q else Q (.bl false) H3)
theorem r_chain {r r' : R2} (q : ta σ H fun x H1 => tb σ H1 fun y H2 => r x y H2 (kChain r' tc σ y Q)) : tChain r r' ta tb tc σ H Q := q
theorem r_kChain {r' : R2} (q1 : b = true → tc σ H fun w' H4 => r' y w' H4 Q) (q2 : b = false → Q (.bl false) H) : kChain r' tc σ y Q (.bl b) H := by
  refine ⟨b, rfl, ?_⟩
  cases b with
  | true => exact iteT (q1 rfl)
  | false => exact iteF (q2 rfl)
/-! tests -/
def kTest (Q : Bool → Hp → Prop) : VK := fun x H' => ∃ k, x = .bl k ∧ Q k H'
theorem r_test (q : te σ H (kTest QB)) : tTest te σ H QB := q
theorem r_tB (q : te σ H (kTest QB)) : tB te σ H QB := q
theorem r_kTest (q : QB b H) : kTest QB (.bl b) H := ⟨b, rfl, q⟩
theorem r_not (q : ca σ H fun c H1 => QB (!c) H1) : tNot ca σ H QB := q
theorem r_and (q : ca σ H fun c H1 => if c = true then cb σ H1 QB else QB false H1) : tAnd ca cb σ H QB := q
theorem r_or (q : ca σ H fun c H1 => if c = true then QB true H1 else cb σ H1 QB) : tOr ca cb σ H QB := q
theorem r_tif (q : ca σ H fun c H1 => if c = true then ta σ H1 Q else tb σ H1 Q) : tIf ca ta tb σ H Q := q
def kAndV (tb : TE) (σ : L2.St) (Q : VK) : VK := fun x H1 => ∃ c, x = .bl c ∧ if c = true then tb σ H1 Q else Q (.bl false) H1
def kOrV (tb : TE) (σ : L2.St) (Q : VK) : VK := fun x H1 => ∃ c, x = .bl c ∧ if c = true then Q (.bl true) H1 else tb σ H1 Q
def kNotV (Q : VK) : VK := fun x H1 => ∃ c, x = .bl c ∧ Q (.bl (!c)) H1
theorem r_andV (q : ta σ H (kAndV tb σ Q)) : tAndV ta tb σ H Q := q
theorem r_orV (q : ta σ H (kOrV tb σ Q)) : tOrV ta tb σ H Q := q
theorem r_notV (q : ta σ H (kNotV Q)) : tNotV ta σ H Q := q
theorem r_kAndV (q : if b = true then tb σ H Q else Q (.bl false) H) : kAndV tb σ Q (.bl b) H := ⟨b, rfl, q⟩
theorem r_kOrV (q : if b = true then Q (.bl true) H else tb σ H Q) : kOrV tb σ Q (.bl b) H := ⟨b, rfl, q⟩
theorem r_kNotV (q : Q (.bl (!b)) H) : kNotV Q (.bl b) H := ⟨b, rfl, q⟩
end
/-! ways -/
section
variable {A B : Prop} {p : Prop} {ip : Decidable p} {b : Bool}
theorem w_T (h : A) : if true = true then A else B := iteT h
theorem w_F (h : B) : if false = true then A else B := iteF h
theorem w_NT (h : B) : if (!true) = true then A else B := iteF h
theorem w_NF (h : A) : if (!false) = true then A else B := iteT h
theorem w_dec (h1 : p → A) (h2 : ¬ p → B) : if decide p = true then A else B := by
  by_cases h : p
  · rw [decide_eq_true h]; exact iteT (h1 h)
  · rw [decide_eq_false h]; exact iteF (h2 h)
theorem w_ndec (h1 : ¬ p → A) (h2 : p → B) : if (!decide p) = true then A else B := by
  by_cases h : p
  · rw [decide_eq_true h]; exact iteF (h2 h)
  · rw [decide_eq_false h]; exact iteT (h1 h)
theorem w_b (h1 : b = true → A) (h2 : b = false → B) : if b = true then A else B := by
  cases b with
  | true => exact iteT (h1 rfl)
  | false => exact iteF (h2 rfl)
theorem w_nb (h1 : b = false → A) (h2 : b = true → B) : if (!b) = true then A else B := by
  cases b with
  | true => exact iteF (h2 rfl)
  | false => exact iteT (h1 rfl)
theorem w_yes (h : b = true) (q : A) : if b = true then A else B := by rw [h]; exact iteT q
theorem w_no (h : b = false) (q : B) : if b = true then A else B := by rw [h]; exact iteF q
end
/-! objects -/
section
variable {t u : TS} {D : Ends} {σ : L2.St} {H : Hp} {te ta tb tc td ty tv : TE} {tr : TA} {Q : VK} {QA : List V → Hp → Prop} {v x y : V} {i j : Int} {n : Nat} {b : Bool} {K : PySem.W.Frag} {a C dx p : Addr} {fs : List (Str × V)} {f : Str} {xs ys : List V} {kvs : List (Key × V)} {k : Key}
theorem r_pow5 (q : Q (.int 100000) H) : rI CPow (fun i j => .int (i ^ j.toNat)) (.int 10) (.int 5) H Q := ⟨10, 5, rfl, rfl, ⟨by decide, by decide, by decide⟩, q⟩
theorem r_pow6 (q : Q (.int 1000000) H) : rI CPow (fun i j => .int (i ^ j.toNat)) (.int 10) (.int 6) H Q := ⟨10, 6, rfl, rfl, ⟨by decide, by decide, by decide⟩, q⟩
theorem r_pow7 (q : Q (.int 10000000) H) : rI CPow (fun i j => .int (i ^ j.toNat)) (.int 10) (.int 7) H Q := ⟨10, 7, rfl, rfl, ⟨by decide, by decide, by decide⟩, q⟩
theorem r_pow9 (q : Q (.int 1000000000) H) : rI CPow (fun i j => .int (i ^ j.toNat)) (.int 10) (.int 9) H Q := ⟨10, 9, rfl, rfl, ⟨by decide, by decide, by decide⟩, q⟩
theorem r_pow18 (q : Q (.int 1000000000000000000) H) : rI CPow (fun i j => .int (i ^ j.toNat)) (.int 10) (.int 18) H Q := ⟨10, 18, rfl, rfl, ⟨by decide, by decide, by decide⟩, q⟩
theorem r_pow20 (q : Q (.int 100000000000000000000) H) : rI CPow (fun i j => .int (i ^ j.toNat)) (.int 10) (.int 20) H Q := ⟨10, 20, rfl, rfl, ⟨by decide, by decide, by decide⟩, q⟩
theorem r_pow30 (q : Q (.int 1000000000000000000000000000000) H) : rI CPow (fun i j => .int (i ^ j.toNat)) (.int 10) (.int 30) H Q := ⟨10, 30, rfl, rfl, ⟨by decide, by decide, by decide⟩, q⟩
theorem r_isN_non (q : Q (.bl true) H) : rIsN .non .non H Q := ⟨rfl, q⟩
theorem r_isN_ref (q : Q (.bl false) H) : rIsN (.ref a) .non H Q := ⟨rfl, q⟩
theorem r_isN_int (q : Q (.bl false) H) : rIsN (.int i) .non H Q := ⟨rfl, q⟩
theorem r_isN_str {z : Str} (q : Q (.bl false) H) : rIsN (.str z) .non H Q := ⟨rfl, q⟩
theorem r_isN_bl (q : Q (.bl false) H) : rIsN (.bl b) .non H Q := ⟨rfl, q⟩
theorem r_notN_non (q : Q (.bl false) H) : rNotN .non .non H Q := ⟨rfl, q⟩
theorem r_notN_ref (q : Q (.bl true) H) : rNotN (.ref a) .non H Q := ⟨rfl, q⟩
theorem r_notN_int (q : Q (.bl true) H) : rNotN (.int i) .non H Q := ⟨rfl, q⟩
theorem r_notN_str {z : Str} (q : Q (.bl true) H) : rNotN (.str z) .non H Q := ⟨rfl, q⟩
theorem r_notN_bl (q : Q (.bl true) H) : rNotN (.bl b) .non H Q := ⟨rfl, q⟩
def kTup (Q : VK) : List V → Hp → Prop := fun xs H1 => xs.length ≤ sizeLine ∧ ∀ p, H1 p = none → Q (.ref p) (upd H1 p (.tup xs))
def kLst (Q : VK) : List V → Hp → Prop := fun xs H1 => xs.length ≤ sizeLine ∧ ∀ p, H1 p = none → Q (.ref p) (upd H1 p (.lst xs))
theorem r_tup (q : tr σ H (kTup Q)) : tTup tr σ H Q := q
theorem r_lst (q : tr σ H (kLst Q)) : tLst tr σ H Q := q
theorem r_kTup (q : ∀ p H', H p = none → Same H H' → H' p = some (.tup xs) → Q (.ref p) H') (hz : xs.length ≤ 1000000 := by (simp only [List.length_cons, List.length_nil]; decide)) : kTup Q xs H :=
  ⟨sz5 hz, fun p hp => q p _ hp (Same.new hp) upd_same⟩
theorem r_kLst (q : ∀ p H', H p = none → Same H H' → H' p = some (.lst xs) → Q (.ref p) H') (hz : xs.length ≤ 1000000 := by (simp only [List.length_cons, List.length_nil]; decide)) : kLst Q xs H :=
  ⟨sz5 hz, fun p hp => q p _ hp (Same.new hp) upd_same⟩
def kFld (K : PySem.W.Frag) (f : Str) (Q : VK) : VK := fun x H1 => ∃ a C dx fs v, x = .ref a ∧ H1 a = some (.ins C dx fs) ∧ Cls K C ∧ NoAttr K C f ∧ fs.lookup f = some v ∧ Q v H1
theorem r_fld (q : ta σ H (kFld K f Q)) : tFld K ta f σ H Q := q
theorem r_kFld (h1 : H a = some (.ins C dx fs)) (h2 : Cls K C) (h3 : NoAttr K C f) (h4 : fs.lookup f = some v) (q : Q v H) : kFld K f Q (.ref a) H := ⟨a, C, dx, fs, v, rfl, h1, h2, h3, h4, q⟩
def kSFld (K : PySem.W.Frag) (f : Str) (D : Ends) (σ : L2.St) (y : V) : VK := fun x H2 => ∃ a C dx fs, x = .ref a ∧ H2 a = some (.ins C dx fs) ∧ Cls K C ∧ NoAttr K C f ∧ fs.length < 1000 ∧ D.nx σ (upd H2 a (.ins C dx (putF f y fs)))
theorem r_sfld (q : tv σ H fun y H1 => ta σ H1 (kSFld K f D σ y)) : sFld K ta tv f D σ H := q
theorem r_kSFld (h1 : H a = some (.ins C dx fs)) (h2 : Cls K C) (h3 : NoAttr K C f) (hl : fs.length < 1000) (q : ∀ H', But a H H' → H' a = some (.ins C dx (putF f y fs)) → D.nx σ H') : kSFld K f D σ y (.ref a) H :=
  ⟨a, C, dx, fs, rfl, h1, h2, h3, hl, q _ But.upd upd_same⟩
def kDGet (Q : VK) (x : V) : VK := fun y H2 => ∃ a v, x = .ref a ∧ DGet H2 a y (some v) ∧ Q v H2
theorem r_dget (q : td σ H fun x H1 => ty σ H1 (kDGet Q x)) : tDGet td ty σ H Q := q
theorem r_kDGetS {z : Str} (h1 : H a = some (.dK kvs)) (h2 : valV kvs (Sum.inr z) = some v) (q : Q v H) : kDGet Q (.ref a) (.str z) H :=
  ⟨a, v, rfl, .inl ⟨kvs, Sum.inr z, .inl h1, rfl, h2.symm⟩, q⟩
theorem r_kDGetI {z : Int} (h1 : H a = some (.dK kvs)) (h2 : valV kvs (Sum.inl z) = some v) (q : Q v H) : kDGet Q (.ref a) (.int z) H :=
  ⟨a, v, rfl, .inl ⟨kvs, Sum.inl z, .inl h1, rfl, h2.symm⟩, q⟩
def kDPut (D : Ends) (σ : L2.St) (v x : V) : VK := fun y H3 => ∃ a H4, x = .ref a ∧ DPut H3 a y v H4 ∧ D.nx σ H4
theorem r_dput (q : tv σ H fun v H1 => td σ H1 fun x H2 => ty σ H2 (kDPut D σ v x)) : sDPut td ty tv D σ H := q
theorem r_kDPutS {z : Str} (h1 : H a = some (.dK kvs)) (hz : kvs.length < 1000000) (q : ∀ H', But a H H' → H' a = some (.dK (putK kvs (Sum.inr z) v)) → D.nx σ H') : kDPut D σ v (.ref a) (.str z) H :=
  ⟨a, _, rfl, .inl ⟨kvs, Sum.inr z, h1, rfl, sz6 hz, rfl⟩, q _ But.upd upd_same⟩
theorem r_ixL (h : SqL K H p xs) (e : atI xs i = some v) (q : Q v H) : rIxL K (.ref p) (.int i) H Q := ⟨p, xs, i, v, rfl, rfl, h, e, q⟩
theorem r_ixT (h : SqT K H p xs) (e : atI xs i = some v) (q : Q v H) : rIxT K (.ref p) (.int i) H Q := ⟨p, xs, i, v, rfl, rfl, h, e, q⟩
theorem r_ixSL (h : SqL K H p xs) (e : atI xs i = some v) (q : Q v H) : rIx K (.ref p) (.int i) H Q := .inl (r_ixL h e q)
theorem r_ixST (h : SqT K H p xs) (e : atI xs i = some v) (q : Q v H) : rIx K (.ref p) (.int i) H Q := .inr (.inl (r_ixT h e q))
def kBM (K : PySem.W.Frag) (T : String) (r : V → List V → Hp → VK → Prop) (tr : TA) (σ : L2.St) (Q : VK) : VK := fun x H1 => tyV K T x H1 ∧ tr σ H1 fun xs H2 => r x xs H2 Q
theorem r_bm {T : String} {r : V → List V → Hp → VK → Prop} (q : ta σ H (kBM K T r tr σ Q)) : tBM K T r ta tr σ H Q := q
theorem r_kBML {r : V → List V → Hp → VK → Prop} (h : H p = some (.lst xs)) (q : tr σ H fun ys H2 => r (.ref p) ys H2 Q) : kBM K "list" r tr σ Q (.ref p) H := ⟨.inl ⟨rfl, xs, SqL.of h⟩, q⟩
theorem r_append (h : H p = some (.lst xs)) (hz : xs.length < 1000000) (q : ∀ H', But p H H' → H' p = some (.lst (xs ++ [y])) → Q .non H') : rAppend (.ref p) [y] H Q :=
  ⟨p, xs, y, rfl, rfl, h, sz6 hz, q _ But.upd upd_same⟩
/-! built-in calls -/
def rInt1 : List V → Hp → VK → Prop := fun xs H Q => (∃ i, xs = [.int i] ∧ Q (.int i) H) ∨ ∃ k, xs = [.bl k] ∧ Q (.int (if k then 1 else 0)) H
theorem r_int1 (q : Q (.int i) H) : rInt1 [.int i] H Q := .inl ⟨i, rfl, q⟩
theorem r_int1b (q : Q (.int (if b then 1 else 0)) H) : rInt1 [.bl b] H Q := .inr ⟨b, rfl, q⟩
def rLen (K : PySem.W.Frag) : List V → Hp → VK → Prop := fun xs H Q => ∃ x n, xs = [x] ∧ LenV K x H n ∧ Q (.int n) H
theorem r_lenL (h : SqL K H p xs) (q : Q (.int (xs.length : Nat)) H) : rLen K [.ref p] H Q := ⟨_, _, rfl, .inl ⟨xs, h, rfl⟩, q⟩
theorem r_lenT (h : SqT K H p xs) (q : Q (.int (xs.length : Nat)) H) : rLen K [.ref p] H Q := ⟨_, _, rfl, .inr ⟨xs, h, rfl⟩, q⟩
def rMin2 : List V → Hp → VK → Prop := fun xs H Q => ∃ i j, xs = [.int i, .int j] ∧ Q (.int (if j < i then j else i)) H
def rMax2 : List V → Hp → VK → Prop := fun xs H Q => ∃ i j, xs = [.int i, .int j] ∧ Q (.int (if j > i then j else i)) H
theorem min_of (i j : Int) : (if j < i then j else i) = min i j := by
  split <;> omega
theorem max_of (i j : Int) : (if j > i then j else i) = max i j := by
  split <;> omega
theorem r_min2 (q : Q (.int (min i j)) H) : rMin2 [.int i, .int j] H Q := ⟨i, j, rfl, by rw [min_of]; exact q⟩
theorem r_max2 (q : Q (.int (max i j)) H) : rMax2 [.int i, .int j] H Q := ⟨i, j, rfl, by rw [max_of]; exact q⟩
def rListOf (K : PySem.W.Frag) : List V → Hp → VK → Prop := fun xs H Q => ∃ p ys, xs = [.ref p] ∧ (SqL K H p ys ∨ SqT K H p ys) ∧ ∀ l, H l = none → Q (.ref l) (upd H l (.lst ys))
theorem r_listL (h : SqL K H p xs) (q : ∀ l H', H l = none → Same H H' → H' l = some (.lst xs) → Q (.ref l) H') : rListOf K [.ref p] H Q := ⟨p, xs, rfl, .inl h, fun l hl => q l _ hl (Same.new hl) upd_same⟩
theorem r_listT (h : SqT K H p xs) (q : ∀ l H', H l = none → Same H H' → H' l = some (.lst xs) → Q (.ref l) H') : rListOf K [.ref p] H Q := ⟨p, xs, rfl, .inr h, fun l hl => q l _ hl (Same.new hl) upd_same⟩
theorem r_isi {c : V} {t u : Value} (h1 : ClsV c u) (h2 : TyX K H x t) (h3 : PySem.W.kitOne K t u = some b) (q : Q (.bl b) H) : rIsi K [x, c] H Q := ⟨x, c, t, u, b, rfl, h1, h2, h3, q⟩
theorem r_sum {zs : List Int} (h : SqL K H p (zs.map V.int)) (q : Q (.int zs.sum) H) : rSum K [.ref p] H Q := ⟨p, zs, rfl, h, q⟩
end
section
variable {X : Cx}
theorem c_int1 : CallR X (.type "int") rInt1 := call_int1
theorem c_len : CallR X (.builtin "len") (rLen X.K) := call_len
theorem c_min2 (h : X.calm = true) : CallR X (.builtin "min") rMin2 := call_min2 h
theorem c_max2 (h : X.calm = true) : CallR X (.builtin "max") rMax2 := call_max2 h
theorem c_list : CallR X (.type "list") (rListOf X.K) := call_list_of
end
end Wp
set_option Elab.async false
set_option linter.all false
set_option maxRecDepth 100000
set_option maxHeartbeats 4000000
/-! Readings of loops and comprehensions. -/
namespace Wp
open PySem PySem.Spec PyProof.Rows L2
section
variable {t u tw : TS} {D : Ends} {σ : L2.St} {H : Hp} {te ta tb tl : TE} {c tt : TT} {tr : TA} {g : TG} {Q : VK} {QB : Bool → Hp → Prop} {v x y : V} {n : Nat} {b : Bool} {K : PySem.W.Frag} {a : Addr} {xs : List V} {vs : List Nat}
theorem r_cut (Mid : L2.St → Hp → Prop) (h1 : t { D with nx := Mid } σ H) (h2 : ∀ σ' H', Mid σ' H' → u D σ' H') : Evl.tCut t u D σ H := ⟨Mid, h1, h2⟩
/-! for over a list -/
def kForL (K : PySem.W.Frag) (g : TG) (tw : TS) (D : Ends) (σ : L2.St) : VK := fun x H1 => ∃ a, x = .ref a ∧ (∃ xs, SqL K H1 a xs) ∧
  ∃ W : Nat → Nat → L2.St → Hp → Prop, (∃ m, W 0 m σ H1) ∧ ∀ i m σ H, W i m σ H →
  ((Itl K a).stop i H ∧ D.nx σ H) ∨ ((Itl K a).go i H ∧ ∃ N : L2.St → Hp → Prop, (∀ σ' H', N σ' H' → ∃ m', m' < m ∧ W (i + 1) m' σ' H') ∧
    ∀ x H', (Itl K a).yld i H x H' → g x σ H' fun σ2 H2 => tw { D with nx := N, ct := N, bk := D.nx } σ2 H2)
theorem r_forL (h : tl σ H (kForL K g tw D σ)) : tFor (iList K tl) g tw D σ H := h
theorem r_kForL (Pv : Nat → L2.St → Hp → Prop) (hl : SqL K H a xs) (h0 : Pv 0 σ H) (hk : ∀ i σ' H', Pv i σ' H' → SqL K H' a xs)
    (hs : ∀ i x σ' H', xs[i]? = some x → Pv i σ' H' → g x σ' H' fun σ2 H2 => tw { D with nx := Pv (i + 1), ct := Pv (i + 1), bk := D.nx } σ2 H2)
    (hd : ∀ σ' H', Pv xs.length σ' H' → D.nx σ' H') : kForL K g tw D σ (.ref a) H :=
  ⟨a, rfl, ⟨xs, hl⟩, for_list Pv h0 (fun i σ' H' _ p => hk i σ' H' p) hs hd⟩
def kForT (K : PySem.W.Frag) (g : TG) (tw : TS) (D : Ends) (σ : L2.St) : VK := fun x H1 => ∃ a, x = .ref a ∧ (∃ xs, SqT K H1 a xs) ∧
  ∃ W : Nat → Nat → L2.St → Hp → Prop, (∃ m, W 0 m σ H1) ∧ ∀ i m σ H, W i m σ H →
  ((Itt K a).stop i H ∧ D.nx σ H) ∨ ((Itt K a).go i H ∧ ∃ N : L2.St → Hp → Prop, (∀ σ' H', N σ' H' → ∃ m', m' < m ∧ W (i + 1) m' σ' H') ∧
    ∀ x H', (Itt K a).yld i H x H' → g x σ H' fun σ2 H2 => tw { D with nx := N, ct := N, bk := D.nx } σ2 H2)
theorem r_forT (h : tl σ H (kForT K g tw D σ)) : tFor (iTup K tl) g tw D σ H := h
theorem r_kForT (Pv : Nat → L2.St → Hp → Prop) (hl : SqT K H a xs) (h0 : Pv 0 σ H) (hk : ∀ i σ' H', Pv i σ' H' → SqT K H' a xs)
    (hs : ∀ i x σ' H', xs[i]? = some x → Pv i σ' H' → g x σ' H' fun σ2 H2 => tw { D with nx := Pv (i + 1), ct := Pv (i + 1), bk := D.nx } σ2 H2)
    (hd : ∀ σ' H', Pv xs.length σ' H' → D.nx σ' H') : kForT K g tw D σ (.ref a) H :=
  ⟨a, rfl, ⟨xs, hl⟩, for_tup Pv h0 (fun i σ' H' _ p => hk i σ' H' p) hs hd⟩
/-! for over a range -/
def kForR1 (g : TG) (tw : TS) (D : Ends) (σ : L2.St) : List V → Hp → Prop := fun ws H1 => ∃ j : Int, ws = [.int j] ∧ -(2 ^ 62) ≤ j ∧ j < 2 ^ 62 ∧
  ∃ W : Nat → Nat → L2.St → Hp → Prop, (∃ m, W 0 m σ H1) ∧ ∀ i m σ H, W i m σ H →
  ((Itr 0 j.toNat).stop i H ∧ D.nx σ H) ∨ ((Itr 0 j.toNat).go i H ∧ ∃ N : L2.St → Hp → Prop, (∀ σ' H', N σ' H' → ∃ m', m' < m ∧ W (i + 1) m' σ' H') ∧
    ∀ x H', (Itr 0 j.toNat).yld i H x H' → g x σ H' fun σ2 H2 => tw { D with nx := N, ct := N, bk := D.nx } σ2 H2)
theorem r_forR1 (h : tr σ H (kForR1 g tw D σ)) : tFor (iRng1 tr) g tw D σ H := h
theorem r_kForR1 {j : Int} (Pv : Nat → L2.St → Hp → Prop) (hj : -1000000000 ≤ j ∧ j ≤ 1000000000) (h0 : Pv 0 σ H)
    (hs : ∀ (i : Nat) σ' H', (i : Int) < j → Pv i σ' H' → g (.int (i : Int)) σ' H' fun σ2 H2 => tw { D with nx := Pv (i + 1), ct := Pv (i + 1), bk := D.nx } σ2 H2)
    (hd : ∀ σ' H', Pv j.toNat σ' H' → D.nx σ' H') : kForR1 g tw D σ [.int j] H :=
  ⟨j, rfl, by omega, by omega, for_range Pv h0 (fun i σ' H' hi p => by
    have e : (0 : Int) + (i : Int) = (i : Int) := Int.zero_add _
    rw [e]
    exact hs i σ' H' (by omega) p) hd⟩
def kForR2 (g : TG) (tw : TS) (D : Ends) (σ : L2.St) : List V → Hp → Prop := fun ws H1 => ∃ i0 j : Int, ws = [.int i0, .int j] ∧ (-(2 ^ 62) ≤ i0 ∧ i0 < 2 ^ 62 ∧ -(2 ^ 62) ≤ j ∧ j < 2 ^ 62) ∧
  ∃ W : Nat → Nat → L2.St → Hp → Prop, (∃ m, W 0 m σ H1) ∧ ∀ i m σ H, W i m σ H →
  ((Itr i0 (j - i0).toNat).stop i H ∧ D.nx σ H) ∨ ((Itr i0 (j - i0).toNat).go i H ∧ ∃ N : L2.St → Hp → Prop, (∀ σ' H', N σ' H' → ∃ m', m' < m ∧ W (i + 1) m' σ' H') ∧
    ∀ x H', (Itr i0 (j - i0).toNat).yld i H x H' → g x σ H' fun σ2 H2 => tw { D with nx := N, ct := N, bk := D.nx } σ2 H2)
theorem r_forR2 (h : tr σ H (kForR2 g tw D σ)) : tFor (iRng2 tr) g tw D σ H := h
theorem r_kForR2 {lo j : Int} (Pv : Nat → L2.St → Hp → Prop) (hj : -1000000000 ≤ lo ∧ lo ≤ 1000000000 ∧ -1000000000 ≤ j ∧ j ≤ 1000000000) (h0 : Pv 0 σ H)
    (hs : ∀ (i : Nat) σ' H', lo + (i : Int) < j → Pv i σ' H' → g (.int (lo + (i : Int))) σ' H' fun σ2 H2 => tw { D with nx := Pv (i + 1), ct := Pv (i + 1), bk := D.nx } σ2 H2)
    (hd : ∀ σ' H', Pv (j - lo).toNat σ' H' → D.nx σ' H') : kForR2 g tw D σ [.int lo, .int j] H :=
  ⟨lo, j, rfl, ⟨by omega, by omega, by omega, by omega⟩, for_range Pv h0 (fun i σ' H' hi p => hs i σ' H' (by omega) p) hd⟩
/-! while -/
def kWh (W : Nat → L2.St → Hp → Prop) (tw : TS) (D : Ends) (σ : L2.St) (m : Nat) : Bool → Hp → Prop := fun b H1 => if b = true then
  ∃ N : L2.St → Hp → Prop, (∀ σ' H', N σ' H' → ∃ m', m' < m ∧ W m' σ' H') ∧ tw { D with nx := N, ct := N, bk := D.nx } σ H1 else D.nx σ H1
def nWh (W : Nat → L2.St → Hp → Prop) (m : Nat) : L2.St → Hp → Prop := fun σ' H' => ∃ m', m' < m ∧ W m' σ' H'
theorem r_while (W : Nat → L2.St → Hp → Prop) (m : Nat) (h0 : W m σ H) (hs : ∀ m σ' H', W m σ' H' → c σ' H' (kWh W tw D σ' m)) : tWhile c tw D σ H := ⟨W, ⟨m, h0⟩, hs⟩
theorem r_kWh {W : Nat → L2.St → Hp → Prop} {m : Nat} (h1 : b = true → tw { D with nx := nWh W m, ct := nWh W m, bk := D.nx } σ H) (h2 : b = false → D.nx σ H) : kWh W tw D σ m b H := by
  unfold kWh
  cases b with
  | true => exact iteT ⟨nWh W m, fun _ _ z => z, h1 rfl⟩
  | false => exact iteF (h2 rfl)
/-! list comprehensions -/
def kLcE (Da : Addr) (Pv : Addr → Nat → Hp → Prop) (i : Nat) : VK := fun y H4 => ∃ acc, H4 Da = some (.lst acc) ∧ acc.length < sizeLine ∧ Pv Da (i + 1) (upd H4 Da (.lst (acc ++ [y])))
def kLcT (te : TE) (σ2 : L2.St) (Da : Addr) (Pv : Addr → Nat → Hp → Prop) (i : Nat) : Bool → Hp → Prop := fun b H3 => if b = true then te σ2 H3 (kLcE Da Pv i) else Pv Da (i + 1) H3
def kLcG (tt : TT) (te : TE) (vs : List Nat) (σ : L2.St) (Da : Addr) (Pv : Addr → Nat → Hp → Prop) (i : Nat) : L2.St → Hp → Prop := fun σ2 H2 => wipe σ2 vs = wipe σ vs ∧ tt σ2 H2 (kLcT te σ2 Da Pv i)
theorem r_yes (q : QB true H) : tYes σ H QB := q
section
variable {Da : Addr} {Pv : Addr → Nat → Hp → Prop} {i : Nat} {σ2 : L2.St} {acc : List V}
theorem r_kLcG (h : wipe σ2 vs = wipe σ vs) (q : tt σ2 H (kLcT te σ2 Da Pv i)) : kLcG tt te vs σ Da Pv i σ2 H := ⟨h, q⟩
theorem r_kLcT (q : if b = true then te σ2 H (kLcE Da Pv i) else Pv Da (i + 1) H) : kLcT te σ2 Da Pv i b H := q
theorem r_kLcE (h : H Da = some (.lst acc)) (hz : acc.length < 1000000) (q : ∀ H', But Da H H' → H' Da = some (.lst (acc ++ [y])) → Pv Da (i + 1) H') : kLcE Da Pv i y H :=
  ⟨acc, h, sz6 hz, q _ But.upd upd_same⟩
end
def kLcL (K : PySem.W.Frag) (g : TG) (tt : TT) (te : TE) (vs : List Nat) (σ : L2.St) (Q : VK) : VK := fun x H1 => ∃ a, x = .ref a ∧ (∃ xs, SqL K H1 a xs) ∧ ∀ Da, H1 Da = none → ∃ W : Nat → Nat → Hp → Prop, (∃ m, W 0 m (upd H1 Da (.lst []))) ∧ ∀ i m H, W i m H →
  ((Itl K a).stop i H ∧ Q (.ref Da) H) ∨ ((Itl K a).go i H ∧ ∃ Nx : Hp → Prop, (∀ H', Nx H' → ∃ m', m' < m ∧ W (i + 1) m' H') ∧ ∀ x H', (Itl K a).yld i H x H' → g x (wipe σ vs) H' fun σ2 H2 => wipe σ2 vs = wipe σ vs ∧ tt σ2 H2 fun b H3 =>
    if b = true then te σ2 H3 fun y H4 => ∃ acc, H4 Da = some (.lst acc) ∧ acc.length < sizeLine ∧ Nx (upd H4 Da (.lst (acc ++ [y]))) else Nx H3)
theorem r_lcL (q : tl σ H (kLcL K g tt te vs σ Q)) : tLc (iList K tl) g tt te vs σ H Q := q
theorem r_kLcL (Pv : Addr → Nat → Hp → Prop) (hl : SqL K H a xs) (h0 : ∀ Da H', H Da = none → Same H H' → H' Da = some (.lst []) → Pv Da 0 H') (hk : ∀ Da i H', Pv Da i H' → SqL K H' a xs)
    (hs : ∀ Da i x H', H Da = none → xs[i]? = some x → Pv Da i H' → g x (wipe σ vs) H' (kLcG tt te vs σ Da Pv i)) (hd : ∀ Da H', H Da = none → Pv Da xs.length H' → Q (.ref Da) H') : kLcL K g tt te vs σ Q (.ref a) H :=
  ⟨a, rfl, ⟨xs, hl⟩, fun Da hD => lc_list (Pv Da) (h0 Da _ hD (Same.new hD) upd_same) (fun i H' _ p => hk Da i H' p) (fun i x H' hx p => hs Da i x H' hD hx p) (fun H' p => hd Da H' hD p)⟩
def kLcR1 (g : TG) (tt : TT) (te : TE) (vs : List Nat) (σ : L2.St) (Q : VK) : List V → Hp → Prop := fun ws H1 => ∃ j : Int, ws = [.int j] ∧ -(2 ^ 62) ≤ j ∧ j < 2 ^ 62 ∧ ∀ Da, H1 Da = none → ∃ W : Nat → Nat → Hp → Prop, (∃ m, W 0 m (upd H1 Da (.lst []))) ∧ ∀ i m H, W i m H →
  ((Itr 0 j.toNat).stop i H ∧ Q (.ref Da) H) ∨ ((Itr 0 j.toNat).go i H ∧ ∃ Nx : Hp → Prop, (∀ H', Nx H' → ∃ m', m' < m ∧ W (i + 1) m' H') ∧ ∀ x H', (Itr 0 j.toNat).yld i H x H' → g x (wipe σ vs) H' fun σ2 H2 => wipe σ2 vs = wipe σ vs ∧ tt σ2 H2 fun b H3 =>
    if b = true then te σ2 H3 fun y H4 => ∃ acc, H4 Da = some (.lst acc) ∧ acc.length < sizeLine ∧ Nx (upd H4 Da (.lst (acc ++ [y]))) else Nx H3)
theorem r_lcR1 (q : tr σ H (kLcR1 g tt te vs σ Q)) : tLc (iRng1 tr) g tt te vs σ H Q := q
theorem r_kLcR1 {j : Int} (Pv : Addr → Nat → Hp → Prop) (hj : -1000000000 ≤ j ∧ j ≤ 1000000000) (h0 : ∀ Da H', H Da = none → Same H H' → H' Da = some (.lst []) → Pv Da 0 H')
    (hs : ∀ Da (i : Nat) H', H Da = none → (i : Int) < j → Pv Da i H' → g (.int (i : Int)) (wipe σ vs) H' (kLcG tt te vs σ Da Pv i)) (hd : ∀ Da H', H Da = none → Pv Da j.toNat H' → Q (.ref Da) H') : kLcR1 g tt te vs σ Q [.int j] H :=
  ⟨j, rfl, by omega, by omega, fun Da hD => lc_range (Pv Da) (h0 Da _ hD (Same.new hD) upd_same) (fun i H' hi p => by
    have e : (0 : Int) + (i : Int) = (i : Int) := Int.zero_add _
    rw [e]
    exact hs Da i H' hD (by omega) p) (fun H' p => hd Da H' hD p)⟩
end
end Wp
set_option Elab.async false
set_option linter.all false
set_option maxRecDepth 100000
set_option maxHeartbeats 4000000
/-! Data: lists of ints, == of data. -/
namespace Wp
open PySem PySem.Spec PyProof.Rows L2
section
variable {K : PySem.W.Frag} {H H' : Hp} {p q : Addr} {Q : VK} {as bs : List Int} {x y : V} {d e : PyData}
theorem dp_ints : ∀ ns : List Int, DpAll K H (ns.map V.int) (ns.map PyData.int)
  | [] => .nil
  | n :: r => .cons (.int n) (dp_ints r)
theorem lay_ints : ∀ ns : List Int, PyData.canLayAll0 (ns.map PyData.int) = true
  | [] => rfl
  | n :: r => by
    show (PyData.canLay0 (.int n) && PyData.canLayAll0 (r.map PyData.int)) = true
    rw [lay_ints r]
    rfl
theorem dep_ints : ∀ ns : List Int, PyData.depthAll (ns.map PyData.int) = 0
  | [] => rfl
  | n :: r => by
    show max (PyData.depth (.int n)) (PyData.depthAll (r.map PyData.int)) = 0
    rw [dep_ints r]
    rfl
theorem shp_ints (ns : List Int) : SeqAt.shaped (.list (ns.map PyData.int)) = true := by
  show (PyData.canLayAll0 (ns.map PyData.int) && decide (PyData.depthAll (ns.map PyData.int) + 1 ≤ 64)) = true
  rw [lay_ints, dep_ints]
  rfl
theorem eqv_ints : ∀ as bs : List Int, PyData.eqvAll (as.map PyData.int) (bs.map PyData.int) = decide (as = bs)
  | [], [] => by simp [PyData.eqvAll]
  | [], _ :: _ => by simp [PyData.eqvAll]
  | _ :: _, [] => by simp [PyData.eqvAll]
  | a :: r, b :: s => by
    show (PyData.eqv (.int a) (.int b) && PyData.eqvAll (r.map PyData.int) (s.map PyData.int)) = _
    rw [eqv_ints r s]
    show ((a == b) && decide (r = s)) = decide (a :: r = b :: s)
    rw [Bool.eq_iff_iff]
    simp
theorem r_neLI (h1 : SqL K H p (as.map V.int)) (h2 : SqL K H q (bs.map V.int)) (k : Q (.bl (!decide (as = bs))) H) : rNeD K (.ref p) (.ref q) H Q := by
  refine ⟨.list (as.map .int), .list (bs.map .int), .lst h1 (dp_ints as), .lst h2 (dp_ints bs), shp_ints as, shp_ints bs, ?_⟩
  show Q (.bl (!PyData.eqvAll (as.map PyData.int) (bs.map PyData.int))) H
  rw [eqv_ints]
  exact k
theorem r_eqLI (h1 : SqL K H p (as.map V.int)) (h2 : SqL K H q (bs.map V.int)) (k : Q (.bl (decide (as = bs))) H) : rEqD K (.ref p) (.ref q) H Q := by
  refine ⟨.list (as.map .int), .list (bs.map .int), .lst h1 (dp_ints as), .lst h2 (dp_ints bs), shp_ints as, shp_ints bs, ?_⟩
  show Q (.bl (PyData.eqvAll (as.map PyData.int) (bs.map PyData.int))) H
  rw [eqv_ints]
  exact k
mutual
theorem Dp.mono (e : Same H H') : ∀ {d : PyData} {v : V}, Dp K H v d → Dp K H' v d
  | _, _, .non => .non
  | _, _, .bl b => .bl b
  | _, _, .int i => .int i
  | _, _, .str x => .str x
  | _, _, .lst h r => .lst (e.seq h) (DpAll.mono e r)
  | _, _, .tup h r => .tup (Evl.ex_t e h) (DpAll.mono e r)
theorem DpAll.mono (e : Same H H') : ∀ {ds : List PyData} {vs : List V}, DpAll K H vs ds → DpAll K H' vs ds
  | _, _, .nil => .nil
  | _, _, .cons a r => .cons (Dp.mono e a) (DpAll.mono e r)
end
theorem r_popAt0 {l : Addr} {z : V} {zs : List V} (h : H l = some (.lst (z :: zs))) (k : ∀ H', But l H H' → H' l = some (.lst zs) → Q z H') : rPopAt (.ref l) [.int 0] H Q :=
  ⟨l, z :: zs, 0, 0, z, rfl, rfl, h, by decide, by decide, by simp [seqIndex?], rfl, k _ But.upd upd_same⟩
theorem at_get {α : Type} {xs : List α} {i : Int} {n : Nat} {v : α} (h0 : i = (n : Int)) (h : xs[n]? = some v) : atI xs i = some v := by
  rw [h0]
  exact atI_nat h
theorem at_last {α : Type} (xs : List α) (z : α) : atI (xs ++ [z]) (-1) = some z := by
  unfold atI ixN
  rw [if_neg (by decide)]
  have h : -(((xs ++ [z]).length : Nat) : Int) ≤ -1 := by
    rw [List.length_append]
    show -(((xs.length + 1 : Nat)) : Int) ≤ -1
    omega
  rw [if_pos h]
  have e : ((-1 : Int) + (((xs ++ [z]).length : Nat) : Int)).toNat = xs.length := by
    rw [List.length_append]
    show ((-1 : Int) + ((xs.length + 1 : Nat) : Int)).toNat = xs.length
    omega
  show ((some ((-1 : Int) + (((xs ++ [z]).length : Nat) : Int)).toNat).bind fun j => (xs ++ [z])[j]?) = some z
  rw [e]
  simp
theorem take_more {α : Type} {xs : List α} {i : Nat} {x : α} (h : xs[i]? = some x) : xs.take (i + 1) = xs.take i ++ [x] := by
  rw [List.take_succ, h]
  rfl
theorem r_eqD_eq (h1 : Dp K H x d) (h2 : Dp K H y d) (hs : SeqAt.shaped d = true) (k : Q (.bl true) H) : rEqD K x y H Q := by
  refine ⟨d, d, h1, h2, hs, hs, ?_⟩
  rw [SeqAt.eqv_refl d (SeqAt.canLay_of_shaped hs)]
  exact k
theorem r_neD_eq (h1 : Dp K H x d) (h2 : Dp K H y d) (hs : SeqAt.shaped d = true) (k : Q (.bl false) H) : rNeD K x y H Q := by
  refine ⟨d, d, h1, h2, hs, hs, ?_⟩
  rw [SeqAt.eqv_refl d (SeqAt.canLay_of_shaped hs)]
  exact k
theorem r_cat {l b : Addr} {xs ys : List V} (h1 : H l = some (.lst xs)) (h2 : H b = some (.lst ys)) (hz : xs.length + ys.length ≤ 1000000) (k : ∀ p H', H p = none → Same H H' → H' p = some (.lst (xs ++ ys)) → Q (.ref p) H') : rCat (.ref l) (.ref b) H Q :=
  ⟨l, b, xs, ys, rfl, rfl, h1, h2, sz5 hz, fun p hp => k p _ hp (Same.new hp) upd_same⟩
/-! displays of dicts -/
theorem mergeK_app : ∀ (more kvs : List (Key × V)), ((kvs ++ more).map (·.1)).Nodup → mergeK kvs more = kvs ++ more
  | [], kvs, _ => by
    rw [List.append_nil]
    rfl
  | (k, v) :: r, kvs, h => by
    have hn : valV kvs k = none := by
      cases e : valV kvs k with
      | none => rfl
      | some u =>
        have hm := valV_in e
        rw [List.map_append] at h
        exact absurd rfl ((List.nodup_append.mp h).2.2 k hm k (by simp))
    show mergeK (putK kvs k v) r = _
    rw [putK_new v hn]
    have e : (kvs ++ [(k, v)]) ++ r = kvs ++ (k, v) :: r := by simp
    rw [mergeK_app r (kvs ++ [(k, v)]) (by rw [e]; exact h), e]
theorem mergeK_nil {kvs : List (Key × V)} (h : (kvs.map (·.1)).Nodup) : mergeK [] kvs = kvs := mergeK_app kvs [] h
def kDisp (p : Addr) (Q : VK) : List (V × V) → Hp → Prop := fun ps H2 => H2 p = some (.dK []) ∧ ∃ kvs : List (Key × V), ps = kvs.map (fun kv => (kV kv.1, kv.2)) ∧ kvs.length ≤ 15 ∧ Q (.ref p) (upd H2 p (.dK (mergeK [] kvs)))
section
variable {σ : L2.St} {tk tv : TE} {trs : List (TE × TE)} {QP : List (V × V) → Hp → Prop} {kvs : List (Key × V)} {ps : List (V × V)}
theorem r_disp (q : ∀ p H', H p = none → Same H H' → H' p = some (.dK []) → tPairs trs σ H' (kDisp p Q)) : tDisp trs σ H Q := fun p hp => q p _ hp (Same.new hp) upd_same
theorem r_pnil (q : QP [] H) : tPairs [] σ H QP := q
theorem r_pcons (q : tk σ H fun x H1 => tv σ H1 fun y H2 => tPairs trs σ H2 fun ps H3 => QP ((x, y) :: ps) H3) : tPairs ((tk, tv) :: trs) σ H QP := q
theorem r_kDisp (kvs : List (Key × V)) (h : H p = some (.dK [])) (e : ps = kvs.map (fun kv => (kV kv.1, kv.2))) (hl : kvs.length ≤ 15) (hn : (kvs.map (·.1)).Nodup) (q : ∀ H', But p H H' → H' p = some (.dK kvs) → Q (.ref p) H') : kDisp p Q ps H :=
  ⟨h, kvs, e, hl, q _ But.upd (by rw [mergeK_nil hn]; exact upd_same)⟩
end
end
end Wp
set_option Elab.async false
set_option linter.all false
set_option maxRecDepth 100000
set_option maxHeartbeats 4000000
/-! Defs that call repr: they run where no repr is under way (the guards are known). repr of data. list(range(a, b, c)). -/
namespace Wp
open PySem PySem.Spec PyProof.Rows L2
/-- the promise of a def wherever no repr runs around it -/
structure FnG (P : Program) (w : World) (K : PySem.W.Frag) (mg : Str → Option Value) (base : Heap) (CX : CXT)
    (k : Nat) (f : Addr) (fd : FuncData) (ps : List Str) (sp : Sp) : Prop where
  len : ∀ vs H Q E, sp vs H Q E → vs.length = ps.length
  run : ∀ (A : Around) (outer : List Env) (s : Shared) (H : Hp) (args : Args) (us : List Value) (vs : List V) (Q : VK) (E : XK),
    Room k A → A.guards = some [] → Env0 P w K mg base A outer s H → BindsTo s fd args (ps.zip us) → Vals vs us → sp vs H Q E →
    codeAny (model P w) A (.call (.ref f) args) (CR CX outer P w H s Q E) s
section
variable {P : Program} {w : World} {K : PySem.W.Frag} {mg : Str → Option Value} {base : Heap}
theorem FnG.of {CX : CXT} {k : Nat} {f : Addr} {fd : FuncData} {ps : List Str} {sp : Sp} (F : FnOk P w K mg base CX k f fd ps sp) : FnG P w K mg base CX k f fd ps sp :=
  ⟨F.len, fun A outer s H args us vs Q E hr _ => F.run A outer s H args us vs Q E hr⟩
/-- where a def's body ends -/
theorem ends_ok {CX : CXT} {N : List Str} {qual : Str} {scope : Scope} {f : Addr} {cdv : Value} {A : Around} {outer : List Env} {s : Shared} {H : Hp} {Q : VK} {E : XK} {fl : Flow} {s' : Shared}
    (h : SP (cxOf CX P w K mg base N qual scope f cdv A outer s H E) [] { nx := fun _ H' => Q .non H', rt := Q } fl s') :
    match fl with | .ret u => CE outer P w H s Q u s' | .next => CE outer P w H s Q .none s' | _ => False := by
  cases fl with
  | ret u =>
    obtain ⟨v, τ, H2, J, rv, q⟩ := h
    exact ⟨v, H2, J.os, J.bare, J.base, J.hok, rv, q⟩
  | next =>
    obtain ⟨τ, H2, J, q⟩ := h
    exact ⟨V.non, H2, J.os, J.bare, J.base, J.hok, rfl, q⟩
  | brk =>
    obtain ⟨_, _, _, q⟩ := h
    exact q
  | cont =>
    obtain ⟨_, _, _, q⟩ := h
    exact q
end
section
variable {P : Program} {w : World} {K : PySem.W.Frag} {mg : Str → Option Value} {base : Heap} {x qual : Str} {params : Arguments} {body : List Stmt} {scope : Scope} {dvs : List V} {kws : List (Str × V)} {f : Addr} {fd : FuncData}
theorem _root_.L2.FunD.okG {CX : CXT} {N ps : List Str} {k : Nat} {sp : Sp} (F : FunD K x qual params body scope dvs kws f fd) (S : FnScope N ps scope)
    (len : ∀ vs H Q E, sp vs H Q E → vs.length = ps.length)
    (hbody : ∀ (cdv : Value) (A : Around) (outer : List Env) (s : Shared) (H : Hp) (vs : List V) (Q : VK) (E : XK),
      Room k (A.deeper (envOfC qual scope s.heap.objs.size f cdv)) → (A.deeper (envOfC qual scope s.heap.objs.size f cdv)).guards = some [] → sp vs H Q E →
      ∃ t, PSs (cxOf CX P w K mg base N qual scope f cdv A outer s H E) body t ∧ t { nx := fun _ H' => Q .non H', rt := Q } (L2.start N vs) H) :
    FnG P w K mg base CX (k + 1) f fd ps sp := by
  obtain ⟨oc, od, dV, kV, doc, pm, an, cdv, ct, osl, rfl, lk, hcd, _, _⟩ := F.ex
  refine ⟨len, ?_⟩
  intro A outer s H args us vs Q E hr hg e0 hb r hsp
  have inK : K.In s.heap := e0.mod.kin.keeps fun a ob q => (e0.bs a ob q).1
  have noLim : s.heap.NoLimit := e0.mod.nolimit.keeps fun a ob q => (e0.bs a ob q).1
  refine codeAny_call_function hr.depth (inK _ _ lk) rfl S.co S.gen rfl (PySem.W.codeRec_of inK hcd) (hb _ _ _ _ ?_)
  refine wpAny_newFunctionEnv_cells S.kind (fun y hy => ?_) fun env he s1 inC => ?_
  · rcases S.par y.1 (List.of_mem_zip hy).1 with z | z
    · exact Or.inl z
    · exact Or.inr ⟨z, PySem.W.cellsFrom_some _ _ _ (Or.inl z)⟩
  · subst he
    obtain ⟨t, ht, hq⟩ := hbody cdv A outer s H vs Q E (hr.deeper _) hg hsp
    refine ⟨noLim.keeps inC.toInCall.keep, codeAny_func ?_⟩
    refine wpAny_mono (ht.run [] s1 _ H _ (inv_start S hr.hd e0 (len _ _ _ _ hsp) r inC) hq) (fun fl s2 hs => ?_) fun _ _ z => z
    have z := ends_ok hs
    cases fl <;> first | exact z | exact z.elim
end
/-- a guarded def of the top, called by its name -/
structure Dg (P : Program) (w : World) (K : PySem.W.Frag) (mg : Str → Option Value) (base : Heap)
    (CX : CXT) (k : Nat) (x : Str) (ps : List Str) (sp : Sp) : Prop where
  ex : ∃ fd, FnG P w K mg base CX k (He.ga K x) fd ps sp ∧ Binds K fd ps []
  gm : mg x = some (.ref (He.ga K x))
  kp : PySem.W.keepIn K (.ref (He.ga K x)) = true
section
variable {X : Cx}
theorem run_fnG {CX : CXT} {k : Nat} {f : Addr} {fd : FuncData} {ps : List Str} {sp : Sp} {E : XK} {pins : List (Addr × Obj)} {σ : L2.St} {H : Hp} {s : Shared} {Q : VK} {us : List Value} {vs : List V}
    (F : FnG X.prog X.w X.K X.mg X.base CX k f fd ps sp) (hr : Room k X.A) (hG : X.A.guards = some []) (hb : Binds X.K fd ps []) (hx : Passes CX X E)
    (I : Inv X pins σ H s) (r : Vals vs us) (h : sp vs H Q E) : wpAny (model X.prog X.w) X.A (call (.ref f) us) (EP X pins σ Q) X.xe s := by
  have hl : us.length = ps.length := r.length.symm.trans (F.len _ _ _ _ h)
  have hb2 := hb s us I.kIn (by rw [List.append_nil]; exact hl)
  rw [List.append_nil] at hb2
  refine wpAny_call (codeAny_mono (F.run X.A X.stack s H ⟨us, []⟩ us vs Q E hr hG I.env0 hb2 r h) fun res s2 hq => ?_)
  cases res with
  | error e => exact hx pins σ H s e s2 I hq
  | ok fl =>
    cases fl with
    | ret u => exact I.after hq
    | next => exact hq.elim
    | brk => exact hq.elim
    | cont => exact hq.elim
theorem pe_fnG {CX : CXT} {k : Nat} {x : Str} {ps : List Str} {sp : Sp} {E : XK} {e : Expr} {es : List Expr}
    {t : TA} {p pos : Pos} (D : Dg X.prog X.w X.K X.mg X.base CX k x ps sp) (hr : Room k X.A) (hG : X.A.guards = some [])
    (hx : Passes CX X E) (ha : PA X (e :: es) t) (hg : Gl X x := by rfl)
    (hdb : (x == ("__debug__" : Str)) = false := by decide)
    (he : starEach (e :: es) X.env = (false, eval e X.env) :: starEach es X.env := by rfl)
    (hpl : (backTo pos (starEach es X.env)).any (·.1) = false := by rfl) :
    PE X (.Call (.Name x p) (e :: es) [] pos) (tFn sp E t) := by
  obtain ⟨fd, F, b⟩ := D.ex
  refine ⟨fun pins s σ H Q I h => wpAny_Call_Name_kw (ld_glob I hg D.gm ?_ hdb)⟩
  refine PySem.W.callWith_K (h₀ := X.base) I.ok.mod.kin D.kp (thn (ha.run pos pins s σ H _ I h) ?_) he hpl
  rintro us s1 ⟨vs, H1, I1, r, q⟩
  exact ⟨I1.kIn, run_fnG F hr hG b hx I1 r q⟩
end
/-! ### repr of data -/
def rRepr (K : PySem.W.Frag) : List V → Hp → VK → Prop := fun xs H Q => ∃ (v : V) (d : PyData), xs = [v] ∧ Dp K H v d ∧ d.showable = true ∧ d.depth ≤ 60 ∧ d.shown.length ≤ sizeLine ∧ d.hasDict = false ∧ Q (.str d.shown) H
theorem call_reprD {X : Cx} {k : Nat} (hG : X.A.guards = some []) (hr : Room k X.A) : CallR X (.builtin "repr") (rRepr X.K) := by
  intro pins s σ H xs us Q I r h
  obtain ⟨v, d, rfl, hd, hs, hdep, hlen, hnd, q⟩ := h
  obtain ⟨u, rfl, ru⟩ := vals1 r
  have hu : X.A.units + (d.depth + 1) < cLine := by
    have := hr.units
    omega
  obtain ⟨as, rd⟩ := Dp.reads I d v u hd ru
  have noD : d.hasDict = true → sysModules ∉ as := fun z => by rw [hnd] at z; cases z
  cases rd with
  | none => exact PySem.P.repr_of_none ⟨.str _, H, I.tok _, ⟨_, rfl⟩, q⟩
  | bool b => exact PySem.P.repr_of_bool ⟨.str _, H, I.tok _, ⟨_, rfl⟩, q⟩
  | int i t => exact PySem.P.repr_of_int (of_decide_eq_true hs) ⟨.str _, H, I.tok _, ⟨_, rfl⟩, q⟩
  | str z t => exact PySem.P.repr_of_str ⟨.str _, H, I.tok _, ⟨_, rfl⟩, q⟩ hlen
  | list h1 h2 h3 h4 =>
    exact repr_of_reads' (.list h1 h2 h3 h4) hs noD hG hu (fun _ _ z => z) (fun h' t2 tk kp => ⟨.str _, H, I.kept kp, ⟨_, rfl⟩, q⟩) hlen
  | tuple h1 h2 h3 h4 =>
    exact repr_of_reads' (.tuple h1 h2 h3 h4) hs noD hG hu (fun _ _ z => z) (fun h' t2 tk kp => ⟨.str _, H, I.kept kp, ⟨_, rfl⟩, q⟩) hlen
  | dict h1 h2 h3 h4 h5 => exact absurd hnd (by simp [PyData.hasDict])
/-! ### the law itself: run by the claim's caller, around which nothing is -/
theorem law_callG {P : Program} {w : World} {K : PySem.W.Frag} {mg mb : Str → Option Value} {CX : CXT} {k : Nat} {fa a : Addr} {fd : FuncData} {x : Str} {sp : Sp} {s1 : Shared} {us : List Value} {zs : List Int}
    (inK : K.In s1.heap) (gl : s1.heap.Ns mainGlobals mg) (bl : s1.heap.Ns builtinsNs mb) (same : ∀ x : Str, x ≠ "__name__" → mb x = bootBuiltins x) (noLim : s1.heap.NoLimit) (gens : s1.gens = #[])
    (ha : s1.heap.get? a = some { cls := .type "list", data := .seq us.toArray }) (hi : IntsAre us zs) (hl : zs.length ≤ sizeLine) (hr : Room k callerA)
    (F : ∀ base : Heap, K.In base → base.Ns mainGlobals mg → FnG P w K mg base CX k fa fd [x] sp) (bind : ∀ (s : Shared) (u : Value), BindsTo s fd ⟨[u], []⟩ [(x, u)])
    (hsp : ∀ H : Hp, Only H → SqL K H a (zs.map V.int) → sp [.ref a] H (fun v _ => v = .bl true) fun _ _ _ => False)
    (hCX : ∀ H e s', CX [] H s1 (fun _ _ _ => False) e s' → False) :
    codeAny (model P w) callerA (.call (.ref fa) ⟨[.ref a], []⟩) (fun r s' => r = .ok (.ret (.bool true)) ∧ OldK s1.heap s'.heap ∧ s'.os = s1.os ∧ AllBare s'.gens) s1 := by
  -- the abstract heap H0 tracks at most the script
  have go : ∀ H0 : Hp, Only H0 → SqL K H0 a (zs.map V.int) → HOk P w H0 s1.heap → (∀ b, H0 b ≠ none → b = a) → (H0 a ≠ none → K.lookup a = none) →
      codeAny (model P w) callerA (.call (.ref fa) ⟨[.ref a], []⟩) (fun r s' => r = .ok (.ret (.bool true)) ∧ OldK s1.heap s'.heap ∧ s'.os = s1.os ∧ AllBare s'.gens) s1 := by
    intro H0 only sq hok onlyA kA
    have dictFree : ∀ (b : Addr) (o : Obj) (es : Array DictEntry) (ep : Nat), s1.heap.get? b = some o → o.data = .dict es ep → H0 b = none := by
      intro b o es ep e d
      cases q : H0 b with
      | none => rfl
      | some u =>
        obtain rfl : b = a := onlyA b (by rw [q]; simp)
        rw [ha] at e
        cases e
        cases d
    have nsH : ∀ (b : Addr) (m : Str → Option Value), s1.heap.Ns b m → (hidT s1.heap H0).Ns b m := by
      rintro b m ⟨o, es, ep, e, d, r⟩
      exact ⟨o, es, ep, hidT_get e (dictFree b o es ep e d), d, r⟩
    have inH : K.In (hidT s1.heap H0) := by
      intro b o e
      refine hidT_get (inK b o e) ?_
      cases q : H0 b with
      | none => rfl
      | some u =>
        obtain rfl : b = a := onlyA b (by rw [q]; simp)
        rw [kA (by rw [q]; simp)] at e
        cases e
    obtain ⟨mc, l1, l2⟩ := noLim
    have md : Mod K mg (hidT s1.heap H0) := ⟨inH, nsH _ _ gl, ⟨mb, nsH _ _ bl, same⟩, ⟨mc, nsH _ _ l1, l2⟩⟩
    have e0 : Env0 P w K mg (hidT s1.heap H0) callerA [] s1 H0 :=
      ⟨rfl, md, fun b o e => of_hidT e, Nat.le_of_eq (hidT_size _ _), trivial, (fun b hb => nomatch hb), hok, .of_eq gens⟩
    have run := (F _ inH (nsH _ _ gl)).run callerA [] s1 H0 ⟨[.ref a], []⟩ [.ref a] [.ref a] _ _ hr rfl e0 (bind s1 (.ref a)) (.cons rfl .nil) (hsp H0 only sq)
    refine codeAny_mono run fun res s2 h => ?_
    cases res with
    | error e => exact (hCX H0 e s2 h).elim
    | ok fl =>
      cases fl with
      | next => exact h.elim
      | brk => exact h.elim
      | cont => exact h.elim
      | ret u =>
        obtain ⟨v, H2, os2, bare2, un, hok2, rv, q⟩ := h
        obtain rfl : v = .bl true := q
        obtain rfl : u = Value.bool true := rv
        refine ⟨rfl, OldK.of_keep fun b o e => ?_, os2, bare2⟩
        rcases only b with z | ⟨ob, xs, z⟩
        · exact un.keep b o e z (fun y => nomatch y) (fun y => nomatch y)
        · obtain ⟨g1, _⟩ := hok b _ z
          obtain ⟨g2, _⟩ := hok2 b _ (un.frzs b ob _ z)
          rw [e] at g1
          cases g1
          exact g2
  cases hk : K.lookup a with
  | some o =>
    have e := inK a o hk
    rw [ha] at e
    cases e
    exact go (fun _ => none) (fun _ => .inl rfl) (.inr ⟨_, us.toArray, _, hk, rfl, rfl, rfl, by rw [List.size_toArray, hi.length]; exact hl, by simpa using vals_ints hi⟩)
      (fun b u z => nomatch z) (fun b z => absurd rfl z) fun z => absurd rfl z
  | none =>
    let fz : HO := .frz { cls := .type "list", data := .seq us.toArray } (.lst (zs.map V.int))
    have atA : upd (fun _ => none) a fz a = some fz := upd_same
    refine go (upd (fun _ => none) a fz) (fun b => ?_) (.inl (.inr ⟨_, atA⟩)) (fun b u z => ?_) (fun b z => ?_) fun _ => hk
    · by_cases hb : b = a
      · subst hb
        exact .inr ⟨_, _, atA⟩
      · exact .inl (upd_ne hb)
    · by_cases hb : b = a
      · subst hb
        rw [atA] at z
        cases z
        exact ⟨ha, by rw [List.length_map]; exact hl, us, _, vals_ints hi, ha⟩
      · rw [upd_ne hb] at z
        cases z
    · by_cases hb : b = a
      · exact hb
      · exact absurd (upd_ne hb) z
theorem walk_ofG {l : PySem.W.OpenLaw} {n k : Nat} {q : Program} {loose : List Str} {XP : (Str → Option Value) → Heap → Prop} {YP : World → Heap → Prop} {d : DefRec} {CX : CXT} {x : Str}
    (hn : l.most = some n) (hn2 : n ≤ sizeLine) (hdf : d.params.defaults = []) (hr : Room k callerA)
    (F : ∀ (w : World) (mg : Str → Option Value) (fa : Addr) (h : Heap), YP w h → h.Ns mainGlobals mg → mg d.name = some (.ref fa) →
      ∃ (K : PySem.W.Frag) (fd : FuncData) (sp : Sp), K.In h ∧ (∀ (s : Shared) (u : Value), BindsTo s fd ⟨[u], []⟩ [(x, u)]) ∧
        (∀ (H : Hp) (a : Addr) (ns : List Int), ns.length ≤ n → Only H → SqL K H a (ns.map V.int) → sp [.ref a] H (fun v _ => v = .bl true) fun _ _ _ => False) ∧
        ∀ base : Heap, K.In base → base.Ns mainGlobals mg → FnG l.prog w K mg base CX k fa fd [x] sp)
    (hCX : ∀ (H : Hp) (s : Shared) (e : Value) (s' : Shared), CX [] H s (fun _ _ _ => False) e s' → False) :
    PySem.W.WalkO q loose XP YP l.row.toRowW d [] (fun f vs => PySem.call f vs) := by
  refine Att.attach_call hn hdf ?_
  intro w s0 s1 mg mb fa o pm cd doc a us zs G Y _ _ _ hmg hobj hints hlen hg
  obtain ⟨K, fd, sp, inK, hb, hsp, hF⟩ := F w mg fa _ Y G.T.g hmg
  exact law_callG inK G.T.g G.T.b G.T.builtins G.T.nolimit hg hobj hints (Nat.le_trans hlen hn2) hr hF hb (fun H o1 sq => hsp H a zs hlen o1 sq) fun H e s2 => hCX H s1 e s2
end Wp
set_option Elab.async false
set_option linter.all false
set_option maxRecDepth 100000
set_option maxHeartbeats 4000000
/-! The rules whose reading names the written part, with the written part as a letter of its own (so that readings within comprehensions and outside are the same). -/
namespace Wp
open PySem PySem.Spec PyProof.Rows L2
section
variable {X : Cx} {K : PySem.W.Frag}
theorem ix_listK (h : X.K = K) : IxR X (rIxL K) := by subst h; exact ix_list
theorem ix_tupK (h : X.K = K) : IxR X (rIxT K) := by subst h; exact ix_tup
theorem ix_seqK (h : X.K = K) : IxR X (rIx K) := by subst h; exact ix_seq
theorem sl_listK (h : X.K = K) : SlR X (rSlL K) := by subst h; exact sl_list
theorem sl_tupK (h : X.K = K) : SlR X (rSlT K) := by subst h; exact sl_tup
theorem c_lenK (h : X.K = K) : CallR X (.builtin "len") (rLen K) := by subst h; exact c_len
theorem c_listK (h : X.K = K) : CallR X (.type "list") (rListOf K) := by subst h; exact c_list
theorem c_isiK (h : X.K = K) : CallR X (.builtin "isinstance") (rIsi K) := by subst h; exact call_isi
theorem c_isiTK (h : X.K = K) : CallR X (.builtin "isinstance") (rIsiT K) := by subst h; exact call_isiT
theorem c_sumK (h : X.K = K) (c : X.calm = true) : CallR X (.builtin "sum") (rSum K) := by subst h; exact cr_sum c
theorem c_allK (h : X.K = K) (c : X.calm = true) : CallR X (.builtin "all") (rAll K) := by subst h; exact cr_all c
theorem c_anyK (h : X.K = K) (c : X.calm = true) : CallR X (.builtin "any") (rAny K) := by subst h; exact cr_any c
theorem c_minK (h : X.K = K) (c : X.calm = true) : CallR X (.builtin "min") (rMin K) := by subst h; exact cr_min c
theorem c_maxK (h : X.K = K) (c : X.calm = true) : CallR X (.builtin "max") (rMax K) := by subst h; exact cr_max c
theorem c_sortedK (h : X.K = K) : CallR X (.builtin "sorted") (rSorted K) := by subst h; exact cr_sorted
theorem c_sortedSK (h : X.K = K) : CallR X (.builtin "sorted") (rSortedS K) := by subst h; exact cr_sortedS
theorem c_reprK {k : Nat} (h : X.K = K) (hG : X.A.guards = some []) (hr : Room k X.A) : CallR X (.builtin "repr") (rRepr K) := by subst h; exact call_reprD hG hr
def rTupOf (K : PySem.W.Frag) : List V → Hp → VK → Prop := fun xs H Q => ∃ p ys, xs = [.ref p] ∧ ((SqL K H p ys ∧ ∀ l, H l = none → Q (.ref l) (upd H l (.tup ys))) ∨ (SqT K H p ys ∧ Q (.ref p) H))
theorem c_tupleK (h : X.K = K) : CallR X (.type "tuple") (rTupOf K) := by subst h; exact call_tuple_of
theorem in_seqK (h : X.K = K) : OpR X (compareOp .In) (rIn K false) := by subst h; exact op_in_seq
theorem notIn_seqK (h : X.K = K) : OpR X (compareOp .NotIn) (rIn K true) := by subst h; exact op_notIn_seq
theorem eqDK (h : X.K = K) (hu : X.A.units + 64 < cLine) : OpR X (compareOp .Eq) (rEqD K) := by subst h; exact op_eqD hu
theorem neDK (h : X.K = K) (hu : X.A.units + 64 < cLine) : OpR X (compareOp .NotEq) (rNeD K) := by subst h; exact op_neD hu
theorem pe_fldK {e : Expr} {f : Str} {pos : Pos} {ta : TE} (h : X.K = K) (he : PE X e ta) (hb : attributeBase e f X.env (eval e X.env) = eval e X.env := by rfl) : PE X (.Attribute e f pos) (tFld K ta f) := by
  subst h
  exact pe_fld he hb
theorem ps_fldK {o value : Expr} {f : Str} {pos pos' : Pos} {ta tv : TE} (h : X.K = K) (ha : PE X o ta) (hv : PE X value tv) (hs : swapsWith value (some (.Attribute o f pos')) pos.line X.env = pure false := by rfl) : PS X (.Assign [.Attribute o f pos'] value pos) (sFld K ta tv f) := by
  subst h
  exact ps_fld ha hv hs
theorem pg_tupK {es : List Expr} {k : Nat} {t : TGs} {n : Nat} {pos : Pos} (h : X.K = K) (hc : X.calm = true) (hh : PGs X es t)
    (hn : (assignEach es X.env).length = n := by rfl) (hst : (assignEach es X.env).findIdx? (·.1) = none := by rfl) : PG X (.Tuple es k pos) (gTup K n t) := by
  subst h
  exact pg_tup hc hh hn hst
theorem pi_listK {l tg : Expr} {tl : TE} (h : X.K = K) (hl : PE X l tl) : PI X tg l (iList K tl) := by
  subst h
  exact pi_list hl
theorem pi_tupK {l tg : Expr} {tl : TE} (h : X.K = K) (hl : PE X l tl) : PI X tg l (iTup K tl) := by
  subst h
  exact pi_tup hl
theorem pe_bmK {T : String} {name : Str} {id : String} {r : V → List V → Hp → VK → Prop} {o e : Expr} {es : List Expr} {to : TE} {t : TA} {apos cpos : Pos} (h : X.K = K) (pa : PlainAttrs T) (slot : Slot T name id) (hty : typeOf (.builtin id) = pure (.type "method_descriptor")) (hm : MtR X id r) (ho : PE X o to) (ha : PA X (e :: es) t)
    (hbase : attributeBase o name X.env (eval o X.env) = eval o X.env := by rfl)
    (hfew : ((backTo cpos (starEach (e :: es) X.env)).all (fun x => !x.1) && (backToKw cpos (keywordEach [] X.env)).all (fun x => x.1.isSome) && decide ((e :: es).length + ([] : List Keyword).length + (if ([] : List Keyword).isEmpty then 0 else 1) < 30)) = true := by rfl)
    (hline : (apos.endLine == cpos.line) = true := by rfl) (he : starEach (e :: es) X.env = (false, eval e X.env) :: starEach es X.env := by rfl) (hpl : (backTo cpos (starEach es X.env)).any (·.1) = false := by rfl) :
    PE X (.Call (.Attribute o name apos) (e :: es) [] cpos) (tBM K T r to t) := by
  subst h
  exact pe_bm pa slot hty hm ho ha hbase hfew hline he hpl
end
end Wp
set_option Elab.async false
set_option linter.all false
set_option maxRecDepth 100000
set_option maxHeartbeats 4000000
/-! Calls by keywords alone; classes called; isinstance. -/
namespace Wp
open PySem PySem.Spec PyProof.Rows L2
def swap2 {α : Type} : List α → List α
  | [a, b] => [b, a]
  | l => l
def rev3 {α : Type} : List α → List α
  | [a, b, c] => [c, b, a]
  | l => l
theorem swap2_rel {vs : List V} {us : List Value} (r : Vals vs us) : Vals (swap2 vs) (swap2 us) := by
  match vs, us, r with
  | [], _, .nil => exact .nil
  | [_], _, .cons a .nil => exact .cons a .nil
  | [_, _], _, .cons a (.cons b .nil) => exact .cons b (.cons a .nil)
  | _ :: _ :: _ :: _, _, .cons a (.cons b (.cons c d)) => exact .cons a (.cons b (.cons c d))
theorem rev3_rel {vs : List V} {us : List Value} (r : Vals vs us) : Vals (rev3 vs) (rev3 us) := by
  match vs, us, r with
  | [], _, .nil => exact .nil
  | [_], _, .cons a .nil => exact .cons a .nil
  | [_, _], _, .cons a (.cons b .nil) => exact .cons a (.cons b .nil)
  | [_, _, _], _, .cons a (.cons b (.cons c .nil)) => exact .cons c (.cons b (.cons a .nil))
  | _ :: _ :: _ :: _ :: _, _, .cons a (.cons b (.cons c (.cons d e))) => exact .cons a (.cons b (.cons c (.cons d e)))
/-- a def called by keywords ks alone; g puts their values in the parameters' order -/
structure Dq (P : Program) (w : World) (K : PySem.W.Frag) (mg : Str → Option Value) (base : Heap)
    (CX : CXT) (k : Nat) (x : Str) (ks : List Str) (g : List V → List V) (sp : Sp) : Prop where
  ex : ∃ (fd : FuncData) (ps : List Str) (gv : List Value → List Value), FnOk P w K mg base CX k (He.ga K x) fd ps sp ∧ KBn K fd ps 0 ks (fun _ ws => gv ws) (fun _ zs => g zs)
  gm : mg x = some (.ref (He.ga K x))
  kp : PySem.W.keepIn K (.ref (He.ga K x)) = true
def kFnK (n : Nat) (g : List V → List V) (sp : Sp) (E : XK) (Q : VK) : List V → Hp → Prop := fun zs H1 => zs.length = n ∧ sp (g zs) H1 Q E
def tFnK (n : Nat) (g : List V → List V) (sp : Sp) (E : XK) (tk : TA) : TE := fun σ H Q => tk σ H (kFnK n g sp E Q)
section
variable {X : Cx}
theorem pe_fnK0 {CX : CXT} {k : Nat} {x : Str} {ks : List Str} {g : List V → List V} {sp : Sp} {E : XK} {kws : List Keyword} {tk : TA} {p pos : Pos}
    (D : Dq X.prog X.w X.K X.mg X.base CX k x ks g sp) (hr : Room k X.A) (hx : Passes CX X E) (hkw : PK X kws tk) (hg : Gl X x := by rfl)
    (hall : (backToKw pos (keywordEach kws X.env)).all (·.1.isSome) = true := by rfl) (hks : (backToKw pos (keywordEach kws X.env)).filterMap (·.1) = ks := by rfl)
    (hdb : (x == ("__debug__" : Str)) = false := by decide)
    (hpl : ((backTo pos (starEach [] X.env)).any (·.1) || (backToKw pos (keywordEach kws X.env)).any (·.1.isNone)) = false := by rfl) :
    PE X (.Call (.Name x p) [] kws pos) (tFnK ks.length g sp E tk) := by
  obtain ⟨fd, ps, gv, F, b⟩ := D.ex
  refine ⟨fun pins s σ H Q I h => wpAny_Call_Name_kw (ld_glob I hg D.gm ?_ hdb)⟩
  refine PySem.W.callWith_KW0 (h₀ := X.base) I.ok.mod.kin D.kp hall (thn (hkw.run pos pins s σ H _ I h) ?_) hpl
  rintro ws s2 ⟨zs, H2, I2, rz, l2, q2⟩
  refine ⟨I2.kIn, ?_⟩
  rw [hks]
  exact run_fnN (us := []) (vs := []) F hr b hx I2 .nil rz rfl l2 q2
theorem r_fnK {n : Nat} {g : List V → List V} {sp : Sp} {E : XK} {tk : TA} {σ : L2.St} {H : Hp} {Q : VK} (q : tk σ H (kFnK n g sp E Q)) : tFnK n g sp E tk σ H Q := q
theorem r_kFnK {n : Nat} {g : List V → List V} {sp : Sp} {E : XK} {H : Hp} {Q : VK} {zs : List V} (l : zs.length = n) (q : sp (g zs) H Q E) : kFnK n g sp E Q zs H := ⟨l, q⟩
end
section
variable {P : Program} {w : World} {K : PySem.W.Frag} {mg : Str → Option Value} {base : Heap} {x qual : Str} {params : Arguments} {body : List Stmt} {scope : Scope} {dvs : List V} {kws : List (Str × V)} {f : Addr} {fd : FuncData}
/-- how keywords alone bind (a def without defaults) -/
theorem kbn_of {ps ks : List Str} {gv : List Value → List Value} {g : List V → List V} (F : FunD K x qual params body scope [] kws f fd)
    (hrel : ∀ {vs : List V} {us : List Value}, Vals vs us → Vals (g vs) (gv us))
    (h : ∀ (kV doc pm : Value) (an : Option Addr) (cdv ct : Value) (ws : List Value), ws.length = ks.length → bindArgs (PySem.W.fnOf x qual params body scope .none kV doc pm an cdv ct) ⟨[], ks.zip ws⟩ = pure (ps.zip (gv ws))) :
    KBn K fd ps 0 ks (fun _ ws => gv ws) (fun _ zs => g zs) := by
  obtain ⟨oc, od, dV, kV, doc, pm, an, cdv, ct, osl, rfl, lk, hcd, hD, hK⟩ := F.ex
  rcases hD with ⟨_, rfl⟩ | ⟨e, _⟩
  · refine ⟨fun s us ws _ l1 l2 => ?_, fun _ r => hrel r⟩
    obtain rfl : us = [] := List.length_eq_zero_iff.mp l1
    exact .of_eq (h kV doc pm an cdv ct ws l2)
  · exact absurd rfl e
end
/-! ### classes called -/
/-- what a new instance of the class at C is given to: its __init__ with the promise sp -/
def spMk (C : Addr) (sp : Sp) (dvs : List V) : Sp := fun vs H Q E => ∀ x dx, H x = none → H dx = none → dx ≠ x →
  sp (.ref x :: (vs ++ dvs)) (upd (upd H dx (.own x)) x (.ins C dx [])) (fun v H2 => v = .non ∧ Q (.ref x) H2) E
structure Dc (P : Program) (w : World) (K : PySem.W.Frag) (mg : Str → Option Value) (base : Heap)
    (CX : CXT) (k : Nat) (x : Str) (sp : Sp) : Prop where
  ex : ∃ fI fd ps spI dvs ds, Mk K (He.ga K x) fI ∧ FnOk P w K mg base CX k fI fd ps spI ∧ Binds K fd ps ds ∧ Vals dvs ds ∧ ∀ vs H Q E, sp vs H Q E → spMk (He.ga K x) spI dvs vs H Q E
  gm : mg x = some (.ref (He.ga K x))
section
variable {X : Cx}
theorem pe_mk {CX : CXT} {k : Nat} {x : Str} {sp : Sp} {E : XK} {e : Expr} {es : List Expr} {t : TA} {p pos : Pos}
    (D : Dc X.prog X.w X.K X.mg X.base CX k x sp) (hr : Room (k + 1) X.A) (hx : Passes CX X E) (ha : PA X (e :: es) t) (hg : Gl X x := by rfl)
    (hdb : (x == ("__debug__" : Str)) = false := by decide)
    (he : starEach (e :: es) X.env = (false, eval e X.env) :: starEach es X.env := by rfl)
    (hpl : (backTo pos (starEach es X.env)).any (·.1) = false := by rfl) :
    PE X (.Call (.Name x p) (e :: es) [] pos) (tFn sp E t) := by
  obtain ⟨fI, fd, ps, spI, dvs, ds, M, F, b, hd, imp⟩ := D.ex
  refine ⟨fun pins s σ H Q I h => wpAny_Call_Name_kw (ld_glob I hg D.gm ?_ hdb)⟩
  refine PySem.W.callWith_K (h₀ := X.base) I.ok.mod.kin M.kp (thn (ha.run pos pins s σ H _ I h) ?_) he hpl
  rintro us s1 ⟨vs, H1, I1, r, q⟩
  exact ⟨I1.kIn, run_make M F hr b hd hx I1 r (imp vs H1 Q E q)⟩
end
/-! ### isinstance of plain values -/
section
variable {K : PySem.W.Frag} {H : Hp} {Q : VK} {x : V} {i : Int} {b : Bool} {z : Str} {p : Addr} {xs : List V}
theorem r_isiT {a c : String} {r : Bool} (h : TyX K H x (.type a)) (hk : kitB a c = some r) (q : Q (.bl r) H) : rIsi K [x, .ty c] H Q := ⟨x, .ty c, .type a, .type c, r, rfl, .ty c, h, kit_ty hk, q⟩
theorem r_isi_ii (q : Q (.bl true) H) : rIsi K [.int i, .ty "int"] H Q := r_isiT (.base (.int i)) (by decide +kernel) q
theorem r_isi_ib (q : Q (.bl false) H) : rIsi K [.int i, .ty "bool"] H Q := r_isiT (.base (.int i)) (by decide +kernel) q
theorem r_isi_is (q : Q (.bl false) H) : rIsi K [.int i, .ty "str"] H Q := r_isiT (.base (.int i)) (by decide +kernel) q
theorem r_isi_it (q : Q (.bl false) H) : rIsi K [.int i, .ty "tuple"] H Q := r_isiT (.base (.int i)) (by decide +kernel) q
theorem r_isi_bi (q : Q (.bl true) H) : rIsi K [.bl b, .ty "int"] H Q := r_isiT (.base (.bl b)) (by decide +kernel) q
theorem r_isi_bb (q : Q (.bl true) H) : rIsi K [.bl b, .ty "bool"] H Q := r_isiT (.base (.bl b)) (by decide +kernel) q
theorem r_isi_ss (q : Q (.bl true) H) : rIsi K [.str z, .ty "str"] H Q := r_isiT (.base (.str z)) (by decide +kernel) q
theorem r_isi_tt (h : H p = some (.tup xs)) (q : Q (.bl true) H) : rIsi K [.ref p, .ty "tuple"] H Q := r_isiT (.base (.tup h)) (by decide +kernel) q
/-- is it a number -/
inductive NumV (K : PySem.W.Frag) (H : Hp) : V → Option Int → Prop
  | int (i : Int) : NumV K H (.int i) (some i)
  | no {x : V} {t : Value} {b1 b2 : Bool} : TyX K H x t → PySem.W.kitOne K t (.type "int") = some b1 → PySem.W.kitOne K t (.type "bool") = some b2 → (b1 && !b2) = false → NumV K H x none
def inB : Option Int → Int → Int → Bool
  | some i, lo, hi => decide (lo ≤ i) && decide (i ≤ hi)
  | none, _, _ => false
theorem inB_yes {i lo hi : Int} (h : lo ≤ i ∧ i ≤ hi) : inB (some i) lo hi = true := by
  simp [inB, h.1, h.2]
end
end Wp
set_option Elab.async false
set_option linter.all false
set_option maxRecDepth 100000
set_option maxHeartbeats 4000000
/-! Properties of own classes: a rule by name, and a look at their getters when the program has been run. -/
namespace Wp
open PySem PySem.Spec PyProof.Rows L2
/-- a property whose getter keeps the promise -/
structure Dpr (P : Program) (w : World) (K : PySem.W.Frag) (mg : Str → Option Value) (base : Heap) (CX : CXT) (k : Nat) (C : Addr) (f : Str) (sp : Sp) : Prop where
  ex : ∃ (p g : Addr) (fd : FuncData) (ps : List Str), PropOf K C f p g ∧ FnOk P w K mg base CX k g fd ps sp ∧ Binds K fd ps []
  cl : Cls K C
def kProp (C : Addr) (sp : Sp) (E : XK) (Q : VK) : VK := fun x H1 => ∃ a dx fs, x = .ref a ∧ H1 a = some (.ins C dx fs) ∧ sp [.ref a] H1 Q E
section
variable {X : Cx} {CX : CXT} {k : Nat} {C a dx : Addr} {f : Str} {sp : Sp} {E : XK} {e : Expr} {pos : Pos} {ta : TE} {fs : List (Str × V)}
theorem pe_propA (D : Dpr X.prog X.w X.K X.mg X.base CX k C f sp) (he : PE X e ta) (hr : Room (k + 1) X.A) (hx : Passes CX X.nox E)
    (hab : attributeBase e f X.env (eval e X.env) = eval e X.env := by rfl) : PE X (.Attribute e f pos) (tProp C sp [] E ta) := by
  obtain ⟨p, g, fd, ps, h1, h2, h3⟩ := D.ex
  exact pe_prop he D.cl h1 h2 hr h3 .nil hx hab
theorem r_prop {σ : L2.St} {H : Hp} {Q : VK} (q : ta σ H (kProp C sp E Q)) : tProp C sp [] E ta σ H Q := q
theorem r_kProp {H : Hp} {Q : VK} (h : H a = some (.ins C dx fs)) (q : sp [.ref a] H Q E) : kProp C sp E Q (.ref a) H := ⟨a, dx, fs, rfl, h, q⟩
end
/-! x += e -/
theorem r_aug {i : Nat} {te : TE} {ti : TIp} {D : Ends} {σ : L2.St} {H : Hp} {x : V} (h : σ[i]? = some (some x)) (q : te σ H fun y H1 => ti x y H1 fun z H2 => D.nx (σ.set i (some z)) H2) : tAug i te ti D σ H := ⟨x, h, q⟩
theorem r_ipI {f : Int → Int → Int} {i j : Int} {H : Hp} {Q : VK} (q : Q (.int (f i j)) H) : ipI f (.int i) (.int j) H Q := ⟨i, j, rfl, rfl, q⟩
/-! ### the look -/
/-- where the getter of the property f of class c stands -/
def gAd (K : PySem.W.Frag) (c f : Str) : Addr := match PySem.W.recIn K (He.ma K (He.ga K c) f) "property" with
  | some (.ref g :: _) => g
  | _ => 0
structure GetD where
  c : Str
  f : Str
  qual : Str
  params : Arguments
  body : List Stmt
  scope : Scope
def fnY (K : PySem.W.Frag) (d : GetD) : He.FnW := match K.lookup (gAd K d.c d.f) with
  | some ⟨_, _, .func z, _⟩ => some (z.name, z.qualname, z.params, z.body, z.scope, z.globals, z.closure, z.builtins)
  | _ => none
def GetD.val (d : GetD) : He.FnW := some (d.f, d.qual, d.params, .stmts d.body, d.scope, mainGlobals, [], builtinsNs)
def propB (K : PySem.W.Frag) (c f : Str) : Bool := He.eqO (PySem.W.findIn K (.ref (He.ga K c)) f) (some (some (.ref (He.ma K (He.ga K c) f)))) &&
  (He.eqO (PySem.W.specialIn K (.ref (He.ma K (He.ga K c) f)) "__get__") (some (some (.builtin "property.__get__"))) && (decide (PySem.W.takesIn K (.ref (He.ma K (He.ga K c) f)) = some true) &&
  (match PySem.W.recIn K (He.ma K (He.ga K c) f) "property" with
  | some (.ref _ :: _) => true
  | _ => false)))
def GetD.ok (K : PySem.W.Frag) (d : GetD) : Bool := propB K d.c d.f && (PySem.W.keepIn K (.ref (gAd K d.c d.f)) && (match K.lookup (gAd K d.c d.f) with
  | some ⟨_, _, .func z, _⟩ => PySem.W.codeIn K z.code d.qual && (He.dflB K z.defaults [] && He.kwdB K z.kwdefaults [])
  | _ => false))
theorem propB_ok {K : PySem.W.Frag} {c f : Str} (h : propB K c f = true) : PropOf K (He.ga K c) f (He.ma K (He.ga K c) f) (gAd K c f) := by
  obtain ⟨h1, h⟩ := He.ba h
  obtain ⟨h2, h⟩ := He.ba h
  obtain ⟨h3, h4⟩ := He.ba h
  refine ⟨He.eqO_ok h1, He.eqO_ok h2, of_decide_eq_true h3, ?_⟩
  unfold gAd
  cases q : PySem.W.recIn K (He.ma K (He.ga K c) f) "property" with
  | none =>
    rw [q] at h4
    cases h4
  | some l =>
    rw [q] at h4
    cases l with
    | nil => cases h4
    | cons x r =>
      cases x with
      | ref g => exact ⟨r, rfl⟩
      | _ => cases h4
theorem GetD.funD {K : PySem.W.Frag} {d : GetD} (e : fnY K d = d.val) (c : d.ok K = true) : PropOf K (He.ga K d.c) d.f (He.ma K (He.ga K d.c) d.f) (gAd K d.c d.f) ∧ ∃ fd, FunD K d.f d.qual d.params d.body d.scope [] [] (gAd K d.c d.f) fd := by
  obtain ⟨hp, c1⟩ := He.ba c
  refine ⟨propB_ok hp, ?_⟩
  obtain ⟨hk, c2⟩ := He.ba c1
  unfold fnY at e
  cases q : K.lookup (gAd K d.c d.f) with
  | none =>
    rw [q] at e
    cases e
  | some o =>
    obtain ⟨a1, a2, a3, a4⟩ := o
    rw [q] at e c2
    cases a3 with
    | func z =>
      obtain ⟨z1, z2, z3, z4, z5, z6, z7, z8, z9, z10, z11, z12, z13, z14, z15⟩ := z
      have e3 : ((z1, z2, z3, z4, z5, z6, z7, z15) : Str × Str × Arguments × FuncBody × Scope × Addr × List (Str × Addr) × Addr) = (d.f, d.qual, d.params, .stmts d.body, d.scope, mainGlobals, [], builtinsNs) := Option.some.inj e
      simp only [Prod.mk.injEq] at e3
      obtain ⟨rfl, rfl, rfl, rfl, rfl, rfl, rfl, rfl⟩ := e3
      obtain ⟨k1, k2⟩ := He.ba (a := PySem.W.codeIn K z13 d.qual) c2
      obtain ⟨k3, k4⟩ := He.ba k2
      exact ⟨_, ⟨a1, a2, z8, z9, z10, z11, z12, z13, z14, a4, rfl, q, k1, He.dflB_ok k3, He.kwdB_ok k4⟩, hk⟩
    | _ => cases e
/-- what is told besides: the getters -/
abbrev AlY : Type := He.AlX × Bool × List He.FnW
def obsY (n : Nat) (fa : List He.Fa) (fn : List He.DefD) (gs : List GetD) (ex : PySem.W.Frag → Bool) (g : Addr → Option Obj) : AlY :=
  (He.obsX n fa fn [] [] ex g, gs.all (fun d => d.ok (He.frT g (He.asD g n))), gs.map fun d => fnY (He.frT g (He.asD g n)) d)
def valY (fn : List He.DefD) (gs : List GetD) (w : World) : AlY := (He.valX fn [] w, true, gs.map GetD.val)
structure SaysY (fa : List He.Fa) (fn : List He.DefD) (gs : List GetD) (ex : PySem.W.Frag → Bool) (w : World) (h : Heap) (K : PySem.W.Frag) : Prop where
  x : He.SaysX fa fn [] [] ex w h K
  g : ∀ d ∈ gs, PropOf K (He.ga K d.c) d.f (He.ma K (He.ga K d.c) d.f) (gAd K d.c d.f) ∧ ∃ fd, FunD K d.f d.qual d.params d.body d.scope [] [] (gAd K d.c d.f) fd
theorem saysY_of {n : Nat} {fa : List He.Fa} {fn : List He.DefD} {gs : List GetD} {ex : PySem.W.Frag → Bool} {w : World} {h : Heap} (e : obsY n fa fn gs ex h.get? = valY fn gs w) : SaysY fa fn gs ex w h (He.frT h.get? (He.asD h.get? n)) := by
  have e1 : He.obsX n fa fn [] [] ex h.get? = He.valX fn [] w := congrArg (fun z : AlY => z.1) e
  have e2 : gs.all (fun d => d.ok (He.frT h.get? (He.asD h.get? n))) = true := congrArg (fun z : AlY => z.2.1) e
  have e3 : gs.map (fun d => fnY (He.frT h.get? (He.asD h.get? n)) d) = gs.map GetD.val := congrArg (fun z : AlY => z.2.2) e
  exact ⟨He.saysX_of e1, fun d hd => GetD.funD (List.map_inj_left.mp e3 d hd) (List.all_eq_true.mp e2 d hd)⟩
def hookY (n : Nat) (fa : List He.Fa) (fn : List He.DefD) (gs : List GetD) (ex : PySem.W.Frag → Bool) : PySem.W.Hook where
  α := AlY
  obs := fun s => obsY n fa fn gs ex s.heap.get?
  val := fun w => valY fn gs w
  says := fun w h => ∃ K : PySem.W.Frag, K.In h ∧ SaysY fa fn gs ex w h K
  of := fun _ _ e => ⟨_, He.frT_in, saysY_of e⟩
  keeps := fun _ _ _ ⟨K, hK, c⟩ k => ⟨K, PySem.W.Frag.In.keeps hK k, ⟨⟨c.x.t, c.x.more, c.x.hd, c.x.out, fun p hp => k _ _ (c.x.empty p hp)⟩, c.g⟩⟩
theorem obsY_eq {n : Nat} {fa : List He.Fa} {fn : List He.DefD} {gs : List GetD} {ex : PySem.W.Frag → Bool} {g : Addr → Option Obj} {s : Shared} (h : ∀ a, g a = s.heap.get? a) : obsY n fa fn gs ex g = (hookY n fa fn gs ex).obs s := by
  obtain rfl : g = s.heap.get? := funext h
  rfl
end Wp
set_option Elab.async false
set_option linter.all false
set_option maxRecDepth 100000
set_option maxHeartbeats 0
/-! A look at classes: what isinstance needs. -/
namespace Wp
open PySem PySem.Spec PyProof.Rows L2
def insB (K : PySem.W.Frag) (C : Addr) : Bool := decide (PySem.W.findIn K (.ref C) "__class__" = some (some (.builtin "object.__class__"))) && (decide (PySem.W.specialIn K (.builtin "object.__class__") "__get__" = some (some (.builtin "getset_descriptor.__get__")))
  && (decide (PySem.W.takesIn K (.builtin "object.__class__") = some true) && (decide (PySem.W.mroIn K C (.type "object") = some true) && decide (PySem.W.kitOne K (.ref C) (.ref C) = some true))))
theorem insB_ok {K : PySem.W.Frag} {C : Addr} (cl : Cls K C) (h : insB K C = true) : C8.InsC K C := by
  obtain ⟨h1, h⟩ := He.ba h
  obtain ⟨h2, h⟩ := He.ba h
  obtain ⟨h3, h⟩ := He.ba h
  obtain ⟨h4, h5⟩ := He.ba h
  exact ⟨cl, of_decide_eq_true h1, of_decide_eq_true h2, of_decide_eq_true h3, of_decide_eq_true h4, of_decide_eq_true h5⟩
end Wp
set_option Elab.async false
set_option linter.all false
set_option maxRecDepth 100000
set_option maxHeartbeats 0
namespace Wp
open PySem PySem.Spec PyProof.Rows L2
def D__law_begun : He.DefD := ⟨("_law_begun", none), "_law_begun", "_law_begun", defArgs (topS 48), defBody (topS 48), defScope (topS 48), [], []⟩
def D__law_mixed : He.DefD := ⟨("_law_mixed", none), "_law_mixed", "_law_mixed", defArgs (topS 49), defBody (topS 49), defScope (topS 49), [], []⟩
def D__law_take : He.DefD := ⟨("_law_take", none), "_law_take", "_law_take", defArgs (topS 50), defBody (topS 50), defScope (topS 50), [], []⟩
def D__law_pick : He.DefD := ⟨("_law_pick", none), "_law_pick", "_law_pick", defArgs (topS 51), defBody (topS 51), defScope (topS 51), [], []⟩
def D__law_names : He.DefD := ⟨("_law_names", none), "_law_names", "_law_names", defArgs (topS 53), defBody (topS 53), defScope (topS 53), [], []⟩
def D__law_some : He.DefD := ⟨("_law_some", none), "_law_some", "_law_some", defArgs (topS 52), defBody (topS 52), defScope (topS 52), [], []⟩
def D_is_number : He.DefD := ⟨("is_number", none), "is_number", "is_number", defArgs (topS 20), defBody (topS 20), defScope (topS 20), [], []⟩
def D_is_number_in : He.DefD := ⟨("is_number_in", none), "is_number_in", "is_number_in", defArgs (topS 21), defBody (topS 21), defScope (topS 21), [], []⟩
def D_is_list : He.DefD := ⟨("is_list", none), "is_list", "is_list", defArgs (topS 22), defBody (topS 22), defScope (topS 22), [], []⟩
def D_is_name : He.DefD := ⟨("is_name", none), "is_name", "is_name", defArgs (topS 23), defBody (topS 23), defScope (topS 23), [], []⟩
def D_are_lengths : He.DefD := ⟨("are_lengths", none), "are_lengths", "are_lengths", defArgs (topS 24), defBody (topS 24), defScope (topS 24), [], []⟩
def D_is_kind : He.DefD := ⟨("is_kind", none), "is_kind", "is_kind", defArgs (topS 25), defBody (topS 25), defScope (topS 25), [], []⟩
def D_are_kinds : He.DefD := ⟨("are_kinds", none), "are_kinds", "are_kinds", defArgs (topS 26), defBody (topS 26), defScope (topS 26), [], []⟩
def D_is_order : He.DefD := ⟨("is_order", none), "is_order", "is_order", defArgs (topS 27), defBody (topS 27), defScope (topS 27), [], []⟩
def D_Book___init__ : He.DefD := ⟨("Book", some "__init__"), "__init__", "Book.__init__", defArgs (inClass (topS 29) 0), defBody (inClass (topS 29) 0), defScope (inClass (topS 29) 0), [.int 0, .str "day", .non], []⟩
def D_Book_parts_told : He.DefD := ⟨("Book", some "parts_told"), "parts_told", "Book.parts_told", defArgs (inClass (topS 29) 8), defBody (inClass (topS 29) 8), defScope (inClass (topS 29) 8), [], []⟩
def D_Book_with_part : He.DefD := ⟨("Book", some "with_part"), "with_part", "Book.with_part", defArgs (inClass (topS 29) 9), defBody (inClass (topS 29) 9), defScope (inClass (topS 29) 9), [], []⟩
def D_need_book : He.DefD := ⟨("need_book", none), "need_book", "need_book", defArgs (topS 30), defBody (topS 30), defScope (topS 30), [], []⟩
def D_Account___init__ : He.DefD := ⟨("Account", some "__init__"), "__init__", "Account.__init__", defArgs (inClass (topS 34) 0), defBody (inClass (topS 34) 0), defScope (inClass (topS 34) 0), [], []⟩
def D_Account_buy : He.DefD := ⟨("Account", some "buy"), "buy", "Account.buy", defArgs (inClass (topS 34) 1), defBody (inClass (topS 34) 1), defScope (inClass (topS 34) 1), [], []⟩
def D_Account_next_row : He.DefD := ⟨("Account", some "next_row"), "next_row", "Account.next_row", defArgs (inClass (topS 34) 2), defBody (inClass (topS 34) 2), defScope (inClass (topS 34) 2), [], []⟩
def D_Account_pay : He.DefD := ⟨("Account", some "pay"), "pay", "Account.pay", defArgs (inClass (topS 34) 3), defBody (inClass (topS 34) 3), defScope (inClass (topS 34) 3), [], []⟩
def D_is_row : He.DefD := ⟨("is_row", none), "is_row", "is_row", defArgs (topS 35), defBody (topS 35), defScope (topS 35), [], []⟩
def D_account_of : He.DefD := ⟨("account_of", none), "account_of", "account_of", defArgs (topS 36), defBody (topS 36), defScope (topS 36), [], []⟩
def D_need_account : He.DefD := ⟨("need_account", none), "need_account", "need_account", defArgs (topS 37), defBody (topS 37), defScope (topS 37), [], []⟩
def D_need_number : He.DefD := ⟨("need_number", none), "need_number", "need_number", defArgs (topS 28), defBody (topS 28), defScope (topS 28), [], []⟩
def D_Book_month_at : He.DefD := ⟨("Book", some "month_at"), "month_at", "Book.month_at", defArgs (inClass (topS 29) 12), defBody (inClass (topS 29) 12), defScope (inClass (topS 29) 12), [], []⟩
def D_Book_first_at : He.DefD := ⟨("Book", some "first_at"), "first_at", "Book.first_at", defArgs (inClass (topS 29) 13), defBody (inClass (topS 29) 13), defScope (inClass (topS 29) 13), [], []⟩
def D_Book_due_at : He.DefD := ⟨("Book", some "due_at"), "due_at", "Book.due_at", defArgs (inClass (topS 29) 14), defBody (inClass (topS 29) 14), defScope (inClass (topS 29) 14), [], []⟩
def D_bought_by : He.DefD := ⟨("bought_by", none), "bought_by", "bought_by", defArgs (topS 38), defBody (topS 38), defScope (topS 38), [], []⟩
def D_paid_by : He.DefD := ⟨("paid_by", none), "paid_by", "paid_by", defArgs (topS 39), defBody (topS 39), defScope (topS 39), [], []⟩
def D_whole_at : He.DefD := ⟨("whole_at", none), "whole_at", "whole_at", defArgs (topS 41), defBody (topS 41), defScope (topS 41), [], []⟩
def D_spared_at : He.DefD := ⟨("spared_at", none), "spared_at", "spared_at", defArgs (topS 42), defBody (topS 42), defScope (topS 42), [], []⟩
def D_sum_of : He.DefD := ⟨("sum_of", none), "sum_of", "sum_of", defArgs (topS 43), defBody (topS 43), defScope (topS 43), [], []⟩
def D_is_whole : He.DefD := ⟨("is_whole", none), "is_whole", "is_whole", defArgs (topS 44), defBody (topS 44), defScope (topS 44), [], []⟩
def D_is_spared : He.DefD := ⟨("is_spared", none), "is_spared", "is_spared", defArgs (topS 45), defBody (topS 45), defScope (topS 45), [], []⟩
def D_word : He.DefD := ⟨("word", none), "word", "word", defArgs (topS 46), defBody (topS 46), defScope (topS 46), [], []⟩
def D__law_model : He.DefD := ⟨("_law_model", none), "_law_model", "_law_model", defArgs (topS 54), defBody (topS 54), defScope (topS 54), [], []⟩
def D__law_made : He.DefD := ⟨("_law_made", none), "_law_made", "_law_made", defArgs (topS 55), defBody (topS 55), defScope (topS 55), [], []⟩
def D__law_first : He.DefD := ⟨("_law_first", none), "_law_first", "_law_first", defArgs (topS 56), defBody (topS 56), defScope (topS 56), [], []⟩
def D__law_month : He.DefD := ⟨("_law_month", none), "_law_month", "_law_month", defArgs (topS 57), defBody (topS 57), defScope (topS 57), [], []⟩
def D__law_due : He.DefD := ⟨("_law_due", none), "_law_due", "_law_due", defArgs (topS 58), defBody (topS 58), defScope (topS 58), [], []⟩
def D__law_next_date : He.DefD := ⟨("_law_next_date", none), "_law_next_date", "_law_next_date", defArgs (topS 59), defBody (topS 59), defScope (topS 59), [], []⟩
def D__law_cents : He.DefD := ⟨("_law_cents", none), "_law_cents", "_law_cents", defArgs (topS 60), defBody (topS 60), defScope (topS 60), [], []⟩
def D__law_rows : He.DefD := ⟨("_law_rows", none), "_law_rows", "_law_rows", defArgs (topS 61), defBody (topS 61), defScope (topS 61), [], []⟩
def D__law_path : He.DefD := ⟨("_law_path", none), "_law_path", "_law_path", defArgs (topS 62), defBody (topS 62), defScope (topS 62), [], []⟩
def D__law_settled : He.DefD := ⟨("_law_settled", none), "_law_settled", "_law_settled", defArgs (topS 63), defBody (topS 63), defScope (topS 63), [], []⟩
def D__law_bought : He.DefD := ⟨("_law_bought", none), "_law_bought", "_law_bought", defArgs (topS 64), defBody (topS 64), defScope (topS 64), [], []⟩
def D__law_settled_by : He.DefD := ⟨("_law_settled_by", none), "_law_settled_by", "_law_settled_by", defArgs (topS 65), defBody (topS 65), defScope (topS 65), [], []⟩
def D__law_is_whole : He.DefD := ⟨("_law_is_whole", none), "_law_is_whole", "_law_is_whole", defArgs (topS 66), defBody (topS 66), defScope (topS 66), [], []⟩
def D__law_is_spared : He.DefD := ⟨("_law_is_spared", none), "_law_is_spared", "_law_is_spared", defArgs (topS 67), defBody (topS 67), defScope (topS 67), [], []⟩
def D__law_changed : He.DefD := ⟨("_law_changed", none), "_law_changed", "_law_changed", defArgs (topS 68), defBody (topS 68), defScope (topS 68), [], []⟩
def D__law_due_sum : He.DefD := ⟨("_law_due_sum", none), "_law_due_sum", "_law_due_sum", defArgs (topS 69), defBody (topS 69), defScope (topS 69), [], []⟩
def D__law_is_whole_by_days : He.DefD := ⟨("_law_is_whole_by_days", none), "_law_is_whole_by_days", "_law_is_whole_by_days", defArgs (topS 70), defBody (topS 70), defScope (topS 70), [], []⟩
def D_law : He.DefD := ⟨("law", none), "law", "law", defArgs (topS 71), defBody (topS 71), defScope (topS 71), [], []⟩
def fnL : List He.DefD := [D__law_begun, D__law_mixed, D__law_take, D__law_pick, D__law_names, D__law_some, D_is_number, D_is_number_in, D_is_list, D_is_name, D_are_lengths, D_is_kind, D_are_kinds, D_is_order, D_Book___init__, D_Book_parts_told, D_Book_with_part, D_need_book, D_Account___init__, D_Account_buy, D_Account_next_row, D_Account_pay, D_is_row, D_account_of, D_need_account, D_need_number, D_Book_month_at, D_Book_first_at, D_Book_due_at, D_bought_by, D_paid_by, D_whole_at, D_spared_at, D_sum_of, D_is_whole, D_is_spared, D_word, D__law_model, D__law_made, D__law_first, D__law_month, D__law_due, D__law_next_date, D__law_cents, D__law_rows, D__law_path, D__law_settled, D__law_bought, D__law_settled_by, D__law_is_whole, D__law_is_spared, D__law_changed, D__law_due_sum, D__law_is_whole_by_days, D_law]
def faL : List He.Fa := ([.glo "_law_begun", .glo "_law_mixed", .glo "_law_take", .glo "_law_pick", .glo "_law_names", .glo "_law_some", .glo "is_number", .glo "is_number_in", .glo "is_list", .glo "is_name", .glo "are_lengths", .glo "is_kind", .glo "are_kinds", .glo "is_order", .glo "need_book", .glo "is_row", .glo "account_of", .glo "need_account", .glo "need_number", .glo "bought_by", .glo "paid_by", .glo "whole_at", .glo "spared_at", .glo "sum_of", .glo "is_whole", .glo "is_spared", .glo "word", .glo "_law_model", .glo "_law_made", .glo "_law_first"] : List He.Fa) ++ ([.glo "_law_month", .glo "_law_due", .glo "_law_next_date", .glo "_law_cents", .glo "_law_rows", .glo "_law_path", .glo "_law_settled", .glo "_law_bought", .glo "_law_settled_by", .glo "_law_is_whole", .glo "_law_is_spared", .glo "_law_changed", .glo "_law_due_sum", .glo "_law_is_whole_by_days", .glo "law", .glo "CreditError", .glo "BadBook", .glo "BadPart", .glo "BadCourse", .glo "BadNumber", .glo "Book", .glo "Account", .free "all", .free "bool", .free "dict", .free "enumerate", .free "int", .free "isinstance", .free "len", .free "list"] : List He.Fa) ++ ([.free "max", .free "min", .free "range", .free "repr", .free "sorted", .free "str", .free "sum", .free "super", .free "tuple", .free "zip", .str "BUY" "buy", .str "DAY" "day", .str "LETTERS" "abcdefghijklmnopqrstuvwxyz", .int "LONGEST" 31, .int "MOST_DAY" 2000, .int "MOST_KINDS" 6, .int "MOST_LENGTHS" 4, .int "MOST_MEMORY" 2, .int "MOST_NAME" 8, .int "MOST_RATE" 1000, .glo "PARTS", .str "PAY" "pay", .int "SHORTEST" 2, .str "STATEMENT" "statement", .cls "Book", .mkr "Book", .noat "Book" "b_lengths", .noat "Book" "b_due", .noat "Book" "b_kinds", .noat "Book" "b_memory"] : List He.Fa) ++ ([.noat "Book" "b_begins", .noat "Book" "b_laid", .cls "Account", .mkr "Account", .noat "Account" "a_book", .noat "Account" "a_left", .noat "Account" "a_kinds", .noat "Account" "a_owed", .noat "Account" "a_paid", .meth "Book" "parts_told", .meth "Book" "with_part", .meth "Account" "buy", .meth "Account" "next_row", .meth "Account" "pay", .meth "Book" "month_at", .meth "Book" "first_at", .meth "Book" "due_at"] : List He.Fa)
def exB (K : PySem.W.Frag) : Bool := insB K (He.ga K "Book") && He.tupB K "PARTS" [.str "lengths", .str "due", .str "kinds", .str "memory", .str "begins", .str "laid"]
abbrev Rw : PySem.W.OpenRow := PySem.W.OpenLaw.row PySem.Challenge.rw_wholepaid_k10_statements
def G_Book_memory : GetD := ⟨"Book", "memory", "Book.memory", defArgs (inClass (topS 29) 4), defBody (inClass (topS 29) 4), defScope (inClass (topS 29) 4)⟩
def G_Book_laid : GetD := ⟨"Book", "laid", "Book.laid", defArgs (inClass (topS 29) 6), defBody (inClass (topS 29) 6), defScope (inClass (topS 29) 6)⟩
def gsL : List GetD := [G_Book_memory, G_Book_laid]
abbrev hkL : PySem.W.Hook := hookY 6 faL fnL gsL exB
def obL (s : PySem.W.SharedT) : AlY := obsY 6 faL fnL gsL exB (HandSHeadRun.getT s)
theorem obL_eq (s : PySem.W.SharedT) : obL s = hkL.obs s.abs := obsY_eq (HandSHeadRun.getT_eq s)
def looseL : List Str := (["_wall", "CreditError", "BadBook", "BadPart", "BadCourse", "BadNumber", "LETTERS", "MOST_NAME", "MOST_KINDS", "MOST_RATE", "MOST_LENGTHS", "SHORTEST", "LONGEST", "MOST_MEMORY", "MOST_DAY", "DAY", "STATEMENT", "PARTS", "is_number", "is_number_in", "is_list", "is_name", "are_lengths", "is_kind", "are_kinds", "is_order", "need_number", "Book", "need_book", "BUY"] : List Str) ++ (["PAY", "Account", "is_row", "account_of", "need_account", "bought_by", "paid_by", "whole_at", "spared_at", "sum_of", "is_whole", "is_spared", "word", "_law_begun", "_law_mixed", "_law_take", "_law_pick", "_law_some", "_law_names", "_law_model", "_law_made", "_law_first", "_law_month", "_law_due", "_law_next_date", "_law_cents", "_law_rows", "_law_path", "_law_settled", "_law_bought"] : List Str) ++ (["_law_settled_by", "_law_is_whole", "_law_is_spared", "_law_changed", "_law_due_sum", "_law_is_whole_by_days"] : List Str)
theorem runL (w : World) : HandSHeadRun.RunEq Rw (PySem.W.view Rw.prog [71]) hkL obL 16000 looseL w := by
  intro os
  kernel_rfl

end Wp
set_option Elab.async false
set_option linter.all false
set_option maxRecDepth 100000
set_option maxHeartbeats 4000000
/-! Readings of texts, slices, dicts, loops over any source. -/
namespace Wp
open PySem PySem.Spec PyProof.Rows L2
section
variable {t u tw : TS} {D : Ends} {σ : L2.St} {H : Hp} {te ta tb tl tk tv td : TE} {tt : TT} {tr : TA} {g : TG} {Q : VK} {v x y : V} {n : Nat} {b : Bool} {K : PySem.W.Frag} {a p q : Addr} {xs ys : List V} {vs : List Nat} {z : Str} {i : Int} {J : It}
/-! slices -/
theorem r_sl {r : V → Option Int → Option Int → Hp → VK → Prop} {tlo thi : TO} (h : te σ H fun x H1 => tlo σ H1 fun l H2 => thi σ H2 fun u H3 => r x l u H3 Q) : tSl r te tlo thi σ H Q := h
theorem r_noPart {QO : Option Int → Hp → Prop} (h : QO none H) : tNoPart σ H QO := h
def kPart (QO : Option Int → Hp → Prop) : VK := fun x H1 => ∃ i, x = .int i ∧ QO (some i) H1
theorem r_part {QO : Option Int → Hp → Prop} (h : te σ H (kPart QO)) : tPart te σ H QO := h
theorem r_kPart {QO : Option Int → Hp → Prop} (h : QO (some i) H) : kPart QO (.int i) H := ⟨i, rfl, h⟩
theorem r_slS {lo hi : Option Int} (hz : z.length ≤ 1000000) (h : Q (.str (cutS z lo hi)) H) : rSlS (.str z) lo hi H Q := ⟨z, rfl, sz5 hz, h⟩
theorem r_slL {lo hi : Option Int} (hl : SqL K H p xs) (h : ∀ q H', H q = none → Same H H' → H' q = some (.lst (cutV xs lo hi)) → Q (.ref q) H') : rSlL K (.ref p) lo hi H Q :=
  ⟨p, xs, rfl, hl, fun q hq => h q _ hq (Same.new hq) upd_same⟩
/-! texts -/
def kM1 (r : V → List V → Hp → VK → Prop) (te : TE) (σ : L2.St) (Q : VK) : VK := fun x H1 => (∃ a, x = .str a) ∧ te σ H1 fun y H2 => r x [y] H2 Q
theorem r_m1 {r : V → List V → Hp → VK → Prop} (h : ta σ H (kM1 r te σ Q)) : tM1 r ta te σ H Q := h
theorem r_kM1 {r : V → List V → Hp → VK → Prop} (h : te σ H fun y H2 => r (.str z) [y] H2 Q) : kM1 r te σ Q (.str z) H := ⟨⟨z, rfl⟩, h⟩
theorem r_ixS {c : Nat} (hz : z.length ≤ 1000000) (e : atI z.cps.toList i = some c) (h : Q (.str ⟨#[c]⟩) H) : rIxS (.str z) (.int i) H Q := ⟨z, i, c, rfl, rfl, sz5 hz, e, h⟩
theorem r_lenS (hz : z.length ≤ 1000000) (h : Q (.int (z.length : Nat)) H) : rLen K [.str z] H Q := ⟨_, _, rfl, ⟨sz5 hz, rfl⟩, h⟩
/-! loops over any source -/
def LoopW (J : It) (g : TG) (tw : TS) (D : Ends) (σ : L2.St) (H1 : Hp) : Prop := ∃ W : Nat → Nat → L2.St → Hp → Prop, (∃ m, W 0 m σ H1) ∧ ∀ i m σ H, W i m σ H →
  (J.stop i H ∧ D.nx σ H) ∨ (J.go i H ∧ ∃ N : L2.St → Hp → Prop, (∀ σ' H', N σ' H' → ∃ m', m' < m ∧ W (i + 1) m' σ' H') ∧ ∀ x H', J.yld i H x H' → g x σ H' fun σ2 H2 => tw { D with nx := N, ct := N, bk := D.nx } σ2 H2)
theorem loop_it (n : Nat) (Pv : Nat → L2.St → Hp → Prop) (h0 : Pv 0 σ H) (hgo : ∀ i σ' H', i < n → Pv i σ' H' → J.go i H') (hst : ∀ σ' H', Pv n σ' H' → J.stop n H')
    (hs : ∀ i x σ' H' H2, i < n → Pv i σ' H' → J.yld i H' x H2 → g x σ' H2 fun σ2 H3 => tw { D with nx := Pv (i + 1), ct := Pv (i + 1), bk := D.nx } σ2 H3)
    (hd : ∀ σ' H', Pv n σ' H' → D.nx σ' H') : LoopW J g tw D σ H := by
  refine ⟨fun i m σ H => m = n - i ∧ i ≤ n ∧ Pv i σ H, ⟨n, by simp, Nat.zero_le _, h0⟩, ?_⟩
  rintro i m σ H ⟨rfl, hi, p⟩
  by_cases hlt : i < n
  · exact .inr ⟨hgo i σ H hlt p, Pv (i + 1), fun σ' H' p' => ⟨n - (i + 1), by omega, rfl, hlt, p'⟩, fun x H' y => hs i x σ H H' hlt p y⟩
  · obtain rfl : i = n := by omega
    exact .inl ⟨hst σ H p, hd σ H p⟩
def LcW (J : It) (g : TG) (tt : TT) (te : TE) (vs : List Nat) (σ : L2.St) (Q : VK) (H1 : Hp) : Prop := ∀ D, H1 D = none → ∃ W : Nat → Nat → Hp → Prop, (∃ m, W 0 m (upd H1 D (.lst []))) ∧ ∀ i m H, W i m H →
  (J.stop i H ∧ Q (.ref D) H) ∨ (J.go i H ∧ ∃ Nx : Hp → Prop, (∀ H', Nx H' → ∃ m', m' < m ∧ W (i + 1) m' H') ∧ ∀ x H', J.yld i H x H' → g x (wipe σ vs) H' fun σ2 H2 => wipe σ2 vs = wipe σ vs ∧ tt σ2 H2 fun b H3 =>
    if b = true then te σ2 H3 fun y H4 => ∃ acc, H4 D = some (.lst acc) ∧ acc.length < sizeLine ∧ Nx (upd H4 D (.lst (acc ++ [y]))) else Nx H3)
theorem lc_it (n : Nat) (Pv : Addr → Nat → Hp → Prop) (h0 : ∀ Da H', H Da = none → Same H H' → H' Da = some (.lst []) → Pv Da 0 H') (hgo : ∀ Da i H', H Da = none → i < n → Pv Da i H' → J.go i H') (hst : ∀ Da H', H Da = none → Pv Da n H' → J.stop n H')
    (hs : ∀ Da i x H' H2, H Da = none → i < n → Pv Da i H' → J.yld i H' x H2 → g x (wipe σ vs) H2 (kLcG tt te vs σ Da Pv i)) (hd : ∀ Da H', H Da = none → Pv Da n H' → Q (.ref Da) H') : LcW J g tt te vs σ Q H := by
  intro Da hD
  refine ⟨fun i m H' => m = n - i ∧ i ≤ n ∧ Pv Da i H', ⟨n, by simp, Nat.zero_le _, h0 Da _ hD (Same.new hD) upd_same⟩, ?_⟩
  rintro i m H' ⟨rfl, hi, p⟩
  by_cases hlt : i < n
  · exact .inr ⟨hgo Da i H' hD hlt p, Pv Da (i + 1), fun H'' p' => ⟨n - (i + 1), by omega, rfl, hlt, p'⟩, fun x H'' y => hs Da i x H' H'' hD hlt p y⟩
  · obtain rfl : i = n := by omega
    exact .inl ⟨hst Da H' hD p, hd Da H' hD p⟩
def DcW (J : It) (g : TG) (tt : TT) (tk tv : TE) (vs : List Nat) (σ : L2.St) (Q : VK) (H1 : Hp) : Prop := ∀ D, H1 D = none → ∃ W : Nat → Nat → Hp → Prop, (∃ m, W 0 m (upd H1 D (.dK []))) ∧ ∀ i m H, W i m H →
  (J.stop i H ∧ Q (.ref D) H) ∨ (J.go i H ∧ ∃ Nx : Hp → Prop, (∀ H', Nx H' → ∃ m', m' < m ∧ W (i + 1) m' H') ∧ ∀ x H', J.yld i H x H' → g x (wipe σ vs) H' fun σ2 H2 => wipe σ2 vs = wipe σ vs ∧ tt σ2 H2 fun b H3 =>
    if b = true then tk σ2 H3 fun y H4 => tv σ2 H4 fun z H5 => ∃ kvs k, y = kV k ∧ H5 D = some (.dK kvs) ∧ kvs.length < sizeLine ∧ Nx (upd H5 D (.dK (putK kvs k z))) else Nx H3)
def kDcE (Da : Addr) (Pv : Addr → Nat → Hp → Prop) (i : Nat) (y : V) : VK := fun z H5 => ∃ kvs k, y = kV k ∧ H5 Da = some (.dK kvs) ∧ kvs.length < sizeLine ∧ Pv Da (i + 1) (upd H5 Da (.dK (putK kvs k z)))
def kDcT (tk tv : TE) (σ2 : L2.St) (Da : Addr) (Pv : Addr → Nat → Hp → Prop) (i : Nat) : Bool → Hp → Prop := fun b H3 => if b = true then tk σ2 H3 fun y H4 => tv σ2 H4 (kDcE Da Pv i y) else Pv Da (i + 1) H3
def kDcG (tt : TT) (tk tv : TE) (vs : List Nat) (σ : L2.St) (Da : Addr) (Pv : Addr → Nat → Hp → Prop) (i : Nat) : L2.St → Hp → Prop := fun σ2 H2 => wipe σ2 vs = wipe σ vs ∧ tt σ2 H2 (kDcT tk tv σ2 Da Pv i)
theorem r_kDcG {Da : Addr} {Pv : Addr → Nat → Hp → Prop} {i : Nat} {σ2 : L2.St} (h : wipe σ2 vs = wipe σ vs) (q : tt σ2 H (kDcT tk tv σ2 Da Pv i)) : kDcG tt tk tv vs σ Da Pv i σ2 H := ⟨h, q⟩
theorem r_kDcT {Da : Addr} {Pv : Addr → Nat → Hp → Prop} {i : Nat} {σ2 : L2.St} (q : if b = true then tk σ2 H fun y H4 => tv σ2 H4 (kDcE Da Pv i y) else Pv Da (i + 1) H) : kDcT tk tv σ2 Da Pv i b H := q
theorem r_kDcE {Da : Addr} {Pv : Addr → Nat → Hp → Prop} {i : Nat} {kvs : List (Key × V)} {kx : Key} {zv : V} (h : H Da = some (.dK kvs)) (hz : kvs.length < 1000000) (q : ∀ H', But Da H H' → H' Da = some (.dK (putK kvs kx zv)) → Pv Da (i + 1) H') : kDcE Da Pv i (kV kx) zv H :=
  ⟨kvs, kx, rfl, h, sz6 hz, q _ But.upd upd_same⟩
theorem dc_it (n : Nat) (Pv : Addr → Nat → Hp → Prop) (h0 : ∀ Da H', H Da = none → Same H H' → H' Da = some (.dK []) → Pv Da 0 H') (hgo : ∀ Da i H', H Da = none → i < n → Pv Da i H' → J.go i H') (hst : ∀ Da H', H Da = none → Pv Da n H' → J.stop n H')
    (hs : ∀ Da i x H' H2, H Da = none → i < n → Pv Da i H' → J.yld i H' x H2 → g x (wipe σ vs) H2 (kDcG tt tk tv vs σ Da Pv i)) (hd : ∀ Da H', H Da = none → Pv Da n H' → Q (.ref Da) H') : DcW J g tt tk tv vs σ Q H := by
  intro Da hD
  refine ⟨fun i m H' => m = n - i ∧ i ≤ n ∧ Pv Da i H', ⟨n, by simp, Nat.zero_le _, h0 Da _ hD (Same.new hD) upd_same⟩, ?_⟩
  rintro i m H' ⟨rfl, hi, p⟩
  by_cases hlt : i < n
  · exact .inr ⟨hgo Da i H' hD hlt p, Pv Da (i + 1), fun H'' p' => ⟨n - (i + 1), by omega, rfl, hlt, p'⟩, fun x H'' y => hs Da i x H' H'' hD hlt p y⟩
  · obtain rfl : i = n := by omega
    exact .inl ⟨hst Da H' hD p, hd Da H' hD p⟩
/-! over a text -/
def kForS (g : TG) (tw : TS) (D : Ends) (σ : L2.St) : VK := fun v H1 => ∃ x, v = .str x ∧ LoopW (Its x) g tw D σ H1
theorem r_forS (h : te σ H (kForS g tw D σ)) : tFor (iStr te) g tw D σ H := h
theorem r_kForS (Pv : Nat → L2.St → Hp → Prop) (h0 : Pv 0 σ H) (hs : ∀ i c σ' H', z.cps[i]? = some c → Pv i σ' H' → g (.str ⟨#[c]⟩) σ' H' fun σ2 H3 => tw { D with nx := Pv (i + 1), ct := Pv (i + 1), bk := D.nx } σ2 H3)
    (hd : ∀ σ' H', Pv z.cps.size σ' H' → D.nx σ' H') : kForS g tw D σ (.str z) H :=
  ⟨z, rfl, loop_it z.cps.size Pv h0 (fun i _ _ hi _ => hi) (fun _ _ _ => Nat.le_refl _) (fun i x σ' H' H2 _ p y => by
    obtain ⟨rfl, c, hc, rfl⟩ := y
    exact hs i c σ' _ hc p) hd⟩
def kLcS (g : TG) (tt : TT) (te : TE) (vs : List Nat) (σ : L2.St) (Q : VK) : VK := fun v H1 => ∃ x, v = .str x ∧ LcW (Its x) g tt te vs σ Q H1
theorem r_lcS (h : ta σ H (kLcS g tt te vs σ Q)) : tLc (iStr ta) g tt te vs σ H Q := h
theorem r_kLcS (Pv : Addr → Nat → Hp → Prop) (h0 : ∀ Da H', H Da = none → Same H H' → H' Da = some (.lst []) → Pv Da 0 H')
    (hs : ∀ Da i c H', H Da = none → z.cps[i]? = some c → Pv Da i H' → g (.str ⟨#[c]⟩) (wipe σ vs) H' (kLcG tt te vs σ Da Pv i)) (hd : ∀ Da H', H Da = none → Pv Da z.cps.size H' → Q (.ref Da) H') : kLcS g tt te vs σ Q (.str z) H :=
  ⟨z, rfl, lc_it z.cps.size Pv h0 (fun _ i _ _ hi _ => hi) (fun _ _ _ _ => Nat.le_refl _) (fun Da i x H' H2 hD _ p y => by
    obtain ⟨rfl, c, hc, rfl⟩ := y
    exact hs Da i c _ hD hc p) hd⟩
/-! over a tuple, in a block -/
def kLcTu (K : PySem.W.Frag) (g : TG) (tt : TT) (te : TE) (vs : List Nat) (σ : L2.St) (Q : VK) : VK := fun x H1 => ∃ a, x = .ref a ∧ (∃ xs, SqT K H1 a xs) ∧ LcW (Itt K a) g tt te vs σ Q H1
theorem r_lcTu (q : tl σ H (kLcTu K g tt te vs σ Q)) : tLc (iTup K tl) g tt te vs σ H Q := q
theorem r_kLcTu (Pv : Addr → Nat → Hp → Prop) (hl : SqT K H a xs) (h0 : ∀ Da H', H Da = none → Same H H' → H' Da = some (.lst []) → Pv Da 0 H') (hk : ∀ Da i H', Pv Da i H' → SqT K H' a xs)
    (hs : ∀ Da i x H', H Da = none → xs[i]? = some x → Pv Da i H' → g x (wipe σ vs) H' (kLcG tt te vs σ Da Pv i)) (hd : ∀ Da H', H Da = none → Pv Da xs.length H' → Q (.ref Da) H') : kLcTu K g tt te vs σ Q (.ref a) H :=
  ⟨a, rfl, ⟨xs, hl⟩, fun Da hD => lc_tup (Pv Da) (h0 Da _ hD (Same.new hD) upd_same) (fun i H' _ p => hk Da i H' p) (fun i x H' hx p => hs Da i x H' hD hx p) (fun H' p => hd Da H' hD p)⟩
end
end Wp
set_option Elab.async false
set_option linter.all false
set_option maxRecDepth 100000
set_option maxHeartbeats 4000000
/-! One rule or another; things locked while they are gone through; sums of tuples. -/
namespace Wp
open PySem PySem.Spec PyProof.Rows L2
/-! ### either -/
def iEither (a b : TI) : TI := fun σ H R => a σ H R ∨ b σ H R
theorem pi_either {X : Cx} {tg l : Expr} {a b : TI} (ha : PI X tg l a) (hb : PI X tg l b) : PI X tg l (iEither a b) :=
  ⟨fun pins s σ H R I h => h.elim (fun h => ha.run pins s σ H R I h) (fun h => hb.run pins s σ H R I h)⟩
def rEither (a b : List V → Hp → VK → Prop) : List V → Hp → VK → Prop := fun xs H Q => a xs H Q ∨ b xs H Q
theorem c_either {X : Cx} {f : Value} {a b : List V → Hp → VK → Prop} (ha : CallR X f a) (hb : CallR X f b) : CallR X f (rEither a b) :=
  fun pins s σ H xs us Q I r h => h.elim (fun h => ha pins s σ H xs us Q I r h) (fun h => hb pins s σ H xs us Q I r h)
/-- code that is not reached -/
theorem pe_dead {X : Cx} {e : Expr} : PE X e (fun _ _ _ => False) := ⟨fun _ _ _ _ _ _ h => h.elim⟩
theorem pt_dead {X : Cx} {e : Expr} : PT X e (fun _ _ _ => False) := ⟨fun _ _ _ _ _ _ h => h.elim⟩
/-- a list or a tuple -/
def SeqV (K : PySem.W.Frag) (H : Hp) (p : Addr) (xs : List V) : Prop := SqL K H p xs ∨ SqT K H p xs
section
variable {K : PySem.W.Frag} {H : Hp} {Q : VK} {p d : Addr} {xs : List V} {σ : L2.St} {g : TG} {tt : TT} {te tk tv ta tl : TE} {vs : List Nat} {i j : Nat}
theorem r_lenSeq (h : SeqV K H p xs) (q : Q (.int (xs.length : Nat)) H) : rLen K [.ref p] H Q := h.elim (fun h => r_lenL h q) (fun h => r_lenT h q)
theorem r_lcEither (hl : SeqV K H p xs) (h : σ[i]? = some (some (.ref p))) (Pv : Addr → Nat → Hp → Prop) (h0 : ∀ Da H', H Da = none → Same H H' → H' Da = some (.lst []) → Pv Da 0 H') (hk : ∀ Da i H', Pv Da i H' → SeqV K H' p xs ∧ Same H H')
    (hs : ∀ Da i x H', H Da = none → xs[i]? = some x → Pv Da i H' → g x (wipe σ vs) H' (kLcG tt te vs σ Da Pv i)) (hd : ∀ Da H', H Da = none → Pv Da xs.length H' → Q (.ref Da) H')
    (keepL : ∀ H', Same H H' → SqL K H p xs → SqL K H' p xs) (keepT : ∀ H', Same H H' → SqT K H p xs → SqT K H' p xs) :
    tLc (iEither (iList K (tVar i)) (iTup K (tVar i))) g tt te vs σ H Q := by
  rcases hl with hl | hl
  · exact .inl (r_lcL (r_var h (r_kLcL Pv hl h0 (fun Da i H' p => keepL H' (hk Da i H' p).2 hl) hs hd)))
  · exact .inr (r_lcTu (r_var h (r_kLcTu Pv hl h0 (fun Da i H' p => keepT H' (hk Da i H' p).2 hl) hs hd)))
theorem SqL.same {H' : Hp} (e : Same H H') (h : SqL K H p xs) : SqL K H' p xs := by
  rcases h with (h | ⟨o, h⟩) | h
  · exact .inl (.inl (e _ _ h))
  · exact .inl (.inr ⟨o, e _ _ h⟩)
  · exact .inr h
theorem SqT.same {H' : Hp} (e : Same H H') (h : SqT K H p xs) : SqT K H' p xs := by
  rcases h with (h | ⟨o, h⟩) | h
  · exact .inl (.inl (e _ _ h))
  · exact .inl (.inr ⟨o, e _ _ h⟩)
  · exact .inr h
theorem SeqV.same {H' : Hp} (e : Same H H') (h : SeqV K H p xs) : SeqV K H' p xs := h.elim (fun h => .inl (SqL.same e h)) (fun h => .inr (SqT.same e h))
/-! ### locks -/
def kLock (d : Addr) (od : Obj) (u : HO) (Q : VK) : VK := fun v H' => H' d = some (.frz od u) ∧ Q v (upd H' d u)
theorem r_lockD {kvs : List (Key × V)} {t : TE} (h : H d = some (.dK kvs)) (q : ∀ od H1, H1 d = some (.frz od (.dK kvs)) → (∀ b o, H b = some o → b ≠ d → H1 b = some o) → (∀ b, H1 b = none → H b = none) → t σ H1 (kLock d od (.dK kvs) Q)) : tLockE t σ H Q :=
  ⟨d, .dK kvs, h, True.intro, fun od => q od _ upd_same (fun b o e n => by rw [upd_ne n]; exact e) (fun b e => by
    by_cases hb : b = d
    · rw [hb, upd_same] at e
      cases e
    · rw [upd_ne hb] at e
      exact e)⟩
theorem r_kLock {od : Obj} {u : HO} {v : V} {H0 H1 : Hp} (h0 : H0 d = some u) (h1 : ∀ b o, H0 b = some o → b ≠ d → H1 b = some o) (hd : H1 d = some (.frz od u)) (e : Same H1 H) (q : ∀ H', Same H0 H' → (∀ b o, H b = some o → b ≠ d → H' b = some o) → Q v H') : kLock d od u Q v H :=
  ⟨e _ _ hd, q _ (fun b o hb => by
    by_cases hbd : b = d
    · rw [hbd] at hb ⊢
      rw [upd_same, ← h0, hb]
    · rw [upd_ne hbd]
      exact e _ _ (h1 b o hb hbd)) (fun b o hb n => by rw [upd_ne n]; exact hb)⟩
def kLcK (g : TG) (tt : TT) (te : TE) (vs : List Nat) (σ : L2.St) (Q : VK) : VK := fun x H1 => ∃ d o, x = .ref d ∧ ((∃ kvs, H1 d = some (.frz o (.dK kvs)) ∧ LcW (Itk d o kvs) g tt te vs σ Q H1) ∨ ∃ kvs, H1 d = some (.frz o (.dT kvs)) ∧ LcW (Itkt d o kvs) g tt te vs σ Q H1)
theorem r_lcK (h : ta σ H (kLcK g tt te vs σ Q)) : tLc (iKeys ta) g tt te vs σ H Q := h
theorem r_kLcK {o : Obj} {kvs : List (Key × V)} (hd : H d = some (.frz o (.dK kvs))) (Pv : Addr → Nat → Hp → Prop) (h0 : ∀ Da H', H Da = none → Same H H' → H' Da = some (.lst []) → Pv Da 0 H') (hk : ∀ Da i H', Pv Da i H' → H' d = some (.frz o (.dK kvs)))
    (hs : ∀ Da i k v H', H Da = none → kvs[i]? = some (k, v) → Pv Da i H' → g (kV k) (wipe σ vs) H' (kLcG tt te vs σ Da Pv i)) (hf : ∀ Da H', H Da = none → Pv Da kvs.length H' → Q (.ref Da) H') : kLcK g tt te vs σ Q (.ref d) H :=
  ⟨d, o, rfl, .inl ⟨kvs, hd, lc_it kvs.length Pv h0 (fun Da i H' _ hi p => ⟨hk Da i H' p, hi⟩) (fun Da H' _ p => ⟨hk Da _ H' p, Nat.le_refl _⟩) (fun Da i x H' H2 hD _ p y => by
    obtain ⟨rfl, k, v, e, rfl⟩ := y
    exact hs Da i k v _ hD e p) hf⟩⟩
theorem r_kDGetF {a : Addr} {kvs : List (Key × V)} {o : Obj} {z : Str} {v : V} (h1 : H a = some (.frz o (.dK kvs))) (h2 : valV kvs (Sum.inr z) = some v) (q : Q v H) : kDGet Q (.ref a) (.str z) H :=
  ⟨a, v, rfl, .inl ⟨kvs, Sum.inr z, .inr ⟨o, h1⟩, rfl, h2.symm⟩, q⟩
def rLenD : List V → Hp → VK → Prop := fun xs H Q => ∃ a kvs, xs = [V.ref a] ∧ H a = some (.dK kvs) ∧ Q (.int kvs.length) H
theorem c_lenD {X : Cx} : CallR X (.builtin "len") rLenD := call_lenD
theorem r_lenD {kvs : List (Key × V)} (h : H d = some (.dK kvs)) (q : Q (.int kvs.length) H) : rLenD [.ref d] H Q := ⟨d, kvs, rfl, h, q⟩
/-! a dict made in a block, over a list -/
def kDcL (K : PySem.W.Frag) (g : TG) (tt : TT) (tk tv : TE) (vs : List Nat) (σ : L2.St) (Q : VK) : VK := fun x H1 => ∃ a, x = .ref a ∧ (∃ xs, SqL K H1 a xs) ∧ DcW (Itl K a) g tt tk tv vs σ Q H1
theorem r_dcL (h : tl σ H (kDcL K g tt tk tv vs σ Q)) : tDc (iList K tl) g tt tk tv vs σ H Q := h
theorem r_kDcL (hl : SqL K H p xs) (Pv : Addr → Nat → Hp → Prop) (h0 : ∀ Da H', H Da = none → Same H H' → H' Da = some (.dK []) → Pv Da 0 H') (hk : ∀ Da i H', Pv Da i H' → SqL K H' p xs)
    (hs : ∀ Da i x H', H Da = none → xs[i]? = some x → Pv Da i H' → g x (wipe σ vs) H' (kDcG tt tk tv vs σ Da Pv i)) (hd : ∀ Da H', H Da = none → Pv Da xs.length H' → Q (.ref Da) H') : kDcL K g tt tk tv vs σ Q (.ref p) H :=
  ⟨p, rfl, ⟨xs, hl⟩, dc_it xs.length Pv h0 (fun Da i H' _ hi p => ⟨xs, xs[i], hk Da i H' p, by simp [hi]⟩) (fun Da H' _ p => ⟨xs, hk Da _ H' p, Nat.le_refl _⟩) (fun Da i x H' H2 hD _ p y => by
    obtain ⟨rfl, y⟩ := y
    exact hs Da i x _ hD (y xs (hk Da i _ p)) p) hd⟩
end
end Wp
set_option Elab.async false
set_option linter.all false
set_option maxRecDepth 100000
set_option maxHeartbeats 4000000
/-! Lists and tuples by their kind; all of bools; slices. -/
namespace Wp
open PySem PySem.Spec PyProof.Rows L2
section
variable {K : PySem.W.Frag} {H : Hp} {Q : VK} {p : Addr} {xs : List V}
theorem SqL.ty (h : SqL K H p xs) : TyX K H (.ref p) (.type "list") := by
  rcases h with (h | ⟨o, h⟩) | ⟨o, its, n, h, hc, _⟩
  · exact .base (.lst h)
  · exact .base (.frz h)
  · exact .kList h hc
theorem SqT.ty (h : SqT K H p xs) : TyX K H (.ref p) (.type "tuple") := by
  rcases h with (h | ⟨o, h⟩) | ⟨o, its, n, h, hc, _⟩
  · exact .base (.tup h)
  · exact .fTuple h
  · exact .kTuple h hc
theorem r_isSeq {tp : Addr} (h : SeqV K H p xs) (ht : H tp = some (.tup [.ty "list", .ty "tuple"])) (q : Q (.bl true) H) : rIsiT K [.ref p, .ref tp] H Q := by
  rcases h with h | h
  · exact ⟨_, tp, _, _, [.type "list", .type "tuple"], true, rfl, ht, .cons (.ty _) (.cons (.ty _) .nil), SqL.ty h, kitAny_cons (kit_ty (r := true) (by decide +kernel)) (fun e => by cases e) (fun _ => rfl), q⟩
  · exact ⟨_, tp, _, _, [.type "list", .type "tuple"], true, rfl, ht, .cons (.ty _) (.cons (.ty _) .nil), SqT.ty h, kitAny_cons (kit_ty (r := false) (by decide +kernel)) (fun _ => kitAny_cons (kit_ty (r := true) (by decide +kernel)) (fun e => by cases e) (fun _ => rfl)) (fun e => by cases e), q⟩
theorem r_inSign {c : Nat} {z : Str} (q : Q (.bl (decide (c ∈ z.cps.toList))) H) : ∃ (c' : Nat) (z' : Str), V.str ⟨#[c]⟩ = .str ⟨#[c']⟩ ∧ V.str z = .str z' ∧ Q (.bl (decide (c' ∈ z'.cps.toList))) H := ⟨c, z, rfl, rfl, q⟩
theorem r_all {bs : List Bool} (h : SqL K H p (bs.map V.bl)) (q : Q (.bl (bs.all id)) H) : rAll K [.ref p] H Q := ⟨p, bs, rfl, h, q⟩
theorem all_rep : ∀ n, (List.replicate n true).all id = true
  | 0 => rfl
  | n + 1 => by rw [List.replicate_succ, List.all_cons, all_rep n]; rfl
theorem rep_more (n : Nat) : (List.replicate (n + 1) true).map V.bl = (List.replicate n true).map V.bl ++ [V.bl true] := by
  rw [List.replicate_succ', List.map_append]
  rfl
theorem r_isiDict {kvs : List (Key × V)} (h : H p = some (.dK kvs)) (q : Q (.bl true) H) : rIsi K [.ref p, .ty "dict"] H Q := r_isiT (.base (.dK h)) (by decide +kernel) q
end
theorem cutV_m1 (xs : List V) : cutV xs none (some (-1)) = xs.dropLast := by
  have e : HT.sIx xs.length xs.length (some (-1)) = xs.length - 1 := by
    show (if (-1 : Int) < 0 then ((-1 : Int) + (xs.length : Int)).toNat else min (-1 : Int).toNat xs.length) = _
    rw [if_pos (by decide)]
    omega
  unfold cutV
  rw [e, List.dropLast_eq_take]
  rfl
end Wp
set_option Elab.async false
set_option linter.all false
set_option maxRecDepth 100000
set_option maxHeartbeats 4000000
/-! dict(zip(t, u)) of two tuples. -/
namespace Wp
open PySem PySem.Spec PyProof.Rows L2
open PySem.Sem (wp)
/-- an iterator over the items xs: S k says that k of them are taken -/
structure Nx (prog : Program) (w : World) (it l : Addr) (xs : Array Value) (S : Nat → Heap → Prop) : Prop where
  step : ∀ {A : Around} {E : Value → Shared → Prop} {s : Shared} {k : Nat} {x : Value} {Q : Value → Shared → Prop}, S k s.heap → xs[k]? = some x →
    (∀ g, S (k + 1) g → Heap.SameBut it s.heap g → Q x { s with heap := g }) → wpAny (model prog w) A (Builtin.SmallTypes.nextOf (.ref it)) Q E s
  stop : ∀ {A : Around} {E : Value → Shared → Prop} {s : Shared} {k : Nat} {Q : Value → Shared → Prop}, A.handled = none → S k s.heap → xs[k]? = none →
    (∀ g e, Heap.ExtBut it s.heap g → (∃ o, g.get? e = some o ∧ o.cls = .type "StopIteration") → E (.ref e) { s with heap := g }) → wpAny (model prog w) A (Builtin.SmallTypes.nextOf (.ref it)) Q E s
  keep : ∀ {k : Nat} {h g : Heap}, S k h → (∀ b, b = it ∨ b = l → ∀ o, h.get? b = some o → g.get? b = some o) → S k g
/-- of a tuple -/
def St (it l : Addr) (xs : Array Value) (k : Nat) (h : Heap) : Prop := h.IsTupleIter it l k ∧ h.IsTuple l xs
theorem nx_tup (prog : Program) (w : World) {it l : Addr} {xs : Array Value} (ne : l ≠ it) : Nx prog w it l xs (St it l xs) where
  step := fun ⟨a, b⟩ hx q => RZ.nextOf_tuple_item a b hx fun g a' sb => q g ⟨a', b.at fun o e => sb.extBut _ _ ne e⟩ sb
  stop := fun hh ⟨a, b⟩ hx q => RZ.nextOf_tuple_end hh a b hx q
  keep := fun ⟨a, b⟩ k => ⟨a.at fun o e => k _ (.inl rfl) o e, b.at fun o e => k _ (.inr rfl) o e⟩
section
variable {prog : Program} {w : World} {A : Around} {E : Value → Shared → Prop} {s : Shared} {z TI TO T i1 i2 l1 l2 : Addr} {f : Bool} {ob : Obj} {k : Nat} {xs ys : Array Value} {x y : Value} {S1 S2 : Nat → Heap → Prop}
/-- a zip whose pair is still held hands out a new one -/
theorem held_next {Q : Value → Shared → Prop} (N1 : Nx prog w i1 l1 xs S1) (N2 : Nx prog w i2 l2 ys S2) (D : ZipApart z TI TO i1 i2 l1 l2) (hz : IsZipHeld s.heap z TI TO T f) (hT : s.heap.get? T = some ob)
    (hp : IsPair s.heap TI (.ref i1) (.ref i2)) (c1 : S1 k s.heap) (c2 : S2 k s.heap) (ex : xs[k]? = some x) (ey : ys[k]? = some y)
    (q : ∀ g, IsZipHeld g z TI TO T true → S1 (k + 1) g → S2 (k + 1) g → IsPair g s.heap.objs.size x y → (∀ c o, c ≠ z → c ≠ i1 → c ≠ i2 → s.heap.get? c = some o → g.get? c = some o) → Q (.ref s.heap.objs.size) { s with heap := g }) :
    wpAny (model prog w) A (Builtin.«zip.__next__» ⟨[.ref z], []⟩) (fun r t => ∃ v, r = .done (.ret v) ∧ Q v t) E s := by
  show wpAny (model prog w) A (field (.ref z) 2 >>= _) _ E s
  refine wpAny_bind (wpAny_field hz rfl (x := .bool false) rfl ?_)
  show wpAny (model prog w) A (field (.ref z) 3 >>= _) _ E s
  refine wpAny_bind (wpAny_field hz rfl (x := .ref TI) rfl (wpAny_bind (wpAny_seqItems hp rfl ?_)))
  show wpAny (model prog w) A (Builtin.SmallTypes.ownedTupleIsFree (.ref z) >>= _) _ E s
  refine wpAny_bind (wpAny_tupleHeld_zip hz hT fun ga za sa => ?_)
  simp only [Bool.false_eq_true, if_false]
  refine wpAny_bind ?_
  rw [← Array.forIn_toList]
  simp only [List.forIn_cons, List.forIn_nil]
  have c1a : S1 k ga := N1.keep c1 fun b hb o e => sa.extBut _ _ (by rcases hb with rfl | rfl; exact D.i1z; exact D.l1z) e
  have c2a : S2 k ga := N2.keep c2 fun b hb o e => sa.extBut _ _ (by rcases hb with rfl | rfl; exact D.i2z; exact D.l2z) e
  refine wpAny_bind (wpAny_bind (wpAny_holding ?_))
  show wpAny (model prog w) A (Builtin.SmallTypes.nextOf (.ref i1) >>= _) _ E { s with heap := ga }
  refine wpAny_bind (N1.step (s := { s with heap := ga }) c1a ex fun gb c1b sb => wpAny_pure (wpAny_pure ?_))
  have c2b : S2 k gb := N2.keep c2a fun b hb o e => sb.extBut _ _ (by rcases hb with rfl | rfl; exact D.i12.symm; exact D.l2i1) e
  refine wpAny_bind (wpAny_bind (wpAny_holding ?_))
  show wpAny (model prog w) A (Builtin.SmallTypes.nextOf (.ref i2) >>= _) _ E { s with heap := gb }
  refine wpAny_bind (N2.step (s := { s with heap := gb }) c2b ey fun gc c2c sc => wpAny_pure (wpAny_pure (wpAny_pure ?_)))
  have c1c : S1 (k + 1) gc := N1.keep c1b fun b hb o e => sc.extBut _ _ (by rcases hb with rfl | rfl; exact D.i12; exact D.l1i2) e
  show wpAny (model prog w) A (newTuple [x, y] >>= _) _ E { s with heap := gc }
  refine wpAny_bind (wpAny_newTuple (wpAny_pure ⟨_, rfl, ?_⟩))
  show Q (.ref gc.objs.size) _
  have sz : gc.objs.size = s.heap.objs.size := sc.1.trans (sb.1.trans sa.1)
  have zc : IsZipHeld gc z TI TO T true := sc.extBut _ _ D.i2z.symm (sb.extBut _ _ D.i1z.symm za)
  have up : ∀ c o, gc.get? c = some o → (gc.push { cls := .type "tuple", data := .seq #[x, y] }).get? c = some o := fun c o e => Heap.get?_push_of_some _ e
  have pr : IsPair (gc.push { cls := .type "tuple", data := .seq #[x, y] }) gc.objs.size x y := Heap.get?_push_size _ rfl
  have fin := q (gc.push { cls := .type "tuple", data := .seq #[x, y] }) (up _ _ zc) (N1.keep c1c fun b _ o e => up b o e) (N2.keep c2c fun b _ o e => up b o e) (by rw [← sz]; exact pr)
    fun c o n1 n2 n3 e => up _ _ (sc.extBut _ _ n3 (sb.extBut _ _ n2 (sa.extBut _ _ n1 e)))
  rw [← sz] at fin
  exact fin
/-- .. or ends -/
theorem held_end {Q : PySem.Fin → Shared → Prop} (hh : A.handled = none) (N1 : Nx prog w i1 l1 xs S1) (N2 : Nx prog w i2 l2 ys S2) (D : ZipApart z TI TO i1 i2 l1 l2) (hz : IsZipHeld s.heap z TI TO T f) (hT : s.heap.get? T = some ob)
    (hp : IsPair s.heap TI (.ref i1) (.ref i2)) (c1 : S1 k s.heap) (ex : xs[k]? = none)
    (q : ∀ g e, (∀ c o, c ≠ z → c ≠ i1 → c ≠ i2 → s.heap.get? c = some o → g.get? c = some o) → (∃ o, g.get? e = some o ∧ o.cls = .type "StopIteration") → E (.ref e) { s with heap := g }) :
    wpAny (model prog w) A (Builtin.«zip.__next__» ⟨[.ref z], []⟩) Q E s := by
  show wpAny (model prog w) A (field (.ref z) 2 >>= _) _ E s
  refine wpAny_bind (wpAny_field hz rfl (x := .bool false) rfl ?_)
  show wpAny (model prog w) A (field (.ref z) 3 >>= _) _ E s
  refine wpAny_bind (wpAny_field hz rfl (x := .ref TI) rfl (wpAny_bind (wpAny_seqItems hp rfl ?_)))
  show wpAny (model prog w) A (Builtin.SmallTypes.ownedTupleIsFree (.ref z) >>= _) _ E s
  refine wpAny_bind (wpAny_tupleHeld_zip hz hT fun ga za sa => ?_)
  simp only [Bool.false_eq_true, if_false]
  refine wpAny_bind ?_
  rw [← Array.forIn_toList]
  simp only [List.forIn_cons, List.forIn_nil]
  have c1a : S1 k ga := N1.keep c1 fun b hb o e => sa.extBut _ _ (by rcases hb with rfl | rfl; exact D.i1z; exact D.l1z) e
  refine wpAny_bind (wpAny_bind (wpAny_holding ?_))
  show wpAny (model prog w) A (Builtin.SmallTypes.nextOf (.ref i1) >>= _) _ E { s with heap := ga }
  exact wpAny_bind (N1.stop (s := { s with heap := ga }) hh c1a ex fun gb e sb he => q gb e (fun c o n1 n2 _ h => sb _ _ n2 (sa.extBut _ _ n1 h)) he)
theorem held_item {Q : Option Value → Shared → Prop} (N1 : Nx prog w i1 l1 xs S1) (N2 : Nx prog w i2 l2 ys S2) (D : ZipApart z TI TO i1 i2 l1 l2) (hz : IsZipHeld s.heap z TI TO T f) (hT : s.heap.get? T = some ob)
    (hp : IsPair s.heap TI (.ref i1) (.ref i2)) (c1 : S1 k s.heap) (c2 : S2 k s.heap) (ex : xs[k]? = some x) (ey : ys[k]? = some y)
    (q : ∀ g, IsZipHeld g z TI TO T true → S1 (k + 1) g → S2 (k + 1) g → IsPair g s.heap.objs.size x y → (∀ c o, c ≠ z → c ≠ i1 → c ≠ i2 → s.heap.get? c = some o → g.get? c = some o) → Q (some (.ref s.heap.objs.size)) { s with heap := g }) :
    wpAny (model prog w) A (pyNext (.ref z)) Q E s := by
  have ty : s.TypeIs (.ref z) "zip" := ⟨_, hz, rfl⟩
  unfold pyNext
  refine wpAny_bind (wpAny_attempt (wpAny_callSpecial?_slot (name := Str.ofString "__next__") ty F.slot_zip_next (wpAny_call_entry F.slot_zip_next ty F.entry_zip_next ?_ (F.args_zip_next_1 _))))
  exact held_next N1 N2 D hz hT hp c1 c2 ex ey fun g p1 p2 p3 p4 p5 => wpAny_pure (q g p1 p2 p3 p4 p5)
theorem held_none {Q : Option Value → Shared → Prop} (hh : A.handled = none) (N1 : Nx prog w i1 l1 xs S1) (N2 : Nx prog w i2 l2 ys S2) (D : ZipApart z TI TO i1 i2 l1 l2) (hz : IsZipHeld s.heap z TI TO T f) (hT : s.heap.get? T = some ob)
    (hp : IsPair s.heap TI (.ref i1) (.ref i2)) (c1 : S1 k s.heap) (ex : xs[k]? = none)
    (q : ∀ g, (∀ c o, c ≠ z → c ≠ i1 → c ≠ i2 → s.heap.get? c = some o → g.get? c = some o) → Q none { s with heap := g }) : wpAny (model prog w) A (pyNext (.ref z)) Q E s := by
  have ty : s.TypeIs (.ref z) "zip" := ⟨_, hz, rfl⟩
  unfold pyNext
  refine wpAny_bind (wpAny_attempt (wpAny_callSpecial?_slot (name := Str.ofString "__next__") ty F.slot_zip_next (wpAny_call_entry F.slot_zip_next ty F.entry_zip_next (held_end hh N1 N2 D hz hT hp c1 ex fun g e kp he => ?_) (F.args_zip_next_1 _))))
  obtain ⟨o, ho, hc⟩ := he
  exact wpAny_bind (wpAny_isInstance (T := "StopIteration") (b := true) ⟨o, ho, hc⟩ isSubtype_stop (wpAny_pure (q _ kp)))
/-- what stands while the pairs of two tuples of one length are drawn -/
def ZSt (z TI TO i1 i2 l1 l2 d : Addr) (xs ys : Array Value) (i : Nat) (h : Heap) : Prop := IsPair h TI (.ref i1) (.ref i2) ∧ St i1 l1 xs i h ∧ St i2 l2 ys i h ∧
  ((IsZip h z TI TO .none ∧ ∃ a b, IsPair h TO a b) ∨ ∃ T f ob, IsZipHeld h z TI TO T f ∧ h.get? T = some ob ∧ T ≠ z ∧ T ≠ i1 ∧ T ≠ i2 ∧ T ≠ d)
theorem zip_src {d : Addr} (hh : A.handled = none) (D : ZipApart z TI TO i1 i2 l1 l2) (hl : xs.size = ys.size) (nd : d ≠ z ∧ d ≠ TI ∧ d ≠ TO ∧ d ≠ i1 ∧ d ≠ i2 ∧ d ≠ l1 ∧ d ≠ l2) :
    PairSrc prog w A z d [z, TO, i1, i2] xs.size (fun i a b => xs[i]? = some a ∧ ys[i]? = some b) (ZSt z TI TO i1 i2 l1 l2 d xs ys) := by
  obtain ⟨dz, dTI, dTO, di1, di2, dl1, dl2⟩ := nd
  have M1 := nx_tup prog w (it := i1) (l := l1) (xs := xs) D.l1i1
  have M2 := nx_tup prog w (it := i2) (l := l2) (xs := ys) D.l2i2
  refine ⟨by simp [dz, dTO, di1, di2], ?_, ?_, ?_⟩
  · rintro i h g ⟨hp, c1, c2, hz⟩ kp
    refine ⟨kp _ _ dTI.symm hp, M1.keep c1 fun b hb o e => kp _ _ (by rcases hb with rfl | rfl; exact di1.symm; exact dl1.symm) e, M2.keep c2 fun b hb o e => kp _ _ (by rcases hb with rfl | rfl; exact di2.symm; exact dl2.symm) e, ?_⟩
    rcases hz with ⟨hz, a, b, hTO⟩ | ⟨T, f, ob, hz, hT, r1, r2, r3, r4⟩
    · exact .inl ⟨kp _ _ dz.symm hz, a, b, kp _ _ dTO.symm hTO⟩
    · exact .inr ⟨T, f, ob, kp _ _ dz.symm hz, kp _ _ r4 hT, r1, r2, r3, r4⟩
  · rintro i s Q E hi ⟨hp, c1, c2, hz⟩ hds q
    have ex := Array.getElem?_eq_getElem hi
    have ey := Array.getElem?_eq_getElem (hl ▸ hi : i < ys.size)
    have new : ∀ {c o}, s.heap.get? c = some o → s.heap.objs.size ≠ c := fun e => Nat.ne_of_gt (Heap.lt_size e)
    have n1 : s.heap.objs.size ≠ i1 := let ⟨_, e, _⟩ := c1.1; new e
    have n2 : s.heap.objs.size ≠ i2 := let ⟨_, e, _⟩ := c2.1; new e
    have out : ∀ {c : Addr}, c ∉ [z, TO, i1, i2] → c ≠ z ∧ c ≠ TO ∧ c ≠ i1 ∧ c ≠ i2 := fun h => by simpa using h
    rcases hz with ⟨hz, a, b, hTO⟩ | ⟨T, f, ob, hz, hT, r1, r2, r3, r4⟩
    · refine RZ.pyNext_zipT_item D hz hp hTO c1.1 c2.1 c1.2 c2.2 ex ey fun g z1 z2 z3 z4 z5 z6 kp => ?_
      refine q _ _ _ g s.toks ⟨ex, ey⟩ (.inl ⟨_, z5, rfl, _, rfl⟩) ⟨kp _ _ D.TIz D.TITO D.TIi1 D.TIi2 hp, ⟨z3, c1.2.at fun o e => kp _ _ D.l1z D.l1TO D.l1i1 D.l1i2 e⟩, ⟨z4, c2.2.at fun o e => kp _ _ D.l2z D.l2TO D.l2i1 D.l2i2 e⟩, .inr ⟨_, false, _, z1, z5, new hz, n1, n2, Nat.ne_of_gt hds⟩⟩ fun c o hc e => ?_
      obtain ⟨o1, o2, o3, o4⟩ := out hc
      exact kp _ _ o1 o2 o3 o4 e
    · refine held_item M1 M2 D hz hT hp c1 c2 ex ey fun g z1 z2 z3 z4 kp => ?_
      refine q _ _ _ g s.toks ⟨ex, ey⟩ (.inl ⟨_, z4, rfl, _, rfl⟩) ⟨kp _ _ D.TIz D.TIi1 D.TIi2 hp, z2, z3, .inr ⟨T, true, ob, z1, kp _ _ r1 r2 r3 hT, r1, r2, r3, r4⟩⟩ fun c o hc e => ?_
      obtain ⟨o1, o2, o3, o4⟩ := out hc
      exact kp _ _ o1 o3 o4 e
  · rintro s Q E ⟨hp, c1, c2, hz⟩ q
    have ex : xs[xs.size]? = none := Array.getElem?_eq_none (Nat.le_refl _)
    have out : ∀ {c : Addr}, c ∉ [z, TO, i1, i2] → c ≠ z ∧ c ≠ TO ∧ c ≠ i1 ∧ c ≠ i2 := fun h => by simpa using h
    rcases hz with ⟨hz, a, b, hTO⟩ | ⟨T, f, ob, hz, hT, r1, r2, r3, r4⟩
    · refine RZ.pyNext_zipT_end hh D hz hp hTO c1.1 c2.1 c1.2 c2.2 (.inl ex) fun g kp => q g s.toks fun c o hc e => ?_
      obtain ⟨o1, o2, o3, o4⟩ := out hc
      exact kp _ _ o1 o2 o3 o4 e
    · refine held_none hh M1 M2 D hz hT hp c1 ex fun g kp => q g s.toks fun c o hc e => ?_
      obtain ⟨o1, o2, o3, o4⟩ := out hc
      exact kp _ _ o1 o3 o4 e
theorem zip_arg (D : ZipApart z TI TO i1 i2 l1 l2) (hl : xs.size = ys.size) : PairArg prog w "zip" z [z, TI, TO, i1, i2, l1, l2] [z, TO, i1, i2] xs.size (fun i a b => xs[i]? = some a ∧ ys[i]? = some b)
    (fun h => IsZip h z TI TO .none ∧ IsPair h TI (.ref i1) (.ref i2) ∧ (∃ a b, IsPair h TO a b) ∧ St i1 l1 xs 0 h ∧ St i2 l2 ys 0 h) where
  type := fun s ok => ⟨_, ok.1, rfl⟩
  notDict := by decide
  keep := fun h g ⟨p1, p2, ⟨a, b, p3⟩, p4, p5⟩ kp => ⟨kp _ _ p1, kp _ _ p2, ⟨a, b, kp _ _ p3⟩, (nx_tup prog w D.l1i1).keep p4 fun b _ o e => kp b o e, (nx_tup prog w D.l2i2).keep p5 fun b _ o e => kp b o e⟩
  there := fun h ⟨p1, p2, ⟨a, c, p3⟩, ⟨⟨_, q1, _⟩, ⟨_, q2, _⟩⟩, ⟨⟨_, q3, _⟩, ⟨_, q4, _⟩⟩⟩ b hb => by
    simp only [List.mem_cons, List.not_mem_nil, or_false] at hb
    rcases hb with rfl | rfl | rfl | rfl | rfl | rfl | rfl
    · exact ⟨_, p1⟩
    · exact ⟨_, p2⟩
    · exact ⟨_, p3⟩
    · exact ⟨_, q1⟩
    · exact ⟨_, q3⟩
    · exact ⟨_, q2⟩
    · exact ⟨_, q4⟩
  sub := fun b hb => by
    simp only [List.mem_cons, List.not_mem_nil, or_false] at hb ⊢
    rcases hb with rfl | rfl | rfl | rfl <;> simp
  noKeys := fun A s Q E hA ok q => getAttrOr_miss_zip ok.1 rfl rfl rfl zip_no_keys (by decide +kernel) hA q
  iter := fun A s d Q E hA ⟨p1, p2, p3, p4, p5⟩ hd nd q => by
    simp only [List.mem_cons, List.not_mem_nil, or_false, not_or] at nd
    exact wpAny_pyIter_zip p1 (q z _ _ s.heap s.toks (zip_src hA D hl nd) ⟨p2, p4, p5, .inl ⟨p1, p3⟩⟩ (fun _ _ e => e) fun b hb => .inl hb)
end
/-- dict(zip(t, u)) -/
def kDZ (K : PySem.W.Frag) (Q : VK) : List V → Hp → Prop := fun vs H1 => ∃ (a b : Addr) (ks : List Key) (ys : List V), vs = [.ref a, .ref b] ∧ SqT K H1 a (ks.map kV) ∧ SqT K H1 b ys ∧ ks.length = ys.length ∧ ks.length ≤ 1000 ∧
  ∀ q, H1 q = none → Q (.ref q) (upd H1 q (.dK (mergeK [] (ks.zip ys))))
def tDZ (K : PySem.W.Frag) (ta : TA) : TE := fun σ H Q => ta σ H (kDZ K Q)
theorem keys_is : ∀ {ks : List Key} {us : List Value}, Vals (ks.map kV) us → ∀ {i : Nat} {u : Value}, us[i]? = some u → ∃ k, ks[i]? = some k ∧ keyIs k u = true
  | [], _, .nil, i, u, h => by simp at h
  | k :: ks, _, .cons r rr, 0, u, h => by
    have e := Option.some.inj h
    subst e
    refine ⟨k, rfl, ?_⟩
    cases k with
    | inl i =>
      obtain ⟨t, rfl⟩ := (show ∃ t, _ = Value.int i t from r)
      exact keyIs_int i t
    | inr x =>
      obtain ⟨t, rfl⟩ := (show ∃ t, _ = Value.str x t from r)
      exact keyIs_str x t
  | _ :: ks, _, .cons r rr, i + 1, u, h => keys_is (ks := ks) rr (i := i) h
theorem kv_zip : ∀ {ks : List Key} {ys : List V} {us : List Value}, Vals ys us → KV (ks.zip ys) (ks.zip us)
  | [], _, _, _ => .nil
  | _ :: _, _, _, .nil => .nil
  | k :: ks, _, _, .cons r rr => .cons ⟨rfl, r⟩ (kv_zip rr)
section
variable {X : Cx} {K : PySem.W.Frag} {a b : Expr} {ta : TA} {p p2 pos pos2 : Pos}
theorem pe_dictZip (hK : X.K = K) (hc : X.calm = true) (hd : Gl X "dict") (md : X.mg "dict" = none) (hz : Gl X "zip") (mz : X.mg "zip" = none) (ha : PA X [a, b] ta)
    (hs : starEach [a, b] X.env = (false, eval a X.env) :: starEach [b] X.env := by rfl) (hpl : (backTo pos2 (starEach [b] X.env)).any (·.1) = false := by rfl)
    (na : starEach [.Call (.Name "zip" p2) [a, b] [] pos2] X.env = (false, eval (.Call (.Name "zip" p2) [a, b] [] pos2) X.env) :: starEach [] X.env := by rfl) :
    PE X (.Call (.Name "dict" p) [.Call (.Name "zip" p2) [a, b] [] pos2] [] pos) (tDZ K ta) := by
  subst hK
  refine ⟨fun pins s σ H Q I h => ?_⟩
  have inner : wpAny (model X.prog X.w) X.A (eval (.Call (.Name "zip" p2) [a, b] [] pos2) X.env)
      (fun v t => ∃ (s1 : Shared) (H1 : Hp) (g : Heap) (l1 l2 : Addr) (ks : List Key) (ys : List V) (xa ya : List Value), Inv X pins σ H1 s1 ∧ t = { s1 with heap := g } ∧ v = .ref (s1.heap.objs.size + 4) ∧
        Vals (ks.map kV) xa ∧ Vals ys ya ∧ ks.length = ys.length ∧ ks.length ≤ 1000 ∧ (∀ q, H1 q = none → Q (.ref q) (upd H1 q (.dK (mergeK [] (ks.zip ys))))) ∧ l1 < s1.heap.objs.size ∧ l2 < s1.heap.objs.size ∧
        (∀ c o, s1.heap.get? c = some o → g.get? c = some o) ∧ g.objs.size = s1.heap.objs.size + 5 ∧ IsZip g (s1.heap.objs.size + 4) (s1.heap.objs.size + 2) (s1.heap.objs.size + 3) .none ∧
        IsPair g (s1.heap.objs.size + 2) (.ref s1.heap.objs.size) (.ref (s1.heap.objs.size + 1)) ∧ IsPair g (s1.heap.objs.size + 3) .none .none ∧
        St s1.heap.objs.size l1 xa.toArray 0 g ∧ St (s1.heap.objs.size + 1) l2 ya.toArray 0 g) X.xe s := by
    refine Call_ (ld_blt I hz mz PyProof.Rows.boot_zip (PyProof.Rows.callWith_type1 (thn (ha.run pos2 pins s σ H _ I h) ?_) hs hpl))
    rintro us s1 ⟨vs, H1, I1, r1, l1, l2, ks, ys, ev, t1, t2, el, e1000, q⟩
    subst ev
    match us, r1 with
    | _, .cons r (.cons r' .nil) =>
      obtain rfl := (show _ = Value.ref l1 from r)
      obtain rfl := (show _ = Value.ref l2 from r')
      obtain ⟨xa, rv, p1, _⟩ := I1.tuple t1
      obtain ⟨ya, rv2, p2, _⟩ := I1.tuple t2
      have q1 : s1.heap.IsTuple l1 xa.toArray := p1
      have q2 : s1.heap.IsTuple l2 ya.toArray := p2
      obtain ⟨o1, ho1, _⟩ := id q1
      obtain ⟨o2, ho2, _⟩ := id q2
      refine RZ.call_zipT q1 q2 fun g z1 z2 z3 z4 z5 z6 kp => ?_
      exact ⟨s1, H1, g, l1, l2, ks, ys, xa, ya, I1, rfl, rfl, rv, rv2, el, e1000, q, Heap.lt_size ho1, Heap.lt_size ho2, kp, z6, z1, z2, z3, ⟨z4, q1.at fun o e => kp _ _ e⟩, ⟨z5, q2.at fun o e => kp _ _ e⟩⟩
  refine Call_ (ld_blt I hd md PyProof.Rows.boot_dict (PyProof.Rows.callWith_type1 (args_cons (thn inner ?_) na) na))
  rintro v t ⟨s1, H1, g, l1, l2, ks, ys, xa, ya, I1, rfl, rfl, rv, rv2, el, e1000, q, lt1, lt2, kp, sz, z1, z2, z3, c1, c2⟩
  refine args_nil ?_
  have lx : xa.length = ks.length := by rw [← rv.length, List.length_map]
  have ly : ya.length = ks.length := by rw [← rv2.length, el]
  have D := PySem.W.ktu_apart s1.heap.objs.size l1 l2 lt1 lt2
  refine PySem.call_dict_pairs (knd := mixKind X.prog X.w) (kvs := ks.zip ya) (s := { s1 with heap := g }) (zip_arg D (by simp [lx, ly])) (I1.ok.hd hc) ⟨z1, z2, ⟨_, _, z3⟩, c1, c2⟩ ⟨?_, ?_⟩ (by simp [lx]; exact sz5 (by omega)) fun g2 tk dct kp2 => ?_
  · simp [lx, ly]
  · rintro i key v ⟨e1, e2⟩
    rw [List.getElem?_toArray] at e1 e2
    obtain ⟨k, hk, kis⟩ := keys_is rv e1
    exact ⟨k, by rw [List.getElem?_zip_eq_some]; exact ⟨hk, e2⟩, kis⟩
  · have sg : g.objs.size = s1.heap.objs.size + 5 := sz
    have big : s1.heap.objs.size ≤ g.objs.size := by omega
    have hm : (g.objs.size == sysModules) = false := beq_eq_false_iff_ne.mpr (Nat.ne_of_gt (Nat.lt_of_lt_of_le I1.big big))
    have hlen : (mergeK [] (ks.zip ys)).length ≤ sizeLine := by
      refine Nat.le_trans (length_mergeK _ []) ?_
      rw [List.length_nil, List.length_zip]
      exact sz5 (by omega)
    have kpt : ∀ c o, s1.heap.get? c = some o → g2.get? c = some o := fun c o e => by
      have hlt := Heap.lt_size e
      refine kp2 c o (fun hm => ?_) (kp _ _ e)
      simp only [List.mem_cons, List.not_mem_nil, or_false] at hm
      rcases hm with z | z | z | z
      · exact absurd (z ▸ hlt) (Nat.not_lt.mpr (Nat.le_add_right _ _))
      · exact absurd (z ▸ hlt) (Nat.not_lt.mpr (Nat.le_add_right _ _))
      · exact absurd (z ▸ hlt) (Nat.lt_irrefl _)
      · exact absurd (z ▸ hlt) (Nat.not_lt.mpr (Nat.le_add_right _ _))
    exact ⟨.ref g.objs.size, upd H1 g.objs.size (.dK (mergeK [] (ks.zip ys))), I1.laid (t' := tk) kpt big (show ObjOk X.prog X.w _ _ _ (.dK (mergeK [] (ks.zip ys))) from ⟨hlen, hm, merged [] (ks.zip ya), KV.merge (kv_zip rv2) .nil, dct⟩), rfl, q _ (I1.hok.fresh big)⟩
theorem r_dz {σ : L2.St} {H : Hp} {Q : VK} (q : ta σ H (kDZ K Q)) : tDZ K ta σ H Q := q
theorem r_kDZ {H : Hp} {Q : VK} {a b : Addr} {ks : List Key} {ys : List V} (h1 : SqT K H a (ks.map kV)) (h2 : SqT K H b ys) (hl : ks.length = ys.length) (hz : ks.length ≤ 1000) (nd : ks.Nodup)
    (q : ∀ p H', H p = none → Same H H' → H' p = some (.dK (ks.zip ys)) → Q (.ref p) H') : kDZ K Q [.ref a, .ref b] H := by
  refine ⟨a, b, ks, ys, rfl, h1, h2, hl, hz, fun p hp => ?_⟩
  have e : mergeK [] (ks.zip ys) = ks.zip ys := mergeK_nil (by
    rw [List.map_fst_zip (by omega)]
    exact nd)
  rw [e]
  exact q p _ hp (Same.new hp) upd_same
end
end Wp
set_option Elab.async false
set_option linter.all false
set_option maxRecDepth 100000
set_option maxHeartbeats 4000000
/-! sum, min and max of a tuple of ints. -/
namespace Wp
open PySem PySem.Spec PyProof.Rows L2
section
variable {P : Program} {w : World} {A : Around} {E : Value → Shared → Prop} {s : Shared} {t : Addr} {us : List Value} {ns : List Int}
theorem begin_tup {items : Array Value} {R : Value → Shared → Prop} (ht : s.heap.IsTuple t items)
    (k : ∀ h2 : Heap, (h2.IsTupleIter s.heap.objs.size t 0 ∧ h2.IsTuple t items) → (∀ b ∈ [s.heap.objs.size, t], b < h2.objs.size) → t ≠ s.heap.objs.size →
      (∀ b o, s.heap.get? b = some o → h2.get? b = some o ∧ b ∉ [s.heap.objs.size]) → R (.ref s.heap.objs.size) { s with heap := h2 }) : wpAny (model P w) A (pyIter (.ref t)) R E s := by
  have lt : t < s.heap.objs.size := by
    obtain ⟨_, e, _⟩ := ht
    exact Heap.lt_size e
  refine wpAny_pyIter_tuple ht (k _ ⟨⟨_, Heap.get?_push_size _ rfl, rfl, rfl⟩, Heap.IsTuple.push ht _⟩ (fun b hb => ?_) (Nat.ne_of_lt lt) fun b o e => ⟨Heap.get?_push_of_some _ e, fun hm => ?_⟩)
  · rw [Heap.size_push]
    rcases List.mem_cons.mp hb with hb | hb
    · rw [hb]
      exact Nat.lt_succ_self _
    · rw [List.mem_singleton.mp hb]
      exact Nat.lt_succ_of_lt lt
  · have h1 : b < s.heap.objs.size := Heap.lt_size e
    have h2 : b = s.heap.objs.size := List.mem_singleton.mp hm
    rw [h2] at h1
    exact Nat.lt_irrefl _ h1
theorem tup_sum {R : Value → Shared → Prop} (hh : A.handled = none) (ht : s.heap.IsTuple t us.toArray) (hi : IntsAre us ns)
    (k : ∀ h' tk t', (∀ b o, s.heap.get? b = some o → h'.get? b = some o) → R (.int ns.sum t') { s with heap := h', toks := tk }) : wpAny (model P w) A (call (.builtin "sum") [.ref t]) R E s := by
  obtain ⟨xs, ex⟩ := hi.allInts.items
  have en : numsOf (intItems xs).toList = ns := by
    rw [← ex]
    exact hi.numsOf
  rw [nums_intItems] at en
  rw [ex] at ht
  refine call_sum_walkG (begin_tup ht fun h2 st fp ne old => ?_)
  refine ⟨_, _, _, _, _, _, numAt xs, rfl, Walks.tuple (A := A.in1) hh _ t ne (intItems xs), st, fp, (fun _ _ => intItems_at), fun h' tk t' hk => ?_⟩
  have z := k h' tk t' fun b o e => hk b o (old b o e).2 (old b o e).1
  rw [preSum_eq, List.take_of_length_le (by simp [intItems]), en]
  exact z
theorem tup_min {R : Value → Shared → Prop} (hh : A.handled = none) (ht : s.heap.IsTuple t us.toArray) (hi : IntsAre us ns) (hne : 0 < ns.length)
    (k : ∀ h' tk m t', (∀ b o, s.heap.get? b = some o → h'.get? b = some o) → m ∈ ns → (∀ a, a ∈ ns → m ≤ a) → R (.int m t') { s with heap := h', toks := tk }) : wpAny (model P w) A (call (.builtin "min") [.ref t]) R E s := by
  obtain ⟨xs, ex⟩ := hi.allInts.items
  have en : numsOf (intItems xs).toList = ns := by
    rw [← ex]
    exact hi.numsOf
  rw [nums_intItems] at en
  subst en
  rw [ex] at ht
  have pos : 0 < xs.size := by simpa using hne
  refine call_min_walk (begin_tup ht fun h2 st fp ne old => ?_)
  refine ⟨_, _, _, _, _, _, _, rfl, Walks.tuple (A := A.in1) hh _ t ne (intItems xs), st, fp, by simpa [intItems] using pos, CmpOf.ints_lt (numAt xs) (fun _ _ => intItems_at), fun v h' tk hP hk => ?_⟩
  obtain ⟨t', rfl⟩ := intItems_at (by simpa [intItems] using hP)
  obtain ⟨b1, b2⟩ := argBest_lt (numAt xs) (xs.size - 1)
  refine k h' tk _ t' (fun b o e => hk b o (old b o e).2 (old b o e).1) ?_ fun a ha => ?_
  · rw [numAt_eq]
    refine PySem.getD_mem ?_
    rw [List.length_map, Array.length_toList]
    omega
  · obtain ⟨j, hj, rfl⟩ := mem_getD ha
    rw [List.length_map, Array.length_toList] at hj
    rw [← numAt_eq]
    exact b2 j (by omega)
end
section
variable {X : Cx} {K : PySem.W.Frag}
def rSumT (K : PySem.W.Frag) : List V → Hp → VK → Prop := fun vs H Q => ∃ (a : Addr) (ns : List Int), vs = [V.ref a] ∧ SqT K H a (ns.map V.int) ∧ Q (.int ns.sum) H
def rMinT (K : PySem.W.Frag) : List V → Hp → VK → Prop := fun vs H Q => ∃ (a : Addr) (ns : List Int), vs = [V.ref a] ∧ SqT K H a (ns.map V.int) ∧ 0 < ns.length ∧ ∀ m, m ∈ ns → (∀ y, y ∈ ns → m ≤ y) → Q (.int m) H
theorem c_sumT (h : X.K = K) (hc : X.calm = true) : CallR X (.builtin "sum") (rSumT K) := by
  subst h
  rintro pins s σ H vs us Q I r ⟨a, ns, rfl, hs, q⟩
  obtain ⟨its, rv, hl, _⟩ := I.tuple hs
  rw [Vals.ref1 r]
  exact tup_sum (I.ok.hd hc) hl rv.ints fun h' tk t' hk => ⟨.int _, H, I.kept hk, ⟨_, rfl⟩, q⟩
theorem c_minT (h : X.K = K) (hc : X.calm = true) : CallR X (.builtin "min") (rMinT K) := by
  subst h
  rintro pins s σ H vs us Q I r ⟨a, ns, rfl, hs, hne, q⟩
  obtain ⟨its, rv, hl, _⟩ := I.tuple hs
  rw [Vals.ref1 r]
  exact tup_min (I.ok.hd hc) hl rv.ints hne fun h' tk m t' hk h1 h2 => ⟨.int _, H, I.kept hk, ⟨_, rfl⟩, q m h1 h2⟩
end
end Wp
set_option Elab.async false
set_option linter.all false
set_option maxRecDepth 100000
set_option maxHeartbeats 4000000
/-! Lists of texts: what is in them. -/
namespace Wp
open PySem PySem.Spec PyProof.Rows L2
section
variable {X : Cx} {K : PySem.W.Frag} {H : Hp} {Q : VK} {p : Addr} {z : Str}
theorem flat_strs : ∀ xs : List Str, (xs.map V.str).all flatV = true
  | [] => rfl
  | _ :: r => by rw [List.map_cons, List.all_cons, flat_strs r]; rfl
theorem in_strs (x : Str) : ∀ xs : List Str, inV (.str x) (xs.map V.str) = decide (x ∈ xs)
  | [] => by simp [inV]
  | y :: r => by
    have ih := in_strs x r
    unfold inV at ih ⊢
    rw [List.map_cons, List.any_cons, ih]
    have e : eqV (.str y) (.str x) = decide (y = x) := rfl
    rw [e]
    by_cases h : y = x
    · simp [h]
    · have h' : ¬ x = y := fun z => h z.symm
      simp [h, h']
theorem r_notInS {x : Str} {xs : List Str} (h : SqL K H p (xs.map V.str)) (q : Q (.bl (!decide (x ∈ xs))) H) : rIn K true (.str x) (.ref p) H Q :=
  ⟨p, xs.map V.str, rfl, .inl h, rfl, flat_strs xs, by rw [in_strs]; exact q⟩
theorem r_inS {x : Str} {xs : List Str} (h : SqL K H p (xs.map V.str)) (q : Q (.bl (decide (x ∈ xs))) H) : rIn K false (.str x) (.ref p) H Q :=
  ⟨p, xs.map V.str, rfl, .inl h, rfl, flat_strs xs, by rw [in_strs]; exact q⟩
theorem strs_get {xs : List Str} {i : Nat} {x : V} (h : (xs.map V.str)[i]? = some x) : ∃ s, x = .str s ∧ xs[i]? = some s := by
  rw [List.getElem?_map] at h
  obtain ⟨s, hs, rfl⟩ := Option.map_eq_some_iff.mp h
  exact ⟨s, rfl, hs⟩
end
end Wp
set_option Elab.async false
set_option linter.all false
set_option maxRecDepth 100000
set_option maxHeartbeats 4000000
/-! Methods by their names; texts in tuples; sorted, list and dict of a dict; xs[::-1]; stars. -/
namespace Wp
open PySem PySem.Spec PyProof.Rows L2
/-- a method that keeps the promise -/
structure Dm (P : Program) (w : World) (K : PySem.W.Frag) (mg : Str → Option Value) (base : Heap) (CX : CXT) (k : Nat) (C : Addr) (m : Str) (sp : Sp) : Prop where
  ex : ∃ (f : Addr) (fd : FuncData) (ps : List Str), Meth K C m f ∧ FnOk P w K mg base CX k f fd ps sp ∧ Binds K fd ps []
  cl : Cls K C
def kMeth (C : Addr) (m : Str) (sp : Sp) (E : XK) (t : TA) (σ : L2.St) (Q : VK) : VK := fun x H1 => ∃ a dx fs, x = .ref a ∧ H1 a = some (.ins C dx fs) ∧ fs.lookup m = none ∧ t σ H1 fun vs H2 => sp (x :: (vs ++ [])) H2 Q E
section
variable {X : Cx} {CX : CXT} {k : Nat} {C a dx : Addr} {m : Str} {sp : Sp} {E : XK} {o e : Expr} {es : List Expr} {apos pos : Pos} {ta : TE} {t : TA} {fs : List (Str × V)}
theorem pe_mt {pl : Sem Bool} (D : Dm X.prog X.w X.K X.mg X.base CX k C m sp) (hr : Room k X.A) (hx : Passes CX X E) (ho : PE X o ta) (ha : PA X (e :: es) t)
    (hst : starEach (e :: es) X.env = (false, eval e X.env) :: starEach es X.env := by rfl) (hpl : (backTo pos (starEach es X.env)).any (·.1) = false := by rfl)
    (ht : eval (.Call (.Attribute o m apos) (e :: es) [] pos) X.env = (do
      let ov ← eval o X.env
      standAt apos.atName
      let (f, first) ← holding [ov] (getMethod ov m pl)
      callWith pos f first (backTo pos (starEach (e :: es) X.env)) (backToKw pos (keywordEach [] X.env))) := by rfl) :
    PE X (.Call (.Attribute o m apos) (e :: es) [] pos) (tMeth C m sp [] E ta t) := by
  obtain ⟨f, fd, ps, h1, h2, h3⟩ := D.ex
  exact pe_meth ho D.cl h1 h2 hr h3 .nil hx ha hst hpl ht
theorem pe_mt0 {pl : Sem Bool} (D : Dm X.prog X.w X.K X.mg X.base CX k C m sp) (hr : Room k X.A) (hx : Passes CX X E) (ho : PE X o ta)
    (ht : eval (.Call (.Attribute o m apos) [] [] pos) X.env = (do
      let ov ← eval o X.env
      standAt apos.atName
      let (f, first) ← holding [ov] (getMethod ov m pl)
      callWith pos f first (backTo pos (starEach [] X.env)) (backToKw pos (keywordEach [] X.env))) := by rfl) :
    PE X (.Call (.Attribute o m apos) [] [] pos) (tMeth C m sp [] E ta tNil) := by
  obtain ⟨f, fd, ps, h1, h2, h3⟩ := D.ex
  exact pe_meth0 ho D.cl h1 h2 hr h3 .nil hx ht
theorem r_meth {σ : L2.St} {H : Hp} {Q : VK} (q : ta σ H (kMeth C m sp E t σ Q)) : tMeth C m sp [] E ta t σ H Q := q
theorem r_kMeth {σ : L2.St} {H : Hp} {Q : VK} (h : H a = some (.ins C dx fs)) (l : fs.lookup m = none) (q : t σ H fun vs H2 => sp (.ref a :: vs) H2 Q E) : kMeth C m sp E t σ Q (.ref a) H := by
  refine ⟨a, dx, fs, rfl, h, l, ?_⟩
  have e : (fun (vs : List V) (H2 : Hp) => sp (.ref a :: (vs ++ [])) H2 Q E) = fun vs H2 => sp (.ref a :: vs) H2 Q E := by
    funext vs H2
    rw [List.append_nil]
  rw [e]
  exact q
end
section
variable {K : PySem.W.Frag} {H : Hp} {Q : VK} {p q : Addr} {x : Str} {xs ys : List Str} {kvs : List (Key × V)}
theorem r_notInTS (h : SqT K H p (xs.map V.str)) (k : Q (.bl (!decide (x ∈ xs))) H) : rIn K true (.str x) (.ref p) H Q := by
  refine ⟨p, _, rfl, .inr h, rfl, flat_strs xs, ?_⟩
  rw [in_strs]
  exact k
theorem r_inTS (h : SqT K H p (xs.map V.str)) (k : Q (.bl (decide (x ∈ xs))) H) : rIn K false (.str x) (.ref p) H Q := by
  refine ⟨p, _, rfl, .inr h, rfl, flat_strs xs, ?_⟩
  rw [in_strs]
  exact k
/-! sorted, list, dict of a dict -/
def rSortedD : List V → Hp → VK → Prop := fun vs H Q => ∃ (a : Addr) (kvs : List (Key × V)) (ks : List Str), vs = [.ref a] ∧ Rd H a (.dK kvs) ∧ kvs.map (·.1) = ks.map Sum.inr ∧ ks.length < 64 ∧
  ∀ ys p, ys.Perm ks → sortedS ys = true → H p = none → Q (.ref p) (upd H p (.lst (ys.map V.str)))
theorem c_sortedD {X : Cx} (hc : X.calm = true) : CallR X (.builtin "sorted") rSortedD := call_sortedD hc
theorem r_sortedD {ks : List Str} (h : H p = some (.dK kvs)) (e : kvs.map (·.1) = ks.map Sum.inr) (hl : ks.length < 64) (k : ∀ ys q H', ys.Perm ks → sortedS ys = true → H q = none → Same H H' → H' q = some (.lst (ys.map V.str)) → Q (.ref q) H') : rSortedD [.ref p] H Q :=
  ⟨p, kvs, ks, rfl, .inl h, e, hl, fun ys q h1 h2 hq => k ys q _ h1 h2 hq (Same.new hq) upd_same⟩
def rListD' : List V → Hp → VK → Prop := fun vs H Q => ∃ (a : Addr) (kvs : List (Key × V)), vs = [.ref a] ∧ Rd H a (.dK kvs) ∧ ∀ p, H p = none → Q (.ref p) (upd H p (.lst (kvs.map fun kv => kV kv.1)))
theorem c_listD {X : Cx} (hc : X.calm = true) : CallR X (.type "list") rListD' := call_listD hc
theorem r_listD (h : H p = some (.dK kvs)) (k : ∀ q H', H q = none → Same H H' → H' q = some (.lst (kvs.map fun kv => kV kv.1)) → Q (.ref q) H') : rListD' [.ref p] H Q :=
  ⟨p, kvs, rfl, .inl h, fun q hq => k q _ hq (Same.new hq) upd_same⟩
def rDictD' : List V → Hp → VK → Prop := fun vs H Q => ∃ (a : Addr) (kvs : List (Key × V)), vs = [.ref a] ∧ Rd H a (.dK kvs) ∧ ∀ p, H p = none → Q (.ref p) (upd H p (.dK kvs))
theorem c_dictD {X : Cx} : CallR X (.type "dict") rDictD' := call_dictD
theorem r_dictD (h : H p = some (.dK kvs)) (k : ∀ q H', H q = none → Same H H' → H' q = some (.dK kvs) → Q (.ref q) H') : rDictD' [.ref p] H Q :=
  ⟨p, kvs, rfl, .inl h, fun q hq => k q _ hq (Same.new hq) upd_same⟩
theorem r_sumT {zs : List Int} (h : SqT K H p (zs.map V.int)) (k : Q (.int zs.sum) H) : rSumT K [.ref p] H Q := ⟨p, zs, rfl, h, k⟩
end
section
variable {X : Cx} {K : PySem.W.Frag} {H : Hp} {Q : VK} {a : Addr} {xs : List V} {σ : L2.St} {te : TE} {tr : TA}
/-! xs[::-1] -/
def kRevL (K : PySem.W.Frag) (Q : VK) : VK := fun x H1 => ∃ a xs, x = .ref a ∧ SqL K H1 a xs ∧ ∀ p, H1 p = none → Q (.ref p) (upd H1 p (.lst xs.reverse))
theorem pe_revLK {e : Expr} {k : Nat} {p1 p2 p3 pos : Pos} (h : X.K = K) (he : PE X e te) : PE X (.Subscript e (.Slice none none (some (.UnaryOp .USub (.Constant (.int 1) k p1) p2)) p3) pos) (tRevL K te) := by
  subst h
  exact pe_revL he
theorem r_revL (q : te σ H (kRevL K Q)) : tRevL K te σ H Q := q
theorem r_kRevL (h : SqL K H a xs) (q : ∀ p H', H p = none → Same H H' → H' p = some (.lst xs.reverse) → Q (.ref p) H') : kRevL K Q (.ref a) H := ⟨a, xs, rfl, h, fun p hp => q p _ hp (Same.new hp) upd_same⟩
/-! stars -/
def kStar (K : PySem.W.Frag) (t : TA) (σ : L2.St) (QA : List V → Hp → Prop) : VK := fun x H1 => ∃ p xs, x = V.ref p ∧ (SqT K H1 p xs ∨ SqL K H1 p xs) ∧ t σ H1 fun ys H2 => QA (xs ++ ys) H2
theorem pa_starK {e : Expr} {es : List Expr} {p : Pos} (h : X.K = K) (he : PE X e te) (hr : PA X es tr) (hs : starEach (.Starred e p :: es) X.env = (true, eval e X.env) :: starEach es X.env := by rfl) : PA X (.Starred e p :: es) (StX.tStar K te tr) := by
  subst h
  exact StX.pa_star he hr hs
theorem r_star {QA : List V → Hp → Prop} (q : te σ H (kStar K tr σ QA)) : StX.tStar K te tr σ H QA := q
theorem r_kStarL {QA : List V → Hp → Prop} (h : SqL K H a xs) (q : tr σ H fun ys H2 => QA (xs ++ ys) H2) : kStar K tr σ QA (.ref a) H := ⟨a, xs, rfl, .inr h, q⟩
theorem r_kStarT {QA : List V → Hp → Prop} (h : SqT K H a xs) (q : tr σ H fun ys H2 => QA (xs ++ ys) H2) : kStar K tr σ QA (.ref a) H := ⟨a, xs, rfl, .inl h, q⟩
end
/-! == of texts and of tuples of ints -/
section
variable {K : PySem.W.Frag} {H : Hp} {Q : VK} {p q : Addr}
theorem dp_strs : ∀ ns : List Str, DpAll K H (ns.map V.str) (ns.map PyData.str)
  | [] => .nil
  | n :: r => .cons (.str n) (dp_strs r)
theorem r_eqTI {as bs : List Int} (h1 : SqT K H p (as.map V.int)) (h2 : SqT K H q (bs.map V.int)) (k : Q (.bl (decide (as = bs))) H) : rEqD K (.ref p) (.ref q) H Q := by
  have shp : ∀ ns : List Int, SeqAt.shaped (.tuple (ns.map PyData.int)) = true := fun ns => by
    show (PyData.canLayAll0 (ns.map PyData.int) && decide (PyData.depthAll (ns.map PyData.int) + 1 ≤ 64)) = true
    rw [lay_ints, dep_ints]
    rfl
  refine ⟨.tuple (as.map .int), .tuple (bs.map .int), .tup h1 (dp_ints as), .tup h2 (dp_ints bs), shp as, shp bs, ?_⟩
  show Q (.bl (PyData.eqvAll (as.map PyData.int) (bs.map PyData.int))) H
  rw [eqv_ints]
  exact k
end
end Wp
set_option Elab.async false
set_option linter.all false
set_option maxRecDepth 100000
/-! Months and tallies, plain. -/
namespace Wp
/-! months -/
def firstL (ls : List Int) (m : Int) : Int := m / (ls.length : Int) * ls.sum + (ls.take (m % (ls.length : Int)).toNat).sum
def cntL : List Int → Int → Nat
  | [], _ => 0
  | x :: xs, r => if r < x then 0 else cntL xs (r - x) + 1
def monthL (ls : List Int) (d : Int) : Int := d / ls.sum * (ls.length : Int) + (cntL ls (d % ls.sum) : Nat)
def fdL (ls : List Int) (u d : Int) : Int := firstL ls (monthL ls d + 1) + u - d
structure LsOk (ls : List Int) : Prop where
  l1 : 1 ≤ ls.length
  l2 : ls.length ≤ 4
  l3 : ∀ n ∈ ls, 2 ≤ n ∧ n ≤ 31
theorem sum_lohi : ∀ {ls : List Int}, (∀ n ∈ ls, 2 ≤ n ∧ n ≤ 31) → 2 * (ls.length : Int) ≤ ls.sum ∧ ls.sum ≤ 31 * (ls.length : Int)
  | [], _ => by simp
  | a :: r, h => by
    have h1 := sum_lohi (ls := r) fun n hn => h n (List.mem_cons_of_mem _ hn)
    have h2 := h a (List.mem_cons_self ..)
    simp only [List.sum_cons, List.length_cons]
    omega
theorem LsOk.sum {ls : List Int} (h : LsOk ls) : 2 ≤ ls.sum ∧ ls.sum ≤ 124 := by
  have := sum_lohi h.l3
  have := h.l1
  have := h.l2
  omega
/-- within the sum: how it stands -/
theorem cntL_spec : ∀ {ls : List Int} {r : Int}, (∀ n ∈ ls, 2 ≤ n ∧ n ≤ 31) → 0 ≤ r → r < ls.sum → cntL ls r < ls.length ∧ (ls.take (cntL ls r)).sum ≤ r ∧ r < (ls.take (cntL ls r + 1)).sum
  | [], r, _, h0, h1 => by simp at h1; omega
  | x :: xs, r, h, h0, h1 => by
    unfold cntL
    split
    · simp; omega
    · rename_i hx
      have h2 := cntL_spec (ls := xs) (r := r - x) (fun n hn => h n (List.mem_cons_of_mem _ hn)) (by omega) (by rw [List.sum_cons] at h1; omega)
      simp only [List.length_cons, List.take_succ_cons, List.sum_cons]
      omega
theorem take_sum_mono : ∀ {ls : List Int} (i j : Nat), (∀ n ∈ ls, 2 ≤ n ∧ n ≤ 31) → i ≤ j → (ls.take i).sum ≤ (ls.take j).sum
  | [], i, j, _, _ => by simp
  | x :: xs, 0, j, h, _ => by
    have h3 : ∀ n ∈ (x :: xs).take j, 2 ≤ n ∧ n ≤ 31 := fun n hn => h n (List.mem_of_mem_take hn)
    have := (sum_lohi h3).1
    simp only [List.take_zero, List.sum_nil]
    omega
  | x :: xs, i + 1, j + 1, h, hij => by
    have := take_sum_mono (ls := xs) i j (fun n hn => h n (List.mem_cons_of_mem _ hn)) (by omega)
    simp only [List.take_succ_cons, List.sum_cons]
    omega
/-- a step of the program's own count -/
theorem cntL_drop : ∀ {ls : List Int} {r : Int} (j : Nat) {x : Int}, ls[j]? = some x → cntL (ls.drop j) r = if r < x then 0 else cntL (ls.drop (j + 1)) (r - x) + 1
  | [], r, j, x, h => by simp at h
  | y :: ys, r, 0, x, h => by
    simp at h
    subst h
    simp [cntL]
  | y :: ys, r, j + 1, x, h => by
    have := cntL_drop (ls := ys) (r := r) j (x := x) (by simpa using h)
    simpa using this
theorem firstL_at {ls : List Int} (q : Int) (j : Nat) (h : j < ls.length) : firstL ls (q * (ls.length : Int) + (j : Int)) = q * ls.sum + (ls.take j).sum := by
  have e1 : (q * (ls.length : Int) + (j : Int)) / (ls.length : Int) = q := by
    rw [Int.add_comm, Int.add_mul_ediv_right _ _ (by omega), Int.ediv_eq_zero_of_lt (by omega) (by omega)]
    omega
  have e2 : (q * (ls.length : Int) + (j : Int)) % (ls.length : Int) = (j : Int) := by
    rw [Int.add_comm, Int.add_mul_emod_self_right, Int.emod_eq_of_lt (by omega) (by omega)]
  unfold firstL
  rw [e1, e2, Int.toNat_natCast]
theorem firstL_at' {ls : List Int} (q : Int) (j : Nat) (h1 : 1 ≤ ls.length) (h : j ≤ ls.length) : firstL ls (q * (ls.length : Int) + (j : Int)) = q * ls.sum + (ls.take j).sum := by
  by_cases e : j < ls.length
  · exact firstL_at q j e
  · have e : j = ls.length := by omega
    subst e
    have := firstL_at (ls := ls) (q + 1) 0 (by omega)
    rw [List.take_length]
    have e2 : q * (ls.length : Int) + (ls.length : Int) = (q + 1) * (ls.length : Int) + ((0 : Nat) : Int) := by
      rw [Int.add_mul]; omega
    rw [e2, this, Int.add_mul]
    simp
/-- the law's own step -/
theorem law_step {ls : List Int} (ok : LsOk ls) (d : Int) (j : Nat) (h : j ≤ cntL ls (d % ls.sum)) :
    (firstL ls (d / ls.sum * (ls.length : Int) + (j : Int) + 1) ≤ d) ↔ j < cntL ls (d % ls.sum) := by
  have hs := ok.sum
  have hr0 := Int.emod_nonneg d (b := ls.sum) (by omega)
  have hr1 := Int.emod_lt_of_pos d (b := ls.sum) (by omega)
  obtain ⟨c1, c2, c3⟩ := cntL_spec ok.l3 hr0 hr1
  have hd := Int.emod_add_mul_ediv d ls.sum
  have l1 := ok.l1
  have e : d / ls.sum * (ls.length : Int) + (j : Int) + 1 = d / ls.sum * (ls.length : Int) + ((j + 1 : Nat) : Int) := by omega
  rw [e, firstL_at' _ _ ok.l1 (by omega)]
  have hc : ls.sum * (d / ls.sum) = d / ls.sum * ls.sum := Int.mul_comm _ _
  constructor
  · intro h1
    by_cases h2 : j < cntL ls (d % ls.sum)
    · exact h2
    · have : j = cntL ls (d % ls.sum) := by omega
      subst this
      omega
  · intro h1
    have := take_sum_mono (ls := ls) (j + 1) (cntL ls (d % ls.sum)) ok.l3 (by omega)
    omega
theorem month_bounds {ls : List Int} (ok : LsOk ls) (d : Int) : firstL ls (monthL ls d) ≤ d ∧ d < firstL ls (monthL ls d + 1) ∧ firstL ls (monthL ls d + 1) ≤ firstL ls (monthL ls d) + 31 := by
  have hs := ok.sum
  have hr0 := Int.emod_nonneg d (b := ls.sum) (by omega)
  have hr1 := Int.emod_lt_of_pos d (b := ls.sum) (by omega)
  obtain ⟨c1, c2, c3⟩ := cntL_spec ok.l3 hr0 hr1
  have hd := Int.emod_add_mul_ediv d ls.sum
  have l1 := ok.l1
  have hc : ls.sum * (d / ls.sum) = d / ls.sum * ls.sum := Int.mul_comm _ _
  unfold monthL
  have e : d / ls.sum * (ls.length : Int) + (cntL ls (d % ls.sum) : Nat) + 1 = d / ls.sum * (ls.length : Int) + ((cntL ls (d % ls.sum) + 1 : Nat) : Int) := by omega
  rw [e, firstL_at' _ _ ok.l1 (by omega), firstL_at' _ _ ok.l1 (by omega)]
  have h1 : (ls.take (cntL ls (d % ls.sum) + 1)).sum = (ls.take (cntL ls (d % ls.sum))).sum + ls[cntL ls (d % ls.sum)] := by
    rw [List.take_succ, List.getElem?_eq_getElem c1, List.sum_append]
    simp
  have h2 := ok.l3 _ (List.getElem_mem c1)
  omega
theorem fd_bounds {ls : List Int} (ok : LsOk ls) (u d : Int) : u + 1 ≤ fdL ls u d ∧ fdL ls u d ≤ u + 31 := by
  have := month_bounds ok d
  unfold fdL
  omega
/-! tallies -/
def lookT : List (Int × Int) → Int → Option Int
  | [], _ => none
  | (k, c) :: r, z => if k = z then some c else lookT r z
def putI (t : List (Int × Int)) (z c : Int) : List (Int × Int) := if (t.any fun p => decide (p.1 = z)) = true then t.map (fun p => if p.1 = z then (p.1, c) else p) else t ++ [(z, c)]
def bump (t : List (Int × Int)) (z : Int) : List (Int × Int) := putI t z ((lookT t z).getD 0 + 1)
def tally (xs : List Int) : List (Int × Int) := xs.foldl bump []
theorem tally_snoc (xs : List Int) (z : Int) : tally (xs ++ [z]) = bump (tally xs) z := by
  unfold tally
  rw [List.foldl_append]
  rfl
theorem any_look : ∀ (t : List (Int × Int)) (z : Int), (t.any fun p => decide (p.1 = z)) = (lookT t z).isSome
  | [], z => rfl
  | (k, c) :: r, z => by
    unfold lookT
    by_cases h : k = z
    · simp [h]
    · rw [List.any_cons, any_look r z]
      simp [h]
theorem putI_keys (t : List (Int × Int)) (z c : Int) : (putI t z c).map (·.1) = if (lookT t z).isSome = true then t.map (·.1) else t.map (·.1) ++ [z] := by
  unfold putI
  rw [any_look]
  split
  · rw [List.map_map]
    refine List.map_congr_left fun p _ => ?_
    show (if p.1 = z then (p.1, c) else p).1 = p.1
    split <;> rfl
  · simp
theorem look_none : ∀ {t : List (Int × Int)} {z : Int}, lookT t z = none ↔ z ∉ t.map (·.1)
  | [], z => by simp [lookT]
  | (k, c) :: r, z => by
    have := look_none (t := r) (z := z)
    unfold lookT
    by_cases h : k = z
    · simp [h]
    · rw [if_neg h, this]
      simp
      intro _ e
      exact h e.symm
theorem look_map (c z y : Int) : ∀ (t : List (Int × Int)), lookT (t.map fun p => if p.1 = z then (p.1, c) else p) y = if y = z then (lookT t z).map (fun _ => c) else lookT t y
  | [] => by simp [lookT]
  | (k, e) :: r => by
    have := look_map c z y r
    rw [List.map_cons]
    by_cases hk : k = z
    · subst hk
      rw [if_pos rfl]
      unfold lookT
      by_cases hy : y = k
      · simp [hy]
      · rw [if_neg (fun z => hy z.symm), this, if_neg hy, if_neg hy, if_neg (fun z => hy z.symm)]
    · rw [if_neg hk]
      show (if k = y then some e else lookT (r.map _) y) = _
      rw [this]
      by_cases hy : y = z
      · subst hy
        rw [if_neg hk, if_pos rfl, if_pos rfl]
        simp [lookT, hk]
      · rw [if_neg hy, if_neg hy]
        rfl
theorem look_snoc (z c y : Int) : ∀ (t : List (Int × Int)), lookT t z = none → lookT (t ++ [(z, c)]) y = if y = z then some c else lookT t y
  | [], _ => by
    simp only [List.nil_append, lookT]
    by_cases h : z = y
    · simp [h]
    · rw [if_neg h, if_neg (fun e => h e.symm)]
  | (k, e) :: r, h => by
    unfold lookT at h
    by_cases hk : k = z
    · rw [if_pos hk] at h; cases h
    · rw [if_neg hk] at h
      have := look_snoc z c y r h
      show (if k = y then some e else lookT (r ++ [(z, c)]) y) = _
      rw [this]
      by_cases hy : y = z
      · subst hy
        rw [if_neg hk, if_pos rfl, if_pos rfl]
      · rw [if_neg hy, if_neg hy]
        rfl
theorem putI_look (t : List (Int × Int)) (z c y : Int) : lookT (putI t z c) y = if y = z then some c else lookT t y := by
  unfold putI
  rw [any_look]
  cases h : lookT t z with
  | none =>
    rw [if_neg (by simp)]
    exact look_snoc z c y t h
  | some e =>
    rw [if_pos (by simp), look_map, h]
    rfl
theorem snoc_ind {P : List Int → Prop} (h0 : P []) (hs : ∀ xs z, P xs → P (xs ++ [z])) : ∀ xs, P xs := fun xs => by
  have : ∀ ys : List Int, P ys.reverse := fun ys => by
    induction ys with
    | nil => exact h0
    | cons y r ih => rw [List.reverse_cons]; exact hs _ _ ih
  have := this xs.reverse
  rwa [List.reverse_reverse] at this
theorem tally_look (z : Int) : ∀ xs : List Int, lookT (tally xs) z = if xs.count z = 0 then none else some (xs.count z : Int) := by
  refine snoc_ind rfl fun xs y ih => ?_
  rw [tally_snoc]
  unfold bump
  rw [putI_look, List.count_append]
  by_cases h : z = y
  · subst h
    rw [if_pos rfl, ih]
    have : List.count z [z] = 1 := by simp
    rw [this, if_neg (Nat.succ_ne_zero _)]
    by_cases h0 : List.count z xs = 0
    · rw [if_pos h0, h0]; rfl
    · rw [if_neg h0]; simp
  · rw [if_neg h, ih]
    have : List.count z [y] = 0 := by simp [List.count_cons]; exact fun e => h e.symm
    rw [this, Nat.add_zero]
theorem tally_mem (xs : List Int) (z : Int) : z ∈ (tally xs).map (·.1) ↔ z ∈ xs := by
  have h1 := look_none (t := tally xs) (z := z)
  rw [tally_look] at h1
  have h2 := List.count_pos_iff (a := z) (l := xs)
  by_cases h : xs.count z = 0
  · rw [if_pos h] at h1
    have h3 := h1.mp rfl
    exact ⟨fun e => absurd e h3, fun e => by have := h2.mpr e; omega⟩
  · rw [if_neg h] at h1
    constructor
    · intro _; exact h2.mp (by omega)
    · intro _
      refine Classical.byContradiction fun e => ?_
      cases h1.mpr e
theorem tally_keys (xs : List Int) (z : Int) : (tally (xs ++ [z])).map (·.1) = if z ∈ xs then (tally xs).map (·.1) else (tally xs).map (·.1) ++ [z] := by
  rw [tally_snoc]
  unfold bump
  rw [putI_keys, tally_look]
  have := List.count_pos_iff (a := z) (l := xs)
  by_cases h : xs.count z = 0
  · rw [if_pos h, if_neg (by simp), if_neg (fun e => by have := this.mpr e; omega)]
  · rw [if_neg h, if_pos (by simp), if_pos (this.mp (by omega))]
theorem tally_nd : ∀ xs : List Int, ((tally xs).map (·.1)).Nodup := by
  refine snoc_ind List.nodup_nil fun xs y ih => ?_
  rw [tally_keys]
  split
  · exact ih
  · rename_i h
    rw [List.nodup_append]
    refine ⟨ih, by simp, fun a ha b hb e => ?_⟩
    rw [List.mem_singleton.mp hb] at e
    subst e
    exact h ((tally_mem xs _).mp ha)
theorem tally_asc : ∀ xs : List Int, xs.Pairwise (· ≤ ·) → ((tally xs).map (·.1)).Pairwise (· ≤ ·) := by
  refine snoc_ind (fun _ => List.Pairwise.nil) fun xs y ih h => ?_
  rw [List.pairwise_append] at h
  rw [tally_keys]
  split
  · exact ih h.1
  · rw [List.pairwise_append]
    exact ⟨ih h.1, by simp, fun a ha b hb => h.2.2 a ((tally_mem xs a).mp ha) b hb⟩
theorem look_of_mem : ∀ {t : List (Int × Int)} {p : Int × Int}, (t.map (·.1)).Nodup → p ∈ t → lookT t p.1 = some p.2
  | [], p, _, h => by cases h
  | (k, c) :: r, p, nd, h => by
    rw [List.map_cons, List.nodup_cons] at nd
    rcases List.mem_cons.mp h with e | e
    · subst e
      simp [lookT]
    · unfold lookT
      rw [if_neg (fun z => nd.1 (by rw [show k = p.1 from z]; exact List.mem_map.mpr ⟨p, e, rfl⟩))]
      exact look_of_mem nd.2 e
theorem tally_perm_keys {xs ys : List Int} (h : xs.Perm ys) : ((tally xs).map (·.1)).Perm ((tally ys).map (·.1)) := by
  rw [List.perm_ext_iff_of_nodup (tally_nd xs) (tally_nd ys)]
  intro a
  rw [tally_mem, tally_mem, h.mem_iff]
theorem tally_perm_len {xs ys : List Int} (h : xs.Perm ys) : (tally xs).length = (tally ys).length := by
  have := (tally_perm_keys h).length_eq
  rwa [List.length_map, List.length_map] at this
theorem tally_perm_look {xs ys : List Int} (h : xs.Perm ys) (z : Int) : lookT (tally xs) z = lookT (tally ys) z := by
  rw [tally_look, tally_look, h.count_eq]
/-- a tally is its keys with what stands at each -/
theorem tally_self (t : List (Int × Int)) (nd : (t.map (·.1)).Nodup) : (t.map (·.1)).map (fun k => (k, (lookT t k).getD 0)) = t := by
  rw [List.map_map]
  conv => rhs; rw [← List.map_id t]
  refine List.map_congr_left fun p hp => ?_
  show (p.1, (lookT t p.1).getD 0) = p
  rw [look_of_mem nd hp]
  rfl
/-- what the law lists: the sorted keys with what the other tally has -/
theorem tally_list {xs ys ks : List Int} (h : ys.Perm xs) (ha : ys.Pairwise (· ≤ ·)) (hk : ks.Perm ((tally xs).map (·.1))) (hka : ks.Pairwise (· ≤ ·)) : ks.map (fun k => (k, (lookT (tally xs) k).getD 0)) = tally ys := by
  have e : ks = (tally ys).map (·.1) := List.Perm.eq_of_pairwise (fun _ _ _ _ h1 h2 => Int.le_antisymm h1 h2) hka (tally_asc ys ha) (hk.trans (tally_perm_keys h).symm)
  subst e
  have := tally_self (tally ys) (tally_nd ys)
  refine Eq.trans ?_ this
  refine List.map_congr_left fun k _ => ?_
  rw [tally_perm_look h]
theorem range_len {l : List Int} {a : Int} (nd : l.Nodup) (h : ∀ z ∈ l, a + 1 ≤ z ∧ z ≤ a + 31) : l.length ≤ 31 := by
  have : l.length ≤ ((List.range 31).map fun i : Nat => a + 1 + (i : Int)).length := by
    refine List.Nodup.length_le_of_subset nd fun z hz => ?_
    have := h z hz
    refine List.mem_map.mpr ⟨(z - a - 1).toNat, List.mem_range.mpr (by omega), by omega⟩
  simpa using this
/-- the free days of one round -/
def rndL (ls : List Int) (u : Int) (n : Nat) : List Int := (List.range n).map fun i : Nat => fdL ls u (i : Int)
theorem rndL_succ (ls : List Int) (u : Int) (n : Nat) : rndL ls u (n + 1) = rndL ls u n ++ [fdL ls u (n : Int)] := by
  unfold rndL
  rw [List.range_succ, List.map_append]
  rfl
theorem rndL_len (ls : List Int) (u : Int) (n : Nat) : (rndL ls u n).length = n := by simp [rndL]
def rnd (ls : List Int) (u : Int) : List Int := rndL ls u ls.sum.toNat
theorem rndL_mem {ls : List Int} (ok : LsOk ls) {u : Int} {n : Nat} : ∀ z ∈ rndL ls u n, u + 1 ≤ z ∧ z ≤ u + 31 := fun z hz => by
  obtain ⟨i, _, rfl⟩ := List.mem_map.mp hz
  exact fd_bounds ok u _
theorem tally_keys_len {ls : List Int} (ok : LsOk ls) {u : Int} {n : Nat} : ((tally (rndL ls u n)).map (·.1)).length ≤ 31 :=
  range_len (a := u) (tally_nd _) fun z hz => rndL_mem ok z ((tally_mem _ z).mp hz)
theorem count_le {xs : List Int} {p : Int × Int} (h : p ∈ tally xs) : 0 ≤ p.2 ∧ p.2 ≤ xs.length := by
  have h1 := look_of_mem (tally_nd xs) h
  rw [tally_look] at h1
  split at h1
  · cases h1
  · have h2 := Option.some.inj h1
    have := List.count_le_length (a := p.1) (l := xs)
    omega
/-- least and greatest of the keys, and of what was counted -/
theorem least_eq {xs : List Int} {a b : Int} (h1 : a ∈ xs) (h2 : ∀ y ∈ xs, a ≤ y) (h3 : b ∈ (tally xs).map (·.1)) (h4 : ∀ y ∈ (tally xs).map (·.1), b ≤ y) : a = b :=
  Int.le_antisymm (h2 b ((tally_mem xs b).mp h3)) (h4 a ((tally_mem xs a).mpr h1))
theorem most_eq {xs : List Int} {a b : Int} (h1 : a ∈ xs) (h2 : ∀ y ∈ xs, y ≤ a) (h3 : b ∈ (tally xs).map (·.1)) (h4 : ∀ y ∈ (tally xs).map (·.1), y ≤ b) : a = b :=
  Int.le_antisymm (h4 a ((tally_mem xs a).mpr h1)) (h2 b ((tally_mem xs b).mp h3))
end Wp
set_option Elab.async false
set_option linter.all false
set_option maxRecDepth 100000
set_option maxHeartbeats 4000000
/-! sorted of a list or a tuple of data that are alike: one list. -/
namespace Wp
open PySem PySem.Spec PyProof.Rows L2
section
variable {prog : Program} {w : World} {A : Around} {E : Value → Shared → Prop} {s : Shared} {l : Addr} {vs : List Value}
theorem collectT {Q : List Value → Shared → Prop} (hl : s.heap.IsTuple l vs.toArray) (hz : vs.length ≤ sizeLine)
    (h : Q vs { s with heap := (s.heap.push (seqObj "list" #[] 0)).update s.heap.objs.size (Obj.mapSeq (· ++ vs.toArray)) }) : wpAny (model prog w) A (collect (.ref l)) Q E s := by
  obtain ⟨o, ho, hc, n, hd⟩ := hl
  have up := Heap.get?_push_of_some (seqObj "list" #[] 0) ho
  have own : (s.heap.push (seqObj "list" #[] 0)).get? s.heap.objs.size = some (seqObj "list" #[] 0) := Heap.get?_push_size _ rfl
  unfold collect
  refine wpAny_bind (wpAny_runValue (codeAny_builtin entry_proto_collect' ?_))
  show wpAny (model prog w) A.in1 (do again (.builtin "list.__iadd__" ⟨[← newList [], .ref l], []⟩)) _ _ s
  refine wpAny_bind (wpAny_newList (wpAny_pure ⟨Code.quiet_builtin _ (by decide +kernel), codeAny_builtin entry_list_iadd' ?_⟩))
  show wpAny (model prog w) _ (Builtin.List.listExtendWith (.ref s.heap.objs.size) (.ref l) (.ref s.heap.objs.size)) _ _ { s with heap := s.heap.push (seqObj "list" #[] 0) }
  unfold Builtin.List.listExtendWith
  refine wpAny_bind (wpAny_typeOf (T := "tuple") ⟨o, up, hc⟩ ?_)
  have tt : (Value.type "tuple" == Value.type "tuple") = true := by rfl
  rw [if_pos (by rw [tt, Bool.or_true])]
  refine wpAny_bind (listItems_at up hd (wpAny_bind (listItems_at (n := 0) own rfl ?_)))
  rw [if_neg (by simp)]
  refine wpAny_bind (listUpdate_at (n := 0) own rfl (wpAny_pure ?_) (Nat.zero_le _) ?_)
  · show wpAny (model prog w) A (load s.heap.objs.size >>= fun o => match o.data with | .seq xs _ => pure xs.toList | _ => unsupported "internal:collect") Q E _
    refine wpAny_bind (wpAny_load (get?_update_seq own _) ?_)
    have e : ((#[] : Array Value) ++ vs.toArray).toList = vs := by simp
    show wpAny (model prog w) A (pure ((#[] : Array Value) ++ vs.toArray).toList) Q E _
    rw [e]
    exact wpAny_pure h
  · show ((#[] : Array Value) ++ vs.toArray).size ≤ sizeLine + 1
    simp
    omega
theorem sortedT_of {Q : Value → Shared → Prop} (hl : s.heap.IsTuple l vs.toArray) (hz : vs.length ≤ sizeLine)
    (body : ∀ E' : Value → Shared → Prop, wpAny (model prog w) A.in1.in1 (Builtin.«list.sort» ⟨[.ref (s.heap.objs.size + 1)], []⟩) (fun r t => r = .done (.ret .none) ∧ Q (.ref (s.heap.objs.size + 1)) t) E' { s with heap := PySem.W.copyHeap s.heap vs }) :
    wpAny (model prog w) A (call (.builtin "sorted") [.ref l]) Q E s := by
  refine Calls.call_function_entry kind_sorted plain_sorted entry_sorted (args_sorted1 _) ?_
  unfold Builtin.«sorted»
  refine wpAny_bind (m := checkCount "sorted" 1 1 _) (wpAny_pure (wpAny_bind (collectT hl hz (wpAny_bind (wpAny_newList ?_ hz)))))
  have sz : ((s.heap.push (seqObj "list" #[] 0)).update s.heap.objs.size (Obj.mapSeq (· ++ vs.toArray))).objs.size = s.heap.objs.size + 1 := by
    rw [Heap.size_update, size_push']
  show wpAny (model prog w) _ _ _ _ { s with heap := PySem.W.copyHeap s.heap vs }
  rw [sz]
  refine wpAny_bind (wpAny_holding (wpAny_call_entry slot_list_sort ⟨_, PySem.W.copyHeap_at s.heap vs, rfl⟩ entry_list_sort ?_ (args_list_sort _)))
  refine wpAny_mono (body _) (fun r t hr => ?_) fun _ _ e => e
  obtain ⟨rfl, q⟩ := hr
  exact ⟨_, rfl, wpAny_pure ⟨_, rfl, q⟩⟩
theorem sortedT_data {β : Type} {R : Value → β → Prop} {enc : β → PyData} {bs : List β} {Q : Value → Shared → Prop} (hl : s.heap.IsTuple l vs.toArray) (e : PySem.W.EachIs R vs bs) (er : PySem.W.EachIs (fun v b => ∃ as, Reads s.heap v (enc b) as) vs bs) (hal : PySem.W.AllAlike (bs.map enc)) (hk : PySem.W.Sortable (bs.map enc)) (hL : bs.length ≤ sizeLine)
    (hu : ∀ b, b ∈ bs → A.units + 2 + (enc b).depth < cLine) (h : ∀ out, out.length = bs.length → PySem.W.EachIs R out (bs.mergeSort (PySem.W.dataLe false enc)) → Q (.ref (s.heap.objs.size + 1)) { s with heap := sortedAll s.heap vs (List.toArray out) }) :
    wpAny (model prog w) A (call (.builtin "sorted") [.ref l]) Q E s := by
  have hL2 : vs.length ≤ sizeLine := by rw [e.length]; exact hL
  have er2 : PySem.W.EachIs (fun v b => ∃ as, Reads (PySem.W.sortingHeap (PySem.W.copyHeap s.heap vs) (s.heap.objs.size + 1) vs) v (enc b) as) vs bs := er.mono fun _ _ ⟨as, r⟩ => ⟨as, PyProof.Rows.Reads.keeps (fun _ _ => PySem.W.sorting_copy_old) r⟩
  have S := PySem.W.SortsAt.data (prog := prog) (w := w) (A := A.in1.in1) (s := { s with heap := PySem.W.sortingHeap (PySem.W.copyHeap s.heap vs) (s.heap.objs.size + 1) vs }) (PySem.W.each_map (R := fun v d => ∃ as, Reads (PySem.W.sortingHeap (PySem.W.copyHeap s.heap vs) (s.heap.objs.size + 1) vs) v d as) enc er2) hal hk (PySem.W.bound_map hu)
  refine sortedT_of hl hL2 fun _ => PySem.W.list_sort_vals (s := { s with heap := PySem.W.copyHeap s.heap vs }) (PySem.W.copyHeap_at s.heap vs) S hL2 ⟨rfl, ?_⟩
  exact h _ (by rw [PySem.W.sortVals_length false rfl]; exact e.length) (PySem.W.sortVals_data false e er2 hal)
end
/-- sorted of alike data -/
def srtV (xs : List V) (ds : List PyData) : List V := ((xs.zip ds).mergeSort (PySem.W.dataLe false (·.2))).map (·.1)
def rSortD (K : PySem.W.Frag) : List V → Hp → VK → Prop := fun vs H Q => ∃ (a : Addr) (xs : List V) (ds : List PyData), vs = [.ref a] ∧ SeqV K H a xs ∧ DpAll K H xs ds ∧ PySem.W.AllAlike ds ∧ PySem.W.Sortable ds ∧ xs.length ≤ 1000000 ∧ (∀ d ∈ ds, d.depth ≤ 20) ∧
  ∀ p, H p = none → Q (.ref p) (upd H p (.lst (srtV xs ds)))
theorem dpAll_len {K : PySem.W.Frag} {H : Hp} : ∀ {xs : List V} {ds : List PyData}, DpAll K H xs ds → xs.length = ds.length
  | _, _, .nil => rfl
  | _, _, .cons _ r => by simp [dpAll_len r]
theorem each_rel {X : Cx} {pins : List (Addr × Obj)} {σ : L2.St} {H : Hp} {s : Shared} (I : Inv X pins σ H s) : ∀ {xs : List V} {ds : List PyData} {us : List Value}, Vals xs us → DpAll X.K H xs ds →
    PySem.W.EachIs (fun (v : Value) (b : V × PyData) => RelV b.1 v) us (xs.zip ds) ∧ PySem.W.EachIs (fun (v : Value) (b : V × PyData) => ∃ as, Reads s.heap v b.2 as) us (xs.zip ds)
  | _, _, _, .nil, .nil => ⟨.nil, .nil⟩
  | _, _, _, .cons r rr, .cons d dd => by
    obtain ⟨h1, h2⟩ := each_rel I rr dd
    exact ⟨.cons r h1, .cons (Dp.reads I _ _ _ d r) h2⟩
theorem vals_each : ∀ {bs : List (V × PyData)} {us : List Value}, PySem.W.EachIs (fun (v : Value) (b : V × PyData) => RelV b.1 v) us bs → Vals (bs.map (·.1)) us
  | _, _, .nil => .nil
  | _, _, .cons r rr => .cons r (vals_each rr)
theorem map_snd_zip {xs : List V} {ds : List PyData} (h : xs.length = ds.length) : (xs.zip ds).map (fun b => b.2) = ds := List.map_snd_zip (by omega)
theorem c_sortD {X : Cx} {K : PySem.W.Frag} {k : Nat} (hK : X.K = K) (hr : Room k X.A) : CallR X (.builtin "sorted") (rSortD K) := by
  subst hK
  intro pins s σ H vs us Q I r h
  obtain ⟨a, xs, ds, rfl, hs, hd, al, so, hz, hdep, q⟩ := h
  have hlen := dpAll_len hd
  obtain ⟨u, rfl, ru⟩ := vals1 r
  obtain rfl : u = Value.ref a := ru
  have hu := hr.units
  have fin : ∀ (its : List Value), its.length = xs.length → ∀ out, out.length = (xs.zip ds).length → PySem.W.EachIs (fun (v : Value) (b : V × PyData) => RelV b.1 v) out ((xs.zip ds).mergeSort (PySem.W.dataLe false (·.2))) →
      EP X pins σ Q (.ref (s.heap.objs.size + 1)) { s with heap := sortedAll s.heap its (List.toArray out) } := by
    intro its hil out ho he
    obtain ⟨ep, at_⟩ := sortedAll_at s.heap its out.toArray
    refine ⟨.ref _, upd H (s.heap.objs.size + 1) (.lst (srtV xs ds)), I.laid (t' := s.toks) (fun _ _ => sortedAll_old) (Nat.le_succ _) ⟨?_, out, ep, vals_each he, at_⟩, rfl, q _ (I.hok.fresh (Nat.le_succ _))⟩
    unfold srtV
    rw [List.length_map, List.length_mergeSort, List.length_zip]
    exact sz5 (by omega)
  have al' : PySem.W.AllAlike ((xs.zip ds).map (fun b => b.2)) := by rw [map_snd_zip hlen]; exact al
  have so' : PySem.W.Sortable ((xs.zip ds).map (fun b => b.2)) := by rw [map_snd_zip hlen]; exact so
  have hL : (xs.zip ds).length ≤ sizeLine := by rw [List.length_zip]; exact sz5 (by omega)
  have hu2 : ∀ b, b ∈ xs.zip ds → X.A.units + 2 + b.2.depth < cLine := fun b hb => by
    have := hdep b.2 (List.of_mem_zip hb).2
    omega
  rcases hs with hs | hs
  · obtain ⟨its, rv, pl, _⟩ := I.list hs
    obtain ⟨e1, e2⟩ := each_rel I rv hd
    exact PySem.W.sorted_data pl.isList e1 e2 al' so' hL hu2 (fin its rv.length.symm)
  · obtain ⟨its, rv, pl, _⟩ := I.tuple hs
    obtain ⟨e1, e2⟩ := each_rel I rv hd
    exact sortedT_data (show s.heap.IsTuple a its.toArray from pl) e1 e2 al' so' hL hu2 (fin its rv.length.symm)
end Wp
set_option Elab.async false
set_option linter.all false
set_option maxRecDepth 100000
set_option maxHeartbeats 4000000
/-! What sorted makes of texts and of other data. -/
namespace Wp
open PySem PySem.Spec PyProof.Rows L2
theorem zip_maps {β : Type} (v : β → V) (e : β → PyData) : ∀ bs : List β, (bs.map v).zip (bs.map e) = bs.map fun b => (v b, e b)
  | [] => rfl
  | b :: r => by simp [zip_maps v e r]
theorem srt_map {β : Type} (bs : List β) (v : β → V) (e : β → PyData) : srtV (bs.map v) (bs.map e) = (bs.mergeSort (PySem.W.dataLe false e)).map v := by
  unfold srtV
  rw [zip_maps, ← List.map_mergeSort (r := PySem.W.dataLe false e) (s := PySem.W.dataLe false (fun b : V × PyData => b.2)) (f := fun b => (v b, e b)) (fun a _ b _ => rfl), List.map_map]
  rfl
def leS (a b : Str) : Bool := decide (a.cps.toList ≤ b.cps.toList)
theorem leS_eq : PySem.W.dataLe false PyData.str = leS := PySem.W.dataLe_str (fun b : Str => b)
theorem leS_trans (a b c : Str) (h1 : leS a b = true) (h2 : leS b c = true) : leS a c = true := decide_eq_true (List.le_trans (of_decide_eq_true h1) (of_decide_eq_true h2))
theorem leS_total (a b : Str) : (leS a b || leS b a) = true := by
  rcases List.le_total a.cps.toList b.cps.toList with h | h
  · rw [show leS a b = true from decide_eq_true h]
    rfl
  · rw [show leS b a = true from decide_eq_true h, Bool.or_true]
theorem leS_anti {a b : Str} (h1 : leS a b = true) (h2 : leS b a = true) : a = b := PySem.W.str_of_cps (List.le_antisymm (of_decide_eq_true h1) (of_decide_eq_true h2))
def srtS (xs : List Str) : List Str := xs.mergeSort leS
theorem srtS_perm (xs : List Str) : (srtS xs).Perm xs := List.mergeSort_perm xs leS
theorem srtS_asc (xs : List Str) : (srtS xs).Pairwise (fun a b => leS a b = true) := List.pairwise_mergeSort leS_trans leS_total xs
/-- two ascending arrangements are one -/
theorem asc_uniq {xs ys : List Str} (h1 : xs.Pairwise (fun a b => leS a b = true)) (h2 : ys.Pairwise (fun a b => leS a b = true)) (p : xs.Perm ys) : xs = ys := List.Perm.eq_of_pairwise (fun _ _ _ _ a b => leS_anti a b) h1 h2 p
theorem srtS_eq {xs ys : List Str} (h : xs.Perm ys) : srtS xs = srtS ys := asc_uniq (srtS_asc xs) (srtS_asc ys) ((srtS_perm xs).trans (h.trans (srtS_perm ys).symm))
theorem rising_asc : ∀ (p : Str) (l : List Str), risingS p l = true → (p :: l).Pairwise (fun a b => leS a b = true)
  | p, [], _ => List.pairwise_singleton _ _
  | p, x :: r, h => by
    have h : (!ltCps x.cps.toList p.cps.toList && risingS x r) = true := h
    obtain ⟨h1, h2⟩ := Bool.and_eq_true_iff.mp h
    have ih := rising_asc x r h2
    have hpx : leS p x = true := by
      have e : ltCps x.cps.toList p.cps.toList = false := by simpa using h1
      rw [ltCps_eq] at e
      exact decide_eq_true (List.not_lt.mp (of_decide_eq_false e))
    refine List.pairwise_cons.mpr ⟨fun y hy => ?_, ih⟩
    rcases List.mem_cons.mp hy with rfl | hy
    · exact hpx
    · exact leS_trans _ _ _ hpx ((List.pairwise_cons.mp ih).1 y hy)
theorem sortedS_asc {l : List Str} (h : sortedS l = true) : l.Pairwise (fun a b => leS a b = true) := by
  cases l with
  | nil => exact .nil
  | cons p r => exact rising_asc p r h
theorem sortedS_uniq {xs ys : List Str} (h1 : sortedS xs = true) (h2 : sortedS ys = true) (p : xs.Perm ys) : xs = ys := asc_uniq (sortedS_asc h1) (sortedS_asc h2) p
section
variable {K : PySem.W.Frag} {H : Hp} {Q : VK} {p : Addr} {xs : List Str}
theorem alike_strs (xs : List Str) : PySem.W.AllAlike (xs.map PyData.str) := PySem.W.AllAlike.of fun _ _ => rfl
theorem sortable_strs (xs : List Str) : PySem.W.Sortable (xs.map PyData.str) := PySem.W.Sortable.others fun b => ⟨(fun z => by cases z), fun ys z => by cases z⟩
theorem depth_strs (xs : List Str) : ∀ d ∈ xs.map PyData.str, d.depth ≤ 20 := fun d hd => by
  obtain ⟨z, _, rfl⟩ := List.mem_map.mp hd
  simp [PyData.depth]
theorem r_sortS (h : SeqV K H p (xs.map V.str)) (hz : xs.length ≤ 1000000) (q : ∀ t H', H t = none → Same H H' → H' t = some (.lst ((srtS xs).map V.str)) → Q (.ref t) H') : rSortD K [.ref p] H Q := by
  refine ⟨p, _, xs.map .str, rfl, h, dp_strs xs, alike_strs xs, sortable_strs xs, by rw [List.length_map]; exact hz, depth_strs xs, fun t ht => ?_⟩
  rw [srt_map, leS_eq]
  exact q t _ ht (Same.new ht) upd_same
theorem lay_strs : ∀ l : List Str, (∀ z ∈ l, PyData.strOk z = true) → PyData.canLayAll0 (l.map PyData.str) = true ∧ PyData.depthAll (l.map PyData.str) = 0
  | [], _ => ⟨rfl, rfl⟩
  | a :: r, h => by
    obtain ⟨i1, i2⟩ := lay_strs r fun z hz => h z (List.mem_cons_of_mem _ hz)
    refine ⟨?_, ?_⟩
    · rw [List.map_cons, PyData.canLayAll0, i1]
      simp [PyData.canLay0, h a (List.mem_cons_self ..)]
    · rw [List.map_cons, PyData.depthAll, i2]
      simp [PyData.depth]
theorem shp_strs {l : List Str} (h : ∀ z ∈ l, PyData.strOk z = true) : SeqAt.shaped (.list (l.map PyData.str)) = true := by
  obtain ⟨y1, y2⟩ := lay_strs l h
  show (PyData.canLayAll0 _ && decide (PyData.depthAll _ + 1 ≤ 64)) = true
  rw [y1, y2]
  rfl
end
end Wp
set_option Elab.async false
set_option linter.all false
set_option maxRecDepth 100000
set_option maxHeartbeats 4000000
/-! A new dict that is walked and then left; three at once; max of three. -/
namespace Wp
open PySem PySem.Spec PyProof.Rows L2
def kFrz (Q : VK) : VK := fun x H1 => ∃ d kvs, x = .ref d ∧ H1 d = some (.dK kvs) ∧ ∀ od, Q (.ref d) (upd H1 d (.frz od (.dK kvs)))
def tFrz (t : TE) : TE := fun σ H Q => t σ H (kFrz Q)
section
variable {X : Cx} {e : Expr} {t : TE} {σ : L2.St} {H : Hp} {Q : VK} {d : Addr} {kvs : List (Key × V)}
theorem pe_frz (h : PE X e t) : PE X e (tFrz t) := by
  refine ⟨fun pins s σ H Q I hw => thn (h.run pins s σ H _ I hw) fun v s1 ⟨x, H1, I1, r, d, kvs, ex, hd, q⟩ => ?_⟩
  obtain ⟨od, I2⟩ := I1.lock hd True.intro
  exact ⟨.ref d, _, I2, by rw [← ex]; exact r, q od⟩
theorem r_frz (q : t σ H (kFrz Q)) : tFrz t σ H Q := q
theorem r_kFrz (h : H d = some (.dK kvs)) (q : ∀ od H', H' d = some (.frz od (.dK kvs)) → But d H H' → (∀ b, H' b = none → H b = none) → Q (.ref d) H') : kFrz Q (.ref d) H :=
  ⟨d, kvs, rfl, h, fun od => q od _ upd_same But.upd fun b e => by
    by_cases hb : b = d
    · rw [hb, upd_same] at e
      cases e
    · rw [upd_ne hb] at e
      exact e⟩
end
section
variable {ta : TA} {D : Ends} {σ : L2.St} {H : Hp} {i j l : Nat} {x y z : V} {Q : VK}
def kPar3 (i j l : Nat) (D : Ends) (σ : L2.St) : List V → Hp → Prop := fun vs H1 => ∃ u v w, vs = [u, v, w] ∧ D.nx (((σ.set i (some u)).set j (some v)).set l (some w)) H1
theorem r_par3 (q : ta σ H (kPar3 i j l D σ)) : tPar3 i j l ta D σ H := q
theorem r_kPar3 (q : D.nx (((σ.set i (some x)).set j (some y)).set l (some z)) H) : kPar3 i j l D σ [x, y, z] H := ⟨x, y, z, rfl, q⟩
theorem r_max3 {a b c : Int} (q : ∀ m : Int, Q (.int m) H) : rNuC3 nuMax3 [.int a, .int b, .int c] H Q := by
  have h2 : ∀ a b : Int, ∃ m : Int, nuMax2 (.int a) (.int b) = some (.int m) := fun a b => by
    have e : nuMax2 (.int a) (.int b) = some (if decide (a < b) = true then V.int b else V.int a) := rfl
    rw [e]
    by_cases h : a < b
    · exact ⟨b, by rw [if_pos (decide_eq_true h)]⟩
    · exact ⟨a, by rw [if_neg (by rw [decide_eq_false h]; decide)]⟩
  obtain ⟨m, hm⟩ := h2 a b
  obtain ⟨n, hn⟩ := h2 m c
  exact ⟨_, _, _, _, rfl, by show (nuMax2 (.int a) (.int b)).bind _ = _; rw [hm]; exact hn, q n⟩
end
/-! data that can stand in lists that are compared -/
structure GoodD (K : PySem.W.Frag) (H : Hp) (v : V) (d : PyData) : Prop where
  p : Dp K H v d
  l : PyData.canLay0 d = true
  h : d.depth ≤ 20
theorem GoodD.keep {K : PySem.W.Frag} {H H' : Hp} {v : V} {d : PyData} (g : GoodD K H v d) (e : Same H H') : GoodD K H' v d := ⟨Dp.mono e g.p, g.l, g.h⟩
/-- a list of such data -/
inductive GoodL (K : PySem.W.Frag) (H : Hp) : List V → List PyData → Prop
  | nil : GoodL K H [] []
  | cons {v : V} {d : PyData} {vs : List V} {ds : List PyData} : GoodD K H v d → GoodL K H vs ds → GoodL K H (v :: vs) (d :: ds)
section
variable {K : PySem.W.Frag} {H H' : Hp} {vs : List V} {ds : List PyData} {p q : Addr} {Q : VK} {v : V} {d : PyData}
theorem GoodL.dp (g : GoodL K H vs ds) : DpAll K H vs ds ∧ PyData.canLayAll0 ds = true ∧ PyData.depthAll ds ≤ 20 ∧ vs.length = ds.length := by
  induction g with
  | nil => exact ⟨.nil, rfl, Nat.zero_le _, rfl⟩
  | @cons v d vs ds h _ ih =>
    obtain ⟨h1, h2, h3, h4⟩ := ih
    refine ⟨.cons h.p h1, ?_, ?_, by simp [h4]⟩
    · rw [PyData.canLayAll0, h.l, h2]
      rfl
    · rw [PyData.depthAll]
      have := h.h
      omega
theorem GoodL.keep (g : GoodL K H vs ds) (e : Same H H') : GoodL K H' vs ds := by
  induction g with
  | nil => exact .nil
  | cons h _ ih => exact .cons (h.keep e) ih
theorem GoodL.snoc (g : GoodL K H vs ds) (h : GoodD K H v d) : GoodL K H (vs ++ [v]) (ds ++ [d]) := by
  induction g with
  | nil => exact .cons h .nil
  | cons h' _ ih => exact .cons h' ih
theorem GoodD.int (i : Int) : GoodD K H (.int i) (.int i) := ⟨.int i, rfl, by simp [PyData.depth]⟩
theorem GoodD.str {z : Str} (h : PyData.strOk z = true) : GoodD K H (.str z) (.str z) := ⟨.str z, h, by simp [PyData.depth]⟩
/-- a tuple, a list of good data, not too deep -/
theorem GoodL.tup (g : GoodL K H vs ds) (h : PyData.depthAll ds ≤ 18) (hp : H p = some (.tup vs)) : GoodD K H (.ref p) (.tuple ds) := by
  obtain ⟨h1, h2, _, _⟩ := g.dp
  exact ⟨.tup (SqT.of hp) h1, h2, by rw [PyData.depth]; omega⟩
theorem GoodL.lst (g : GoodL K H vs ds) (h : PyData.depthAll ds ≤ 18) (hp : H p = some (.lst vs)) : GoodD K H (.ref p) (.list ds) := by
  obtain ⟨h1, h2, _, _⟩ := g.dp
  exact ⟨.lst (SqL.of hp) h1, h2, by rw [PyData.depth]; omega⟩
/-- xs != [] -/
theorem r_neNil (g : GoodL K H vs ds) (hp : H p = some (.lst vs)) (hq : H q = some (.lst [])) (k : Q (.bl (!decide (vs = []))) H) : rNeD K (.ref p) (.ref q) H Q := by
  obtain ⟨h1, h2, h3, h4⟩ := g.dp
  refine ⟨.list ds, .list [], .lst (SqL.of hp) h1, .lst (SqL.of hq) .nil, ?_, by decide +kernel, ?_⟩
  · show (PyData.canLayAll0 ds && decide (PyData.depthAll ds + 1 ≤ 64)) = true
    rw [h2, decide_eq_true (by omega)]
    rfl
  · have e : PyData.eqv (.list ds) (.list []) = decide (vs = []) := by
      show PyData.eqvAll ds [] = _
      cases ds with
      | nil =>
        have : vs = [] := List.length_eq_zero_iff.mp h4
        rw [this]
        rfl
      | cons a r =>
        cases vs with
        | nil => cases h4
        | cons b s =>
          show PyData.eqvAll (a :: r) [] = _
          simp [PyData.eqvAll]
    rw [e]
    exact k
end
/-! a list, whatever is in it, against [] -/
def rNeNil (K : PySem.W.Frag) : R2 := fun x y H Q => ∃ (p q : Addr) (xs : List V), x = .ref p ∧ y = .ref q ∧ SqL K H p xs ∧ SqL K H q [] ∧ Q (.bl (!decide (xs = []))) H
def rEqNil (K : PySem.W.Frag) : R2 := fun x y H Q => ∃ (p q : Addr) (xs : List V), x = .ref p ∧ y = .ref q ∧ SqL K H p xs ∧ SqL K H q [] ∧ Q (.bl (decide (xs = []))) H
section
variable {X : Cx} {K : PySem.W.Frag} {H : Hp} {Q : VK} {p q : Addr} {xs : List V}
theorem nil_cmp (hu : X.A.units < cLine) {pins : List (Addr × Obj)} {s : Shared} {σ : L2.St} (I : Inv X pins σ H s) (h1 : SqL X.K H p xs) (h2 : SqL X.K H q []) :
    (∀ (R : Value → Shared → Prop) (E : Value → Shared → Prop), R (.bool (decide (xs = []))) s → wpAny (model X.prog X.w) X.A (compareOp .Eq (.ref p) (.ref q)) R E s) ∧
    (∀ (R : Value → Shared → Prop) (E : Value → Shared → Prop), R (.bool (!decide (xs = []))) s → wpAny (model X.prog X.w) X.A (compareOp .NotEq (.ref p) (.ref q)) R E s) := by
  obtain ⟨us, rv, p1, _⟩ := I.list h1
  obtain ⟨ws, rw2, p2, _⟩ := I.list h2
  have e2 : ws = [] := by
    cases rw2
    rfl
  subst e2
  cases xs with
  | nil =>
    have e1 : us = [] := by
      cases rv
      rfl
    subst e1
    refine ⟨fun R E hR => ?_, fun R E hR => ?_⟩
    · exact SeqAt.eq_listAt (e := fun _ => true) p1.isList p2.isList rfl hu (fun j h => absurd h (by simp)) (by simpa using hR)
    · exact SeqAt.RcNeAt.lists (e := fun _ => true) p1.isList p2.isList rfl hu (fun j h => absurd h (by simp)) X.prog X.w E R (by simpa using hR)
  | cons v vs =>
    have hz : (us.toArray.size != ([] : List Value).toArray.size) = true := by
      have := rv.length
      cases us with
      | nil => cases this
      | cons a r => simp
    refine ⟨fun R E hR => ?_, fun R E hR => ?_⟩
    · exact SeqAt.eq_list_lengthsAt p1.isList p2.isList hz hu (by simpa using hR)
    · exact SeqAt.RcNeAt.lists_lengths p1.isList p2.isList hz hu X.prog X.w E R (by simpa using hR)
theorem neNilK (h : X.K = K) (hu : X.A.units + 64 < cLine) : OpR X (compareOp .NotEq) (rNeNil K) := by
  subst h
  intro pins s σ H x y v u Q I rx ry h
  obtain ⟨p, q, xs, rfl, rfl, h1, h2, k⟩ := h
  obtain rfl : v = .ref p := rx
  obtain rfl : u = .ref q := ry
  exact (nil_cmp (by omega) I h1 h2).2 _ _ ⟨.bl _, H, I, rfl, k⟩
theorem eqNilK (h : X.K = K) (hu : X.A.units + 64 < cLine) : OpR X (compareOp .Eq) (rEqNil K) := by
  subst h
  intro pins s σ H x y v u Q I rx ry h
  obtain ⟨p, q, xs, rfl, rfl, h1, h2, k⟩ := h
  obtain rfl : v = .ref p := rx
  obtain rfl : u = .ref q := ry
  exact (nil_cmp (by omega) I h1 h2).1 _ _ ⟨.bl _, H, I, rfl, k⟩
theorem r_neNilA (h1 : SqL K H p xs) (h2 : SqL K H q []) (k : Q (.bl (!decide (xs = []))) H) : rNeNil K (.ref p) (.ref q) H Q := ⟨p, q, xs, rfl, rfl, h1, h2, k⟩
theorem r_eqNilA (h1 : SqL K H p xs) (h2 : SqL K H q []) (k : Q (.bl (decide (xs = []))) H) : rEqNil K (.ref p) (.ref q) H Q := ⟨p, q, xs, rfl, rfl, h1, h2, k⟩
end
end Wp
set_option Elab.async false
set_option linter.all false
set_option maxRecDepth 100000
set_option maxHeartbeats 4000000
/-! repr of data: how long it is at most. -/
namespace Wp
open PySem PySem.Spec PyProof.Rows L2
mutual
/-- no dicts, ints below 10 ^ 60 -/
def smI : PyData → Bool
  | .none => true
  | .bool _ => true
  | .int i => decide (i.natAbs < 10 ^ 60)
  | .str x => x.cps.toList.all fun c => decide (c < 16 ^ 8)
  | .list xs => smAll xs
  | .tuple xs => smAll xs
  | .dict _ => false
def smAll : List PyData → Bool
  | [] => true
  | x :: xs => smI x && smAll xs
end
mutual
def wz : PyData → Nat
  | .none => 4
  | .bool _ => 5
  | .int _ => 61
  | .str x => 10 * x.cps.size + 8
  | .list xs => wzAll xs + 3
  | .tuple xs => wzAll xs + 3
  | .dict _ => 0
def wzAll : List PyData → Nat
  | [] => 0
  | x :: xs => wz x + 2 + wzAll xs
end
theorem smAll_cons {x : PyData} {xs : List PyData} : smAll (x :: xs) = (smI x && smAll xs) := by rw [smAll]
theorem shownAll_len : ∀ xs : List PyData, (PyData.shownAll xs).length = xs.length
  | [] => by simp [PyData.shownAll]
  | x :: xs => by simp [PyData.shownAll, shownAll_len xs]
mutual
theorem shown_wz : ∀ d : PyData, smI d = true → d.shown.length ≤ wz d
  | .none, _ => by
    simp only [PyData.shown, wz]
    decide
  | .bool b, _ => by
    simp only [PyData.shown, wz]
    cases b <;> decide
  | .int i, h => by
    have e := int_text_length_le10 (k := 60) (by decide) (of_decide_eq_true (by simpa [smI] using h))
    simp only [PyData.shown, wz]
    rw [PySem.ofString_length]
    exact e
  | .str x, h => by
    have e := PyData.shown_le 8 (by decide) (.str x) (by simpa [PyData.leavesShort, smI] using h)
    simp only [PyData.weight] at e
    simp only [wz]
    omega
  | .list xs, h => by
    have h1 := shown_wzAll xs (by simpa [smI] using h)
    have h2 := listText_len_le (PyData.shownAll xs)
    rw [shownAll_len] at h2
    simp only [PyData.shown, wz]
    omega
  | .tuple xs, h => by
    have h1 := shown_wzAll xs (by simpa [smI] using h)
    have h2 := tupleText_len_le (PyData.shownAll xs)
    rw [shownAll_len] at h2
    simp only [PyData.shown, wz]
    omega
  | .dict kvs, h => by simp [smI] at h
theorem shown_wzAll : ∀ xs : List PyData, smAll xs = true → ((PyData.shownAll xs).map (·.length)).sum + 2 * xs.length ≤ wzAll xs
  | [], _ => by simp [PyData.shownAll, wzAll]
  | x :: xs, h => by
    rw [smAll_cons] at h
    obtain ⟨h1, h2⟩ := Bool.and_eq_true_iff.mp h
    have e1 := shown_wz x h1
    have e2 := shown_wzAll xs h2
    simp only [PyData.shownAll, List.map_cons, List.sum_cons, List.length_cons, wzAll]
    omega
end
mutual
theorem show_sm : ∀ d : PyData, smI d = true → d.showable = true ∧ d.hasDict = false
  | .none, _ => by simp [PyData.showable, PyData.hasDict]
  | .bool b, _ => by simp [PyData.showable, PyData.hasDict]
  | .int i, h => by
    have e : i.natAbs < 10 ^ 60 := of_decide_eq_true (by simpa [smI] using h)
    refine ⟨?_, by simp [PyData.hasDict]⟩
    simp only [PyData.showable, decide_eq_true_eq]
    by_cases h0 : i.natAbs = 0
    · rw [h0]
      decide
    · exact (Nat.log2_lt h0).mpr (Nat.lt_of_lt_of_le e (by decide +kernel))
  | .str x, _ => by simp [PyData.showable, PyData.hasDict]
  | .list xs, h => by
    have e := show_smAll xs (by simpa [smI] using h)
    simpa [PyData.showable, PyData.hasDict] using e
  | .tuple xs, h => by
    have e := show_smAll xs (by simpa [smI] using h)
    simpa [PyData.showable, PyData.hasDict] using e
  | .dict kvs, h => by simp [smI] at h
theorem show_smAll : ∀ xs : List PyData, smAll xs = true → PyData.showableAll xs = true ∧ PyData.hasDictAll xs = false
  | [], _ => by simp [PyData.showableAll, PyData.hasDictAll]
  | x :: xs, h => by
    rw [smAll_cons] at h
    obtain ⟨h1, h2⟩ := Bool.and_eq_true_iff.mp h
    obtain ⟨e1, e2⟩ := show_sm x h1
    obtain ⟨e3, e4⟩ := show_smAll xs h2
    simp [PyData.showableAll, PyData.hasDictAll, e1, e2, e3, e4]
end
section
variable {K : PySem.W.Frag} {H : Hp} {Q : VK} {v : V} {d : PyData}
theorem r_repr (hd : Dp K H v d) (h1 : smI d = true) (h2 : d.depth ≤ 60) (h3 : wz d ≤ 16777216) (q : Q (.str d.shown) H) : rRepr K [v] H Q := by
  obtain ⟨e1, e2⟩ := show_sm d h1
  exact ⟨v, d, rfl, hd, e1, h2, by rw [sizeLine_eq]; exact Nat.le_trans (shown_wz d h1) h3, e2, q⟩
theorem sm_ints : ∀ {ns : List Int}, (∀ n ∈ ns, n.natAbs < 10 ^ 60) → smAll (ns.map PyData.int) = true
  | [], _ => by simp [smAll]
  | n :: r, h => by
    rw [List.map_cons, smAll_cons, sm_ints fun m hm => h m (List.mem_cons_of_mem _ hm)]
    simp [smI, h n (List.mem_cons_self ..)]
theorem wz_ints : ∀ ns : List Int, wzAll (ns.map PyData.int) = 63 * ns.length
  | [] => by simp [wzAll]
  | n :: r => by
    simp only [List.map_cons, wzAll, wz, List.length_cons]
    rw [wz_ints r]
    omega
end
end Wp
set_option Elab.async false
set_option linter.all false
set_option maxRecDepth 100000
set_option maxHeartbeats 4000000
/-! Dicts from ints to ints; lists of pairs of ints. -/
namespace Wp
open PySem PySem.Spec PyProof.Rows L2
def encT (t : List (Int × Int)) : List (Key × V) := t.map fun p => (Sum.inl p.1, V.int p.2)
theorem valV_enc (z : Int) : ∀ t : List (Int × Int), valV (encT t) (Sum.inl z : Key) = (lookT t z).map V.int
  | [] => rfl
  | (k, c) :: r => by
    have := valV_enc z r
    show valV ((Sum.inl k, V.int c) :: encT r) (Sum.inl z : Key) = (if k = z then some c else lookT r z).map V.int
    by_cases h : k = z
    · rw [if_pos h, valV_pos (by rw [h])]
      rfl
    · rw [if_neg h, valV_neg (fun e => h (Sum.inl.inj e)), this]
theorem enc_any (z : Int) : ∀ t : List (Int × Int), ((encT t).any fun kv => decide (kv.1 = (Sum.inl z : Key))) = t.any fun p => decide (p.1 = z)
  | [] => rfl
  | (k, c) :: r => by
    have := enc_any z r
    show (decide ((Sum.inl k : Key) = Sum.inl z) || (encT r).any _) = (decide (k = z) || r.any _)
    rw [this]
    congr 1
    exact decide_eq_decide.mpr ⟨fun e => Sum.inl.inj e, fun e => by rw [e]⟩
theorem putK_enc (t : List (Int × Int)) (z c : Int) : putK (encT t) (Sum.inl z : Key) (.int c) = encT (putI t z c) := by
  unfold putK putI
  rw [enc_any]
  split
  · unfold encT
    rw [List.map_map, List.map_map]
    refine List.map_congr_left fun p _ => ?_
    show (if (Sum.inl p.1 : Key) = Sum.inl z then (Sum.inl p.1, V.int c) else (Sum.inl p.1, V.int p.2)) = (Sum.inl (if p.1 = z then (p.1, c) else p).1, V.int (if p.1 = z then (p.1, c) else p).2)
    by_cases h : p.1 = z
    · rw [if_pos (by rw [h]), if_pos h]
    · rw [if_neg (fun e => h (Sum.inl.inj e)), if_neg h]
  · unfold encT
    rw [List.map_append]
    rfl
theorem enc_keys (t : List (Int × Int)) : (encT t).map (·.1) = (t.map (·.1)).map (Sum.inl : Int → Key) := by
  unfold encT
  rw [List.map_map, List.map_map]
  rfl
theorem enc_kV (t : List (Int × Int)) : ((encT t).map fun kv => kV kv.1) = (t.map (·.1)).map V.int := by
  unfold encT
  rw [List.map_map, List.map_map]
  rfl
theorem enc_len (t : List (Int × Int)) : (encT t).length = t.length := List.length_map _
/-- pairs of ints in tuples -/
inductive PLs (H : Hp) : List V → List (Int × Int) → Prop
  | nil : PLs H [] []
  | cons {t : Addr} {a b : Int} {vs : List V} {ps : List (Int × Int)} : H t = some (.tup [.int a, .int b]) → PLs H vs ps → PLs H (.ref t :: vs) ((a, b) :: ps)
theorem PLs.keep {H H' : Hp} {vs : List V} {ps : List (Int × Int)} (h : PLs H vs ps) (e : ∀ t xs, H t = some (.tup xs) → H' t = some (.tup xs)) : PLs H' vs ps := by
  induction h with
  | nil => exact .nil
  | cons h _ ih => exact .cons (e _ _ h) ih
theorem PLs.snoc {H : Hp} {vs : List V} {ps : List (Int × Int)} {t : Addr} {a b : Int} (h : PLs H vs ps) (ht : H t = some (.tup [.int a, .int b])) : PLs H (vs ++ [.ref t]) (ps ++ [(a, b)]) := by
  induction h with
  | nil => exact .cons ht .nil
  | cons h _ ih => exact .cons h ih
theorem PLs.len {H : Hp} {vs : List V} {ps : List (Int × Int)} (h : PLs H vs ps) : vs.length = ps.length := by
  induction h with
  | nil => rfl
  | cons _ _ ih => simp [ih]
def encP (p : Int × Int) : PyData := .tuple [.int p.1, .int p.2]
theorem PLs.dp {K : PySem.W.Frag} {H : Hp} {vs : List V} {ps : List (Int × Int)} (h : PLs H vs ps) : DpAll K H vs (ps.map encP) := by
  induction h with
  | nil => exact .nil
  | cons h _ ih => exact .cons (.tup (SqT.of h) (.cons (.int _) (.cons (.int _) .nil))) ih
theorem PLs.of_items {H : Hp} : ∀ {ts : List Addr} {t : List (Int × Int)}, Paired (fun (t : Addr) (q : Key × V) => H t = some (.tup [kV q.1, q.2])) ts (encT t) → PLs H (ts.map V.ref) t
  | [], [], _ => .nil
  | _ :: _, (a, b) :: r, .cons h hr => .cons h (of_items hr)
theorem sm_pairs : ∀ {ps : List (Int × Int)}, (∀ p ∈ ps, p.1.natAbs < 10 ^ 60 ∧ p.2.natAbs < 10 ^ 60) → smAll (ps.map encP) = true ∧ wzAll (ps.map encP) = 131 * ps.length
  | [], _ => ⟨rfl, by simp [wzAll]⟩
  | r :: rs, h => by
    obtain ⟨h1, h2⟩ := sm_pairs fun r' hr' => h r' (List.mem_cons_of_mem _ hr')
    obtain ⟨a1, a2⟩ := h r (List.mem_cons_self ..)
    constructor
    · rw [List.map_cons, smAll_cons, h1, Bool.and_true]
      simp only [encP, smI, smAll_cons]
      rw [decide_eq_true a1, decide_eq_true a2]
      simp [smAll]
    · rw [List.map_cons, wzAll]
      simp only [encP, wz, wzAll, List.length_cons]
      omega
theorem depth_pairs : ∀ rs : List (Int × Int), PyData.depthAll (rs.map encP) ≤ 2
  | [] => by simp [PyData.depthAll]
  | r :: rs => by
    have := depth_pairs rs
    simp only [List.map_cons, PyData.depthAll, encP, PyData.depth]
    omega
section
variable {K : PySem.W.Frag} {H : Hp} {p a b : Addr} {vs : List V} {ps : List (Int × Int)} {Q : VK} {σ : L2.St} {te td ty tx : TE} {t u : List (Int × Int)} {i j : Int} {D : Ends}
theorem r_reprP (h : SqL K H p vs) (hr : PLs H vs ps) (ok : ∀ p ∈ ps, p.1.natAbs < 10 ^ 60 ∧ p.2.natAbs < 10 ^ 60) (hz : ps.length ≤ 1000) (q : Q (.str (PyData.list (ps.map encP)).shown) H) : rRepr K [.ref p] H Q := by
  obtain ⟨h1, h2⟩ := sm_pairs ok
  refine r_repr (d := .list (ps.map encP)) (.lst h hr.dp) ?_ ?_ ?_ q
  · simpa [smI] using h1
  · have := depth_pairs ps
    simp only [PyData.depth]
    omega
  · simp only [wz]
    omega
theorem r_reprI {ns : List Int} (h : SqL K H p (ns.map V.int)) (ok : ∀ n ∈ ns, n.natAbs < 10 ^ 60) (hz : ns.length ≤ 1000) (q : Q (.str (PyData.list (ns.map PyData.int)).shown) H) : rRepr K [.ref p] H Q := by
  refine r_repr (d := .list (ns.map PyData.int)) (.lst h (dp_ints ns)) ?_ ?_ ?_ q
  · simpa [smI] using sm_ints ok
  · have := dep_ints ns
    simp only [PyData.depth]
    omega
  · simp only [wz]
    rw [wz_ints]
    omega
def kDGet2z (a : Addr) (Q : VK) (y : V) : VK := fun z H3 => ∃ o, DGet H3 a y o ∧ Q (o.getD z) H3
def kDGet2 (ty tx : TE) (σ : L2.St) (Q : VK) : VK := fun x H1 => ∃ a, x = .ref a ∧ IsD H1 a ∧ ty σ H1 fun y H2 => tx σ H2 (kDGet2z a Q y)
theorem r_dget2 (q : td σ H (kDGet2 ty tx σ Q)) : tDGet2 td ty tx σ H Q := q
theorem r_kDGet2 {kvs : List (Key × V)} (h : H a = some (.dK kvs)) (q : ty σ H fun y H2 => tx σ H2 (kDGet2z a Q y)) : kDGet2 ty tx σ Q (.ref a) H := ⟨a, rfl, .inl ⟨kvs, .inl h⟩, q⟩
theorem r_kDGet2z (h : H a = some (.dK (encT t))) (q : Q (.int ((lookT t i).getD j)) H) : kDGet2z a Q (.int i) (.int j) H := by
  refine ⟨_, .inl ⟨encT t, Sum.inl i, .inl h, rfl, rfl⟩, ?_⟩
  rw [valV_enc]
  cases h : lookT t i with
  | none => rw [h] at q; exact q
  | some c => rw [h] at q; exact q
theorem r_kDGetT {c : Int} (h : H a = some (.dK (encT t))) (e : lookT t i = some c) (q : Q (.int c) H) : kDGet Q (.ref a) (.int i) H := r_kDGetI h (by rw [valV_enc, e]; rfl) q
theorem r_kDPutT {c : Int} (h : H a = some (.dK (encT t))) (hz : t.length < 1000000) (q : ∀ H', But a H H' → H' a = some (.dK (encT (putI t i c))) → D.nx σ H') : kDPut D σ (.int c) (.ref a) (.int i) H :=
  ⟨a, _, rfl, .inl ⟨encT t, Sum.inl i, h, rfl, sz6 (by rw [enc_len]; exact hz), rfl⟩, q _ But.upd (by rw [← putK_enc]; exact upd_same)⟩
theorem r_neDT {xs ys : List Int} (h1 : H a = some (.dK (encT (tally xs)))) (h2 : H b = some (.dK (encT (tally ys)))) (pm : xs.Perm ys) (q : Q (.bl false) H) : rNeDA (.ref a) (.ref b) H Q := by
  refine ⟨a, b, _, _, rfl, rfl, h1, h2, by rw [enc_len, enc_len]; exact tally_perm_len pm, fun kv hkv => ?_, q⟩
  obtain ⟨z, hz, rfl⟩ := List.mem_map.mp hkv
  refine ⟨?_, rfl⟩
  show valV (encT (tally ys)) (Sum.inl z.1 : Key) = some (V.int z.2)
  rw [valV_enc, ← tally_perm_look pm, look_of_mem (tally_nd xs) hz]
  rfl
def kItems (Q : VK) : VK := fun x H1 => LiI.rItemsL x H1 Q
theorem r_listItems (q : te σ H (kItems Q)) : LiI.tListItems te σ H Q := q
theorem r_kItems (h : H a = some (.dK (encT t))) (q : ∀ p ws H', H p = none → Same H H' → H' p = some (.lst ws) → PLs H' ws t → Q (.ref p) H') : kItems Q (.ref a) H :=
  ⟨a, _, rfl, h, fun H' p ts e np _ _ hp hq => q p _ H' np e hp (PLs.of_items hq)⟩
def kBM0 (K : PySem.W.Frag) (T : String) (r : V → List V → Hp → VK → Prop) (Q : VK) : VK := fun x H1 => tyV K T x H1 ∧ r x [] H1 Q
theorem r_bm0 {T : String} {r : V → List V → Hp → VK → Prop} (q : te σ H (kBM0 K T r Q)) : tBM0 K T r te σ H Q := q
theorem r_kClear {kvs : List (Key × V)} (h : H a = some (.dK kvs)) (q : ∀ H', But a H H' → H' a = some (.dK []) → Q .non H') : kBM0 K "dict" rDClear Q (.ref a) H :=
  ⟨.inr (.inr (.inl ⟨rfl, .inl ⟨kvs, h⟩⟩)), a, kvs, rfl, rfl, h, q _ But.upd upd_same⟩
theorem r_sortedI {ns : List Int} (h : SqL K H a (ns.map V.int)) (q : ∀ (ms : List Int) (p : Addr) (H' : Hp), ms.Perm ns → ms.Pairwise (· ≤ ·) → H p = none → Same H H' → H' p = some (.lst (ms.map V.int)) → Q (.ref p) H') : rSortedI K [.ref a] H Q :=
  ⟨a, ns, rfl, h, fun ms p pm ha hp => q ms p _ pm ha hp (Same.new hp) upd_same⟩
def rSortedDI : List V → Hp → VK → Prop := fun xs H Q => ∃ (a : Addr) (kvs : List (Key × V)) (ks : List Int), xs = [.ref a] ∧ Rd H a (.dK kvs) ∧ kvs.map (·.1) = ks.map Sum.inl ∧ ks.length < 64 ∧
    ∀ (ys : List Int) (p : Addr), ys.Perm ks → ys.Pairwise (· ≤ ·) → H p = none → Q (.ref p) (upd H p (.lst (ys.map V.int)))
theorem r_sortedDI (h : H a = some (.dK (encT t))) (hl : t.length < 64) (q : ∀ (ys : List Int) (p : Addr) (H' : Hp), ys.Perm (t.map (·.1)) → ys.Pairwise (· ≤ ·) → H p = none → Same H H' → H' p = some (.lst (ys.map V.int)) → Q (.ref p) H') : rSortedDI [.ref a] H Q :=
  ⟨a, _, t.map (·.1), rfl, .inl h, enc_keys t, by rw [List.length_map]; exact hl, fun ys p pm ha hp => q ys p _ pm ha hp (Same.new hp) upd_same⟩
theorem r_listDT (h : H p = some (.dK (encT t))) (k : ∀ q H', H q = none → Same H H' → H' q = some (.lst ((t.map (·.1)).map V.int)) → Q (.ref q) H') : rListD' [.ref p] H Q :=
  r_listD h fun q H' nq e hq => k q H' nq e (by rw [← enc_kV]; exact hq)
theorem r_minI {ns : List Int} (h : SqL K H p (ns.map V.int)) (h0 : 0 < ns.length) (k : ∀ m, m ∈ ns → (∀ y ∈ ns, m ≤ y) → Q (.int m) H) : rMin K [.ref p] H Q := ⟨p, ns, rfl, h, h0, k⟩
theorem r_maxI {ns : List Int} (h : SqL K H p (ns.map V.int)) (h0 : 0 < ns.length) (k : ∀ m, m ∈ ns → (∀ y ∈ ns, y ≤ m) → Q (.int m) H) : rMax K [.ref p] H Q := ⟨p, ns, rfl, h, h0, k⟩
theorem cutV_takeL {xs : List V} {i : Int} (h0 : 0 ≤ i) : cutV xs none (some i) = xs.take i.toNat := by
  have e : HT.sIx xs.length xs.length (some i) = min i.toNat xs.length := by
    show (if i < 0 then (i + (xs.length : Int)).toNat else min i.toNat xs.length) = _
    rw [if_neg (by omega)]
  unfold cutV
  rw [e]
  show (xs.drop 0).take (min i.toNat xs.length - 0) = _
  rw [List.drop_zero, Nat.sub_zero]
  by_cases h : i.toNat ≤ xs.length
  · rw [Nat.min_eq_left h]
  · rw [Nat.min_eq_right (by omega), List.take_length, List.take_of_length_le (by omega)]
theorem r_slL_take {xs : List V} (h : SqL K H p xs) (h0 : 0 ≤ i) (q : ∀ t H', H t = none → Same H H' → H' t = some (.lst (xs.take i.toNat)) → Q (.ref t) H') : rSlL K (.ref p) none (some i) H Q := by
  refine ⟨p, xs, rfl, h, fun t ht => ?_⟩
  rw [cutV_takeL h0]
  exact q t _ ht (Same.new ht) upd_same
end
section
variable {X : Cx} {K : PySem.W.Frag}
theorem c_sortedIK (h : X.K = K) : CallR X (.builtin "sorted") (rSortedI K) := by subst h; exact cr_sortedI
theorem c_sortedDI (hc : X.calm = true) : CallR X (.builtin "sorted") rSortedDI := call_sortedDI hc
theorem neDAK (hu : X.A.units + 64 < cLine) : OpR X (compareOp .NotEq) rNeDA := op_ne_dictA (by omega)
theorem pe_dclearK {o : Expr} {to : TE} {apos cpos : Pos} (h : X.K = K) (ho : PE X o to) (hbase : attributeBase o "clear" X.env (eval o X.env) = eval o X.env := by rfl) (hline : (apos.endLine == cpos.line) = true := by rfl) : PE X (.Call (.Attribute o "clear" apos) [] [] cpos) (tBM0 K "dict" rDClear to) := by
  subst h
  exact pe_dclear ho hbase hline
end
end Wp
set_option linter.all false
/-! Names: one to eight small letters (plain Lean). -/
namespace Wp
open PySem PyProof.Rows L2
def Low (s : Str) : Prop := ∀ c ∈ s.cps.toList, 97 ≤ c ∧ c ≤ 122
structure NameOk (s : Str) : Prop where
  lo : 1 ≤ s.length
  hi : s.length ≤ 8
  low : Low s
def abc : Str := "abcdefghijklmnopqrstuvwxyz"
def pool : List Str := ["a", "b", "buy", "pay", "cash", "end", "free", "day", "laid", "zzzzzzzz", "rate", "statement"]
theorem abc_list : abc.cps.toList = [97, 98, 99, 100, 101, 102, 103, 104, 105, 106, 107, 108, 109, 110, 111, 112, 113, 114, 115, 116, 117, 118, 119, 120, 121, 122] := by decide +kernel
theorem abc_mem {c : Nat} : c ∈ abc.cps.toList ↔ 97 ≤ c ∧ c ≤ 122 := by
  rw [abc_list]
  simp only [List.mem_cons, List.not_mem_nil, or_false]
  omega
theorem abc_len : abc.length = 26 := by decide +kernel
theorem abc_at {i : Nat} {c : Nat} (h : abc.cps.toList[i]? = some c) : 97 ≤ c ∧ c ≤ 122 := abc_mem.mp (List.mem_of_getElem? h)
theorem split_pool : Txt.split "a b buy pay cash end free day laid zzzzzzzz rate statement" " " = pool := by decide +kernel
def lowB (s : Str) : Bool := decide (1 ≤ s.length) && s.cps.toList.all fun c => decide (97 ≤ c) && decide (c ≤ 122)
theorem lowB_ok {s : Str} (h : lowB s = true) : 1 ≤ s.length ∧ Low s := by
  simp only [lowB, Bool.and_eq_true, decide_eq_true_eq, List.all_eq_true] at h
  exact ⟨h.1, fun c hc => h.2 c hc⟩
theorem pool_ok : ∀ s ∈ pool, lowB s = true := by decide +kernel
theorem pool_len : ∀ s ∈ pool, s.length ≤ 9 := by decide +kernel
theorem cut_list (z : Str) (k : Nat) : (cutS z none (some (k : Int))).cps.toList = z.cps.toList.take k := by
  have h : z.length = z.cps.toList.length := by simp [Str.length]
  have e : HT.sIx z.length z.length (some (k : Int)) = min k z.length := by
    unfold HT.sIx
    simp only
    split <;> omega
  unfold cutS
  rw [e]
  have e0 : HT.sIx z.length 0 none = 0 := rfl
  rw [e0, List.drop_zero, Nat.sub_zero, List.toList_toArray, h, ← List.take_eq_take_min]
theorem cut_len (z : Str) (k : Nat) : (cutS z none (some (k : Int))).length = min k z.length := by
  have h : ∀ s : Str, s.length = s.cps.toList.length := fun s => by simp [Str.length]
  rw [h, cut_list, List.length_take, ← h]
theorem cut_low {z : Str} (k : Nat) (h : Low z) : Low (cutS z none (some (k : Int))) := fun c hc => by
  rw [cut_list] at hc
  exact h c (List.mem_of_mem_take hc)
theorem cut8 {z : Str} (h : 1 ≤ z.length) (hl : Low z) : NameOk (cutS z none (some 8)) :=
  have e : (cutS z none (some 8)).length = min 8 z.length := cut_len z 8
  ⟨by omega, by omega, cut_low 8 hl⟩
/-- the label's first seven signs and a letter -/
def near (z : Str) (c : Nat) : Str := cutS z none (some 7) ++ ⟨#[c]⟩
theorem near_list (z : Str) (c : Nat) : (near z c).cps.toList = z.cps.toList.take 7 ++ [c] := by
  unfold near
  rw [Str.cps_append, Array.toList_append, show (cutS z none (some 7)).cps.toList = z.cps.toList.take 7 from cut_list z 7]
theorem near_inj {z : Str} {c d : Nat} (h : near z c = near z d) : c = d := by
  have e := congrArg (fun s : Str => s.cps.toList) h
  simp only [near_list] at e
  have := List.append_cancel_left e
  simpa using this
theorem near_ok {z : Str} {c : Nat} (hl : Low z) (hc : 97 ≤ c ∧ c ≤ 122) : NameOk (near z c) := by
  have h : (near z c).length = (z.cps.toList.take 7).length + 1 := by
    have : (near z c).length = (near z c).cps.toList.length := by simp [Str.length]
    rw [this, near_list, List.length_append]
    rfl
  rw [List.length_take] at h
  refine ⟨by omega, by omega, fun d hd => ?_⟩
  rw [near_list] at hd
  rcases List.mem_append.mp hd with hd | hd
  · exact hl d (List.mem_of_mem_take hd)
  · rw [List.mem_singleton.mp hd]
    exact hc
theorem nodup_le {α : Type} [DecidableEq α] : ∀ {xs ys : List α}, xs.Nodup → (∀ x ∈ xs, x ∈ ys) → xs.length ≤ ys.length
  | [], _, _, _ => Nat.zero_le _
  | x :: xs, ys, hn, hs => by
    have hx := hs x (List.mem_cons_self ..)
    have h1 := (List.nodup_cons.mp hn).1
    have h2 := nodup_le (xs := xs) (ys := ys.erase x) (List.nodup_cons.mp hn).2 fun y hy => by
      refine (List.mem_erase_of_ne ?_).mpr (hs y (List.mem_cons_of_mem _ hy))
      rintro rfl
      exact h1 hy
    rw [List.length_erase_of_mem hx] at h2
    have : 0 < ys.length := List.length_pos_of_mem hx
    simp only [List.length_cons]
    omega
/-- one of the twenty-six is new -/
theorem near_new {z : Str} {found : List Str} (h : found.length < 26) : ∃ c, c ∈ abc.cps.toList ∧ near z c ∉ found := by
  by_cases hc : ∃ c, c ∈ abc.cps.toList ∧ near z c ∉ found
  · exact hc
  · have hall : ∀ s ∈ abc.cps.toList.map (near z), s ∈ found := by
      intro s hs
      obtain ⟨c, hc1, rfl⟩ := List.mem_map.mp hs
      by_cases hm : near z c ∈ found
      · exact hm
      · exact absurd ⟨c, hc1, hm⟩ hc
    have hnd : (abc.cps.toList.map (near z)).Nodup := by
      refine List.pairwise_map.mpr ?_
      have h0 : abc.cps.toList.Nodup := by
        rw [abc_list]
        decide
      exact List.Pairwise.imp (fun hne e => hne (near_inj e)) h0
    have := nodup_le hnd hall
    rw [List.length_map, abc_list] at this
    simp at this
    omega
theorem join_signs (cs : List Nat) : (Txt.join ⟨#[]⟩ (cs.map fun c => (⟨#[c]⟩ : Str))) = ⟨cs.toArray⟩ := by
  have h := join_nil_signs (⟨cs.toArray⟩ : Str)
  unfold Txt.join
  rw [PySem.StrLaws.glued_eq_join]
  exact h
theorem join_ok {cs : List Nat} (h1 : 1 ≤ cs.length) (h2 : cs.length ≤ 8) (hl : ∀ c ∈ cs, 97 ≤ c ∧ c ≤ 122) : NameOk (⟨cs.toArray⟩ : Str) := by
  have e : (⟨cs.toArray⟩ : Str).length = cs.length := by simp [Str.length]
  exact ⟨by omega, by omega, fun c hc => hl c (by simpa using hc)⟩
/-- names, all unlike -/
structure NamesOk (xs : List Str) : Prop where
  ok : ∀ x ∈ xs, NameOk x
  nd : xs.Nodup
theorem NamesOk.nil : NamesOk [] := ⟨fun _ h => (by cases h), List.nodup_nil⟩
theorem NamesOk.snoc {xs : List Str} {x : Str} (h : NamesOk xs) (hx : NameOk x) (hn : x ∉ xs) : NamesOk (xs ++ [x]) :=
  ⟨fun y hy => by
    rcases List.mem_append.mp hy with hy | hy
    · exact h.ok y hy
    · rw [List.mem_singleton.mp hy]
      exact hx, by
    refine List.nodup_append.mpr ⟨h.nd, by simp, fun a ha b hb => ?_⟩
    rw [List.mem_singleton.mp hb]
    rintro rfl
    exact hn ha⟩
end Wp
set_option Elab.async false
set_option linter.all false
set_option maxRecDepth 100000
set_option maxHeartbeats 4000000
/-! Books: their parts, the dict of parts, slices of lengths. -/
namespace Wp
open PySem PySem.Spec PyProof.Rows L2
/-- kinds: a dict of names, each to a rate and whether it is free -/
inductive KAt (H : Hp) : List (Key × V) → List (Str × Int × Bool) → Prop
  | nil : KAt H [] []
  | cons {n : Str} {r : Int} {b : Bool} {t : Addr} {kvs : List (Key × V)} {ks : List (Str × Int × Bool)} : H t = some (.tup [.int r, .bl b]) → KAt H kvs ks → KAt H ((Sum.inr n, .ref t) :: kvs) ((n, r, b) :: ks)
theorem KAt.keep {H H' : Hp} {kvs : List (Key × V)} {ks : List (Str × Int × Bool)} (h : KAt H kvs ks) (e : ∀ t xs, H t = some (.tup xs) → H' t = some (.tup xs)) : KAt H' kvs ks := by
  induction h with
  | nil => exact .nil
  | cons h _ ih => exact .cons (e _ _ h) ih
theorem KAt.len {H : Hp} {kvs : List (Key × V)} {ks : List (Str × Int × Bool)} (h : KAt H kvs ks) : kvs.length = ks.length := by
  induction h with
  | nil => rfl
  | cons _ _ ih => simp [ih]
theorem KAt.keys {H : Hp} {kvs : List (Key × V)} {ks : List (Str × Int × Bool)} (h : KAt H kvs ks) : kvs.map (·.1) = (ks.map (·.1)).map Sum.inr := by
  induction h with
  | nil => rfl
  | cons _ _ ih => simp [ih]
theorem KAt.get {H : Hp} {kvs : List (Key × V)} {ks : List (Str × Int × Bool)} (h : KAt H kvs ks) : ∀ {i : Nat} {k : Key} {v : V}, kvs[i]? = some (k, v) → ∃ n r b t, k = Sum.inr n ∧ v = .ref t ∧ H t = some (.tup [.int r, .bl b]) ∧ ks[i]? = some (n, r, b) := by
  induction h with
  | nil => intro i k v e; simp at e
  | @cons n r b t kvs ks h _ ih =>
    intro i k v e
    cases i with
    | zero =>
      have e := Option.some.inj e
      cases e
      exact ⟨n, r, b, t, rfl, rfl, h, rfl⟩
    | succ i =>
      obtain ⟨n', r', b', t', h1, h2, h3, h4⟩ := ih (i := i) (by simpa using e)
      exact ⟨n', r', b', t', h1, h2, h3, by simpa using h4⟩
theorem KAt.val {H : Hp} {kvs : List (Key × V)} {ks : List (Str × Int × Bool)} (h : KAt H kvs ks) (nd : (ks.map (·.1)).Nodup) : ∀ {n : Str} {r : Int} {b : Bool}, (n, r, b) ∈ ks → ∃ t, valV kvs (Sum.inr n) = some (.ref t) ∧ H t = some (.tup [.int r, .bl b]) := by
  induction h with
  | nil => intro n r b e; cases e
  | @cons n r b t kvs ks h _ ih =>
    intro n' r' b' e
    rw [List.map_cons, List.nodup_cons] at nd
    rcases List.mem_cons.mp e with e | e
    · cases e
      exact ⟨t, by simp [valV], h⟩
    · obtain ⟨t', h1, h2⟩ := ih nd.2 e
      have hne : n ≠ n' := by
        rintro rfl
        exact nd.1 (List.mem_map.mpr ⟨_, e, rfl⟩)
      exact ⟨t', by rw [valV_neg (fun z => hne (Sum.inr.inj z))]; exact h1, h2⟩
theorem KAt.snoc {H : Hp} {kvs : List (Key × V)} {ks : List (Str × Int × Bool)} {n : Str} {r : Int} {b : Bool} {t : Addr} (h : KAt H kvs ks) (ht : H t = some (.tup [.int r, .bl b])) : KAt H (kvs ++ [(Sum.inr n, .ref t)]) (ks ++ [(n, r, b)]) := by
  induction h with
  | nil => exact .cons ht .nil
  | cons h _ ih => exact .cons h ih
theorem KAt.fresh {H : Hp} {kvs : List (Key × V)} {ks : List (Str × Int × Bool)} {n : Str} (h : KAt H kvs ks) (hn : n ∉ ks.map (·.1)) : valV kvs (Sum.inr n) = none := by
  induction h with
  | nil => rfl
  | @cons n' r b t kvs ks h _ ih =>
    rw [List.map_cons, List.mem_cons, not_or] at hn
    rw [valV_neg (fun z => hn.1 (Sum.inr.inj z).symm)]
    exact ih hn.2
structure KindsOk (ks : List (Str × Int × Bool)) : Prop where
  lo : 1 ≤ ks.length
  hi : ks.length ≤ 6
  nm : NamesOk (ks.map (·.1))
  rt : ∀ k ∈ ks, 0 ≤ k.2.1 ∧ k.2.1 ≤ 1000
/-- a book -/
structure Bk where
  ls : List Int
  due : Int
  ks : List (Str × Int × Bool)
  mem : Int
  beg : Str
  laid : Option (List Str)
structure Bk.Ok (B : Bk) : Prop where
  l1 : 1 ≤ B.ls.length
  l2 : B.ls.length ≤ 4
  l3 : ∀ n ∈ B.ls, 2 ≤ n ∧ n ≤ 31
  d0 : 0 ≤ B.due
  d1 : ∀ n ∈ B.ls, B.due < n
  kn : KindsOk B.ks
  m0 : 0 ≤ B.mem
  m1 : B.mem ≤ 2
  bg : B.beg = "day" ∨ B.beg = "statement"
def fBook (tl kd : Addr) (B : Bk) (lv : V) : List (Str × V) := [("b_lengths", .ref tl), ("b_due", .int B.due), ("b_kinds", .ref kd), ("b_memory", .int B.mem), ("b_begins", .str B.beg), ("b_laid", lv)]
/-- a tuple that is known to have no dict of its own: its methods can be called -/
def FrzT (H : Hp) (t : Addr) (xs : List V) : Prop := ∃ o : Obj, o.dict = none ∧ H t = some (.frz o (.tup xs))
theorem FrzT.keep {H H' : Hp} {t : Addr} {xs : List V} (h : FrzT H t xs) (e : ∀ t o xs, H t = some (.frz o (.tup xs)) → H' t = some (.frz o (.tup xs))) : FrzT H' t xs := by
  obtain ⟨o, h1, h2⟩ := h
  exact ⟨o, h1, e _ _ _ h2⟩
theorem FrzT.same {H H' : Hp} {t : Addr} {xs : List V} (h : FrzT H t xs) (e : Same H H') : FrzT H' t xs := h.keep fun t o xs q => e _ _ q
theorem FrzT.sq {K : PySem.W.Frag} {H : Hp} {t : Addr} {xs : List V} (h : FrzT H t xs) : SqT K H t xs := by
  obtain ⟨o, _, h2⟩ := h
  exact .inl (.inr ⟨o, h2⟩)
/-- tuple(list), with what is known of the new object -/
def rTupF (K : PySem.W.Frag) : List V → Hp → VK → Prop := fun xs H Q => ∃ p ys, xs = [.ref p] ∧ SqL K H p ys ∧ ∀ (l : Addr) (o : Obj), H l = none → o.dict = none → Q (.ref l) (upd H l (.frz o (.tup ys)))
theorem c_tupleF {X : Cx} {K : PySem.W.Frag} (h : X.K = K) : CallR X (.type "tuple") (rTupF K) := by
  subst h
  intro pins s σ H xs us Q I r h
  obtain ⟨p, ys, rfl, hq, q⟩ := h
  obtain ⟨u, rfl, rx⟩ := vals1 r
  cases rx
  obtain ⟨its, r', pl, hz⟩ := I.list hq
  have hlen := r'.length
  refine call_tuple_list pl.isList (fun h' kp => ?_) (by simp only [List.size_toArray] <;> omega)
  have I1 : Inv X pins σ H { s with heap := h' } := I.kept (t' := s.toks) kp
  have I2 : Inv X pins σ (upd H h'.objs.size (.frz { cls := .type "tuple", data := .seq its.toArray } (.tup ys))) { s with heap := h'.push { cls := .type "tuple", data := .seq its.toArray } } :=
    I1.laid (t' := s.toks) (fun b o e => Heap.get?_push_of_some _ e) (Nat.le_refl _) (show ObjOk X.prog X.w _ _ _ (.frz _ (.tup ys)) from ⟨Heap.get?_push_size _ rfl, hz, its, r', IsTup.new _ _⟩)
  exact ⟨.ref h'.objs.size, _, I2, rfl, q _ _ (I1.hok.fresh (Nat.le_refl _)) rfl⟩
theorem r_tupF {K : PySem.W.Frag} {H : Hp} {Q : VK} {p : Addr} {xs : List V} (h : SqL K H p xs) (k : ∀ t H', H t = none → Same H H' → FrzT H' t xs → Q (.ref t) H') : rTupF K [.ref p] H Q :=
  ⟨p, xs, rfl, h, fun t o ht ho => k t _ ht (Same.new ht) ⟨o, ho, upd_same⟩⟩
def LaidV (H : Hp) : Option (List Str) → V → Prop
  | none, v => v = .non
  | some ns, v => ∃ t, v = .ref t ∧ FrzT H t (ns.map V.str)
theorem LaidV.keep {H H' : Hp} {o : Option (List Str)} {v : V} (h : LaidV H o v) (e : ∀ t o xs, H t = some (.frz o (.tup xs)) → H' t = some (.frz o (.tup xs))) : LaidV H' o v := by
  cases o with
  | none => exact h
  | some ns =>
    obtain ⟨t, rfl, ht⟩ := h
    exact ⟨t, rfl, ht.keep e⟩
/-- a book stands at p, its parts at tl, kd and lv -/
structure BookIn (C : Addr) (H : Hp) (p : Addr) (B : Bk) (dx tl kd : Addr) (lv : V) (kvs : List (Key × V)) : Prop where
  i : H p = some (.ins C dx (fBook tl kd B lv))
  l : H tl = some (.tup (B.ls.map V.int))
  k : H kd = some (.dK kvs)
  a : KAt H kvs B.ks
  d : LaidV H B.laid lv
def BookAt (C : Addr) (H : Hp) (p : Addr) (B : Bk) : Prop := ∃ dx tl kd lv kvs, BookIn C H p B dx tl kd lv kvs
theorem BookIn.keep {C p dx tl kd : Addr} {H H' : Hp} {B : Bk} {lv : V} {kvs : List (Key × V)} (h : BookIn C H p B dx tl kd lv kvs) (e : Same H H') : BookIn C H' p B dx tl kd lv kvs :=
  ⟨e _ _ h.i, e _ _ h.l, e _ _ h.k, h.a.keep fun t xs q => e _ _ q, h.d.keep fun t o xs q => e _ _ q⟩
theorem BookAt.keep {C p : Addr} {H H' : Hp} {B : Bk} (h : BookAt C H p B) (e : Same H H') : BookAt C H' p B := by
  obtain ⟨dx, tl, kd, lv, kvs, h⟩ := h
  exact ⟨dx, tl, kd, lv, kvs, h.keep e⟩
/-! the dict of the six parts -/
def wkv (a b c d e f : V) : List (Key × V) := [(Sum.inr ("lengths" : Str), a), (Sum.inr ("due" : Str), b), (Sum.inr ("kinds" : Str), c), (Sum.inr ("memory" : Str), d), (Sum.inr ("begins" : Str), e), (Sum.inr ("laid" : Str), f)]
def wks : List Key := [Sum.inr ("lengths" : Str), Sum.inr ("due" : Str), Sum.inr ("kinds" : Str), Sum.inr ("memory" : Str), Sum.inr ("begins" : Str), Sum.inr ("laid" : Str)]
theorem wks_nd : wks.Nodup := by decide +kernel
theorem kne {x y : Str} (h : decide (x = y) = false) : ¬ (Sum.inr x : Key) = Sum.inr y := fun z => of_decide_eq_false h (Sum.inr.inj z)
section
variable {a b c d e f x : V}
theorem wz_zip : wks.zip [a, b, c, d, e, f] = wkv a b c d e f := rfl
theorem wv1 : valV (wkv a b c d e f) (Sum.inr ("lengths" : Str)) = some a := valV_pos rfl
theorem wv2 : valV (wkv a b c d e f) (Sum.inr ("due" : Str)) = some b := by
  unfold wkv
  rw [valV_neg (kne (by decide +kernel)), valV_pos rfl]
theorem wv3 : valV (wkv a b c d e f) (Sum.inr ("kinds" : Str)) = some c := by
  unfold wkv
  rw [valV_neg (kne (by decide +kernel)), valV_neg (kne (by decide +kernel)), valV_pos rfl]
theorem wv4 : valV (wkv a b c d e f) (Sum.inr ("memory" : Str)) = some d := by
  unfold wkv
  rw [valV_neg (kne (by decide +kernel)), valV_neg (kne (by decide +kernel)), valV_neg (kne (by decide +kernel)), valV_pos rfl]
theorem wv5 : valV (wkv a b c d e f) (Sum.inr ("begins" : Str)) = some e := by
  unfold wkv
  rw [valV_neg (kne (by decide +kernel)), valV_neg (kne (by decide +kernel)), valV_neg (kne (by decide +kernel)), valV_neg (kne (by decide +kernel)), valV_pos rfl]
theorem wv6 : valV (wkv a b c d e f) (Sum.inr ("laid" : Str)) = some f := by
  unfold wkv
  rw [valV_neg (kne (by decide +kernel)), valV_neg (kne (by decide +kernel)), valV_neg (kne (by decide +kernel)), valV_neg (kne (by decide +kernel)), valV_neg (kne (by decide +kernel)), valV_pos rfl]
theorem wput {k : Key} (h : (valV (wkv a b c d e f) k).isSome = true) : putK (wkv a b c d e f) k x = (wkv a b c d e f).map (fun kv => if kv.1 = k then (kv.1, x) else kv) := by
  unfold putK
  rw [if_pos (by rw [valV_any]; exact h)]
theorem wp1 : putK (wkv a b c d e f) (Sum.inr ("lengths" : Str)) x = wkv x b c d e f := by
  rw [wput (by rw [wv1]; rfl)]
  simp only [wkv, List.map_cons, List.map_nil, if_pos trivial, if_neg (kne (x := "due") (y := "lengths") (by decide +kernel)), if_neg (kne (x := "kinds") (y := "lengths") (by decide +kernel)), if_neg (kne (x := "memory") (y := "lengths") (by decide +kernel)), if_neg (kne (x := "begins") (y := "lengths") (by decide +kernel)), if_neg (kne (x := "laid") (y := "lengths") (by decide +kernel))]
theorem wp2 : putK (wkv a b c d e f) (Sum.inr ("due" : Str)) x = wkv a x c d e f := by
  rw [wput (by rw [wv2]; rfl)]
  simp only [wkv, List.map_cons, List.map_nil, if_pos trivial, if_neg (kne (x := "lengths") (y := "due") (by decide +kernel)), if_neg (kne (x := "kinds") (y := "due") (by decide +kernel)), if_neg (kne (x := "memory") (y := "due") (by decide +kernel)), if_neg (kne (x := "begins") (y := "due") (by decide +kernel)), if_neg (kne (x := "laid") (y := "due") (by decide +kernel))]
theorem wp3 : putK (wkv a b c d e f) (Sum.inr ("kinds" : Str)) x = wkv a b x d e f := by
  rw [wput (by rw [wv3]; rfl)]
  simp only [wkv, List.map_cons, List.map_nil, if_pos trivial, if_neg (kne (x := "lengths") (y := "kinds") (by decide +kernel)), if_neg (kne (x := "due") (y := "kinds") (by decide +kernel)), if_neg (kne (x := "memory") (y := "kinds") (by decide +kernel)), if_neg (kne (x := "begins") (y := "kinds") (by decide +kernel)), if_neg (kne (x := "laid") (y := "kinds") (by decide +kernel))]
theorem wp4 : putK (wkv a b c d e f) (Sum.inr ("memory" : Str)) x = wkv a b c x e f := by
  rw [wput (by rw [wv4]; rfl)]
  simp only [wkv, List.map_cons, List.map_nil, if_pos trivial, if_neg (kne (x := "lengths") (y := "memory") (by decide +kernel)), if_neg (kne (x := "due") (y := "memory") (by decide +kernel)), if_neg (kne (x := "kinds") (y := "memory") (by decide +kernel)), if_neg (kne (x := "begins") (y := "memory") (by decide +kernel)), if_neg (kne (x := "laid") (y := "memory") (by decide +kernel))]
theorem wp5 : putK (wkv a b c d e f) (Sum.inr ("begins" : Str)) x = wkv a b c d x f := by
  rw [wput (by rw [wv5]; rfl)]
  simp only [wkv, List.map_cons, List.map_nil, if_pos trivial, if_neg (kne (x := "lengths") (y := "begins") (by decide +kernel)), if_neg (kne (x := "due") (y := "begins") (by decide +kernel)), if_neg (kne (x := "kinds") (y := "begins") (by decide +kernel)), if_neg (kne (x := "memory") (y := "begins") (by decide +kernel)), if_neg (kne (x := "laid") (y := "begins") (by decide +kernel))]
theorem wp6 : putK (wkv a b c d e f) (Sum.inr ("laid" : Str)) x = wkv a b c d e x := by
  rw [wput (by rw [wv6]; rfl)]
  simp only [wkv, List.map_cons, List.map_nil, if_pos trivial, if_neg (kne (x := "lengths") (y := "laid") (by decide +kernel)), if_neg (kne (x := "due") (y := "laid") (by decide +kernel)), if_neg (kne (x := "kinds") (y := "laid") (by decide +kernel)), if_neg (kne (x := "memory") (y := "laid") (by decide +kernel)), if_neg (kne (x := "begins") (y := "laid") (by decide +kernel))]
end
/-- a permutation of images is the image of a permutation -/
theorem perm_lift {α β : Type} [DecidableEq α] (f : α → β) : ∀ (ys : List β) (ks : List α), ys.Perm (ks.map f) → ∃ ms : List α, ms.Perm ks ∧ ms.map f = ys
  | [], ks, h => by
    have e : ks = [] := List.map_eq_nil_iff.mp (List.Perm.nil_eq h).symm
    subst e
    exact ⟨[], .nil, rfl⟩
  | y :: r, ks, h => by
    obtain ⟨k, hk, rfl⟩ := List.mem_map.mp (h.mem_iff.mp (List.mem_cons_self ..))
    have h2 : (f k :: r).Perm (f k :: (ks.erase k).map f) := h.trans (((List.perm_cons_erase hk).map f))
    obtain ⟨ms, p, e⟩ := perm_lift f r (ks.erase k) (List.Perm.cons_inv h2)
    exact ⟨k :: ms, (p.cons k).trans (List.perm_cons_erase hk).symm, by rw [List.map_cons, e]⟩
/-! slices and sums of lengths -/
theorem cutV_take {xs : List V} {i : Int} (h0 : 0 ≤ i) : cutV xs none (some i) = xs.take i.toNat := by
  have e : HT.sIx xs.length xs.length (some i) = min i.toNat xs.length := by
    show (if i < 0 then (i + (xs.length : Int)).toNat else min i.toNat xs.length) = _
    rw [if_neg (by omega)]
  unfold cutV
  rw [e]
  show (xs.drop 0).take (min i.toNat xs.length - 0) = _
  rw [List.drop_zero, Nat.sub_zero]
  by_cases h : i.toNat ≤ xs.length
  · rw [Nat.min_eq_left h]
  · rw [Nat.min_eq_right (by omega), List.take_length, List.take_of_length_le (by omega)]
section
variable {K : PySem.W.Frag} {H : Hp} {Q : VK} {p : Addr} {xs : List V}
theorem r_slT_take {i : Int} (h : SqT K H p xs) (h0 : 0 ≤ i) (h1 : i < xs.length) (q : ∀ t H', H t = none → Same H H' → H' t = some (.tup (xs.take i.toNat)) → Q (.ref t) H') : rSlT K (.ref p) none (some i) H Q := by
  refine ⟨p, xs, rfl, h, ?_, fun t ht => ?_⟩
  · rintro ⟨_, e⟩
    have e2 : (if i < 0 then (i + (xs.length : Int)).toNat else min i.toNat xs.length) = xs.length := e
    rw [if_neg (by omega)] at e2
    omega
  · rw [cutV_take h0]
    exact q t _ ht (Same.new ht) upd_same
theorem r_minSeq {ns : List Int} (h : SeqV K H p (ns.map V.int)) (h0 : 0 < ns.length) (k : ∀ m, m ∈ ns → (∀ y ∈ ns, m ≤ y) → Q (.int m) H) : rEither (rMin K) (rMinT K) [.ref p] H Q := by
  rcases h with h | h
  · exact .inl ⟨p, ns, rfl, h, h0, fun m hm hy => k m hm hy⟩
  · exact .inr ⟨p, ns, rfl, h, h0, fun m hm hy => k m hm hy⟩
theorem r_tupOf (h : H p = some (.lst xs) ∨ H p = some (.tup xs)) (k : ∀ t H', Same H H' → H' t = some (.tup xs) → Q (.ref t) H') : rTupOf K [.ref p] H Q := by
  rcases h with h | h
  · exact ⟨p, xs, rfl, .inl ⟨SqL.of h, fun t ht => k t _ (Same.new ht) upd_same⟩⟩
  · exact ⟨p, xs, rfl, .inr ⟨SqT.of h, k p H (Same.refl _) h⟩⟩
end
namespace Bk
/-- the first day of a month -/
def first (B : Bk) (m : Int) : Int := m / (B.ls.length : Int) * B.ls.sum + (B.ls.take (m % (B.ls.length : Int)).toNat).sum
def rateOf (B : Bk) (n : Str) : Int := ((B.ks.find? fun k => decide (k.1 = n)).map (·.2.1)).getD 0
def freeOf (B : Bk) (n : Str) : Bool := ((B.ks.find? fun k => decide (k.1 = n)).map (·.2.2)).getD false
theorem find_of : ∀ {ks : List (Str × Int × Bool)} {n : Str} {r : Int} {b : Bool}, (ks.map (·.1)).Nodup → (n, r, b) ∈ ks → (ks.find? fun k => decide (k.1 = n)) = some (n, r, b)
  | [], _, _, _, _, h => by cases h
  | k :: ks, n, r, b, nd, h => by
    rw [List.map_cons, List.nodup_cons] at nd
    rcases List.mem_cons.mp h with e | e
    · subst e
      simp
    · have hne : ¬ k.1 = n := fun z => nd.1 (by rw [z]; exact List.mem_map.mpr ⟨_, e, rfl⟩)
      rw [List.find?_cons, decide_eq_false hne]
      exact find_of nd.2 e
end Bk
end Wp
set_option Elab.async false
set_option linter.all false
set_option maxRecDepth 100000
set_option maxHeartbeats 4000000
/-! Courses, plain: rows, what is open, how payments are laid. -/
namespace Wp
open PySem PySem.Spec PyProof.Rows L2
inductive CR
  | buy (d : Int) (k : Str) (c : Int)
  | pay (d : Int) (c : Int)
def CR.day : CR → Int
  | .buy d _ _ => d
  | .pay d _ => d
def CR.sum : CR → Int
  | .buy _ _ c => c
  | .pay _ c => -c
def owedC (rs : List CR) : Int := (rs.map CR.sum).sum
def lastDay (rs : List CR) : Int := (rs.getLast?.map CR.day).getD 0
theorem owedC_snoc (rs : List CR) (r : CR) : owedC (rs ++ [r]) = owedC rs + r.sum := by
  unfold owedC
  rw [List.map_append, List.sum_append]
  simp
theorem lastDay_snoc (rs : List CR) (r : CR) : lastDay (rs ++ [r]) = r.day := by
  unfold lastDay
  simp
def okRow (ks : List Str) (d o : Int) : CR → Prop
  | .buy d' k c => d ≤ d' ∧ k ∈ ks ∧ 1 ≤ c ∧ c ≤ 1000000
  | .pay d' c => d ≤ d' ∧ 1 ≤ c ∧ c ≤ o
def VR (ks : List Str) (rs : List CR) : Prop := ∀ (i : Nat) (r : CR), rs[i]? = some r → okRow ks (lastDay (rs.take i)) (owedC (rs.take i)) r
theorem VR.nil (ks : List Str) : VR ks [] := fun i r h => by simp at h
theorem VR.snoc {ks : List Str} {rs : List CR} {r : CR} (h : VR ks rs) (hr : okRow ks (lastDay rs) (owedC rs) r) : VR ks (rs ++ [r]) := fun i x hx => by
  by_cases hi : i < rs.length
  · rw [List.getElem?_append_left hi] at hx
    rw [List.take_append_of_le_length (by omega)]
    exact h i x hx
  · have hi2 := (List.getElem?_eq_some_iff.mp hx).1
    rw [List.length_append, List.length_singleton] at hi2
    have e : i = rs.length := by omega
    subst e
    rw [List.getElem?_append_right (Nat.le_refl _), Nat.sub_self] at hx
    obtain rfl := Option.some.inj hx
    rw [List.take_append_of_le_length (Nat.le_refl _), List.take_length]
    exact hr
/-! what is open: rank, row, cents -/
abbrev Op := Int × Int × Int
def ltO (a b : Op) : Prop := a.1 < b.1 ∨ (a.1 = b.1 ∧ a.2.1 < b.2.1)
instance (a b : Op) : Decidable (ltO a b) := by unfold ltO; infer_instance
theorem ltO_trans {a b c : Op} (h1 : ltO a b) (h2 : ltO b c) : ltO a c := by unfold ltO at *; omega
def insO (x : Op) : List Op → List Op
  | [] => [x]
  | y :: S => if ltO y x then y :: insO x S else x :: y :: S
theorem insO_perm (x : Op) : ∀ S : List Op, (insO x S).Perm (x :: S)
  | [] => .refl _
  | y :: S => by
    unfold insO
    split
    · exact ((insO_perm x S).cons y).trans (.swap _ _ _)
    · exact .refl _
theorem insO_asc {x : Op} : ∀ {S : List Op}, S.Pairwise ltO → (∀ y ∈ S, y.2.1 ≠ x.2.1) → (insO x S).Pairwise ltO
  | [], _, _ => by simp [insO]
  | y :: S, h, hx => by
    rw [List.pairwise_cons] at h
    unfold insO
    split
    · rename_i hy
      rw [List.pairwise_cons]
      refine ⟨fun z hz => ?_, insO_asc h.2 fun z hz => hx z (List.mem_cons_of_mem _ hz)⟩
      rcases List.mem_cons.mp ((insO_perm x S).mem_iff.mp hz) with rfl | hz
      · exact hy
      · exact h.1 z hz
    · rename_i hy
      have hxy : ltO x y := by
        have := hx y (List.mem_cons_self ..)
        unfold ltO at *
        omega
      rw [List.pairwise_cons]
      refine ⟨fun z hz => ?_, List.pairwise_cons.mpr h⟩
      rcases List.mem_cons.mp hz with rfl | hz
      · exact hxy
      · exact ltO_trans hxy (h.1 z hz)
def sumO (S : List Op) : Int := (S.map (·.2.2)).sum
theorem sumO_cons (x : Op) (S : List Op) : sumO (x :: S) = x.2.2 + sumO S := by simp [sumO]
theorem sumO_insO (x : Op) (S : List Op) : sumO (insO x S) = x.2.2 + sumO S := by
  unfold sumO
  have : ∀ {l m : List Int}, l.Perm m → l.sum = m.sum := fun {l m} p => by
    induction p with
    | nil => rfl
    | cons x _ ih => simp [ih]
    | swap x y l => simp; omega
    | trans _ _ h1 h2 => exact h1.trans h2
  rw [this ((insO_perm x S).map (·.2.2))]
  simp
/-- a payment laid on what is open: the parts, and what is left -/
def payS : List Op → Int → List (Int × Int) × List Op
  | [], _ => ([], [])
  | o :: S, c => if c ≤ 0 then ([], o :: S) else if c < o.2.2 then ([(o.2.1, c)], (o.1, o.2.1, o.2.2 - c) :: S) else ((o.2.1, o.2.2) :: (payS S (c - o.2.2)).1, (payS S (c - o.2.2)).2)
/-! the dict of what was paid: by row and day -/
abbrev Pd := List ((Int × Int) × Int)
def lookP : Pd → Int × Int → Option Int
  | [], _ => none
  | (k, c) :: r, z => if k = z then some c else lookP r z
def putP (t : Pd) (z : Int × Int) (c : Int) : Pd := if (t.any fun p => decide (p.1 = z)) = true then t.map (fun p => if p.1 = z then (p.1, c) else p) else t ++ [(z, c)]
def addP (t : Pd) (z : Int × Int) (c : Int) : Pd := putP t z ((lookP t z).getD 0 + c)
/-- the open ones as they must be, behind n rows -/
structure SOk (S : List Op) (n : Int) : Prop where
  asc : S.Pairwise ltO
  pos : ∀ o ∈ S, 1 ≤ o.2.2
  at' : ∀ o ∈ S, 0 ≤ o.2.1 ∧ o.2.1 < n
  nd : (S.map (·.2.1)).Nodup
theorem SOk.nil : SOk [] 0 := ⟨.nil, fun o h => (by cases h), fun o h => (by cases h), .nil⟩
theorem SOk.mono {S : List Op} {n m : Int} (h : SOk S n) (l : n ≤ m) : SOk S m := ⟨h.asc, h.pos, fun o ho => by have := h.at' o ho; omega, h.nd⟩
theorem SOk.ins {S : List Op} {n r c : Int} (h : SOk S n) (hn : 0 ≤ n) (hc : 1 ≤ c) : SOk (insO (r, n, c) S) (n + 1) := by
  have hne : ∀ y ∈ S, y.2.1 ≠ n := fun y hy => by have := h.at' y hy; omega
  have p := insO_perm (r, n, c) S
  refine ⟨insO_asc h.asc hne, fun o ho => ?_, fun o ho => ?_, ?_⟩
  · rcases List.mem_cons.mp (p.mem_iff.mp ho) with rfl | ho
    · exact hc
    · exact h.pos o ho
  · rcases List.mem_cons.mp (p.mem_iff.mp ho) with rfl | ho
    · show 0 ≤ n ∧ n < n + 1; omega
    · have := h.at' o ho; omega
  · rw [(p.map (·.2.1)).nodup_iff, List.map_cons, List.nodup_cons]
    refine ⟨fun hm => ?_, h.nd⟩
    obtain ⟨y, hy, e⟩ := List.mem_map.mp hm
    exact hne y hy e
theorem SOk.tail {o : Op} {S : List Op} {n : Int} (h : SOk (o :: S) n) : SOk S n := ⟨(List.pairwise_cons.mp h.asc).2, fun x hx => h.pos x (List.mem_cons_of_mem _ hx), fun x hx => h.at' x (List.mem_cons_of_mem _ hx), by have := h.nd; rw [List.map_cons, List.nodup_cons] at this; exact this.2⟩
theorem SOk.less {o : Op} {S : List Op} {n c : Int} (h : SOk (o :: S) n) (hc : c < o.2.2) : SOk ((o.1, o.2.1, o.2.2 - c) :: S) n := by
  obtain ⟨h1, h2, h3, h4⟩ := h
  rw [List.pairwise_cons] at h1
  refine ⟨List.pairwise_cons.mpr ⟨fun y hy => h1.1 y hy, h1.2⟩, fun x hx => ?_, fun x hx => ?_, h4⟩
  · rcases List.mem_cons.mp hx with rfl | hx
    · show 1 ≤ o.2.2 - c; omega
    · exact h2 x (List.mem_cons_of_mem _ hx)
  · rcases List.mem_cons.mp hx with rfl | hx
    · exact h3 o (List.mem_cons_self ..)
    · exact h3 x (List.mem_cons_of_mem _ hx)
theorem sumO_nonneg {S : List Op} (h : ∀ o ∈ S, 1 ≤ o.2.2) : 0 ≤ sumO S := by
  induction S with
  | nil => simp [sumO]
  | cons o S ih =>
    rw [sumO_cons]
    have := h o (List.mem_cons_self ..)
    have := ih fun x hx => h x (List.mem_cons_of_mem _ hx)
    omega
theorem payS_ok : ∀ {S : List Op} {n c : Int}, SOk S n → SOk (payS S c).2 n
  | [], n, c, h => h
  | o :: S, n, c, h => by
    unfold payS
    split
    · exact h
    · split
      · rename_i h1
        exact h.less h1
      · exact payS_ok h.tail
theorem payS_sum : ∀ {S : List Op} {c : Int}, (∀ o ∈ S, 1 ≤ o.2.2) → 0 ≤ c → c ≤ sumO S → sumO (payS S c).2 = sumO S - c
  | [], c, _, h0, h1 => by
    simp [sumO] at h1
    have : c = 0 := by omega
    subst this
    simp [payS, sumO]
  | o :: S, c, h, h0, h1 => by
    unfold payS
    split
    · have : c = 0 := by omega
      subst this
      simp
    · split
      · rw [sumO_cons, sumO_cons]
        show o.2.2 - c + sumO S = _
        omega
      · rw [sumO_cons] at h1 ⊢
        have := payS_sum (S := S) (c := c - o.2.2) (fun x hx => h x (List.mem_cons_of_mem _ hx)) (by omega) (by omega)
        show sumO (payS S (c - o.2.2)).2 = _
        omega
/-- an account: what is open, what was paid -/
structure Ac where
  S : List Op
  P : Pd
def Ac.pay (A : Ac) (d c : Int) : Ac := ⟨(payS A.S c).2, (payS A.S c).1.foldl (fun P x => addP P (x.1, d) x.2) A.P⟩
def Ac.step (rk : Str → Int) (A : Ac) (n : Int) : CR → Ac
  | .buy _ k c => ⟨insO (rk k, n, c) A.S, A.P⟩
  | .pay d c => A.pay d c
def acOf (rk : Str → Int) (rs : List CR) : Ac := (rs.foldl (fun (x : Ac × Int) r => (x.1.step rk x.2 r, x.2 + 1)) (⟨[], []⟩, 0)).1
theorem foldl_ix (rk : Str → Int) : ∀ (rs : List CR) (A : Ac) (n : Int), (rs.foldl (fun (x : Ac × Int) r => (x.1.step rk x.2 r, x.2 + 1)) (A, n)).2 = n + rs.length
  | [], A, n => by simp
  | r :: rs, A, n => by
    rw [List.foldl_cons, foldl_ix rk rs]
    simp
    omega
theorem acOf_snoc (rk : Str → Int) (rs : List CR) (r : CR) : acOf rk (rs ++ [r]) = (acOf rk rs).step rk rs.length r := by
  unfold acOf
  rw [List.foldl_append]
  show ((_ : Ac × Int).1.step rk (_ : Ac × Int).2 r) = _
  rw [foldl_ix]
  simp
theorem acOf_nil (rk : Str → Int) : acOf rk [] = ⟨[], []⟩ := rfl
theorem VR.take {ks : List Str} {rs : List CR} (h : VR ks rs) (n : Nat) : VR ks (rs.take n) := fun i r hr => by
  rw [List.getElem?_take] at hr
  split at hr
  · rename_i hi
    have := h i r hr
    rw [List.take_take, Nat.min_eq_left (by omega)]
    exact this
  · cases hr
/-- behind valid rows the account is as it must be -/
theorem acOf_ok {ks : List Str} (rk : Str → Int) : ∀ (n : Nat) {rs : List CR}, rs.length = n → VR ks rs → SOk (acOf rk rs).S rs.length ∧ sumO (acOf rk rs).S = owedC rs
  | 0, rs, hl, h => by
    obtain rfl := List.eq_nil_of_length_eq_zero hl
    exact ⟨SOk.nil, rfl⟩
  | n + 1, rs, hl, h => by
    obtain ⟨r0, x, rfl⟩ : ∃ r0 x, rs = r0 ++ [x] := ⟨rs.dropLast, rs.getLast (by intro z; rw [z] at hl; simp at hl), (List.dropLast_concat_getLast _).symm⟩
    have hl0 : r0.length = n := by simpa using hl
    have hv : VR ks r0 := by
      have := h.take r0.length
      rwa [List.take_left] at this
    obtain ⟨h1, h2⟩ := acOf_ok rk n hl0 hv
    have hx := h r0.length x (by simp)
    rw [List.take_left] at hx
    rw [acOf_snoc, owedC_snoc]
    have hlen : ((r0 ++ [x]).length : Int) = (r0.length : Int) + 1 := by simp
    rw [hlen]
    cases x with
    | buy d k c =>
      obtain ⟨_, _, hc, _⟩ := hx
      exact ⟨h1.ins (by omega) hc, by show sumO (insO _ _) = _; rw [sumO_insO, h2]; simp only [CR.sum]; omega⟩
    | pay d c =>
      obtain ⟨_, hc, ho⟩ := hx
      refine ⟨(payS_ok h1).mono (by omega), ?_⟩
      show sumO (payS _ c).2 = _
      rw [payS_sum h1.pos (by omega) (by rw [h2]; exact ho), h2]
      simp only [CR.sum]
      omega
def settle (rk : Str → Int) (rs : List CR) (e : Int) : Pd := ((acOf rk rs).pay e (owedC rs)).P
end Wp
set_option Elab.async false
set_option linter.all false
set_option maxRecDepth 100000
set_option maxHeartbeats 4000000
/-! Dicts keyed by pairs of ints; least of pairs; sorted keys; methods of tuples. -/
namespace Wp
open PySem PySem.Spec PyProof.Rows L2
def keyP (z : Int × Int) : List Key := [Sum.inl z.1, Sum.inl z.2]
theorem keyP_inj {a b : Int × Int} (h : keyP a = keyP b) : a = b := by
  unfold keyP at h
  injection h with h1 h2
  injection h2 with h3 _
  exact Prod.ext (Sum.inl.inj h1) (Sum.inl.inj h3)
def encPD (t : Pd) : List (List Key × V) := t.map fun p => (keyP p.1, V.int p.2)
theorem valV_encPD (z : Int × Int) : ∀ t : Pd, valV (encPD t) (keyP z) = (lookP t z).map V.int
  | [] => rfl
  | (k, c) :: r => by
    have := valV_encPD z r
    show valV ((keyP k, V.int c) :: encPD r) (keyP z) = (if k = z then some c else lookP r z).map V.int
    by_cases h : k = z
    · rw [if_pos h, valV_pos (by rw [h])]
      rfl
    · rw [if_neg h, valV_neg (fun e => h (keyP_inj e)), this]
theorem encPD_any (z : Int × Int) : ∀ t : Pd, ((encPD t).any fun kv => decide (kv.1 = keyP z)) = t.any fun p => decide (p.1 = z)
  | [] => rfl
  | (k, c) :: r => by
    have := encPD_any z r
    show (decide (keyP k = keyP z) || (encPD r).any _) = (decide (k = z) || r.any _)
    rw [this]
    congr 1
    exact decide_eq_decide.mpr ⟨fun e => keyP_inj e, fun e => by rw [e]⟩
theorem putK_encPD (t : Pd) (z : Int × Int) (c : Int) : putK (encPD t) (keyP z) (.int c) = encPD (putP t z c) := by
  unfold putK putP
  rw [encPD_any]
  split
  · unfold encPD
    rw [List.map_map, List.map_map]
    refine List.map_congr_left fun p _ => ?_
    show (if keyP p.1 = keyP z then (keyP p.1, V.int c) else (keyP p.1, V.int p.2)) = (keyP (if p.1 = z then (p.1, c) else p).1, V.int (if p.1 = z then (p.1, c) else p).2)
    by_cases h : p.1 = z
    · rw [if_pos (by rw [h]), if_pos h]
    · rw [if_neg (fun e => h (keyP_inj e)), if_neg h]
  · unfold encPD
    rw [List.map_append]
    rfl
theorem encPD_len (t : Pd) : (encPD t).length = t.length := List.length_map _
section
variable {K : PySem.W.Frag} {H : Hp} {p a b : Addr} {Q : VK} {σ : L2.St} {te td ty tx : TE} {ta : TA} {t : Pd} {i d j : Int} {D : Ends}
theorem r_dnewT (q : ∀ p H', H p = none → Same H H' → H' p = some (.dT (encPD [])) → Q (.ref p) H') : tDNewT σ H Q := fun p hp => q p _ hp (Same.new hp) upd_same
theorem r_kDGet2T (h : H a = some (.dT (encPD t))) (q : ty σ H fun y H2 => tx σ H2 (kDGet2z a Q y)) : kDGet2 ty tx σ Q (.ref a) H := ⟨a, rfl, .inr ⟨_, .inl h⟩, q⟩
theorem r_kDGet2zT (h : H a = some (.dT (encPD t))) (hb : H b = some (.tup [.int i, .int d])) (q : Q (.int ((lookP t (i, d)).getD j)) H) : kDGet2z a Q (.ref b) (.int j) H := by
  refine ⟨_, .inr ⟨encPD t, keyP (i, d), b, .inl h, rfl, hb, rfl⟩, ?_⟩
  rw [valV_encPD]
  cases h : lookP t (i, d) with
  | none => rw [h] at q; exact q
  | some c => rw [h] at q; exact q
theorem r_kDGetP {c : Int} (h : H a = some (.dT (encPD t))) (hb : H b = some (.tup [.int i, .int d])) (e : lookP t (i, d) = some c) (q : Q (.int c) H) : kDGet Q (.ref a) (.ref b) H :=
  ⟨a, .int c, rfl, .inr ⟨encPD t, keyP (i, d), b, .inl h, rfl, hb, by rw [valV_encPD, e]; rfl⟩, q⟩
theorem r_kDPutP {c : Int} (h : H a = some (.dT (encPD t))) (hb : H b = some (.tup [.int i, .int d])) (hz : t.length < 1000000) (q : ∀ H', But a H H' → H' a = some (.dT (encPD (putP t (i, d) c))) → D.nx σ H') : kDPut D σ (.int c) (.ref a) (.ref b) H :=
  ⟨a, _, rfl, .inr ⟨encPD t, keyP (i, d), b, h, rfl, hb, sz6 (by rw [encPD_len]; exact hz), rfl⟩, q _ But.upd (by rw [← putK_encPD]; exact upd_same)⟩
/-! del d[k] of a dict from ints -/
def kDDel (D : Ends) (σ : L2.St) (x : V) : VK := fun y H2 => ∃ (a : Addr) (kvs : List (Key × V)) (k : Key), x = .ref a ∧ H2 a = some (.dK kvs) ∧ y = kV k ∧ (valV kvs k).isSome = true ∧ D.nx σ (upd H2 a (.dK (dropK kvs k)))
theorem r_ddel (q : td σ H fun x H1 => ty σ H1 (kDDel D σ x)) : sDDel td ty D σ H := q
def dropI (t : List (Int × Int)) (z : Int) : List (Int × Int) := t.filter fun p => decide (p.1 ≠ z)
theorem dropK_enc (t : List (Int × Int)) (z : Int) : dropK (encT t) (Sum.inl z : Key) = encT (dropI t z) := by
  unfold dropK encT dropI
  rw [List.filter_map]
  congr 1
  refine List.filter_congr fun p _ => ?_
  show decide ((Sum.inl p.1 : Key) ≠ Sum.inl z) = decide (p.1 ≠ z)
  exact decide_eq_decide.mpr ⟨fun h e => h (by rw [e]), fun h e => h (Sum.inl.inj e)⟩
theorem r_kDDel {t : List (Int × Int)} {c : Int} (h : H a = some (.dK (encT t))) (e : lookT t i = some c) (q : ∀ H', But a H H' → H' a = some (.dK (encT (dropI t i))) → D.nx σ H') : kDDel D σ (.ref a) (.int i) H :=
  ⟨a, _, Sum.inl i, rfl, h, rfl, by rw [valV_enc, e]; rfl, q _ But.upd (by rw [← dropK_enc]; exact upd_same)⟩
/-! d[k] op= v of a dict from ints -/
def kDAug (ti : V → V → Hp → VK → Prop) : Prop := True
/-! min(d) of a dict from ints -/
theorem r_minKT {t : List (Int × Int)} (h : H a = some (.dK (encT t))) (hne : t ≠ []) (q : ∀ m, m ∈ t.map (·.1) → (∀ y ∈ t.map (·.1), m ≤ y) → Q (.int m) H) : rMinK [.ref a] H Q :=
  ⟨a, _, t.map (·.1), rfl, h, enc_keys t, by simpa using hne, q⟩
/-! a method of a tuple -/
def kBMF (r : V → List V → Hp → VK → Prop) (t : TA) (σ : L2.St) (Q : VK) : VK := fun x H1 => (∃ p xs, x = .ref p ∧ FrzT H1 p xs) ∧ t σ H1 fun xs H2 => r x xs H2 Q
def tBMF (r : V → List V → Hp → VK → Prop) (to : TE) (t : TA) : TE := fun σ H Q => to σ H (kBMF r t σ Q)
theorem r_bmF {r : V → List V → Hp → VK → Prop} (q : te σ H (kBMF r ta σ Q)) : tBMF r te ta σ H Q := q
theorem r_kBMF {r : V → List V → Hp → VK → Prop} {xs : List V} (h : FrzT H p xs) (q : ta σ H fun ys H2 => r (.ref p) ys H2 Q) : kBMF r ta σ Q (.ref p) H := ⟨⟨p, xs, rfl, h⟩, q⟩
def rTIx (K : PySem.W.Frag) : V → List V → Hp → VK → Prop := fun x xs H Q => ∃ p, ∃ ys : List Str, ∃ z j, x = .ref p ∧ xs = [.str z] ∧ SqT K H p (ys.map V.str) ∧ ys[j]? = some z ∧ (∀ m, m < j → ys[m]? ≠ some z) ∧ Q (.int (j : Nat)) H
theorem r_tix {ys : List Str} {z : Str} (h : SqT K H p (ys.map V.str)) (hz : z ∈ ys) (q : Q (.int (ys.idxOf z : Nat)) H) : rTIx K (.ref p) [.str z] H Q := by
  refine ⟨p, ys, z, ys.idxOf z, rfl, rfl, h, List.getElem?_eq_some_iff.mpr ⟨List.idxOf_lt_length_of_mem hz, List.getElem_idxOf _⟩, fun m hm e => ?_, q⟩
  have hml : m < ys.length := (List.getElem?_eq_some_iff.mp e).1
  have h2 := List.not_of_lt_findIdx (p := fun y => y == z) (xs := ys) (i := m) hm
  rw [(List.getElem?_eq_some_iff.mp e).2] at h2
  simp at h2
end
section
variable {X : Cx} {K : PySem.W.Frag}
theorem pe_tix {o e : Expr} {to : TE} {t : TA} {apos cpos : Pos} (hK : X.K = K) (ho : PE X o to) (ha : PA X [e] t)
    (hbase : attributeBase o "index" X.env (eval o X.env) = eval o X.env := by rfl)
    (hfew : ((backTo cpos (starEach [e] X.env)).all (fun x => !x.1) && (backToKw cpos (keywordEach [] X.env)).all (fun x => x.1.isSome)
      && decide ([e].length + ([] : List Keyword).length + (if ([] : List Keyword).isEmpty then 0 else 1) < 30)) = true := by rfl)
    (hline : (apos.endLine == cpos.line) = true := by rfl) (hs : starEach [e] X.env = (false, eval e X.env) :: starEach [] X.env := by rfl) (hplain : (backTo cpos (starEach [] X.env)).any (·.1) = false := by rfl) :
    PE X (.Call (.Attribute o "index" apos) [e] [] cpos) (tBMF (rTIx K) to t) := by
  subst hK
  refine ⟨fun pins s σ H Q I h => ?_⟩
  refine wpAny_Call_method_late hbase hfew hline rfl (thn (ho.run pins s σ H _ I h) fun v s1 ⟨x, H1, I1, r1, ⟨p, xs, ex, ob, hno, hf⟩, q1⟩ => ?_)
  subst ex
  obtain rfl : v = Value.ref p := r1
  obtain ⟨ho1, hz, its, rv, hT⟩ := (show ObjOk X.prog X.w H1 s1.heap p (.frz ob (.tup xs)) from I1.hok p _ hf)
  refine ⟨"tuple", "tuple.index", PySem.F.plainAttrs_tuple, PySem.F.slot_tuple_index, PySem.F.type_tuple_index, ?_, fun a e => ?_, ?_⟩
  · obtain ⟨o', h1, h2, _⟩ := hT
    exact ⟨o', h1, h2⟩
  · cases e
    exact ⟨ob, ho1, hno⟩
  have hA := ha.run cpos pins s1 σ H1 _ I1 q1
  rw [hs] at hA ⊢
  refine Calls.callWith_builtin (by show (false || (backTo cpos (starEach [] X.env)).any (·.1)) = false; rw [hplain] <;> rfl) (Calls.evalArgs_plain ?_)
  exact thn hA fun us s2 ⟨vs, H2, I2, r2, q2⟩ => mt_tup_index pins s2 σ H2 (.ref p) vs (.ref p) us Q I2 rfl r2 q2
end
end Wp
set_option Elab.async false
set_option linter.all false
set_option maxRecDepth 100000
set_option maxHeartbeats 4000000
/-! sorted(d) of a dict keyed by pairs of ints; min of a list of pairs of ints. -/
namespace Wp
open PySem PySem.Spec PyProof.Rows L2
def leP (p q : Int × Int) : Bool := decide (p.1 < q.1 ∨ (p.1 = q.1 ∧ p.2 ≤ q.2))
theorem leP_eq : PySem.W.dataLe false encP = leP := by
  have := PySem.W.dataLe_ii (fun p : Int × Int => p.1) (fun p : Int × Int => p.2)
  exact this
def srtK (ks : List (Int × Int)) : List (Int × Int) := ks.mergeSort leP
theorem srtK_perm (ks : List (Int × Int)) : (srtK ks).Perm ks := List.mergeSort_perm _ _
theorem PLs.zip {H : Hp} : ∀ (zs : List (Addr × (Int × Int))), (∀ z ∈ zs, H z.1 = some (.tup [.int z.2.1, .int z.2.2])) → PLs H (zs.map fun z => V.ref z.1) (zs.map (·.2))
  | [], _ => .nil
  | z :: zs, h => .cons (h z (List.mem_cons_self ..)) (PLs.zip zs fun y hy => h y (List.mem_cons_of_mem _ hy))
theorem pairs_alike (ks : List (Int × Int)) : PySem.W.AllAlike (ks.map encP) := PySem.W.AllAlike.of fun a b => by simp [encP, PySem.W.alike, PySem.W.alikeAll]
theorem pairs_sortable (ks : List (Int × Int)) : PySem.W.Sortable (ks.map encP) := PySem.W.Sortable.tuples fun r => ⟨_, _, rfl⟩
theorem encP_depth (k : Int × Int) : (encP k).depth ≤ 2 := by simp [encP, PyData.depth, PyData.depthAll]
def rSortDT : List V → Hp → VK → Prop := fun vs H Q => ∃ (a : Addr) (t : Pd), vs = [.ref a] ∧ H a = some (.dT (encPD t)) ∧ t.length ≤ 1000000 ∧
  ∀ (p : Addr) (ws : List V), H p = none → PLs H ws (srtK (t.map (·.1))) → Q (.ref p) (upd H p (.lst ws))
theorem keys_of {H : Hp} : ∀ {t : Pd} {ks : List (List Key × Addr × Value)}, Paired (fun (p : List Key × V) (q : List Key × Addr × Value) => p.1 = q.1 ∧ H q.2.1 = some (.tup (p.1.map kV)) ∧ RelV p.2 q.2.2) (encPD t) ks →
    ∃ zs : List (Addr × (Int × Int)), zs.map (·.2) = t.map (·.1) ∧ (ks.map fun x => x.2.1) = zs.map (·.1) ∧ ∀ z ∈ zs, H z.1 = some (.tup [.int z.2.1, .int z.2.2])
  | [], [], _ => ⟨[], rfl, rfl, fun z h => by cases h⟩
  | (k, c) :: t, q :: ks, .cons h hr => by
    obtain ⟨zs, h1, h2, h3⟩ := keys_of hr
    refine ⟨(q.2.1, k) :: zs, by rw [List.map_cons, List.map_cons, h1], by rw [List.map_cons, List.map_cons, h2], fun z hz => ?_⟩
    rcases List.mem_cons.mp hz with rfl | hz
    · exact h.2.1
    · exact h3 z hz
theorem each_refs {X : Cx} {pins : List (Addr × Obj)} {σ : L2.St} {H : Hp} {s : Shared} (I : Inv X pins σ H s) : ∀ {zs : List (Addr × (Int × Int))}, (∀ z ∈ zs, H z.1 = some (.tup [.int z.2.1, .int z.2.2])) →
    PySem.W.EachIs (fun (v : Value) (b : Addr × (Int × Int)) => v = Value.ref b.1) (zs.map fun z => Value.ref z.1) zs ∧ PySem.W.EachIs (fun (v : Value) (b : Addr × (Int × Int)) => ∃ as, Reads s.heap v (encP b.2) as) (zs.map fun z => Value.ref z.1) zs
  | [], _ => ⟨.nil, .nil⟩
  | z :: zs, h => by
    obtain ⟨h1, h2⟩ := each_refs I fun y hy => h y (List.mem_cons_of_mem _ hy)
    refine ⟨.cons rfl h1, .cons ?_ h2⟩
    exact Dp.reads I _ _ _ (show Dp X.K H (.ref z.1) (encP z.2) from .tup (SqT.of (h z (List.mem_cons_self ..))) (.cons (.int _) (.cons (.int _) .nil))) rfl
theorem c_sortDT {X : Cx} {k : Nat} (hc : X.calm = true) (hr : Room k X.A) : CallR X (.builtin "sorted") rSortDT := by
  intro pins s σ H vs us Q I r h
  obtain ⟨a, t, rfl, ha, hz, q⟩ := h
  obtain ⟨u, rfl, ru⟩ := vals1 r
  obtain rfl : u = Value.ref a := ru
  have hu := hr.units
  obtain ⟨_, hs, ks, pr, o, es, ep, ho, hx, hdt, he, hn⟩ := (show ObjOk X.prog X.w H s.heap a (.dT (encPD t)) from I.hok a _ ha)
  have l1 : es.size = ks.length := size_of_entries he
  have l2 : (encPD t).length = ks.length := Paired.length pr
  rw [encPD_len] at l2
  obtain ⟨zs, z1, z2, z3⟩ := keys_of pr
  have lz : zs.length = t.length := by
    have := congrArg List.length z1
    rwa [List.length_map, List.length_map] at this
  refine Calls.call_function_entry PyProof.Rows.kind_sorted PyProof.Rows.plain_sorted PyProof.Rows.entry_sorted (PyProof.Rows.args_sorted1 _) ?_
  unfold Builtin.«sorted»
  refine wpAny_bind (m := checkCount "sorted" 1 1 _) (wpAny_pure ?_)
  refine wpAny_bind (PySem.W.kdu_collect (A := X.A.in1) (kdl_raw hs hx hdt) (I.ok.hd hc) ho (by rw [l1, ← l2]; exact sz5 hz) fun h' tk acc hk it => ?_)
  have ea : acc.toList = zs.map fun z => Value.ref z.1 := by
    have e0 : acc.toList = ks.map fun x => Value.ref x.2.1 := by
      have hl : acc.toList.length = ks.length := by rw [Array.length_toList, it.1]; exact l1
      apply List.ext_getElem?
      intro j
      rw [List.getElem?_map]
      cases hj : acc.toList[j]? with
      | none =>
        have h1 := List.getElem?_eq_none_iff.mp hj
        rw [List.getElem?_eq_none (by omega)]
        all_goals rfl
      | some v =>
        obtain ⟨en, hen, hv⟩ := it.2 j v (by rw [← Array.getElem?_toList]; exact hj)
        have qe := entry_at he j
        rw [hen] at qe
        cases hb : ks[j]? with
        | none =>
          rw [hb] at qe
          exact nomatch (show some en = none from qe)
        | some b =>
          rw [hb] at qe
          have e2 : en = entryOfKey (tupleKind (mixKind X.prog X.w)) b := Option.some.inj qe
          rw [hv, e2]
          all_goals rfl
    rw [e0]
    have := congrArg (List.map Value.ref) z2
    rw [List.map_map, List.map_map] at this
    exact this
  have I1 : Inv X pins σ H { s with heap := h', toks := tk } := I.kept hk
  have hal : acc.toList.length = zs.length := by rw [ea, List.length_map]
  have hL : acc.toList.length ≤ sizeLine := by rw [hal, lz]; exact sz5 hz
  refine wpAny_bind (wpAny_newList ?_ hL)
  have hoL : (h'.push (seqObj "list" acc.toList.toArray 0)).get? h'.objs.size = some (seqObj "list" acc.toList.toArray 0) := Heap.get?_push_size _ rfl
  show wpAny _ _ _ _ _ { s with heap := h'.push (seqObj "list" acc.toList.toArray 0), toks := tk }
  obtain ⟨g1, g2⟩ := each_refs I1 z3
  rw [← ea] at g1 g2
  have g3 : PySem.W.EachIs (fun (v : Value) (b : Addr × (Int × Int)) => ∃ as, Reads (PySem.W.sortingHeap (h'.push (seqObj "list" acc.toList.toArray 0)) h'.objs.size acc.toList) v (encP b.2) as) acc.toList zs :=
    g2.mono fun _ _ ⟨as, r⟩ => ⟨as, PyProof.Rows.Reads.keeps (fun b ob e => PySem.W.sortingHeap_old (Nat.ne_of_lt (Heap.lt_size e)) (Heap.get?_push_of_some _ e)) r⟩
  have al : PySem.W.AllAlike (zs.map fun b => encP b.2) := by
    have := pairs_alike (zs.map (·.2))
    rwa [List.map_map] at this
  have so : PySem.W.Sortable (zs.map fun b => encP b.2) := by
    have := pairs_sortable (zs.map (·.2))
    rwa [List.map_map] at this
  have S := PySem.W.SortsAt.data (prog := X.prog) (w := X.w) (A := X.A.in1.in1) (s := { s with heap := PySem.W.sortingHeap (h'.push (seqObj "list" acc.toList.toArray 0)) h'.objs.size acc.toList, toks := tk })
    (PySem.W.each_map (R := fun v d => ∃ as, Reads (PySem.W.sortingHeap (h'.push (seqObj "list" acc.toList.toArray 0)) h'.objs.size acc.toList) v d as) (fun b : Addr × (Int × Int) => encP b.2) g3) al so (fun d hd => by
      obtain ⟨b, _, rfl⟩ := List.mem_map.mp hd
      have := encP_depth b.2
      show X.A.units + 1 + 1 + (encP b.2).depth < cLine
      omega)
  refine wpAny_bind (wpAny_holding (wpAny_call_entry PyProof.Rows.slot_list_sort ⟨_, hoL, rfl⟩ PyProof.Rows.entry_list_sort
    (PySem.W.list_sort_vals (s := { s with heap := h'.push (seqObj "list" acc.toList.toArray 0), toks := tk }) hoL S hL ⟨_, rfl, ?_⟩) (PyProof.Rows.args_list_sort _)))
  have out := PySem.W.sortVals_data false g1 g3 al
  obtain ⟨e', he'⟩ := PyProof.Rows.sortedHeap_at (vs := acc.toList) (out := (PySem.W.sortVals _ false acc.toList acc.toList).toArray) hoL
  have hv : Vals ((zs.mergeSort (PySem.W.dataLe false fun b => encP b.2)).map fun z => V.ref z.1) (PySem.W.sortVals (PySem.W.dataKind (PySem.W.sortingHeap (h'.push (seqObj "list" acc.toList.toArray 0)) h'.objs.size acc.toList) (zs.map fun b => encP b.2)) false acc.toList acc.toList) := by
    have : ∀ {bs : List (Addr × (Int × Int))} {us : List Value}, PySem.W.EachIs (fun (v : Value) (b : Addr × (Int × Int)) => v = Value.ref b.1) us bs → Vals (bs.map fun z => V.ref z.1) us := by
      intro bs us h
      induction h with
      | nil => exact .nil
      | cons r _ ih => exact .cons r ih
    exact this out
  have hks : (zs.mergeSort (PySem.W.dataLe false fun b => encP b.2)).map (·.2) = srtK (t.map (·.1)) := by
    unfold srtK
    rw [← z1, ← leP_eq, ← List.map_mergeSort (r := PySem.W.dataLe false fun b : Addr × (Int × Int) => encP b.2) (f := fun b : Addr × (Int × Int) => b.2) (fun a _ b _ => rfl)]
  have hP : PLs H ((zs.mergeSort (PySem.W.dataLe false fun b => encP b.2)).map fun z => V.ref z.1) (srtK (t.map (·.1))) := by
    rw [← hks]
    exact PLs.zip _ fun z hz => z3 z ((List.mergeSort_perm _ _).mem_iff.mp hz)
  have hl2 : ((zs.mergeSort (PySem.W.dataLe false fun b => encP b.2)).map fun z => V.ref z.1).length ≤ sizeLine := by
    rw [List.length_map, List.length_mergeSort, lz]
    exact sz5 hz
  refine wpAny_pure ⟨_, rfl, .ref h'.objs.size, upd H h'.objs.size (.lst _), I1.laid (t' := tk) (fun b u e => ?_) (Nat.le_refl _)
    (show ObjOk X.prog X.w _ _ _ (.lst ((zs.mergeSort (PySem.W.dataLe false fun b => encP b.2)).map fun z => V.ref z.1)) from ⟨hl2, _, e', hv, he'⟩), rfl, q _ _ (I1.hok.fresh (Nat.le_refl _)) hP⟩
  have hb : b < h'.objs.size := Heap.lt_size e
  rw [PyProof.Rows.sortedHeap_old (Nat.ne_of_lt hb) (by rw [size_push']; exact Nat.lt_succ_of_lt hb)]
  exact Heap.get?_push_of_some _ e
theorem r_sortDT {H : Hp} {Q : VK} {a : Addr} {t : Pd} (h : H a = some (.dT (encPD t))) (hz : t.length ≤ 1000000) (q : ∀ p ws H', H p = none → Same H H' → H' p = some (.lst ws) → PLs H' ws (srtK (t.map (·.1))) → Q (.ref p) H') : rSortDT [.ref a] H Q :=
  ⟨a, t, rfl, h, hz, fun p ws np hP => q p ws _ np (Same.new np) upd_same (hP.keep fun u xs hu => Same.new np _ _ hu)⟩
/-! the least of pairs -/
theorem minD_pairs : ∀ (ks : List (Int × Int)) (k : Int × Int), ∃ m ∈ k :: ks, PySem.W.minD (encP k) (ks.map encP) = encP m ∧ ∀ y ∈ k :: ks, leP m y = true
  | [], k => ⟨k, List.mem_cons_self .., rfl, fun y hy => by rw [List.mem_singleton.mp hy]; simp [leP]⟩
  | x :: ks, k => by
    have e : PySem.W.dataLt (encP x) (encP k) = decide (x.1 < k.1 ∨ (x.1 = k.1 ∧ x.2 < k.2)) := PySem.W.dataLt_ii _ _ _ _
    by_cases h : x.1 < k.1 ∨ (x.1 = k.1 ∧ x.2 < k.2)
    · obtain ⟨m, h1, h2, h3⟩ := minD_pairs ks x
      refine ⟨m, List.mem_cons_of_mem _ h1, ?_, fun y hy => ?_⟩
      · rw [← h2]
        unfold PySem.W.minD
        rw [List.map_cons, List.foldl_cons, e, decide_eq_true h]
        rfl
      · rcases List.mem_cons.mp hy with rfl | hy
        · have := of_decide_eq_true (h3 x (List.mem_cons_self ..))
          refine decide_eq_true ?_
          omega
        · exact h3 y hy
    · obtain ⟨m, h1, h2, h3⟩ := minD_pairs ks k
      refine ⟨m, ?_, ?_, fun y hy => ?_⟩
      · rcases List.mem_cons.mp h1 with rfl | h1
        · exact List.mem_cons_self ..
        · exact List.mem_cons_of_mem _ (List.mem_cons_of_mem _ h1)
      · rw [← h2]
        unfold PySem.W.minD
        rw [List.map_cons, List.foldl_cons, e, decide_eq_false h]
        rfl
      · rcases List.mem_cons.mp hy with rfl | hy
        · exact h3 y (List.mem_cons_self ..)
        · rcases List.mem_cons.mp hy with rfl | hy
          · have := of_decide_eq_true (h3 k (List.mem_cons_self ..))
            refine decide_eq_true ?_
            omega
          · exact h3 y (List.mem_cons_of_mem _ hy)
theorem encP_inj {a b : Int × Int} (h : encP a = encP b) : a = b := by
  unfold encP at h
  simp at h
  exact Prod.ext h.1 h.2
def rMinP (K : PySem.W.Frag) : List V → Hp → VK → Prop := fun vs H Q => ∃ (a : Addr) (ws : List V) (ks : List (Int × Int)), vs = [.ref a] ∧ SqL K H a ws ∧ PLs H ws ks ∧ ks ≠ [] ∧
  ∀ (t : Addr) (k : Int × Int), k ∈ ks → (∀ y ∈ ks, leP k y = true) → H t = some (.tup [.int k.1, .int k.2]) → Q (.ref t) H
theorem PLs.at {H : Hp} {ws : List V} {ks : List (Int × Int)} (h : PLs H ws ks) : ∀ {i : Nat} {x : V}, ws[i]? = some x → ∃ t k, x = .ref t ∧ ks[i]? = some k ∧ H t = some (.tup [.int k.1, .int k.2]) := by
  induction h with
  | nil => intro i x e; simp at e
  | @cons t a b vs ps h _ ih =>
    intro i x e
    cases i with
    | zero =>
      obtain rfl := Option.some.inj e
      exact ⟨t, (a, b), rfl, rfl, h⟩
    | succ i =>
      obtain ⟨t', k', h1, h2, h3⟩ := ih (i := i) (by simpa using e)
      exact ⟨t', k', h1, by simpa using h2, h3⟩
theorem c_minP {X : Cx} {K : PySem.W.Frag} {k : Nat} (hK : X.K = K) (hc : X.calm = true) (hr : Room k X.A) : CallR X (.builtin "min") (rMinP K) := by
  subst hK
  intro pins s σ H vs us Q I r h
  obtain ⟨a, ws, ks, rfl, hs, hP, hne, q⟩ := h
  obtain ⟨u, rfl, ru⟩ := vals1 r
  obtain rfl : u = Value.ref a := ru
  have hu := hr.units
  obtain ⟨its, rv, pl, hz⟩ := I.list hs
  cases ks with
  | nil => exact absurd rfl hne
  | cons k0 ks =>
    have hd : DpAll X.K H ws (encP k0 :: ks.map encP) := hP.dp
    obtain ⟨as, hR⟩ := Dp.readsAll I _ _ _ hd rv
    refine PySem.W.min_list_data (I.ok.hd hc) pl.isList hR ?_ ?_ fun i v h' tk bs hv hrd hk => ?_
    · refine ⟨fun x hx y hy => ?_, fun x hx => ?_⟩
      · obtain ⟨x', _, rfl⟩ := List.mem_map.mp (show x ∈ (k0 :: ks).map encP from hx)
        obtain ⟨y', _, rfl⟩ := List.mem_map.mp (show y ∈ (k0 :: ks).map encP from hy)
        simp [encP, PySem.W.alike, PySem.W.alikeAll]
      · obtain ⟨x', _, rfl⟩ := List.mem_map.mp (show x ∈ (k0 :: ks).map encP from hx)
        intro z
        cases z
    · have := depth_pairs (k0 :: ks)
      show X.A.units + 1 + PyData.depthAll ((k0 :: ks).map encP) < cLine
      omega
    · obtain ⟨m, hm, em, lm⟩ := minD_pairs ks k0
      rw [em] at hrd
      have hil : i < its.length := by
        have := (Array.getElem?_eq_some_iff.mp hv).1
        simpa using this
      have hwl := rv.length
      have hx : ws[i]? = some ws[i] := List.getElem?_eq_getElem (by omega)
      obtain ⟨t, kk, h1, h2, h3⟩ := hP.at hx
      obtain ⟨v', hv', rr⟩ := rv.get hx
      have hvv : v' = v := by
        have : its[i]? = some v := by simpa using hv
        rw [hv'] at this
        exact Option.some.inj this
      subst hvv
      rw [h1] at rr
      obtain rfl : v' = Value.ref t := rr
      have hrd0 : ∃ as, Reads s.heap (.ref t) (encP kk) as := Dp.reads I _ _ _ (show Dp X.K H (.ref t) (encP kk) from .tup (SqT.of h3) (.cons (.int _) (.cons (.int _) .nil))) rfl
      obtain ⟨as0, hrd0⟩ := hrd0
      have hdet := (reads_det (h := s.heap) (h' := h') (fun b o e _ => hk b o e) hrd0 hrd).1
      obtain rfl := encP_inj hdet
      exact ⟨.ref t, H, I.kept hk, rfl, q t _ hm lm h3⟩
theorem r_minP {K : PySem.W.Frag} {H : Hp} {Q : VK} {a : Addr} {ws : List V} {ks : List (Int × Int)} (h : SqL K H a ws) (hP : PLs H ws ks) (hne : ks ≠ []) (q : ∀ (t : Addr) (k : Int × Int), k ∈ ks → (∀ y ∈ ks, leP k y = true) → H t = some (.tup [.int k.1, .int k.2]) → Q (.ref t) H) : rMinP K [.ref a] H Q :=
  ⟨a, ws, ks, rfl, h, hP, hne, q⟩
end Wp
set_option Elab.async false
set_option linter.all false
set_option maxRecDepth 100000
set_option maxHeartbeats 4000000
/-! enumerate(tuple). -/
namespace Wp
open PySem PySem.Spec PyProof.Rows L2
open PySem.Sem (wp)
theorem meets_enum1 {v : Value} {o : Obj} {H : Heap → Prop} (B : Begins v o H) :
    Meets (Builtin.«enumerate.__new__» ⟨[.type "enumerate", v], []⟩) (fun _ R s => H s.heap ∧
      R (.ok (.ret (.ref (s.heap.push o).objs.size))) { s with heap := (s.heap.push o).push { cls := .type "enumerate", data := .fields #[.none, .bool false, .ref s.heap.objs.size, rawInt 0, .none, .none] } }) :=
  .of_wp fun prog w A R s h => by
    obtain ⟨hp, g, d, tk, os⟩ := s; obtain ⟨h1, h⟩ := h
    have hsub := sub_enumerate
    have q1 : ∀ {A' : Around} {E : Value → Shared → Prop} {Q : Value → Shared → Prop}, Q (.ref hp.objs.size) ⟨hp.push o, g, d, tk, os⟩ → wpAny (model prog w) A' (pyIter v) Q E ⟨hp, g, d, tk, os⟩ :=
      fun q => B.iter prog w _ _ ⟨hp, g, d, tk, os⟩ _ h1 q
    wp_walk using q1
    refine wpAny_stack_any fun st => wpAny_pure ?_
    split
    · rename_i c _ _ _ _ _
      cases (c == Value.type "enumerate")
      · wp_walk using q1
        exact ⟨_, rfl, h⟩
      · wp_walk using q1
        exact ⟨_, rfl, h⟩
    · wp_walk using q1
      exact ⟨_, rfl, h⟩
section
variable {prog : Program} {w : World} {A : Around} {E : Value → Shared → Prop} {s : Shared}
theorem enum1_begins {v : Value} {o : Obj} {H : Heap → Prop} {Q : Value → Shared → Prop} (B : Begins v o H) (h1 : H s.heap)
    (h : ∀ h', IsEnum h' (s.heap.objs.size + 1) s.heap.objs.size 0 .none → h'.get? s.heap.objs.size = some o → h'.objs.size = s.heap.objs.size + 2 →
      (∀ b o, s.heap.get? b = some o → h'.get? b = some o) → Q (.ref (s.heap.objs.size + 1)) { s with heap := h' }) :
    wpAny (model prog w) A (call (.type "enumerate") [v]) Q E s := by
  refine callType_new F.called_enumerate (by decide) (F.typeCall_enumerate_1 _) (F.newCall_enumerate_1 _) (fun obj => F.args_object_init_2 obj _) F.entry_enumerate_new (meets_enum1 B) ⟨h1, ?_⟩
  have hz : (s.heap.push o).objs.size = s.heap.objs.size + 1 := Heap.size_push ..
  show _ ∧ _
  rw [hz]
  have he : IsEnum ((s.heap.push o).push { cls := .type "enumerate", data := .fields #[.none, .bool false, .ref s.heap.objs.size, rawInt 0, .none, .none] }) (s.heap.objs.size + 1) s.heap.objs.size 0 .none := by
    have := Heap.get?_push_size (s.heap.push o) (o := { cls := .type "enumerate", data := .fields #[.none, .bool false, .ref s.heap.objs.size, rawInt 0, .none, .none] }) rfl
    rw [hz] at this; exact this
  refine ⟨⟨_, he, rfl⟩, h _ he (Heap.get?_push_of_some _ (Heap.get?_push_size _ B.free)) (by rw [Heap.size_push, hz]) fun b o x => Heap.get?_push_of_some _ (Heap.get?_push_of_some _ x)⟩
theorem enumT_end {e it l : Addr} {i : Int} {k : Nat} {items : Array Value} {old : Value} {Q : Option Value → Shared → Prop} (hh : A.handled = none)
    (he : IsEnum s.heap e it i old) (hit : s.heap.IsTupleIter it l k) (hl : s.heap.IsTuple l items) (hx : items[k]? = none)
    (hQ : ∀ h', Heap.ExtBut it s.heap h' → Q none { s with heap := h' }) : wpAny (model prog w) A (pyNext (.ref e)) Q E s := by
  have hT : s.TypeIs (.ref e) "enumerate" := ⟨_, he, rfl⟩
  unfold pyNext
  refine wpAny_bind (wpAny_attempt (wpAny_callSpecial?_slot (name := Str.ofString "__next__") hT F.slot_enumerate_next
    (wpAny_call_entry F.slot_enumerate_next hT F.entry_enumerate_next ?_ (F.args_enumerate_next_1 _))))
  show wpAny _ _ (field (.ref e) 2 >>= _) _ _ _
  refine wpAny_bind (wpAny_field he rfl (x := .ref it) rfl ?_)
  refine wpAny_bind (wpAny_nextOf_tuple_end hh hit hl hx fun h' x he' hx' => ?_)
  obtain ⟨o, ho, hc⟩ := hx'
  refine wpAny_bind (wpAny_isInstance (T := "StopIteration") (b := true) ⟨o, ho, hc⟩ isSubtype_stop ?_)
  exact wpAny_pure (hQ _ he')
end
/-- the tuple at a, each item in a new pair -/
def IteT (K : PySem.W.Frag) (a : Addr) : It :=
  ⟨fun i H => ∃ (xs : List V) (x : V), SqT K H a xs ∧ xs[i]? = some x, fun i H v H' => ∃ T x, v = .ref T ∧ H T = none ∧ H' = upd H T (.tup [.int (i : Nat), x]) ∧ ∀ xs, SqT K H a xs → xs[i]? = some x, fun i H => ∃ xs : List V, SqT K H a xs ∧ xs.length ≤ i⟩
theorem turn_enumT {P : Program} {w : World} {K : PySem.W.Frag} {elts : List Expr} {kk : Nat} {tpos : Pos} (a e it : Addr) :
    Turn P w K (.Tuple elts kk tpos) (IteT K a) [e, it] e (fun i h => (∃ old, IsEnum h e it ((i : Nat) : Int) old) ∧ h.IsTupleIter it a i ∧ e ≠ it) where
  mem := by simp
  obj := fun i h st b hb => by
    obtain ⟨⟨old, he⟩, ⟨o, ho, hc, hd⟩, _⟩ := st
    have e' : b = e ∨ b = it := by simpa using hb
    rcases e' with z | z
    · rw [z]; exact ⟨_, he, fun v q => nomatch q⟩
    · rw [z]; exact ⟨o, ho, fun v q => by rw [hd] at q; cases q⟩
  keep := fun i h h' st k => let ⟨⟨old, he⟩, hi, hne⟩ := st; ⟨⟨old, k e (by simp) _ he⟩, hi.at fun o q => k it (by simp) o q, hne⟩
  item := by
    intro X hP hw hK hc i pins s σ H E I hf st hg
    subst hP hw hK
    obtain ⟨⟨old, he⟩, hit, hne⟩ := st
    obtain ⟨xs, x, hq, hx⟩ := hg
    obtain ⟨its, rv, p, hz⟩ := I.tuple hq
    have p : s.heap.IsTuple a its.toArray := p
    obtain ⟨u, hu, ru⟩ := rv.get hx
    have hel : e < s.heap.objs.size := Heap.lt_size he
    have hil : it < s.heap.objs.size := by obtain ⟨_, q, _⟩ := hit; exact Heap.lt_size q
    have hea : e ≠ a := by
      rintro rfl
      obtain ⟨o, ho, hc', _⟩ := p
      rw [he] at ho
      cases ho
      exact absurd (show Value.type "enumerate" = Value.type "tuple" from hc') (by decide +kernel)
    have hia : a ≠ it := by
      rintro rfl
      obtain ⟨o, ho, hc', _⟩ := p
      obtain ⟨o2, ho2, hc2, _⟩ := hit
      rw [ho2] at ho
      cases ho
      rw [hc2] at hc'
      exact absurd hc' (by decide +kernel)
    have hsz : i < its.toArray.size := by
      have := (List.getElem?_eq_some_iff.mp hu).1
      simpa using this
    refine wpAny_pyNext_enum_itemD (Draws.tuple (A := X.A.in1) (I.ok.hd hc) it a hia its.toArray) he ⟨hit, p⟩ hsz hne (by simp [hne, hea]) fun u' h' tk hu' ho hst' hT hsz' hk => ?_
    obtain rfl : u' = u := by
      have : its[i]? = some u' := by simpa using hu'
      rw [hu] at this
      exact (Option.some.inj this).symm
    refine ⟨_, rfl, wpAny_letOwnedTupleGo_enum (s := { s with heap := h', toks := tk + 1 }) ho fun h'' he' sb => ?_⟩
    have hT2 : h''.get? s.heap.objs.size = some { cls := .type "tuple", data := .seq #[.int i tk, u'] } := (sb.2 _ (Nat.ne_of_gt hel)).trans hT
    have new : ObjOk X.prog X.w (upd H s.heap.objs.size (.tup [.int (i : Nat), x])) h'' s.heap.objs.size (.tup [.int (i : Nat), x]) :=
      ⟨by show 2 ≤ sizeLine; decide, [.int i tk, u'], .cons ⟨_, rfl⟩ (.cons ru .nil), ⟨_, hT2, rfl, _, rfl⟩⟩
    have I1 : Inv X pins σ (upd H s.heap.objs.size (.tup [.int (i : Nat), x])) { s with heap := h'', toks := tk + 1 } :=
      I.turnedNew (ch := [e, it]) (fun b ob hb q => (sb.2 b (fun z => hb (by simp [z]))).trans (hk b ob (fun z => hb (by simp [z])) (fun z => hb (by simp [z])) q)) hf (Nat.le_refl _) new
    refine ⟨.ref s.heap.objs.size, _, I1, rfl, ⟨_, x, rfl, I.hok.fresh (Nat.le_refl _), rfl, fun ys hy => by rw [I.tuple_inj hy hq]; exact hx⟩, ⟨⟨u', ?_⟩, hst'.1.at fun o q => (sb.2 it (Ne.symm hne)).trans q, hne⟩, fun b hb => ?_⟩
    · have e1 : ((i + 1 : Nat) : Int) = (i : Int) + 1 := by omega
      rw [e1]; exact he'
    · have hb' : b < s.heap.objs.size := by
        have e' : b = e ∨ b = it := by simpa using hb
        rcases e' with z | z
        · rw [z]; exact hel
        · rw [z]; exact hil
      rw [upd_ne (Nat.ne_of_lt hb')]
      exact (hf b hb).1
  done := by
    intro X hP hw hK hc i pins s σ H E I hf st hg
    subst hP hw hK
    obtain ⟨⟨old, he⟩, hit, hne⟩ := st
    obtain ⟨xs, hq, hx⟩ := hg
    obtain ⟨its, rv, p, hz⟩ := I.tuple hq
    have p : s.heap.IsTuple a its.toArray := p
    obtain ⟨f0, f1, f2, f3, f4, f5⟩ := hf it (by simp)
    have hl := rv.length
    exact enumT_end (I.ok.hd hc) he hit p (by simp; omega) fun h' eb => ⟨rfl, I.turned (t' := s.toks) (fun b o hb q => eb b o hb q) f0 f1 f3 f4 f5⟩
  self := fun A i s Q E st h => let ⟨⟨_, he⟩, _⟩ := st; wpAny_pyIter_enum he h
def iEnumT (K : PySem.W.Frag) (ta : TA) : TI := fun σ H R => ta σ H fun vs H1 => ∃ a xs, vs = [.ref a] ∧ SqT K H1 a xs ∧ R (IteT K a) H1
theorem pi_enumT {X : Cx} {e : Expr} {ta : TA} {p pos tpos : Pos} {elts : List Expr} {kk : Nat} (hg : Gl X "enumerate") (hm : X.mg "enumerate" = none) (ha : PA X [e] ta) (hs : starEach [e] X.env = [(false, eval e X.env)] := by rfl) :
    PI X (.Tuple elts kk tpos) (.Call (.Name "enumerate" p) [e] [] pos) (iEnumT X.K ta) := by
  refine ⟨fun pins s σ H R I h => ?_⟩
  refine Call_ (ld_blt I hg hm boot_enumerate (PyProof.Rows.callWith_type1 (thn (ha.run pos pins s σ H _ I h) fun us s1 ⟨vs, H1, I1, r1, q1⟩ => ?_) hs rfl))
  obtain ⟨a, xs, ex, hq, q⟩ := q1
  subst ex
  cases r1 with
  | cons r rr =>
    cases rr
    cases r
    obtain ⟨its, rv, p', hz⟩ := I1.tuple hq
    refine enum1_begins (begins_tuple a its.toArray) p' fun h' he hit hsz hk => wpAny_pyIter_enum he ?_
    have I2 : Inv X pins σ H1 { s1 with heap := h' } := I1.kept (t' := s1.toks) hk
    refine ⟨s1.heap.objs.size + 1, [s1.heap.objs.size + 1, s1.heap.objs.size], _, _, H1, rfl, I2, turn_enumT a (s1.heap.objs.size + 1) s1.heap.objs.size, ⟨⟨.none, he⟩, ⟨_, hit, rfl, rfl⟩, Nat.succ_ne_self _⟩, fun b hb => ?_, q⟩
    have e' : b = s1.heap.objs.size + 1 ∨ b = s1.heap.objs.size := by simpa using hb
    have hle : s1.heap.objs.size ≤ b := by
      rcases e' with z | z
      · rw [z]; exact Nat.le_add_right _ _
      · rw [z]; exact Nat.le_refl _
    exact I1.fpOk hle (I1.hok.fresh hle)
end Wp
set_option Elab.async false
set_option linter.all false
set_option maxRecDepth 100000
set_option maxHeartbeats 4000000
/-! Comprehensions of two clauses; over enumerate. -/
namespace Wp
open PySem PySem.Spec PyProof.Rows L2
def LcIn (J1 : It) (g1 : TG) (tt1 : TT) (te : TE) (vs1 : List Nat) (σ2 : L2.St) (Da : Addr) (Nx : Hp → Prop) (H4 : Hp) : Prop := ∃ W1 : Nat → Nat → Hp → Prop, (∃ m, W1 0 m H4) ∧ ∀ j k H, W1 j k H →
  (J1.stop j H ∧ Nx H) ∨ (J1.go j H ∧ ∃ Nx1 : Hp → Prop, (∀ H', Nx1 H' → ∃ k', k' < k ∧ W1 (j + 1) k' H') ∧ ∀ x H', J1.yld j H x H' → g1 x (wipe σ2 vs1) H' fun σ3 H5 => wipe σ3 vs1 = wipe σ2 vs1 ∧ tt1 σ3 H5 fun b H6 =>
    if b = true then te σ3 H6 fun y H7 => ∃ acc, H7 Da = some (.lst acc) ∧ acc.length < sizeLine ∧ Nx1 (upd H7 Da (.lst (acc ++ [y]))) else Nx1 H6)
def kLc2T (wi1 : TI) (g1 : TG) (tt1 : TT) (te : TE) (vs1 : List Nat) (σ2 : L2.St) (Da : Addr) (Nx : Hp → Prop) : Bool → Hp → Prop := fun b H3 => if b = true then wi1 σ2 H3 (fun J1 H4 => LcIn J1 g1 tt1 te vs1 σ2 Da Nx H4) else Nx H3
def kLc2G (tt : TT) (wi1 : TI) (g1 : TG) (tt1 : TT) (te : TE) (vs vs1 : List Nat) (σ : L2.St) (Da : Addr) (Nx : Hp → Prop) : L2.St → Hp → Prop := fun σ2 H2 => wipe σ2 vs = wipe σ vs ∧ tt σ2 H2 (kLc2T wi1 g1 tt1 te vs1 σ2 Da Nx)
def kLc2In (K : PySem.W.Frag) (g1 : TG) (tt1 : TT) (te : TE) (vs1 : List Nat) (σ2 : L2.St) (Da : Addr) (Nx : Hp → Prop) : VK := fun x H1 => ∃ a, x = .ref a ∧ (∃ xs, SqT K H1 a xs) ∧ LcIn (Itt K a) g1 tt1 te vs1 σ2 Da Nx H1
def LcW2 (J : It) (g : TG) (tt : TT) (wi1 : TI) (g1 : TG) (tt1 : TT) (te : TE) (vs vs1 : List Nat) (σ : L2.St) (Q : VK) (H1 : Hp) : Prop := ∀ D, H1 D = none → ∃ W : Nat → Nat → Hp → Prop, (∃ m, W 0 m (upd H1 D (.lst []))) ∧ ∀ i m H, W i m H →
  (J.stop i H ∧ Q (.ref D) H) ∨ (J.go i H ∧ ∃ Nx : Hp → Prop, (∀ H', Nx H' → ∃ m', m' < m ∧ W (i + 1) m' H') ∧ ∀ x H', J.yld i H x H' → g x (wipe σ vs) H' (kLc2G tt wi1 g1 tt1 te vs vs1 σ D Nx))
def kLc2E (K : PySem.W.Frag) (g : TG) (tt : TT) (wi1 : TI) (g1 : TG) (tt1 : TT) (te : TE) (vs vs1 : List Nat) (σ : L2.St) (Q : VK) : List V → Hp → Prop := fun ws H1 => ∃ a xs, ws = [.ref a] ∧ SqT K H1 a xs ∧ LcW2 (IteT K a) g tt wi1 g1 tt1 te vs vs1 σ Q H1
section
variable {K : PySem.W.Frag} {g g1 : TG} {tt tt1 : TT} {wi1 : TI} {te tl : TE} {ta : TA} {vs vs1 : List Nat} {σ σ2 : L2.St} {H : Hp} {Q : VK} {Da a : Addr} {Nx : Hp → Prop} {xs ys : List V} {b : Bool}
theorem r_lc2E (q : ta σ H (kLc2E K g tt wi1 g1 tt1 te vs vs1 σ Q)) : tLc2 (iEnumT K ta) g tt wi1 g1 tt1 te vs vs1 σ H Q := q
theorem r_kLc2G (h : wipe σ2 vs = wipe σ vs) (q : tt σ2 H (kLc2T wi1 g1 tt1 te vs1 σ2 Da Nx)) : kLc2G tt wi1 g1 tt1 te vs vs1 σ Da Nx σ2 H := ⟨h, q⟩
theorem r_kLc2T (q : tl σ2 H (kLc2In K g1 tt1 te vs1 σ2 Da Nx)) : kLc2T (iTup K tl) g1 tt1 te vs1 σ2 Da Nx true H := q
theorem r_kLc2In (R : Nat → Hp → Prop) (hl : SqT K H a ys) (h0 : R 0 H) (hk : ∀ j H', R j H' → SqT K H' a ys)
    (hs : ∀ j z H', ys[j]? = some z → R j H' → g1 z (wipe σ2 vs1) H' (kLcG tt1 te vs1 σ2 Da (fun _ => R) j)) (hd : ∀ H', R ys.length H' → Nx H') : kLc2In K g1 tt1 te vs1 σ2 Da Nx (.ref a) H := by
  refine ⟨a, rfl, ⟨ys, hl⟩, fun j m H => m = ys.length - j ∧ j ≤ ys.length ∧ R j H, ⟨ys.length, by simp, Nat.zero_le _, h0⟩, ?_⟩
  rintro i m H ⟨rfl, hi, p⟩
  have q := hk i H p
  by_cases hlt : i < ys.length
  · refine .inr ⟨⟨ys, ys[i], q, by simp [hlt]⟩, R (i + 1), fun H' p' => ⟨ys.length - (i + 1), by omega, rfl, hlt, p'⟩, fun x H' y => ?_⟩
    obtain ⟨e, y⟩ := y
    subst e
    exact hs i x _ (y ys q) p
  · have e : i = ys.length := by omega
    subst e
    exact .inl ⟨⟨ys, q, Nat.le_refl _⟩, hd H p⟩
theorem r_kLc2E (Pv : Addr → Nat → Hp → Prop) (hl : SqT K H a xs) (h0 : ∀ Da H', H Da = none → Same H H' → H' Da = some (.lst []) → Pv Da 0 H') (hk : ∀ Da i H', Pv Da i H' → SqT K H' a xs)
    (hs : ∀ Da i x T H1 H', H Da = none → xs[i]? = some x → Pv Da i H1 → H1 T = none → Same H1 H' → H' T = some (.tup [.int (i : Nat), x]) → g (.ref T) (wipe σ vs) H' (kLc2G tt wi1 g1 tt1 te vs vs1 σ Da (Pv Da (i + 1))))
    (hd : ∀ Da H', H Da = none → Pv Da xs.length H' → Q (.ref Da) H') : kLc2E K g tt wi1 g1 tt1 te vs vs1 σ Q [.ref a] H := by
  refine ⟨a, xs, rfl, hl, fun D hD => ⟨fun i m H => m = xs.length - i ∧ i ≤ xs.length ∧ Pv D i H, ⟨xs.length, by simp, Nat.zero_le _, h0 D _ hD (Same.new hD) upd_same⟩, ?_⟩⟩
  rintro i m H ⟨rfl, hi, p⟩
  have q := hk D i H p
  by_cases hlt : i < xs.length
  · refine .inr ⟨⟨xs, xs[i], q, by simp [hlt]⟩, Pv D (i + 1), fun H' p' => ⟨xs.length - (i + 1), by omega, rfl, hlt, p'⟩, fun x H' y => ?_⟩
    obtain ⟨T, z, rfl, nT, rfl, y⟩ := y
    exact hs D i z T H _ hD (y xs q) p nT (Same.new nT) upd_same
  · have e : i = xs.length := by omega
    subst e
    exact .inl ⟨⟨xs, q, Nat.le_refl _⟩, hd D H hD p⟩
/-! for over enumerate(list) -/
def kForE (K : PySem.W.Frag) (g : TG) (tw : TS) (D : Ends) (σ : L2.St) : List V → Hp → Prop := fun ws H1 => ∃ a xs, ws = [.ref a] ∧ SqL K H1 a xs ∧
  ∃ W : Nat → Nat → L2.St → Hp → Prop, (∃ m, W 0 m σ H1) ∧ ∀ i m σ H, W i m σ H →
  ((Ite K a).stop i H ∧ D.nx σ H) ∨ ((Ite K a).go i H ∧ ∃ N : L2.St → Hp → Prop, (∀ σ' H', N σ' H' → ∃ m', m' < m ∧ W (i + 1) m' σ' H') ∧
    ∀ x H', (Ite K a).yld i H x H' → g x σ H' fun σ2 H2 => tw { D with nx := N, ct := N, bk := D.nx } σ2 H2)
variable {tw : TS} {D : Ends}
theorem r_forE (q : ta σ H (kForE K g tw D σ)) : tFor (iEnum K ta) g tw D σ H := q
theorem r_kForE (Pv : Nat → L2.St → Hp → Prop) (hl : SqL K H a xs) (h0 : Pv 0 σ H) (hk : ∀ i σ' H', Pv i σ' H' → SqL K H' a xs)
    (hs : ∀ i x T σ' H1 H', xs[i]? = some x → Pv i σ' H1 → H1 T = none → Same H1 H' → H' T = some (.tup [.int (i : Nat), x]) → g (.ref T) σ' H' fun σ2 H2 => tw { D with nx := Pv (i + 1), ct := Pv (i + 1), bk := D.nx } σ2 H2)
    (hd : ∀ σ' H', Pv xs.length σ' H' → D.nx σ' H') : kForE K g tw D σ [.ref a] H := by
  refine ⟨a, xs, rfl, hl, fun i m σ H => m = xs.length - i ∧ i ≤ xs.length ∧ Pv i σ H, ⟨xs.length, by simp, Nat.zero_le _, h0⟩, ?_⟩
  rintro i m σ H ⟨rfl, hi, p⟩
  have q := hk i σ H p
  by_cases hlt : i < xs.length
  · refine .inr ⟨⟨xs, xs[i], q, by simp [hlt]⟩, Pv (i + 1), fun σ' H' p' => ⟨xs.length - (i + 1), by omega, rfl, hlt, p'⟩, fun x H' y => ?_⟩
    obtain ⟨T, z, rfl, nT, rfl, y⟩ := y
    exact hs i z T σ H _ (y xs q) p nT (Same.new nT) upd_same
  · have e : i = xs.length := by omega
    subst e
    exact .inl ⟨⟨xs, q, Nat.le_refl _⟩, hd σ H p⟩
end
end Wp
set_option Elab.async false
set_option linter.all false
set_option maxRecDepth 100000
set_option maxHeartbeats 4000000
/-! f(e, *y); enumerate with the frag named. -/
namespace Wp
open PySem PySem.Spec PyProof.Rows L2
section
variable {X : Cx} {K : PySem.W.Frag}
theorem pe_fnS {CX : CXT} {k : Nat} {x : Str} {ps : List Str} {sp : Sp} {E : XK} {e : Expr} {es : List Expr}
    {t : TA} {p pos : Pos} (D : Dn X.prog X.w X.K X.mg X.base CX k x ps sp) (hr : Room k X.A)
    (hx : Passes CX X E) (ha : PA X (e :: es) t) (hg : Gl X x := by rfl)
    (hdb : (x == ("__debug__" : Str)) = false := by decide)
    (he : starEach (e :: es) X.env = (false, eval e X.env) :: starEach es X.env := by rfl)
    (hpl : (backTo pos (starEach es X.env)).any (·.1) = true := by rfl) :
    PE X (.Call (.Name x p) (e :: es) [] pos) (tFn sp E t) := by
  obtain ⟨fd, F, b⟩ := D.ex
  have F2 : FnR X.prog X.w X.K X.mg X.base CX k (He.ga X.K x) sp := (F.raw b .nil).imp fun vs H Q E h => by
    show sp (vs ++ []) H Q E
    rw [List.append_nil]
    exact h
  exact StX.pe_callS2 F2 hr D.kp hg D.gm hx ha hdb he hpl
theorem pi_enumTK {e : Expr} {ta : TA} {p pos tpos : Pos} {elts : List Expr} {kk : Nat} (h : X.K = K) (hg : Gl X "enumerate") (hm : X.mg "enumerate" = none) (ha : PA X [e] ta) (hs : starEach [e] X.env = [(false, eval e X.env)] := by rfl) :
    PI X (.Tuple elts kk tpos) (.Call (.Name "enumerate" p) [e] [] pos) (iEnumT K ta) := by
  subst h
  exact pi_enumT hg hm ha hs
theorem pi_enumK {e : Expr} {ta : TA} {p pos tpos : Pos} {elts : List Expr} {kk : Nat} (h : X.K = K) (hg : Gl X "enumerate") (hm : X.mg "enumerate" = none) (ha : PA X [e] ta) (hs : starEach [e] X.env = [(false, eval e X.env)] := by rfl) :
    PI X (.Tuple elts kk tpos) (.Call (.Name "enumerate" p) [e] [] pos) (iEnum K ta) := by
  subst h
  exact pi_enum hg hm ha hs
theorem pe_orTK {a b : Expr} {ta tb : TE} {rest : List Expr} {pos : Pos} (h : X.K = K) (ha : PE X a ta) (hb : PE X (.BoolOp .Or (b :: rest) pos) tb) : PE X (.BoolOp .Or (a :: b :: rest) pos) (tOrT K ta tb) := by
  subst h
  exact pe_orT ha hb
def kOrT (K : PySem.W.Frag) (tb : TE) (σ : L2.St) (Q : VK) : VK := fun x H1 => ∃ k, TruV K x H1 k ∧ if k = true then Q x H1 else tb σ H1 Q
variable {ta tb : TE} {σ : L2.St} {H : Hp} {Q : VK}
theorem r_orT (q : ta σ H (kOrT K tb σ Q)) : tOrT K ta tb σ H Q := q
theorem r_kOrTn (q : tb σ H Q) : kOrT K tb σ Q .non H := ⟨false, rfl, q⟩
theorem r_kOrTt {p : Addr} {xs : List V} (h : SqT K H p xs) (q1 : xs ≠ [] → Q (.ref p) H) (q2 : xs = [] → tb σ H Q) : kOrT K tb σ Q (.ref p) H := by
  cases xs with
  | nil => exact ⟨false, .inr (.inl ⟨[], h, rfl⟩), q2 rfl⟩
  | cons x xs => exact ⟨true, .inr (.inl ⟨_, h, rfl⟩), q1 (List.cons_ne_nil _ _)⟩
end
end Wp
set_option Elab.async false
set_option linter.all false
set_option maxRecDepth 100000
set_option maxHeartbeats 4000000
/-! x.f op= v, d[k] op= v; for over enumerate of a list or a tuple. -/
namespace Wp
open PySem PySem.Spec PyProof.Rows L2
section
variable {X : Cx} {K : PySem.W.Frag}
theorem ps_fldaugK {o value : Expr} {f : Str} {op : Operator} {tpos pos : Pos} {ta tv : TE} {rd : V → V → Hp → VK → Prop} (h : X.K = K) (ha : PE X o ta) (hv : PE X value tv) (hop : InOp X op rd) : PS X (.AugAssign (.Attribute o f tpos) op value pos) (sFldAug K ta tv rd f) := by
  subst h
  exact ps_fldaug ha hv hop
end
section
variable {K : PySem.W.Frag} {H : Hp} {p a b C dx : Addr} {Q : VK} {σ : L2.St} {te td ty tv ta : TE} {tr : TA} {t : List (Int × Int)} {i j c : Int} {D : Ends} {fs : List (Str × V)} {f : Str} {v x y z : V} {rd : V → V → Hp → VK → Prop}
def kFldAug2 (f : Str) (a C : Addr) (D : Ends) (σ : L2.St) : VK := fun z H3 => ∃ dx' fs', H3 a = some (.ins C dx' fs') ∧ fs'.length < 1000 ∧ D.nx σ (upd H3 a (.ins C dx' (putF f z fs')))
def kFldAug (K : PySem.W.Frag) (tv : TE) (rd : V → V → Hp → VK → Prop) (f : Str) (D : Ends) (σ : L2.St) : VK := fun x H1 => ∃ a C dx fs v, x = .ref a ∧ H1 a = some (.ins C dx fs) ∧ Cls K C ∧ NoAttr K C f ∧ fs.lookup f = some v ∧
  tv σ H1 fun y H2 => rd v y H2 (kFldAug2 f a C D σ)
theorem r_fldaug (q : ta σ H (kFldAug K tv rd f D σ)) : sFldAug K ta tv rd f D σ H := q
theorem r_kFldAug (h1 : H a = some (.ins C dx fs)) (h2 : Cls K C) (h3 : NoAttr K C f) (h4 : fs.lookup f = some v) (q : tv σ H fun y H2 => rd v y H2 (kFldAug2 f a C D σ)) : kFldAug K tv rd f D σ (.ref a) H := ⟨a, C, dx, fs, v, rfl, h1, h2, h3, h4, q⟩
theorem r_kFldAug2 (h1 : H a = some (.ins C dx fs)) (hl : fs.length < 1000) (q : ∀ H', But a H H' → H' a = some (.ins C dx (putF f z fs)) → D.nx σ H') : kFldAug2 f a C D σ z H := ⟨dx, fs, h1, hl, q _ But.upd upd_same⟩
theorem r_rAdd (q : Q (.int (i + j)) H) : rAdd (.int i) (.int j) H Q := ⟨i, j, rfl, rfl, q⟩
theorem r_rSub (q : Q (.int (i - j)) H) : rSub (.int i) (.int j) H Q := ⟨i, j, rfl, rfl, q⟩
def kDAug2 (a : Addr) (y : V) (D : Ends) (σ : L2.St) : VK := fun z H4 => ∃ H5, DPut H4 a y z H5 ∧ D.nx σ H5
def kDAugY (tv : TE) (rd : V → V → Hp → VK → Prop) (D : Ends) (σ : L2.St) (x : V) : VK := fun y H2 => ∃ a v, x = .ref a ∧ DGet H2 a y (some v) ∧ tv σ H2 fun y2 H3 => rd v y2 H3 (kDAug2 a y D σ)
theorem r_daug (q : td σ H fun x H1 => ty σ H1 (kDAugY tv rd D σ x)) : sDAug td ty tv rd D σ H := q
theorem r_kDAugT (h : H a = some (.dK (encT t))) (e : lookT t i = some c) (q : tv σ H fun y2 H3 => rd (.int c) y2 H3 (kDAug2 a (.int i) D σ)) : kDAugY tv rd D σ (.ref a) (.int i) H :=
  ⟨a, .int c, rfl, .inl ⟨_, Sum.inl i, .inl h, rfl, by rw [valV_enc, e]; rfl⟩, q⟩
theorem r_kDAug2T (h : H a = some (.dK (encT t))) (hz : t.length < 1000000) (q : ∀ H', But a H H' → H' a = some (.dK (encT (putI t i c))) → D.nx σ H') : kDAug2 a (.int i) D σ (.int c) H :=
  ⟨_, .inl ⟨encT t, Sum.inl i, h, rfl, sz6 (by rw [enc_len]; exact hz), rfl⟩, q _ But.upd (by rw [← putK_enc]; exact upd_same)⟩
end
section
variable {K : PySem.W.Frag} {H : Hp} {a : Addr} {σ : L2.St} {g : TG} {tw : TS} {D : Ends} {xs : List V} {n : Nat}
theorem r_forES (hv : σ[n]? = some (some (.ref a))) (hl : SeqV K H a xs) (Pv : Nat → L2.St → Hp → Prop) (h0 : Pv 0 σ H) (hk : ∀ i σ' H', Pv i σ' H' → Same H H')
    (hs : ∀ i x T σ' H1 H', xs[i]? = some x → Pv i σ' H1 → H1 T = none → Same H1 H' → H' T = some (.tup [.int (i : Nat), x]) → g (.ref T) σ' H' fun σ2 H2 => tw { D with nx := Pv (i + 1), ct := Pv (i + 1), bk := D.nx } σ2 H2)
    (hd : ∀ σ' H', Pv xs.length σ' H' → D.nx σ' H') : tFor (iEither (iEnum K (tCons (tVar n) tNil)) (iEnumT K (tCons (tVar n) tNil))) g tw D σ H := by
  rcases hl with hl | hl
  · exact .inl (r_cons (r_var hv (r_nil (r_kForE Pv hl h0 (fun i σ' H' p => SqL.same (hk i σ' H' p) hl) hs hd))))
  · refine .inr (r_cons (r_var hv (r_nil ?_)))
    refine ⟨a, xs, rfl, hl, fun i m σ H => m = xs.length - i ∧ i ≤ xs.length ∧ Pv i σ H, ⟨xs.length, by simp, Nat.zero_le _, h0⟩, ?_⟩
    rintro i m σ H ⟨rfl, hi, p⟩
    have q := SqT.same (hk i σ H p) hl
    by_cases hlt : i < xs.length
    · refine .inr ⟨⟨xs, xs[i], q, by simp [hlt]⟩, Pv (i + 1), fun σ' H' p' => ⟨xs.length - (i + 1), by omega, rfl, hlt, p'⟩, fun x H' y => ?_⟩
      obtain ⟨T, z, rfl, nT, rfl, y⟩ := y
      exact hs i z T σ H _ (y xs q) p nT (Same.new nT) upd_same
    · have e : i = xs.length := by omega
      subst e
      exact .inl ⟨⟨xs, q, Nat.le_refl _⟩, hd σ H p⟩
end
end Wp
set_option Elab.async false
set_option linter.all false
set_option maxRecDepth 100000
set_option maxHeartbeats 4000000
namespace Wp
open PySem PySem.Spec PyProof.Rows L2
abbrev s__law_begun : Stmt := topS 48
abbrev s__law_mixed : Stmt := topS 49
abbrev s__law_take : Stmt := topS 50
abbrev s__law_pick : Stmt := topS 51

/-! ### the source of draws: a dict of four entries -/
def dkv (l c : Addr) (r t : Int) : List (Key × V) :=
  [(Sum.inr ("large" : Str), .ref l), (Sum.inr ("cells" : Str), .ref c), (Sum.inr ("rest" : Str), .int r), (Sum.inr ("turn" : Str), .int t)]
theorem k13 : ¬ (Sum.inr ("large" : Str) : Key) = Sum.inr ("cells" : Str) := by decide +kernel
theorem k12 : ¬ (Sum.inr ("large" : Str) : Key) = Sum.inr ("rest" : Str) := by decide +kernel
theorem k22 : ¬ (Sum.inr ("cells" : Str) : Key) = Sum.inr ("rest" : Str) := by decide +kernel
theorem k32 : ¬ (Sum.inr ("turn" : Str) : Key) = Sum.inr ("rest" : Str) := by decide +kernel
theorem k14 : ¬ (Sum.inr ("large" : Str) : Key) = Sum.inr ("turn" : Str) := by decide +kernel
theorem k24 : ¬ (Sum.inr ("cells" : Str) : Key) = Sum.inr ("turn" : Str) := by decide +kernel
theorem k34 : ¬ (Sum.inr ("rest" : Str) : Key) = Sum.inr ("turn" : Str) := by decide +kernel
section
variable {l c : Addr} {r t r' t' : Int}
theorem dkv_nd : ((dkv l c r t).map (·.1)).Nodup := (by decide +kernel : ([Sum.inr ("large" : Str), Sum.inr ("cells" : Str), Sum.inr ("rest" : Str), Sum.inr ("turn" : Str)] : List Key).Nodup)
theorem v_large : valV (dkv l c r t) (Sum.inr ("large" : Str)) = some (.ref l) := valV_pos rfl
theorem v_cells : valV (dkv l c r t) (Sum.inr ("cells" : Str)) = some (.ref c) := by
  unfold dkv
  rw [valV_neg k13, valV_pos rfl]
theorem v_rest : valV (dkv l c r t) (Sum.inr ("rest" : Str)) = some (.int r) := by
  unfold dkv
  rw [valV_neg k12, valV_neg k22, valV_pos rfl]
theorem v_turn : valV (dkv l c r t) (Sum.inr ("turn" : Str)) = some (.int t) := by
  unfold dkv
  rw [valV_neg k14, valV_neg k24, valV_neg k34, valV_pos rfl]
theorem p_rest : putK (dkv l c r t) (Sum.inr ("rest" : Str)) (.int r') = dkv l c r' t := by
  have a : ((dkv l c r t).any fun kv => decide (kv.1 = Sum.inr ("rest" : Str))) = true := by
    rw [valV_any, v_rest] <;> rfl
  unfold putK
  rw [if_pos a]
  simp only [dkv, List.map_cons, List.map_nil, if_neg k12, if_neg k22, if_neg k32, if_pos trivial]
theorem p_turn : putK (dkv l c r t) (Sum.inr ("turn" : Str)) (.int t') = dkv l c r t' := by
  have a : ((dkv l c r t).any fun kv => decide (kv.1 = Sum.inr ("turn" : Str))) = true := by
    rw [valV_any, v_turn] <;> rfl
  unfold putK
  rw [if_pos a]
  simp only [dkv, List.map_cons, List.map_nil, if_neg k14, if_neg k24, if_neg k34, if_pos trivial]
end

/-- the source of draws stands at st: its large cells at l, the script's copy at c -/
structure DS (st l c : Addr) (cs : List Int) (B : Int) (H : Hp) : Prop where
  d : ∃ r t, 0 ≤ r ∧ 0 ≤ t ∧ t ≤ B ∧ H st = some (.dK (dkv l c r t))
  lg : ∃ zs : List Int, (∀ z ∈ zs, 0 ≤ z) ∧ H l = some (.lst (zs.map V.int))
  cl : H c = some (.lst (cs.map V.int))
  n1 : c ≠ l
theorem DS.ne {st l c : Addr} {cs : List Int} {B : Int} {H : Hp} (D : DS st l c cs B H) : c ≠ st ∧ l ≠ st := by
  obtain ⟨r, t, _, _, _, h⟩ := D.d
  obtain ⟨zs, _, h2⟩ := D.lg
  exact ⟨ne_of D.cl h (by intro z; cases z), ne_of h2 h (by intro z; cases z)⟩
/-- all but the source of draws is as it was -/
def Kp (st l : Addr) (H H' : Hp) : Prop := ∀ b o, H b = some o → b ≠ st → b ≠ l → H' b = some o
theorem Kp.refl {st l : Addr} {H : Hp} : Kp st l H H := fun _ _ h _ _ => h
theorem Kp.trans {st l : Addr} {H H1 H2 : Hp} (a : Kp st l H H1) (b : Kp st l H1 H2) : Kp st l H H2 :=
  fun x o h n1 n2 => b x o (a x o h n1 n2) n1 n2
theorem Kp.of {st l : Addr} {H H' : Hp} (a : Same H H') : Kp st l H H' := fun x o h _ _ => a x o h
theorem DS.keep {st l c : Addr} {cs : List Int} {B : Int} {H H' : Hp} (D : DS st l c cs B H) (e : Same H H') : DS st l c cs B H' := by
  obtain ⟨⟨r, t, hr, h0, h1, h⟩, ⟨zs, hz, h2⟩, h3, n⟩ := D
  exact ⟨⟨r, t, hr, h0, h1, e _ _ h⟩, ⟨zs, hz, e _ _ h2⟩, e _ _ h3, n⟩
theorem DS.mono {st l c : Addr} {cs : List Int} {B B' : Int} {H : Hp} (D : DS st l c cs B H) (h : B ≤ B') : DS st l c cs B' H := by
  obtain ⟨⟨r, t, hr, h0, h1, h⟩, h2, h3, n⟩ := D
  exact ⟨⟨r, t, hr, h0, by omega, h⟩, h2, h3, n⟩

def sp_mixed : Sp := fun vs H Q _ => ∃ (st l c : Addr) (cs : List Int) (B : Int), vs = [.ref st] ∧ B ≤ 35184372088832 ∧ DS st l c cs B H ∧
  ∀ (k : Int) (H' : Hp), 0 ≤ k → DS st l c cs (B + 1) H' → Kp st l H H' → Q (.int k) H'
def sp_take : Sp := fun vs H Q _ => ∃ (st l c : Addr) (cs : List Int) (B n : Int), vs = [.ref st, .int n] ∧ 0 < n ∧ n < 1073741824 ∧ B ≤ 35184372088832 ∧ DS st l c cs B H ∧
  ∀ (k : Int) (H' : Hp), 0 ≤ k → k < n → DS st l c cs (B + 1) H' → Kp st l H H' → Q (.int k) H'
/-- pick: an item of a list -/
def sp_pick : Sp := fun vs H Q _ => ∃ (st l c p : Addr) (cs : List Int) (B : Int) (xs : List V), vs = [.ref st, .ref p] ∧ B ≤ 35184372088832 ∧ DS st l c cs B H ∧ H p = some (.lst xs) ∧ xs ≠ [] ∧ xs.length < 1000000 ∧ p ≠ l ∧
  ∀ (i : Nat) (x : V) (H' : Hp), xs[i]? = some x → DS st l c cs (B + 1) H' → Kp st l H H' → Q x H'
def sp_begun (K : PySem.W.Frag) : Sp := fun vs H Q _ => ∃ (a : Addr) (cs : List Int), vs = [.ref a] ∧ SqL K H a (cs.map V.int) ∧ cs.length ≤ 63 ∧
  ∀ (st l c : Addr) (H' : Hp), H st = none → H l = none → H c = none → Same H H' → DS st l c cs 0 H' → Q (.ref st) H'

structure Tx (K : PySem.W.Frag) (mg : Str → Option Value) : Prop where
  b_all : mg "all" = none
  b_bool : mg "bool" = none
  b_dict : mg "dict" = none
  b_enumerate : mg "enumerate" = none
  b_int : mg "int" = none
  b_isinstance : mg "isinstance" = none
  b_len : mg "len" = none
  b_list : mg "list" = none
  b_max : mg "max" = none
  b_min : mg "min" = none
  b_range : mg "range" = none
  b_repr : mg "repr" = none
  b_sorted : mg "sorted" = none
  b_str : mg "str" = none
  b_sum : mg "sum" = none
  b_super : mg "super" = none
  b_tuple : mg "tuple" = none
  b_zip : mg "zip" = none
  c_BUY : ∃ t, mg "BUY" = some (.str "buy" t)
  c_DAY : ∃ t, mg "DAY" = some (.str "day" t)
  c_LETTERS : ∃ t, mg "LETTERS" = some (.str "abcdefghijklmnopqrstuvwxyz" t)
  c_LONGEST : ∃ t, mg "LONGEST" = some (.int 31 t)
  c_MOST_DAY : ∃ t, mg "MOST_DAY" = some (.int 2000 t)
  c_MOST_KINDS : ∃ t, mg "MOST_KINDS" = some (.int 6 t)
  c_MOST_LENGTHS : ∃ t, mg "MOST_LENGTHS" = some (.int 4 t)
  c_MOST_MEMORY : ∃ t, mg "MOST_MEMORY" = some (.int 2 t)
  c_MOST_NAME : ∃ t, mg "MOST_NAME" = some (.int 8 t)
  c_MOST_RATE : ∃ t, mg "MOST_RATE" = some (.int 1000 t)
  g_PARTS : mg "PARTS" = some (.ref (He.ga K "PARTS"))
  t_PARTS : ∀ H : Hp, SqT K H (He.ga K "PARTS") [.str "lengths", .str "due", .str "kinds", .str "memory", .str "begins", .str "laid"]
  c_PAY : ∃ t, mg "PAY" = some (.str "pay" t)
  c_SHORTEST : ∃ t, mg "SHORTEST" = some (.int 2 t)
  c_STATEMENT : ∃ t, mg "STATEMENT" = some (.str "statement" t)
  g_CreditError : mg "CreditError" = some (.ref (He.ga K "CreditError"))
  g_BadBook : mg "BadBook" = some (.ref (He.ga K "BadBook"))
  g_BadPart : mg "BadPart" = some (.ref (He.ga K "BadPart"))
  g_BadCourse : mg "BadCourse" = some (.ref (He.ga K "BadCourse"))
  g_BadNumber : mg "BadNumber" = some (.ref (He.ga K "BadNumber"))
  g_Book : mg "Book" = some (.ref (He.ga K "Book"))
  g_Account : mg "Account" = some (.ref (He.ga K "Account"))

local macro_rules | `(tactic| walk_at "val") => `(tactic| assumption)
local macro_rules | `(tactic| walk_at "rd1") => `(tactic| first
  | with_reducible refine r_seq ?_ | with_reducible refine r_next ?_ | with_reducible refine r_if ?_ | with_reducible refine r_asg ?_ | with_reducible refine r_gname ?_
  | with_reducible refine r_ret ?_ | with_reducible refine r_retN ?_ | with_reducible refine r_drop ?_ | with_reducible refine r_par ?_ | with_reducible refine r_kPar ?_
  | ((with_reducible refine' r_var ?hv ?_); (case hv => exact rfl)) | with_reducible refine r_c ?_ | with_reducible refine r_nil ?_ | with_reducible refine r_cons ?_
  | with_reducible refine r_fn ?_ | with_reducible refine r_cb ?_ | with_reducible refine r_op ?_ | with_reducible refine r_un ?_ | with_reducible refine r_I0 ?_
  | with_reducible refine r_pow5 ?_ | with_reducible refine r_pow6 ?_ | with_reducible refine r_pow7 ?_ | with_reducible refine r_pow9 ?_ | with_reducible refine r_pow18 ?_ | with_reducible refine r_pow20 ?_ | with_reducible refine r_pow30 ?_
  | with_reducible refine r_isN_non ?_ | with_reducible refine r_isN_ref ?_ | with_reducible refine r_isN_int ?_ | with_reducible refine r_isN_str ?_ | with_reducible refine r_isN_bl ?_ | with_reducible refine r_notN_non ?_ | with_reducible refine r_notN_ref ?_ | with_reducible refine r_notN_int ?_ | with_reducible refine r_notN_str ?_ | with_reducible refine r_notN_bl ?_
  | ((with_reducible refine r_I ?hc ?_); (case hc => walk_at "side")) | with_reducible refine r_U ?_
  | with_reducible refine r_eqI ?_ | with_reducible refine r_neI ?_ | with_reducible refine r_eqS ?_ | with_reducible refine r_neS ?_ | with_reducible refine r_eqB ?_ | with_reducible refine r_neB ?_
  | with_reducible refine r_chain ?_ | with_reducible refine r_test ?_ | with_reducible refine r_tB ?_ | with_reducible refine r_kTest ?_ | with_reducible refine r_not ?_
  | with_reducible refine r_and ?_ | with_reducible refine r_or ?_ | with_reducible refine r_tif ?_ | with_reducible refine r_andV ?_ | with_reducible refine r_orV ?_ | with_reducible refine r_notV ?_
  | with_reducible refine r_kAndV ?_ | with_reducible refine r_kOrV ?_ | with_reducible refine r_kNotV ?_
  | with_reducible refine w_T ?_ | with_reducible refine w_F ?_ | with_reducible refine w_NT ?_ | with_reducible refine w_NF ?_
  | with_reducible refine r_tup ?_ | with_reducible refine r_lst ?_ | with_reducible refine r_fld ?_ | with_reducible refine r_prop ?_ | ((with_reducible refine' r_aug ?h1 ?_); (case h1 => exact rfl)) | with_reducible refine r_ipI ?_ | with_reducible refine r_dget ?_ | with_reducible refine r_dput ?_ | with_reducible refine r_bm ?_
  | ((with_reducible refine' r_kDGetS ?h1 ?h2 ?_); (case h1 => assumption); (case h2 => walk_at "val"))
  | ((with_reducible refine' r_kBML ?h1 ?_); (case h1 => assumption))
  | with_reducible refine r_forL ?_ | with_reducible refine r_forR1 ?_ | with_reducible refine r_forR2 ?_ | with_reducible refine r_forT ?_ | with_reducible refine r_lcL ?_ | with_reducible refine r_lcR1 ?_
  | ((with_reducible refine r_kLcG ?hw ?_); (case hw => exact rfl)) | with_reducible refine r_kLcT ?_ | with_reducible refine r_yes ?_
  | with_reducible refine r_pnil ?_ | with_reducible refine r_pcons ?_
  | with_reducible refine r_fnK ?_ | ((with_reducible refine r_kFnK ?hl ?_); (case hl => exact rfl))
  | with_reducible refine r_isi_ii ?_ | with_reducible refine r_isi_ib ?_ | with_reducible refine r_isi_bi ?_ | with_reducible refine r_isi_bb ?_ | with_reducible refine r_isi_ss ?_ | with_reducible refine r_isi_is ?_ | with_reducible refine r_isi_it ?_
  | ((with_reducible refine' r_isi_tt ?h1 ?_); (case h1 => assumption))
  | with_reducible refine r_sfld ?_ | with_reducible refine r_gnil ?_ | with_reducible refine r_gcons ?_
  | ((with_reducible refine' r_gtup ?h1 ?h2 ?_); (case h1 => exact SqT.of (by assumption)); (case h2 => exact rfl))
  | with_reducible refine r_sl ?_ | with_reducible refine r_noPart ?_ | with_reducible refine r_part ?_ | with_reducible refine r_kPart ?_ | with_reducible refine r_m1 ?_ | with_reducible refine r_kM1 ?_ | with_reducible refine r_forS ?_ | with_reducible refine r_lcS ?_ | with_reducible refine r_lcTu ?_ | with_reducible refine r_lcK ?_ | with_reducible refine r_dcL ?_ | with_reducible refine r_dcK ?_ | with_reducible refine r_lc2L ?_ | with_reducible refine r_kLc2TL ?_ | with_reducible refine r_dcEn ?_ | with_reducible refine r_gslc ?_ | with_reducible refine r_lcEn ?_ | with_reducible refine r_forET ?_ | with_reducible refine r_lenD ?_
  | ((with_reducible refine r_kDcG ?hw ?_); (case hw => exact rfl)) | with_reducible refine r_kDcT ?_
  | with_reducible refine r_fldaug ?_ | with_reducible refine r_daug ?_ | with_reducible refine r_rAdd ?_ | with_reducible refine r_rSub ?_ | with_reducible refine r_ddel ?_ | with_reducible refine r_bmF ?_ | with_reducible refine r_dget2 ?_ | with_reducible refine r_listItems ?_ | with_reducible refine r_bm0 ?_ | with_reducible refine r_lc2E ?_ | ((with_reducible refine r_kLc2G ?hw ?_); (case hw => exact rfl)) | with_reducible refine r_kLc2T ?_ | with_reducible refine r_forE ?_ | with_reducible refine r_orT ?_ | with_reducible refine r_din ?_ | with_reducible refine r_augS ?_ | with_reducible refine r_dnotin ?_ | with_reducible refine r_lcIT ?_ | with_reducible refine r_cont ?_ | with_reducible refine r_meth ?_ | with_reducible refine r_frz ?_ | with_reducible refine r_par3 ?_ | with_reducible refine r_kPar3 ?_ | with_reducible refine r_dz ?_ | with_reducible refine r_revL ?_ | with_reducible refine r_star ?_ | with_reducible refine r_int1 ?_ | with_reducible refine r_int1b ?_ | with_reducible refine r_min2 ?_ | with_reducible refine r_max2 ?_ | with_reducible refine r_gsub ?_)
local macro_rules | `(tactic| walk_at "rd") => `(tactic| repeat walk_at "rd1")
local macro_rules | `(tactic| walk_at "side") => `(tactic| first | assumption | exact Or.inr ⟨by decide, by decide⟩ | exact Or.inl ⟨by decide, by decide⟩ | (constructor <;> omega) | omega | decide | (refine Or.inl ⟨?_, ?_⟩ <;> omega) | (refine Or.inr ⟨?_, ?_⟩ <;> omega) | (refine ⟨?_, ?_, ?_⟩ <;> first | decide | omega))
local macro_rules | `(tactic| walk_at "val") => `(tactic| first | exact v_rest | exact v_turn | exact v_large | exact v_cells)
section
variable {P : Program} {w : World} {K : PySem.W.Frag} {mg : Str → Option Value} {base : Heap}
theorem primes_mem {x : V} (h : x ∈ [V.int 2147483629, V.int 2147483587, V.int 2147483579, V.int 2147483563, V.int 2147483549, V.int 2147483543]) : ∃ q : Int, x = .int q ∧ 2000000000 < q ∧ q < 2147483648 := by
  simp only [List.mem_cons, List.not_mem_nil, or_false] at h
  rcases h with h | h | h | h | h | h <;> exact ⟨_, h, by decide, by decide⟩
theorem ints_get {xs : List Int} {i : Nat} {x : V} (h : (xs.map V.int)[i]? = some x) : ∃ z, x = .int z ∧ xs[i]? = some z := by
  rw [List.getElem?_map] at h
  cases e : xs[i]? with
  | none => rw [e] at h; cases h
  | some z => rw [e] at h; exact ⟨z, (Option.some.inj h).symm, rfl⟩
theorem ok__law_mixed {f : Addr} {fd : FuncData} (T : Tx K mg) (F : FnP K "_law_mixed" s__law_mixed f fd) :
    FnOk P w K mg base CX0 1 f fd ["_law_state"] sp_mixed := by
  have sc : FnScope ["_law_state", "_law_found", "_law_prime", "_law_blend", "_law_cell"] ["_law_state"] (defScope s__law_mixed) := ⟨rfl, rfl, rfl, by decide +kernel, rfl, by decide +kernel, by decide +kernel⟩
  refine F.ok sc (by rintro vs H Q E ⟨_, _, _, _, _, rfl, _⟩; rfl) (fun cdv A outer s H vs Q E hr h => ⟨_, PSs.nox ((pss_cons (ps_dput (hu_of hr) (pv 0) pe_str (pe_op op_add (pe_dget (hu_of hr) (pv 0) pe_str (fun _ _ => rfl)) pe_int) rfl)
      (pss_cons (ps_set (i := 1) sc.nd rfl (by first | exact Or.inl rfl | exact Or.inr rfl) pe_int)
      (pss_cons (ps_for PassesOwn.never rfl (pi_listK (K := K) rfl (pe_lst (pa_cons pe_int (pa_cons pe_int (pa_cons pe_int (pa_cons pe_int (pa_cons pe_int (pa_cons pe_int pa_nil)))))))) (pg_name (i := 2) sc.nd rfl (by first | exact Or.inl rfl | exact Or.inr rfl)) (pss_cons (ps_set (i := 3) sc.nd rfl (by first | exact Or.inl rfl | exact Or.inr rfl) (pe_op op_add (pe_op op_mul pe_int (pe_dget (hu_of hr) (pv 0) pe_str (fun _ _ => rfl))) (pe_op op_fdiv (pv 2) pe_int)))
      (pss_cons (ps_for PassesOwn.never rfl (pi_listK (K := K) rfl (pe_dget (hu_of hr) (pv 0) pe_str (fun _ _ => rfl))) (pg_name (i := 4) sc.nd rfl (by first | exact Or.inl rfl | exact Or.inr rfl)) (pss_one (ps_set (i := 3) sc.nd rfl (by first | exact Or.inl rfl | exact Or.inr rfl) (pe_op op_mod (pe_callTy c_int1 (by rfl) T.b_int (by decide +kernel) (pa_cons (pe_op op_add (pe_op op_mul (pv 3) pe_int) (pv 4)) pa_nil)) (pv 2)))))
      (pss_one (ps_set (i := 1) sc.nd rfl (by first | exact Or.inl rfl | exact Or.inr rfl) (pe_op op_add (pe_op op_mul (pv 1) pe_int) (pe_op op_mod (pe_callTy c_int1 (by rfl) T.b_int (by decide +kernel) (pa_cons (pe_op op_pow (pv 3) pe_int) pa_nil)) (pv 2))))))))
      (pss_one (ps_ret (pv 1))))))), ?_⟩)
  obtain ⟨st, l, c, cs, B, rfl, hB, D, k⟩ := h
  obtain ⟨⟨r, t, hr0, ht0, htB, hd⟩, ⟨zs, hz, hl⟩, hc, n1⟩ := id D
  obtain ⟨n2, n3⟩ := D.ne
  walk_at "rd"
  refine r_kDPutS hd (show 4 < 1000000 by decide) fun H1 b1 hd1 => ?_
  rw [p_turn] at hd1
  have hc1 := b1 _ _ hc n2
  walk_at "rd"
  refine r_kLst fun p H2 np e2 hp => ?_
  replace hd1 := e2 _ _ hd1
  replace hc1 := e2 _ _ hc1
  refine r_kForL (xs := [V.int 2147483629, V.int 2147483587, V.int 2147483579, V.int 2147483563, V.int 2147483549, V.int 2147483543])
    (fun _ σ' H' => H2 = H' ∧ ∃ (z : Int) (x y u : Option V), σ' = [some (.ref st), some (.int z), x, y, u] ∧ 0 ≤ z) (SqL.of hp) ⟨rfl, _, _, _, _, rfl, Int.le_refl 0⟩ (fun _ σ' H' ⟨e, _⟩ => by rw [← e]; exact SqL.of hp) ?_ ?_
  · rintro i x σ' H' hx ⟨rfl, z, x2, x3, x4, rfl, hz0⟩
    obtain ⟨q, rfl, hq1, hq2⟩ := primes_mem (List.mem_of_getElem? hx)
    walk_at "rd"
    refine r_kForL (xs := cs.map V.int) (fun _ σ' H' => H2 = H' ∧ ∃ (y : Int) (u : Option V), σ' = [some (.ref st), some (.int z), some (.int q), some (.int y), u] ∧ -18446744073709551616 < y ∧ y < 18446744073709551616)
      (SqL.of hc1) ⟨rfl, _, _, rfl, by omega, by omega⟩ (fun _ σ' H' ⟨e, _⟩ => by rw [← e]; exact SqL.of hc1) ?_ ?_
    · rintro j x σ' H' hx ⟨rfl, y, u, rfl, hy1, hy2⟩
      obtain ⟨z', rfl, _⟩ := ints_get hx
      walk_at "rd"
      have h1 := Int.emod_nonneg (y * 48271 + z') (b := q) (by omega)
      have h2 := Int.emod_lt_of_pos (y * 48271 + z') (b := q) (by omega)
      exact ⟨rfl, _, _, rfl, by omega, by omega⟩
    · rintro σ' H' ⟨rfl, y, u, rfl, hy1, hy2⟩
      walk_at "rd"
      have h1 := Int.emod_nonneg (y ^ (5 : Int).toNat) (b := q) (by omega)
      exact ⟨rfl, _, _, _, _, rfl, by omega⟩
  · rintro σ' H' ⟨rfl, z, x2, x3, x4, rfl, hz0⟩
    walk_at "rd"
    refine k z H2 hz0 ⟨⟨r, t + 1, hr0, by omega, by omega, hd1⟩, ⟨zs, hz, e2 _ _ (b1 _ _ hl n3)⟩, hc1, n1⟩ fun b o hb m1 m2 => e2 _ _ (b1 _ _ hb m1)
theorem ok__law_take {f : Addr} {fd : FuncData} (T : Tx K mg) (F : FnP K "_law_take" s__law_take f fd)
    (d__law_mixed : Dn P w K mg base CX0 1 "_law_mixed" ["_law_state"] sp_mixed) :
    FnOk P w K mg base CX0 2 f fd ["_law_state", "_law_size"] sp_take := by
  have sc : FnScope ["_law_state", "_law_size", "_law_found"] ["_law_state", "_law_size"] (defScope s__law_take) := ⟨rfl, rfl, rfl, by decide +kernel, rfl, by decide +kernel, by decide +kernel⟩
  refine F.ok sc (by rintro vs H Q E ⟨_, _, _, _, _, _, rfl, _⟩; rfl) (fun cdv A outer s H vs Q E hr h => ⟨_, PSs.nox ((Evl.pss_cut (ps_if (pt_cmpR op_eq (pe_dget (hu_of hr) (pv 0) pe_str (fun _ _ => rfl)) pe_int (nomark _)) (pss_one (ps_dput (hu_of hr) (pv 0) pe_str (pe_ifExp (pt_cmpR (neDK (K := K) rfl hr.units) (pe_dget (hu_of hr) (pv 0) pe_str (fun _ _ => rfl)) (pe_lst pa_nil) (nomark _)) (pe_bmK (K := K) rfl PySem.F.plainAttrs_list PySem.F.slot_list_pop PySem.F.type_list_pop mt_popAt (pe_dget (hu_of hr) (pv 0) pe_str (fun _ _ => rfl)) (pa_cons pe_int pa_nil)) (pe_fn d__law_mixed (hr.mono (by decide)) pass0 (pa_cons (pv 0) pa_nil))) rfl)) pss_nil)
      (pss_cons (ps_set (i := 2) sc.nd rfl (by first | exact Or.inl rfl | exact Or.inr rfl) (pe_op op_mod (pe_callTy c_int1 (by rfl) T.b_int (by decide +kernel) (pa_cons (pe_dget (hu_of hr) (pv 0) pe_str (fun _ _ => rfl)) pa_nil)) (pv 1)))
      (pss_cons (ps_dput (hu_of hr) (pv 0) pe_str (pe_op op_fdiv (pe_dget (hu_of hr) (pv 0) pe_str (fun _ _ => rfl)) (pv 1)) rfl)
      (pss_one (ps_ret (pv 2))))))), ?_⟩)
  obtain ⟨st, l, c, cs, B, n, rfl, hn, hn2, hB, D, k⟩ := h
  refine r_cut (fun σ' H' => σ' = [some (.ref st), some (.int n), none] ∧ DS st l c cs (B + 1) H' ∧ Kp st l H H') ?_ ?_
  · obtain ⟨⟨r, t, hr0, ht0, htB, hd⟩, ⟨zs, hz, hl⟩, hc, n1⟩ := id D
    obtain ⟨n2, n3⟩ := D.ne
    walk_at "rd"
    refine w_dec (fun h0 => ?_) (fun h0 => ?_)
    · walk_at "rd"
      refine r_kLst fun p H1 np e1 hp => ?_
      refine r_neLI (as := zs) (bs := []) (SqL.of (e1 _ _ hl)) (SqL.of hp) ?_
      walk_at "rd"
      replace hd := e1 _ _ hd
      replace hl := e1 _ _ hl
      replace hc := e1 _ _ hc
      refine w_ndec (fun hn => ?_) (fun hn => ?_)
      · cases zs with
        | nil => exact absurd rfl hn
        | cons z zs =>
          walk_at "rd"
          refine r_popAt0 hl fun H2 b2 hl2 => ?_
          walk_at "rd"
          have hd2 := b2 _ _ hd n3.symm
          refine r_kDPutS hd2 (show 4 < 1000000 by decide) fun H3 b3 hd3 => ?_
          rw [p_rest] at hd3
          refine ⟨rfl, ⟨⟨z, t, hz z (List.mem_cons_self ..), ht0, by omega, hd3⟩, ⟨zs, fun y hy => hz y (List.mem_cons_of_mem _ hy), b3 _ _ hl2 n3⟩, b3 _ _ (b2 _ _ hc n1) n2, n1⟩, fun b o hb m1 m2 => b3 _ _ (b2 _ _ (e1 _ _ hb) m2) m1⟩
      · walk_at "rd"
        refine ⟨st, l, c, cs, B, rfl, hB, D.keep e1, fun m H2 hm D2 k2 => ?_⟩
        obtain ⟨⟨r2, t2, hr2, ht2, htB2, hd2⟩, ⟨zs2, hz2, hl2⟩, hc2, _⟩ := id D2
        walk_at "rd"
        refine r_kDPutS hd2 (show 4 < 1000000 by decide) fun H3 b3 hd3 => ?_
        rw [p_rest] at hd3
        exact ⟨rfl, ⟨⟨m, t2, hm, ht2, htB2, hd3⟩, ⟨zs2, hz2, b3 _ _ hl2 n3⟩, b3 _ _ hc2 n2, n1⟩, fun b o hb m1 m2 => b3 _ _ (k2 _ _ (e1 _ _ hb) m1 m2) m1⟩
    · walk_at "rd"
      exact ⟨rfl, D.mono (by omega), Kp.refl⟩
  · rintro σ' H' ⟨rfl, D2, k2⟩
    obtain ⟨⟨r, t, hr0, ht0, htB, hd⟩, ⟨zs, hz, hl⟩, hc, n1⟩ := id D2
    obtain ⟨n2, n3⟩ := D2.ne
    walk_at "rd"
    refine r_kDPutS hd (show 4 < 1000000 by decide) fun H3 b3 hd3 => ?_
    rw [p_rest] at hd3
    walk_at "rd"
    refine k (r % n) H3 (Int.emod_nonneg _ (by omega)) (Int.emod_lt_of_pos _ hn) ⟨⟨_, t, Int.ediv_nonneg hr0 (Int.le_of_lt hn), ht0, htB, hd3⟩, ⟨zs, hz, b3 _ _ hl n3⟩, b3 _ _ hc n2, n1⟩ fun b o hb m1 m2 => b3 _ _ (k2 _ _ hb m1 m2) m1
theorem ok__law_pick {f : Addr} {fd : FuncData} (T : Tx K mg) (F : FnP K "_law_pick" s__law_pick f fd)
    (d__law_take : Dn P w K mg base CX0 2 "_law_take" ["_law_state", "_law_size"] sp_take) :
    FnOk P w K mg base CX0 3 f fd ["_law_state", "_law_some_here"] sp_pick := by
  have sc : FnScope ["_law_state", "_law_some_here"] ["_law_state", "_law_some_here"] (defScope s__law_pick) := ⟨rfl, rfl, rfl, by decide +kernel, rfl, by decide +kernel, by decide +kernel⟩
  refine F.ok sc (by rintro vs H Q E ⟨_, _, _, _, _, _, _, rfl, _⟩; rfl) (fun cdv A outer s H vs Q E hr h => ⟨_, PSs.nox ((pss_one (ps_ret (pe_ix (ix_listK (K := K) rfl) (pv 1) (pe_fn d__law_take (hr.mono (by decide)) pass0 (pa_cons (pv 0) (pa_cons (pe_callB (c_lenK (K := K) rfl) (by rfl) T.b_len (by decide +kernel) (pa_cons (pv 1) pa_nil)) pa_nil))) (fun _ _ => rfl))))), ?_⟩)
  obtain ⟨st, l, c, p, cs, B, xs, rfl, hB, D, hp, hne, hlen, npl, k⟩ := h
  have h0 : 0 < xs.length := List.length_pos_iff.mpr hne
  have npst : p ≠ st := by
    obtain ⟨r, t, _, _, _, h⟩ := D.d
    exact ne_of hp h (by intro z; cases z)
  walk_at "rd"
  refine r_lenL (SqL.of hp) ?_
  walk_at "rd"
  refine ⟨st, l, c, cs, B, _, rfl, by omega, by omega, hB, D, fun m H1 hm hm2 D1 k1 => ?_⟩
  have hi : m.toNat < xs.length := by omega
  refine r_ixL (SqL.of (k1 _ _ hp npst npl)) (at_get (n := m.toNat) (by omega) (List.getElem?_eq_getElem hi)) ?_
  exact k m.toNat _ H1 (List.getElem?_eq_getElem hi) D1 k1
theorem ok__law_begun {f : Addr} {fd : FuncData} (T : Tx K mg) (F : FnP K "_law_begun" s__law_begun f fd) :
    FnOk P w K mg base CX0 1 f fd ["_law_script"] (sp_begun K) := by
  have sc : FnScope ["_law_script", "_law_large", "_law_cell"] ["_law_script"] (defScope s__law_begun) := ⟨rfl, rfl, rfl, by decide +kernel, rfl, by decide +kernel, by decide +kernel⟩
  refine F.ok sc (by rintro vs H Q E ⟨_, _, rfl, _⟩; rfl) (fun cdv A outer s H vs Q E hr h => ⟨_, PSs.nox ((pss_cons (ps_setLc (i := 1) (own := [("_law_cell", 2)]) (by rfl) sc.nd rfl rfl (sw_true rfl rfl rfl (by decide +kernel)) (pi_listK (K := K) rfl (pv 0)) (blkOk_by (own := [("_law_cell", 2)]) (N := ["_law_script", "_law_large", "_law_cell"]) (sc := defScope s__law_begun) (by decide +kernel)) (fun _ _ _ _ _ => (pg_name (i := 2) sc.nd rfl (by first | exact Or.inl rfl | exact Or.inr rfl))) (fun _ _ _ _ _ => (pts_one (pt_cmpR op_ge (pv 2) (pe_op op_pow pe_int pe_int) (nomark _)))) (fun _ _ _ _ _ => (pe_op op_sub (pv 2) (pe_op op_pow pe_int pe_int))))
      (pss_one (ps_ret (pe_disp (pps_cons pe_str (pv 1) (pps_cons pe_str (pe_callTy (c_listK (K := K) rfl) (by rfl) T.b_list (by decide +kernel) (pa_cons (pv 0) pa_nil)) (pps_cons pe_str pe_int (pps_cons pe_str pe_int pps_nil)))) (by rfl) (by rfl) (fun z => by cases z) (by decide)))))), ?_⟩)
  obtain ⟨a, cs, rfl, hS, hlen, k⟩ := h
  walk_at "rd"
  refine r_kLcL (xs := cs.map V.int) (fun Da i H' => Same H H' ∧ ∃ zs : List Int, (∀ z ∈ zs, 0 ≤ z) ∧ zs.length ≤ i ∧ H' Da = some (.lst (zs.map V.int))) hS (fun Da H' hD e h => ⟨e, [], (fun z hz => nomatch hz), Nat.le_refl _, h⟩)
    (fun Da i H' ⟨e, _⟩ => e.seq hS) ?_ ?_
  · rintro Da i x H' hD hx ⟨e, zs, hz, hl, hDa⟩
    obtain ⟨z, rfl, hz2⟩ := ints_get hx
    have hi : i < cs.length := (List.getElem?_eq_some_iff.mp hz2).1
    walk_at "rd"
    refine w_dec (fun h1 => ?_) (fun h1 => ?_)
    · walk_at "rd"
      refine r_kLcE hDa (by rw [List.length_map]; omega) fun H2 b2 h2 => ⟨Same.mut e b2 hD, zs ++ [z - 1000000000000000000], ?_, by rw [List.length_append]; show zs.length + 1 ≤ i + 1; omega, by rw [List.map_append]; exact h2⟩
      intro y hy
      rcases List.mem_append.mp hy with hy | hy
      · exact hz y hy
      · rw [List.mem_singleton.mp hy]
        omega
    · exact ⟨e, zs, hz, by omega, hDa⟩
  · rintro Da H1 hD ⟨e1, zs, hz, hl, hDa⟩
    walk_at "rd"
    refine r_disp fun p H2 np e2 hp => ?_
    walk_at "rd"
    refine r_listL (e2.seq (e1.seq hS)) fun q H3 nq e3 hq => ?_
    walk_at "rd"
    refine r_kDisp (dkv Da q 0 0) (e3 _ _ hp) rfl (show 4 ≤ 15 by decide) dkv_nd fun H4 b4 h4 => ?_
    have hDa3 := e3 _ _ (e2 _ _ hDa)
    have npq : q ≠ p := ne_of hq (e3 _ _ hp) (by intro z; cases z)
    have npD : Da ≠ p := ne_of hDa3 (e3 _ _ hp) (by intro z; cases z)
    have nqD : q ≠ Da := (ne_of_none (e2 _ _ hDa) nq).symm
    have s03 : Same H H3 := (e1.trans e2).trans e3
    have np0 : H p = none := e1.free np
    refine k p Da q H4 np0 hD ((e1.trans e2).free nq) (Same.mut s03 b4 np0) ⟨⟨0, 0, Int.le_refl _, Int.le_refl _, Int.le_refl _, h4⟩, ⟨zs, hz, b4 _ _ hDa3 npD⟩, b4 _ _ hq npq, nqD⟩
end
end Wp
set_option Elab.async false
set_option linter.all false
set_option maxRecDepth 100000
set_option maxHeartbeats 4000000
namespace Wp
open PySem PySem.Spec PyProof.Rows L2
abbrev s_is_number : Stmt := topS 20
abbrev s_is_number_in : Stmt := topS 21
local macro_rules | `(tactic| walk_at "val") => `(tactic| assumption)
local macro_rules | `(tactic| walk_at "rd1") => `(tactic| first
  | with_reducible refine r_seq ?_ | with_reducible refine r_next ?_ | with_reducible refine r_if ?_ | with_reducible refine r_asg ?_ | with_reducible refine r_gname ?_
  | with_reducible refine r_ret ?_ | with_reducible refine r_retN ?_ | with_reducible refine r_drop ?_ | with_reducible refine r_par ?_ | with_reducible refine r_kPar ?_
  | ((with_reducible refine' r_var ?hv ?_); (case hv => exact rfl)) | with_reducible refine r_c ?_ | with_reducible refine r_nil ?_ | with_reducible refine r_cons ?_
  | with_reducible refine r_fn ?_ | with_reducible refine r_cb ?_ | with_reducible refine r_op ?_ | with_reducible refine r_un ?_ | with_reducible refine r_I0 ?_
  | with_reducible refine r_pow5 ?_ | with_reducible refine r_pow6 ?_ | with_reducible refine r_pow7 ?_ | with_reducible refine r_pow9 ?_ | with_reducible refine r_pow18 ?_ | with_reducible refine r_pow20 ?_ | with_reducible refine r_pow30 ?_
  | with_reducible refine r_isN_non ?_ | with_reducible refine r_isN_ref ?_ | with_reducible refine r_isN_int ?_ | with_reducible refine r_isN_str ?_ | with_reducible refine r_isN_bl ?_ | with_reducible refine r_notN_non ?_ | with_reducible refine r_notN_ref ?_ | with_reducible refine r_notN_int ?_ | with_reducible refine r_notN_str ?_ | with_reducible refine r_notN_bl ?_
  | ((with_reducible refine r_I ?hc ?_); (case hc => walk_at "side")) | with_reducible refine r_U ?_
  | with_reducible refine r_eqI ?_ | with_reducible refine r_neI ?_ | with_reducible refine r_eqS ?_ | with_reducible refine r_neS ?_ | with_reducible refine r_eqB ?_ | with_reducible refine r_neB ?_
  | with_reducible refine r_chain ?_ | with_reducible refine r_test ?_ | with_reducible refine r_tB ?_ | with_reducible refine r_kTest ?_ | with_reducible refine r_not ?_
  | with_reducible refine r_and ?_ | with_reducible refine r_or ?_ | with_reducible refine r_tif ?_ | with_reducible refine r_andV ?_ | with_reducible refine r_orV ?_ | with_reducible refine r_notV ?_
  | with_reducible refine r_kAndV ?_ | with_reducible refine r_kOrV ?_ | with_reducible refine r_kNotV ?_
  | with_reducible refine w_T ?_ | with_reducible refine w_F ?_ | with_reducible refine w_NT ?_ | with_reducible refine w_NF ?_
  | with_reducible refine r_tup ?_ | with_reducible refine r_lst ?_ | with_reducible refine r_fld ?_ | with_reducible refine r_prop ?_ | ((with_reducible refine' r_aug ?h1 ?_); (case h1 => exact rfl)) | with_reducible refine r_ipI ?_ | with_reducible refine r_dget ?_ | with_reducible refine r_dput ?_ | with_reducible refine r_bm ?_
  | ((with_reducible refine' r_kDGetS ?h1 ?h2 ?_); (case h1 => assumption); (case h2 => walk_at "val"))
  | ((with_reducible refine' r_kBML ?h1 ?_); (case h1 => assumption))
  | with_reducible refine r_forL ?_ | with_reducible refine r_forR1 ?_ | with_reducible refine r_forR2 ?_ | with_reducible refine r_forT ?_ | with_reducible refine r_lcL ?_ | with_reducible refine r_lcR1 ?_
  | ((with_reducible refine r_kLcG ?hw ?_); (case hw => exact rfl)) | with_reducible refine r_kLcT ?_ | with_reducible refine r_yes ?_
  | with_reducible refine r_pnil ?_ | with_reducible refine r_pcons ?_
  | with_reducible refine r_fnK ?_ | ((with_reducible refine r_kFnK ?hl ?_); (case hl => exact rfl))
  | with_reducible refine r_isi_ii ?_ | with_reducible refine r_isi_ib ?_ | with_reducible refine r_isi_bi ?_ | with_reducible refine r_isi_bb ?_ | with_reducible refine r_isi_ss ?_ | with_reducible refine r_isi_is ?_ | with_reducible refine r_isi_it ?_
  | ((with_reducible refine' r_isi_tt ?h1 ?_); (case h1 => assumption))
  | with_reducible refine r_sfld ?_ | with_reducible refine r_gnil ?_ | with_reducible refine r_gcons ?_
  | ((with_reducible refine' r_gtup ?h1 ?h2 ?_); (case h1 => exact SqT.of (by assumption)); (case h2 => exact rfl))
  | with_reducible refine r_sl ?_ | with_reducible refine r_noPart ?_ | with_reducible refine r_part ?_ | with_reducible refine r_kPart ?_ | with_reducible refine r_m1 ?_ | with_reducible refine r_kM1 ?_ | with_reducible refine r_forS ?_ | with_reducible refine r_lcS ?_ | with_reducible refine r_lcTu ?_ | with_reducible refine r_lcK ?_ | with_reducible refine r_dcL ?_ | with_reducible refine r_dcK ?_ | with_reducible refine r_lc2L ?_ | with_reducible refine r_kLc2TL ?_ | with_reducible refine r_dcEn ?_ | with_reducible refine r_gslc ?_ | with_reducible refine r_lcEn ?_ | with_reducible refine r_forET ?_ | with_reducible refine r_lenD ?_
  | ((with_reducible refine r_kDcG ?hw ?_); (case hw => exact rfl)) | with_reducible refine r_kDcT ?_
  | with_reducible refine r_fldaug ?_ | with_reducible refine r_daug ?_ | with_reducible refine r_rAdd ?_ | with_reducible refine r_rSub ?_ | with_reducible refine r_ddel ?_ | with_reducible refine r_bmF ?_ | with_reducible refine r_dget2 ?_ | with_reducible refine r_listItems ?_ | with_reducible refine r_bm0 ?_ | with_reducible refine r_lc2E ?_ | ((with_reducible refine r_kLc2G ?hw ?_); (case hw => exact rfl)) | with_reducible refine r_kLc2T ?_ | with_reducible refine r_forE ?_ | with_reducible refine r_orT ?_ | with_reducible refine r_din ?_ | with_reducible refine r_augS ?_ | with_reducible refine r_dnotin ?_ | with_reducible refine r_lcIT ?_ | with_reducible refine r_cont ?_ | with_reducible refine r_meth ?_ | with_reducible refine r_frz ?_ | with_reducible refine r_par3 ?_ | with_reducible refine r_kPar3 ?_ | with_reducible refine r_dz ?_ | with_reducible refine r_revL ?_ | with_reducible refine r_star ?_ | with_reducible refine r_int1 ?_ | with_reducible refine r_int1b ?_ | with_reducible refine r_min2 ?_ | with_reducible refine r_max2 ?_ | with_reducible refine r_gsub ?_)
local macro_rules | `(tactic| walk_at "rd") => `(tactic| repeat walk_at "rd1")
local macro_rules | `(tactic| walk_at "side") => `(tactic| first | assumption | exact Or.inr ⟨by decide, by decide⟩ | exact Or.inl ⟨by decide, by decide⟩ | (constructor <;> omega) | omega | decide | (refine Or.inl ⟨?_, ?_⟩ <;> omega) | (refine Or.inr ⟨?_, ?_⟩ <;> omega) | (refine ⟨?_, ?_, ?_⟩ <;> first | decide | omega))
def sp_is_number (K : PySem.W.Frag) : Sp := fun vs H Q _ => ∃ (x : V) (o : Option Int), vs = [x] ∧ NumV K H x o ∧ Q (.bl o.isSome) H
def sp_is_number_in (K : PySem.W.Frag) : Sp := fun vs H Q _ => ∃ (x : V) (o : Option Int) (lo hi : Int), vs = [x, .int lo, .int hi] ∧ NumV K H x o ∧ Q (.bl (inB o lo hi)) H
theorem u_in {K : PySem.W.Frag} {H : Hp} {Q : VK} {E : XK} {i lo hi : Int} (h : lo ≤ i ∧ i ≤ hi) (q : Q (.bl true) H) : sp_is_number_in K [.int i, .int lo, .int hi] H Q E := ⟨_, _, _, _, rfl, .int i, by rw [inB_yes h]; exact q⟩
section
variable {P : Program} {w : World} {K : PySem.W.Frag} {mg : Str → Option Value} {base : Heap}
theorem ok_is_number {f : Addr} {fd : FuncData} (T : Tx K mg) (F : FnP K "is_number" s_is_number f fd) : FnOk P w K mg base CX0 1 f fd ["value"] (sp_is_number K) := by
  have sc : FnScope ["value"] ["value"] (defScope s_is_number) := ⟨rfl, rfl, rfl, by decide +kernel, rfl, by decide +kernel, by decide +kernel⟩
  refine F.ok sc (by rintro vs H Q E ⟨_, _, rfl, _⟩; rfl) (fun cdv A outer s H vs Q E hr h => ⟨_, PSs.nox ((pss_one (ps_ret (pe_and (pe_callB (c_isiK (K := K) rfl) (by rfl) T.b_isinstance (by decide +kernel) (pa_cons (pv 0) (pa_cons (pe_bltn (v := .ty "int") (by rfl) T.b_int (by decide +kernel) rfl) pa_nil))) (pe_one (pe_not (pe_callB (c_isiK (K := K) rfl) (by rfl) T.b_isinstance (by decide +kernel) (pa_cons (pv 0) (pa_cons (pe_bltn (v := .ty "bool") (by rfl) T.b_bool (by decide +kernel) rfl) pa_nil))))))))), ?_⟩)
  obtain ⟨x, o, rfl, hx, q⟩ := h
  walk_at "rd"
  cases hx with
  | int i =>
    walk_at "rd"
    exact q
  | @no _ t b1 b2 ht h1 h2 h3 =>
    refine r_isi (.ty "int") ht h1 ?_
    walk_at "rd"
    cases b1 with
    | false =>
      walk_at "rd"
      exact q
    | true =>
      walk_at "rd"
      refine r_isi (.ty "bool") ht h2 ?_
      walk_at "rd"
      have e : (!b2) = false := h3
      rw [e]
      exact q
theorem ok_is_number_in {f : Addr} {fd : FuncData} (T : Tx K mg) (F : FnP K "is_number_in" s_is_number_in f fd) (d_is_number : Dn P w K mg base CX0 1 "is_number" ["value"] (sp_is_number K)) :
    FnOk P w K mg base CX0 2 f fd ["value", "least", "most"] (sp_is_number_in K) := by
  have sc : FnScope ["value", "least", "most"] ["value", "least", "most"] (defScope s_is_number_in) := ⟨rfl, rfl, rfl, by decide +kernel, rfl, by decide +kernel, by decide +kernel⟩
  refine F.ok sc (by rintro vs H Q E ⟨_, _, _, _, rfl, _⟩; rfl) (fun cdv A outer s H vs Q E hr h => ⟨_, PSs.nox ((pss_one (ps_ret (pe_and (pe_fn d_is_number (hr.mono (by decide)) pass0 (pa_cons (pv 0) pa_nil)) (pe_one (pe_chain op_le op_le (pv 1) (pv 0) (pv 2))))))), ?_⟩)
  obtain ⟨x, o, lo, hi, rfl, hx, q⟩ := h
  walk_at "rd"
  refine ⟨x, o, rfl, hx, ?_⟩
  walk_at "rd"
  cases hx with
  | int i =>
    refine w_yes rfl ?_
    walk_at "rd"
    refine r_kChain (fun h1 => ?_) (fun h1 => ?_)
    · walk_at "rd"
      have e : inB (some i) lo hi = decide (i ≤ hi) := by
        show (decide (lo ≤ i) && decide (i ≤ hi)) = _
        rw [h1]
        rfl
      rw [← e]
      exact q
    · have e : inB (some i) lo hi = false := by
        show (decide (lo ≤ i) && decide (i ≤ hi)) = _
        rw [h1]
        rfl
      rw [← e]
      exact q
  | no ht h1 h2 h3 =>
    walk_at "rd"
    exact q
end
end Wp
set_option Elab.async false
set_option linter.all false
set_option maxRecDepth 100000
set_option maxHeartbeats 4000000
namespace Wp
open PySem PySem.Spec PyProof.Rows L2
abbrev s_is_list : Stmt := topS 22
abbrev s_is_name : Stmt := topS 23
abbrev s_are_lengths : Stmt := topS 24
abbrev s_is_kind : Stmt := topS 25
abbrev s_are_kinds : Stmt := topS 26
local macro_rules | `(tactic| walk_at "val") => `(tactic| assumption)
local macro_rules | `(tactic| walk_at "rd1") => `(tactic| first
  | with_reducible refine r_seq ?_ | with_reducible refine r_next ?_ | with_reducible refine r_if ?_ | with_reducible refine r_asg ?_ | with_reducible refine r_gname ?_
  | with_reducible refine r_ret ?_ | with_reducible refine r_retN ?_ | with_reducible refine r_drop ?_ | with_reducible refine r_par ?_ | with_reducible refine r_kPar ?_
  | ((with_reducible refine' r_var ?hv ?_); (case hv => exact rfl)) | with_reducible refine r_c ?_ | with_reducible refine r_nil ?_ | with_reducible refine r_cons ?_
  | with_reducible refine r_fn ?_ | with_reducible refine r_cb ?_ | with_reducible refine r_op ?_ | with_reducible refine r_un ?_ | with_reducible refine r_I0 ?_
  | with_reducible refine r_pow5 ?_ | with_reducible refine r_pow6 ?_ | with_reducible refine r_pow7 ?_ | with_reducible refine r_pow9 ?_ | with_reducible refine r_pow18 ?_ | with_reducible refine r_pow20 ?_ | with_reducible refine r_pow30 ?_
  | with_reducible refine r_isN_non ?_ | with_reducible refine r_isN_ref ?_ | with_reducible refine r_isN_int ?_ | with_reducible refine r_isN_str ?_ | with_reducible refine r_isN_bl ?_ | with_reducible refine r_notN_non ?_ | with_reducible refine r_notN_ref ?_ | with_reducible refine r_notN_int ?_ | with_reducible refine r_notN_str ?_ | with_reducible refine r_notN_bl ?_
  | ((with_reducible refine r_I ?hc ?_); (case hc => walk_at "side")) | with_reducible refine r_U ?_
  | with_reducible refine r_eqI ?_ | with_reducible refine r_neI ?_ | with_reducible refine r_eqS ?_ | with_reducible refine r_neS ?_ | with_reducible refine r_eqB ?_ | with_reducible refine r_neB ?_
  | with_reducible refine r_chain ?_ | with_reducible refine r_test ?_ | with_reducible refine r_tB ?_ | with_reducible refine r_kTest ?_ | with_reducible refine r_not ?_
  | with_reducible refine r_and ?_ | with_reducible refine r_or ?_ | with_reducible refine r_tif ?_ | with_reducible refine r_andV ?_ | with_reducible refine r_orV ?_ | with_reducible refine r_notV ?_
  | with_reducible refine r_kAndV ?_ | with_reducible refine r_kOrV ?_ | with_reducible refine r_kNotV ?_
  | with_reducible refine w_T ?_ | with_reducible refine w_F ?_ | with_reducible refine w_NT ?_ | with_reducible refine w_NF ?_
  | with_reducible refine r_tup ?_ | with_reducible refine r_lst ?_ | with_reducible refine r_fld ?_ | with_reducible refine r_prop ?_ | ((with_reducible refine' r_aug ?h1 ?_); (case h1 => exact rfl)) | with_reducible refine r_ipI ?_ | with_reducible refine r_dget ?_ | with_reducible refine r_dput ?_ | with_reducible refine r_bm ?_
  | ((with_reducible refine' r_kDGetS ?h1 ?h2 ?_); (case h1 => assumption); (case h2 => walk_at "val"))
  | ((with_reducible refine' r_kBML ?h1 ?_); (case h1 => assumption))
  | with_reducible refine r_forL ?_ | with_reducible refine r_forR1 ?_ | with_reducible refine r_forR2 ?_ | with_reducible refine r_forT ?_ | with_reducible refine r_lcL ?_ | with_reducible refine r_lcR1 ?_
  | ((with_reducible refine r_kLcG ?hw ?_); (case hw => exact rfl)) | with_reducible refine r_kLcT ?_ | with_reducible refine r_yes ?_
  | with_reducible refine r_pnil ?_ | with_reducible refine r_pcons ?_
  | with_reducible refine r_fnK ?_ | ((with_reducible refine r_kFnK ?hl ?_); (case hl => exact rfl))
  | with_reducible refine r_isi_ii ?_ | with_reducible refine r_isi_ib ?_ | with_reducible refine r_isi_bi ?_ | with_reducible refine r_isi_bb ?_ | with_reducible refine r_isi_ss ?_ | with_reducible refine r_isi_is ?_ | with_reducible refine r_isi_it ?_
  | ((with_reducible refine' r_isi_tt ?h1 ?_); (case h1 => assumption))
  | with_reducible refine r_sfld ?_ | with_reducible refine r_gnil ?_ | with_reducible refine r_gcons ?_
  | ((with_reducible refine' r_gtup ?h1 ?h2 ?_); (case h1 => exact SqT.of (by assumption)); (case h2 => exact rfl))
  | with_reducible refine r_sl ?_ | with_reducible refine r_noPart ?_ | with_reducible refine r_part ?_ | with_reducible refine r_kPart ?_ | with_reducible refine r_m1 ?_ | with_reducible refine r_kM1 ?_ | with_reducible refine r_forS ?_ | with_reducible refine r_lcS ?_ | with_reducible refine r_lcTu ?_ | with_reducible refine r_lcK ?_ | with_reducible refine r_dcL ?_ | with_reducible refine r_dcK ?_ | with_reducible refine r_lc2L ?_ | with_reducible refine r_kLc2TL ?_ | with_reducible refine r_dcEn ?_ | with_reducible refine r_gslc ?_ | with_reducible refine r_lcEn ?_ | with_reducible refine r_forET ?_ | with_reducible refine r_lenD ?_
  | ((with_reducible refine r_kDcG ?hw ?_); (case hw => exact rfl)) | with_reducible refine r_kDcT ?_
  | with_reducible refine r_fldaug ?_ | with_reducible refine r_daug ?_ | with_reducible refine r_rAdd ?_ | with_reducible refine r_rSub ?_ | with_reducible refine r_ddel ?_ | with_reducible refine r_bmF ?_ | with_reducible refine r_dget2 ?_ | with_reducible refine r_listItems ?_ | with_reducible refine r_bm0 ?_ | with_reducible refine r_lc2E ?_ | ((with_reducible refine r_kLc2G ?hw ?_); (case hw => exact rfl)) | with_reducible refine r_kLc2T ?_ | with_reducible refine r_forE ?_ | with_reducible refine r_orT ?_ | with_reducible refine r_din ?_ | with_reducible refine r_augS ?_ | with_reducible refine r_dnotin ?_ | with_reducible refine r_lcIT ?_ | with_reducible refine r_cont ?_ | with_reducible refine r_meth ?_ | with_reducible refine r_frz ?_ | with_reducible refine r_par3 ?_ | with_reducible refine r_kPar3 ?_ | with_reducible refine r_dz ?_ | with_reducible refine r_revL ?_ | with_reducible refine r_star ?_ | with_reducible refine r_int1 ?_ | with_reducible refine r_int1b ?_ | with_reducible refine r_min2 ?_ | with_reducible refine r_max2 ?_ | with_reducible refine r_gsub ?_)
local macro_rules | `(tactic| walk_at "rd") => `(tactic| repeat walk_at "rd1")
local macro_rules | `(tactic| walk_at "side") => `(tactic| first | assumption | exact Or.inr ⟨by decide, by decide⟩ | exact Or.inl ⟨by decide, by decide⟩ | (constructor <;> omega) | omega | decide | (refine Or.inl ⟨?_, ?_⟩ <;> omega) | (refine Or.inr ⟨?_, ?_⟩ <;> omega) | (refine ⟨?_, ?_, ?_⟩ <;> first | decide | omega))
def sp_is_list (K : PySem.W.Frag) : Sp := fun vs H Q _ => ∃ (p : Addr) (xs : List V), vs = [.ref p] ∧ SeqV K H p xs ∧ ∀ H', Same H H' → Q (.bl true) H'
def sp_is_name : Sp := fun vs H Q _ => ∃ (z : Str), vs = [.str z] ∧ NameOk z ∧ ∀ H', Same H H' → Q (.bl true) H'
def sp_are_lengths (K : PySem.W.Frag) : Sp := fun vs H Q _ => ∃ (p : Addr) (ns : List Int), vs = [.ref p] ∧ SeqV K H p (ns.map V.int) ∧ 1 ≤ ns.length ∧ ns.length ≤ 4 ∧ (∀ n ∈ ns, 2 ≤ n ∧ n ≤ 31) ∧ ∀ H', Same H H' → Q (.bl true) H'
def sp_is_kind : Sp := fun vs H Q _ => ∃ (t : Addr) (r : Int) (b : Bool), vs = [.ref t] ∧ H t = some (.tup [.int r, .bl b]) ∧ 0 ≤ r ∧ r ≤ 1000 ∧ Q (.bl true) H
def sp_are_kinds : Sp := fun vs H Q _ => ∃ (a : Addr) (kvs : List (Key × V)) (ks : List (Str × Int × Bool)), vs = [.ref a] ∧ H a = some (.dK kvs) ∧ KAt H kvs ks ∧ KindsOk ks ∧ ∀ H', Same H H' → Q (.bl true) H'
section
variable {P : Program} {w : World} {K : PySem.W.Frag} {mg : Str → Option Value} {base : Heap}
theorem ok_is_list {f : Addr} {fd : FuncData} (T : Tx K mg) (F : FnP K "is_list" s_is_list f fd) : FnOk P w K mg base CX0 1 f fd ["value"] (sp_is_list K) := by
  have sc : FnScope ["value"] ["value"] (defScope s_is_list) := ⟨rfl, rfl, rfl, by decide +kernel, rfl, by decide +kernel, by decide +kernel⟩
  refine F.ok sc (by rintro vs H Q E ⟨_, _, rfl, _⟩; rfl) (fun cdv A outer s H vs Q E hr h => ⟨_, PSs.nox ((pss_one (ps_ret (pe_callB (c_isiTK (K := K) rfl) (by rfl) T.b_isinstance (by decide +kernel) (pa_cons (pv 0) (pa_cons (pe_tup (pa_cons (pe_bltn (v := .ty "list") (by rfl) T.b_list (by decide +kernel) rfl) (pa_cons (pe_bltn (v := .ty "tuple") (by rfl) T.b_tuple (by decide +kernel) rfl) pa_nil))) pa_nil)))))), ?_⟩)
  obtain ⟨p, xs, rfl, h, k⟩ := h
  walk_at "rd"
  refine r_kTup fun tp H1 np e1 hp => ?_
  walk_at "rd"
  exact r_isSeq (h.same e1) hp (k H1 e1)
theorem ok_is_name {f : Addr} {fd : FuncData} (T : Tx K mg) (F : FnP K "is_name" s_is_name f fd) : FnOk P w K mg base CX0 1 f fd ["value"] sp_is_name := by
  have sc : FnScope ["value", "sign"] ["value"] (defScope s_is_name) := ⟨rfl, rfl, rfl, by decide +kernel, rfl, by decide +kernel, by decide +kernel⟩
  refine F.ok sc (by rintro vs H Q E ⟨_, rfl, _⟩; rfl) (fun cdv A outer s H vs Q E hr h => ⟨_, PSs.nox ((pss_one (ps_ret (pe_and (pe_callB (c_isiK (K := K) rfl) (by rfl) T.b_isinstance (by decide +kernel) (pa_cons (pv 0) (pa_cons (pe_bltn (v := .ty "str") (by rfl) T.b_str (by decide +kernel) rfl) pa_nil))) (pe_and (pe_chain op_le op_le pe_int (pe_callB (c_lenK (K := K) rfl) (by rfl) T.b_len (by decide +kernel) (pa_cons (pv 0) pa_nil)) (pe_glob (v := .int 8) (by rfl) T.c_MOST_NAME.choose_spec ⟨_, rfl⟩)) (pe_one (pe_callB (c_allK (K := K) rfl rfl) (by rfl) T.b_all (by decide +kernel) (pa_cons (pe_lc (own := [("sign", 1)]) (by rfl) sc.nd (pi_str (pv 0)) (blkOk_by (own := [("sign", 1)]) (N := ["value", "sign"]) (sc := defScope s_is_name) (by decide +kernel)) (fun _ _ _ _ _ => (pg_name (i := 1) sc.nd rfl (by first | exact Or.inl rfl | exact Or.inr rfl))) (fun _ _ _ _ _ => pts_nil) (fun _ _ _ _ _ => (pe_cmpR op_in_sign (pv 1) (pe_glob (v := .str "abcdefghijklmnopqrstuvwxyz") (by rfl) T.c_LETTERS.choose_spec ⟨_, rfl⟩) (by rfl)))) pa_nil)))))))), ?_⟩)
  obtain ⟨z, rfl, ok, k⟩ := h
  have h1 := ok.lo
  have h2 := ok.hi
  walk_at "rd"
  refine r_lenS (by omega) ?_
  walk_at "rd"
  refine r_kChain (fun _ => ?_) (fun hf => absurd (of_decide_eq_false hf) (by omega))
  walk_at "rd"
  refine w_yes (decide_eq_true (by omega)) ?_
  walk_at "rd"
  refine r_kLcS (fun Da i H' => Same H H' ∧ H' Da = some (.lst ((List.replicate i true).map V.bl))) (fun Da H' _ e h => ⟨e, h⟩) ?_ ?_
  · rintro Da i c H' hD hc ⟨e, h⟩
    walk_at "rd"
    refine r_inSign ?_
    have hcl : i < z.cps.size := (Array.getElem?_eq_some_iff.mp hc).1
    have hzl : z.length = z.cps.size := rfl
    have hm : c ∈ abc.cps.toList := abc_mem.mpr (ok.low c (by
      have : z.cps.toList[i]? = some c := by rw [Array.getElem?_toList]; exact hc
      exact List.mem_of_getElem? this))
    rw [decide_eq_true (show c ∈ (Str.ofString "abcdefghijklmnopqrstuvwxyz").cps.toList from hm)]
    refine r_kLcE h (by rw [List.length_map, List.length_replicate]; omega) fun H1 b1 h1 => ⟨Same.mut e b1 hD, ?_⟩
    rw [rep_more]
    exact h1
  · rintro Da H' hD ⟨e, h⟩
    walk_at "rd"
    refine r_all (SqL.of h) ?_
    rw [all_rep]
    exact k H' e
theorem ok_are_lengths {f : Addr} {fd : FuncData} (T : Tx K mg) (F : FnP K "are_lengths" s_are_lengths f fd) (d_is_list : Dn P w K mg base CX0 1 "is_list" ["value"] (sp_is_list K)) (d_is_number_in : Dn P w K mg base CX0 2 "is_number_in" ["value", "least", "most"] (sp_is_number_in K)) :
    FnOk P w K mg base CX0 3 f fd ["value"] (sp_are_lengths K) := by
  have sc : FnScope ["value", "length"] ["value"] (defScope s_are_lengths) := ⟨rfl, rfl, rfl, by decide +kernel, rfl, by decide +kernel, by decide +kernel⟩
  refine F.ok sc (by rintro vs H Q E ⟨_, _, rfl, _⟩; rfl) (fun cdv A outer s H vs Q E hr h => ⟨_, PSs.nox ((pss_cons (ps_if (PW.pt (pw_or (pt_not (pt_val (pe_fn d_is_list (hr.mono (by decide)) pass0 (pa_cons (pv 0) pa_nil)))) (pw_or1 (pt_not (pt_chain op_le op_le pe_int (pe_callB (c_lenK (K := K) rfl) (by rfl) T.b_len (by decide +kernel) (pa_cons (pv 0) pa_nil)) (pe_glob (v := .int 4) (by rfl) T.c_MOST_LENGTHS.choose_spec ⟨_, rfl⟩)))))) (pss_one (ps_ret pe_bl)) pss_nil)
      (pss_one (ps_ret (pe_callB (c_allK (K := K) rfl rfl) (by rfl) T.b_all (by decide +kernel) (pa_cons (pe_lc (own := [("length", 1)]) (by rfl) sc.nd (pi_either (pi_listK (K := K) rfl (pv 0)) (pi_tupK (K := K) rfl (pv 0))) (blkOk_by (own := [("length", 1)]) (N := ["value", "length"]) (sc := defScope s_are_lengths) (by decide +kernel)) (fun _ _ _ _ _ => (pg_name (i := 1) sc.nd rfl (by first | exact Or.inl rfl | exact Or.inr rfl))) (fun _ _ _ _ _ => pts_nil) (fun _ _ _ _ _ => (pe_fn d_is_number_in (hr.mono (by decide)) pass0 (pa_cons (pv 1) (pa_cons (pe_glob (v := .int 2) (by rfl) T.c_SHORTEST.choose_spec ⟨_, rfl⟩) (pa_cons (pe_glob (v := .int 31) (by rfl) T.c_LONGEST.choose_spec ⟨_, rfl⟩) pa_nil)))))) pa_nil)))))), ?_⟩)
  obtain ⟨p, ns, rfl, hS, h1, h2, hn, k⟩ := h
  walk_at "rd"
  refine ⟨p, _, rfl, hS, fun H1 e1 => ?_⟩
  walk_at "rd"
  refine r_lenSeq (hS.same e1) ?_
  rw [List.length_map]
  walk_at "rd"
  refine r_kChain (fun _ => ?_) (fun hf => absurd (of_decide_eq_false hf) (by omega))
  walk_at "rd"
  refine w_no (by rw [decide_eq_true (by omega)]; rfl) ?_
  walk_at "rd"
  refine r_lcEither (xs := ns.map V.int) (hS.same e1) rfl (fun Da i H' => Same H1 H' ∧ H' Da = some (.lst ((List.replicate i true).map V.bl))) (fun Da H' _ e h => ⟨e, h⟩) (fun Da i H' h => ⟨(hS.same e1).same h.1, h.1⟩) ?_ ?_ (fun H' e h => SqL.same e h) (fun H' e h => SqT.same e h)
  · rintro Da i x H' hD hx ⟨e, h⟩
    obtain ⟨n, rfl, hi⟩ := ints_get hx
    have hm := hn n (List.mem_of_getElem? hi)
    have hil := (List.getElem?_eq_some_iff.mp hi).1
    walk_at "rd"
    refine u_in hm ?_
    refine r_kLcE h (by rw [List.length_map, List.length_replicate]; omega) fun H2 b2 h2 => ⟨Same.mut e b2 hD, ?_⟩
    rw [rep_more]
    exact h2
  · rintro Da H' hD ⟨e, h⟩
    walk_at "rd"
    refine r_all (SqL.of h) ?_
    rw [all_rep]
    exact k H' (e1.trans e)
theorem ok_is_kind {f : Addr} {fd : FuncData} (T : Tx K mg) (F : FnP K "is_kind" s_is_kind f fd) (d_is_number_in : Dn P w K mg base CX0 2 "is_number_in" ["value", "least", "most"] (sp_is_number_in K)) :
    FnOk P w K mg base CX0 3 f fd ["value"] sp_is_kind := by
  have sc : FnScope ["value"] ["value"] (defScope s_is_kind) := ⟨rfl, rfl, rfl, by decide +kernel, rfl, by decide +kernel, by decide +kernel⟩
  refine F.ok sc (by rintro vs H Q E ⟨_, _, _, rfl, _⟩; rfl) (fun cdv A outer s H vs Q E hr h => ⟨_, PSs.nox ((pss_cons (ps_if (PW.pt (pw_or (pt_not (pt_val (pe_callB (c_isiK (K := K) rfl) (by rfl) T.b_isinstance (by decide +kernel) (pa_cons (pv 0) (pa_cons (pe_bltn (v := .ty "tuple") (by rfl) T.b_tuple (by decide +kernel) rfl) pa_nil))))) (pw_or1 (pt_cmpR op_ne (pe_callB (c_lenK (K := K) rfl) (by rfl) T.b_len (by decide +kernel) (pa_cons (pv 0) pa_nil)) pe_int (nomark _))))) (pss_one (ps_ret pe_bl)) pss_nil)
      (pss_one (ps_ret (pe_and (pe_fn d_is_number_in (hr.mono (by decide)) pass0 (pa_cons (pe_ix (ix_tupK (K := K) rfl) (pv 0) pe_int (fun _ _ => rfl)) (pa_cons pe_int (pa_cons (pe_glob (v := .int 1000) (by rfl) T.c_MOST_RATE.choose_spec ⟨_, rfl⟩) pa_nil)))) (pe_one (pe_callB (c_isiK (K := K) rfl) (by rfl) T.b_isinstance (by decide +kernel) (pa_cons (pe_ix (ix_tupK (K := K) rfl) (pv 0) pe_int (fun _ _ => rfl)) (pa_cons (pe_bltn (v := .ty "bool") (by rfl) T.b_bool (by decide +kernel) rfl) pa_nil))))))))), ?_⟩)
  obtain ⟨t, r, b, rfl, ht, h0, h1, q⟩ := h
  walk_at "rd"
  refine r_lenT (SqT.of ht) ?_
  walk_at "rd"
  refine w_ndec (fun hne => absurd rfl hne) (fun _ => ?_)
  walk_at "rd"
  refine r_ixT (SqT.of ht) (at_get (n := 0) rfl rfl) ?_
  walk_at "rd"
  refine u_in ⟨h0, h1⟩ ?_
  walk_at "rd"
  refine r_ixT (SqT.of ht) (at_get (n := 1) rfl rfl) ?_
  walk_at "rd"
  exact q
theorem ok_are_kinds {f : Addr} {fd : FuncData} (T : Tx K mg) (F : FnP K "are_kinds" s_are_kinds f fd) (d_is_name : Dn P w K mg base CX0 1 "is_name" ["value"] sp_is_name) (d_is_kind : Dn P w K mg base CX0 3 "is_kind" ["value"] sp_is_kind) :
    FnOk P w K mg base CX0 4 f fd ["value"] sp_are_kinds := by
  have sc : FnScope ["value", "name"] ["value"] (defScope s_are_kinds) := ⟨rfl, rfl, rfl, by decide +kernel, rfl, by decide +kernel, by decide +kernel⟩
  refine F.ok sc (by rintro vs H Q E ⟨_, _, _, rfl, _⟩; rfl) (fun cdv A outer s H vs Q E hr h => ⟨_, PSs.nox ((pss_cons (ps_if (PW.pt (pw_or (pt_not (pt_val (pe_callB (c_isiK (K := K) rfl) (by rfl) T.b_isinstance (by decide +kernel) (pa_cons (pv 0) (pa_cons (pe_bltn (v := .ty "dict") (by rfl) T.b_dict (by decide +kernel) rfl) pa_nil))))) (pw_or1 (pt_not (pt_chain op_le op_le pe_int (pe_callB c_lenD (by rfl) T.b_len (by decide +kernel) (pa_cons (pv 0) pa_nil)) (pe_glob (v := .int 6) (by rfl) T.c_MOST_KINDS.choose_spec ⟨_, rfl⟩)))))) (pss_one (ps_ret pe_bl)) pss_nil)
      (pss_one (ps_ret (pe_callB (c_allK (K := K) rfl rfl) (by rfl) T.b_all (by decide +kernel) (pa_cons (pe_lock (pe_lc (own := [("name", 1)]) (by rfl) sc.nd (pi_keys (pv 0)) (blkOk_by (own := [("name", 1)]) (N := ["value", "name"]) (sc := defScope s_are_kinds) (by decide +kernel)) (fun _ _ _ _ _ => (pg_name (i := 1) sc.nd rfl (by first | exact Or.inl rfl | exact Or.inr rfl))) (fun _ _ _ _ _ => pts_nil) (fun _ _ _ _ _ => (pe_and (pe_fn d_is_name (hr.mono (by decide)) pass0 (pa_cons (pv 1) pa_nil)) (pe_one (pe_fn d_is_kind (hr.mono (by decide)) pass0 (pa_cons (pe_dget (hu_of hr) (pv 0) (pv 1) (fun _ _ => rfl)) pa_nil))))))) pa_nil)))))), ?_⟩)
  obtain ⟨a, kvs, ks, rfl, ha, hK, ok, k⟩ := h
  have hl := hK.len
  have h1 := ok.lo
  have h2 := ok.hi
  walk_at "rd"
  refine r_isiDict ha ?_
  walk_at "rd"
  refine r_lenD ha ?_
  walk_at "rd"
  refine r_kChain (fun _ => ?_) (fun hf => absurd (of_decide_eq_false hf) (by omega))
  walk_at "rd"
  refine w_no (by rw [decide_eq_true (by omega)]; rfl) ?_
  walk_at "rd"
  refine r_lockD ha fun od H1 hd1 ho1 hn1 => ?_
  walk_at "rd"
  refine r_kLcK hd1 (fun Da i H' => Same H1 H' ∧ H' Da = some (.lst ((List.replicate i true).map V.bl))) (fun Da H' _ e h => ⟨e, h⟩) (fun Da i H' h => h.1 _ _ hd1) ?_ ?_
  · rintro Da i key v H' hD hi ⟨e, h⟩
    obtain ⟨n, r, b, t, rfl, rfl, ht, hks⟩ := hK.get hi
    have hmem := List.mem_of_getElem? hks
    have hil := (List.getElem?_eq_some_iff.mp hks).1
    have nok : NameOk n := ok.nm.ok n (List.mem_map.mpr ⟨_, hmem, rfl⟩)
    obtain ⟨t', hv, ht'⟩ := hK.val ok.nm.nd hmem
    have hne : t' ≠ a := ne_of ht' ha (by intro z; cases z)
    walk_at "rd"
    refine ⟨n, rfl, nok, fun H2 e2 => ?_⟩
    walk_at "rd"
    refine r_kDGetF (e2 _ _ (e _ _ hd1)) hv ?_
    walk_at "rd"
    refine ⟨t', r, b, rfl, e2 _ _ (e _ _ (ho1 _ _ ht' hne)), (ok.rt _ hmem).1, (ok.rt _ hmem).2, ?_⟩
    refine r_kLcE (e2 _ _ h) (by rw [List.length_map, List.length_replicate]; omega) fun H3 b3 h3 => ⟨Same.mut (e.trans e2) b3 hD, ?_⟩
    rw [rep_more]
    exact h3
  · rintro Da H' hD ⟨e, h⟩
    walk_at "rd"
    have hDa : Da ≠ a := by
      rintro rfl
      rw [hd1] at hD
      cases hD
    refine r_kLock ha ho1 hd1 e fun H2 e2 k2 => ?_
    walk_at "rd"
    refine r_all (SqL.of (k2 _ _ h hDa)) ?_
    rw [all_rep]
    exact k H2 e2
end
end Wp
set_option Elab.async false
set_option linter.all false
set_option maxRecDepth 100000
set_option maxHeartbeats 4000000
/-! Books held against each other: why one is dearer; days of the first months. -/
namespace Wp
open PySem PySem.Spec PyProof.Rows L2
def whyF (B1 B2 : Bk) (r1 : Int) (f1 : Bool) (r2 : Int) (f2 : Bool) : Str :=
  if r1 = 0 then "" else if r1 > r2 then "rate" else if f2 = false then "" else
  if B2.beg = "statement" ∧ (f1 = false ∨ B1.beg = "day") then "begin" else if f1 = false then "free" else
  if B1.due < B2.due then "due" else if B1.mem > B2.mem ∧ (B1.beg = "day" ∨ B2.due > 0) then "memory" else ""
section
variable {B1 B2 : Bk} {r1 r2 : Int} {f1 f2 : Bool}
theorem sn1 : ¬ ("" : Str) = "rate" := by decide +kernel
theorem sn2 : ¬ ("" : Str) = "begin" := by decide +kernel
theorem sn3 : ¬ ("" : Str) = "free" := by decide +kernel
theorem sn4 : ¬ ("" : Str) = "due" := by decide +kernel
theorem sn5 : ¬ ("" : Str) = "memory" := by decide +kernel
theorem why_rate (h : whyF B1 B2 r1 f1 r2 f2 = "rate") : r1 > r2 := by
  unfold whyF at h
  by_cases h1 : r1 = 0
  · rw [if_pos h1] at h
    exact absurd h sn1
  · rw [if_neg h1] at h
    by_cases h2 : r1 > r2
    · exact h2
    · rw [if_neg h2] at h
      repeat (split at h; first | exact absurd h (by decide +kernel) | skip)
      all_goals exact absurd h (by decide +kernel)
theorem why_ne (h : ¬ whyF B1 B2 r1 f1 r2 f2 = "") : r1 ≠ 0 := by
  intro z
  unfold whyF at h
  rw [if_pos z] at h
  exact h rfl
theorem why_memory (h : whyF B1 B2 r1 f1 r2 f2 = "memory") : B1.beg = "day" ∨ B2.due > 0 := by
  unfold whyF at h
  by_cases h7 : B1.mem > B2.mem ∧ (B1.beg = "day" ∨ B2.due > 0)
  · exact h7.2
  · rw [if_neg h7] at h
    repeat (split at h; first | exact absurd h (by decide +kernel) | skip)
    all_goals exact absurd h (by decide +kernel)
theorem why_cases : whyF B1 B2 r1 f1 r2 f2 = "" ∨ whyF B1 B2 r1 f1 r2 f2 = "rate" ∨ whyF B1 B2 r1 f1 r2 f2 = "begin" ∨ whyF B1 B2 r1 f1 r2 f2 = "free" ∨ whyF B1 B2 r1 f1 r2 f2 = "due" ∨ whyF B1 B2 r1 f1 r2 f2 = "memory" := by
  unfold whyF
  repeat (split; first | exact .inl rfl | exact .inr (.inl rfl) | exact .inr (.inr (.inl rfl)) | exact .inr (.inr (.inr (.inl rfl))) | exact .inr (.inr (.inr (.inr (.inl rfl)))) | exact .inr (.inr (.inr (.inr (.inr rfl)))))
  exact .inl rfl
end
namespace Bk
/-- how long the months are -/
theorem first_gap {B : Bk} (ok : B.Ok) {m : Int} (h0 : 0 ≤ m) (h3 : m ≤ 3) : 2 ≤ B.first (m + 1) - B.first m ∧ B.first (m + 1) - B.first m ≤ 31 := by
  have l1 := ok.l1
  have l2 := ok.l2
  have l3 := ok.l3
  unfold first
  generalize B.ls = l at *
  have hm : m = 0 ∨ m = 1 ∨ m = 2 ∨ m = 3 := by omega
  match l, l1, l2, l3 with
  | [a], _, _, l3 =>
    have ha := l3 a (by simp)
    rcases hm with rfl | rfl | rfl | rfl <;> simp <;> omega
  | [a, b], _, _, l3 =>
    have ha := l3 a (by simp)
    have hb := l3 b (by simp)
    rcases hm with rfl | rfl | rfl | rfl <;> simp <;> omega
  | [a, b, c], _, _, l3 =>
    have ha := l3 a (by simp)
    have hb := l3 b (by simp)
    have hc := l3 c (by simp)
    rcases hm with rfl | rfl | rfl | rfl <;> simp <;> omega
  | [a, b, c, d], _, _, l3 =>
    have ha := l3 a (by simp)
    have hb := l3 b (by simp)
    have hc := l3 c (by simp)
    have hd := l3 d (by simp)
    rcases hm with rfl | rfl | rfl | rfl <;> simp <;> omega
theorem first0 {B : Bk} (ok : B.Ok) : B.first 0 = 0 := by
  unfold first
  simp
theorem first1 {B : Bk} (ok : B.Ok) : 2 ≤ B.first 1 ∧ B.first 1 ≤ 31 := by
  have h := first_gap ok (Int.le_refl 0) (by decide)
  rw [first0 ok] at h
  have e : (0 : Int) + 1 = 1 := rfl
  rw [e] at h
  omega
theorem due_le {B : Bk} (ok : B.Ok) : B.due ≤ 30 := by
  have l1 := ok.l1
  obtain ⟨a, ha⟩ : ∃ a, a ∈ B.ls := List.exists_mem_of_length_pos (by omega)
  have h1 := ok.d1 a ha
  have h2 := ok.l3 a ha
  omega
end Bk
theorem name_strOk {z : Str} (h : NameOk z) : PyData.strOk z = true := by
  have hl := h.low
  unfold PyData.strOk
  rw [Array.all_eq_true']
  intro c hc
  have := hl c (Array.mem_toList_iff.mpr hc)
  exact decide_eq_true (by omega)
theorem strOk_buy : PyData.strOk "buy" = true := by decide +kernel
theorem strOk_pay : PyData.strOk "pay" = true := by decide +kernel
section
variable {K : PySem.W.Frag} {H : Hp} {t : Addr} {n : Str} {a b : Int}
theorem good_buy (h : PyData.strOk n = true) (ht : H t = some (.tup [.str "buy", .int a, .str n, .int b])) : GoodD K H (.ref t) (.tuple [.str "buy", .int a, .str n, .int b]) :=
  GoodL.tup (.cons (.str strOk_buy) (.cons (.int _) (.cons (.str h) (.cons (.int _) .nil)))) (by simp [PyData.depthAll, PyData.depth]) ht
theorem good_pay (ht : H t = some (.tup [.str "pay", .int a, .int b])) : GoodD K H (.ref t) (.tuple [.str "pay", .int a, .int b]) :=
  GoodL.tup (.cons (.str strOk_pay) (.cons (.int _) (.cons (.int _) .nil))) (by simp [PyData.depthAll, PyData.depth]) ht
end
/-- what course_for hands back -/
def CrsV (K : PySem.W.Frag) (H : Hp) (s : Str) (v : V) : Prop := (s = "" ∧ v = .non) ∨ (¬ s = "" ∧ ∃ t d, v = .ref t ∧ GoodD K H (.ref t) d)
theorem CrsV.keep {K : PySem.W.Frag} {H H' : Hp} {s : Str} {v : V} (h : CrsV K H s v) (e : Same H H') : CrsV K H' s v := by
  rcases h with h | ⟨h1, t, d, h2, h3⟩
  · exact .inl h
  · exact .inr ⟨h1, t, d, h2, h3.keep e⟩
end Wp
set_option Elab.async false
set_option linter.all false
set_option maxRecDepth 100000
set_option maxHeartbeats 4000000
namespace Wp
open PySem PySem.Spec PyProof.Rows L2
abbrev s_is_order : Stmt := topS 27
abbrev s_Book___init__ : Stmt := inClass (topS 29) 0
abbrev s_need_book : Stmt := topS 30
local macro_rules | `(tactic| walk_at "val") => `(tactic| assumption)
local macro_rules | `(tactic| walk_at "rd1") => `(tactic| first
  | with_reducible refine r_seq ?_ | with_reducible refine r_next ?_ | with_reducible refine r_if ?_ | with_reducible refine r_asg ?_ | with_reducible refine r_gname ?_
  | with_reducible refine r_ret ?_ | with_reducible refine r_retN ?_ | with_reducible refine r_drop ?_ | with_reducible refine r_par ?_ | with_reducible refine r_kPar ?_
  | ((with_reducible refine' r_var ?hv ?_); (case hv => exact rfl)) | with_reducible refine r_c ?_ | with_reducible refine r_nil ?_ | with_reducible refine r_cons ?_
  | with_reducible refine r_fn ?_ | with_reducible refine r_cb ?_ | with_reducible refine r_op ?_ | with_reducible refine r_un ?_ | with_reducible refine r_I0 ?_
  | with_reducible refine r_pow5 ?_ | with_reducible refine r_pow6 ?_ | with_reducible refine r_pow7 ?_ | with_reducible refine r_pow9 ?_ | with_reducible refine r_pow18 ?_ | with_reducible refine r_pow20 ?_ | with_reducible refine r_pow30 ?_
  | with_reducible refine r_isN_non ?_ | with_reducible refine r_isN_ref ?_ | with_reducible refine r_isN_int ?_ | with_reducible refine r_isN_str ?_ | with_reducible refine r_isN_bl ?_ | with_reducible refine r_notN_non ?_ | with_reducible refine r_notN_ref ?_ | with_reducible refine r_notN_int ?_ | with_reducible refine r_notN_str ?_ | with_reducible refine r_notN_bl ?_
  | ((with_reducible refine r_I ?hc ?_); (case hc => walk_at "side")) | with_reducible refine r_U ?_
  | with_reducible refine r_eqI ?_ | with_reducible refine r_neI ?_ | with_reducible refine r_eqS ?_ | with_reducible refine r_neS ?_ | with_reducible refine r_eqB ?_ | with_reducible refine r_neB ?_
  | with_reducible refine r_chain ?_ | with_reducible refine r_test ?_ | with_reducible refine r_tB ?_ | with_reducible refine r_kTest ?_ | with_reducible refine r_not ?_
  | with_reducible refine r_and ?_ | with_reducible refine r_or ?_ | with_reducible refine r_tif ?_ | with_reducible refine r_andV ?_ | with_reducible refine r_orV ?_ | with_reducible refine r_notV ?_
  | with_reducible refine r_kAndV ?_ | with_reducible refine r_kOrV ?_ | with_reducible refine r_kNotV ?_
  | with_reducible refine w_T ?_ | with_reducible refine w_F ?_ | with_reducible refine w_NT ?_ | with_reducible refine w_NF ?_
  | with_reducible refine r_tup ?_ | with_reducible refine r_lst ?_ | with_reducible refine r_fld ?_ | with_reducible refine r_prop ?_ | ((with_reducible refine' r_aug ?h1 ?_); (case h1 => exact rfl)) | with_reducible refine r_ipI ?_ | with_reducible refine r_dget ?_ | with_reducible refine r_dput ?_ | with_reducible refine r_bm ?_
  | ((with_reducible refine' r_kDGetS ?h1 ?h2 ?_); (case h1 => assumption); (case h2 => walk_at "val"))
  | ((with_reducible refine' r_kBML ?h1 ?_); (case h1 => assumption))
  | with_reducible refine r_forL ?_ | with_reducible refine r_forR1 ?_ | with_reducible refine r_forR2 ?_ | with_reducible refine r_forT ?_ | with_reducible refine r_lcL ?_ | with_reducible refine r_lcR1 ?_
  | ((with_reducible refine r_kLcG ?hw ?_); (case hw => exact rfl)) | with_reducible refine r_kLcT ?_ | with_reducible refine r_yes ?_
  | with_reducible refine r_pnil ?_ | with_reducible refine r_pcons ?_
  | with_reducible refine r_fnK ?_ | ((with_reducible refine r_kFnK ?hl ?_); (case hl => exact rfl))
  | with_reducible refine r_isi_ii ?_ | with_reducible refine r_isi_ib ?_ | with_reducible refine r_isi_bi ?_ | with_reducible refine r_isi_bb ?_ | with_reducible refine r_isi_ss ?_ | with_reducible refine r_isi_is ?_ | with_reducible refine r_isi_it ?_
  | ((with_reducible refine' r_isi_tt ?h1 ?_); (case h1 => assumption))
  | with_reducible refine r_sfld ?_ | with_reducible refine r_gnil ?_ | with_reducible refine r_gcons ?_
  | ((with_reducible refine' r_gtup ?h1 ?h2 ?_); (case h1 => exact SqT.of (by assumption)); (case h2 => exact rfl))
  | with_reducible refine r_sl ?_ | with_reducible refine r_noPart ?_ | with_reducible refine r_part ?_ | with_reducible refine r_kPart ?_ | with_reducible refine r_m1 ?_ | with_reducible refine r_kM1 ?_ | with_reducible refine r_forS ?_ | with_reducible refine r_lcS ?_ | with_reducible refine r_lcTu ?_ | with_reducible refine r_lcK ?_ | with_reducible refine r_dcL ?_ | with_reducible refine r_dcK ?_ | with_reducible refine r_lc2L ?_ | with_reducible refine r_kLc2TL ?_ | with_reducible refine r_dcEn ?_ | with_reducible refine r_gslc ?_ | with_reducible refine r_lcEn ?_ | with_reducible refine r_forET ?_ | with_reducible refine r_lenD ?_
  | ((with_reducible refine r_kDcG ?hw ?_); (case hw => exact rfl)) | with_reducible refine r_kDcT ?_
  | with_reducible refine r_fldaug ?_ | with_reducible refine r_daug ?_ | with_reducible refine r_rAdd ?_ | with_reducible refine r_rSub ?_ | with_reducible refine r_ddel ?_ | with_reducible refine r_bmF ?_ | with_reducible refine r_dget2 ?_ | with_reducible refine r_listItems ?_ | with_reducible refine r_bm0 ?_ | with_reducible refine r_lc2E ?_ | ((with_reducible refine r_kLc2G ?hw ?_); (case hw => exact rfl)) | with_reducible refine r_kLc2T ?_ | with_reducible refine r_forE ?_ | with_reducible refine r_orT ?_ | with_reducible refine r_din ?_ | with_reducible refine r_augS ?_ | with_reducible refine r_dnotin ?_ | with_reducible refine r_lcIT ?_ | with_reducible refine r_cont ?_ | with_reducible refine r_meth ?_ | with_reducible refine r_frz ?_ | with_reducible refine r_par3 ?_ | with_reducible refine r_kPar3 ?_ | with_reducible refine r_dz ?_ | with_reducible refine r_revL ?_ | with_reducible refine r_star ?_ | with_reducible refine r_int1 ?_ | with_reducible refine r_int1b ?_ | with_reducible refine r_min2 ?_ | with_reducible refine r_max2 ?_ | with_reducible refine r_gsub ?_)
local macro_rules | `(tactic| walk_at "rd") => `(tactic| repeat walk_at "rd1")
local macro_rules | `(tactic| walk_at "side") => `(tactic| first | assumption | exact Or.inr ⟨by decide, by decide⟩ | exact Or.inl ⟨by decide, by decide⟩ | (constructor <;> omega) | omega | decide | (refine Or.inl ⟨?_, ?_⟩ <;> omega) | (refine Or.inr ⟨?_, ?_⟩ <;> omega) | (refine ⟨?_, ?_, ?_⟩ <;> first | decide | omega))
/-- a list or a tuple of ints stands at a -/
def LsAt (H : Hp) (a : Addr) (ls : List Int) : Prop := H a = some (.lst (ls.map V.int)) ∨ H a = some (.tup (ls.map V.int))
theorem LsAt.keep {H H' : Hp} {a : Addr} {ls : List Int} (h : LsAt H a ls) (e : Same H H') : LsAt H' a ls := h.elim (fun h => .inl (e _ _ h)) fun h => .inr (e _ _ h)
theorem LsAt.seq {K : PySem.W.Frag} {H : Hp} {a : Addr} {ls : List Int} (h : LsAt H a ls) : SeqV K H a (ls.map V.int) := h.elim (fun h => .inl (SqL.of h)) fun h => .inr (SqT.of h)
/-- an order of the kinds, if there is one -/
def Bk.LaidOk (B : Bk) : Prop := ∀ ns, B.laid = some ns → ns.Perm (B.ks.map (·.1))
def sp_is_order : Sp := fun vs H Q _ => ∃ (p q : Addr) (xs ys : List Str), vs = [.ref p, .ref q] ∧ H p = some (.lst (xs.map V.str)) ∧ FrzT H q (ys.map V.str) ∧ ys.Perm xs ∧ (∀ z ∈ xs, NameOk z) ∧ xs.length ≤ 100 ∧ ∀ H', Same H H' → Q (.bl true) H'
def sp_Book_init (C : Addr) : Sp := fun vs H Q _ => ∃ (p dx a kd : Addr) (B : Bk) (lv : V) (kvs : List (Key × V)), vs = [.ref p, .ref a, .int B.due, .ref kd, .int B.mem, .str B.beg, lv] ∧ B.Ok ∧ B.LaidOk ∧ LaidV H B.laid lv ∧ H p = some (.ins C dx []) ∧
  LsAt H a B.ls ∧ H kd = some (.dK kvs) ∧ KAt H kvs B.ks ∧ ∀ H' ks, But p H H' → ks.Perm B.ks → sortedS (ks.map (·.1)) = true → BookAt C H' p { B with ks := ks } → Q .non H'
def sp_Book (C : Addr) : Sp := fun vs H Q _ => ∃ (a kd : Addr) (B : Bk) (lv : V) (kvs : List (Key × V)), vs = [.ref a, .int B.due, .ref kd, .int B.mem, .str B.beg, lv] ∧ B.Ok ∧ B.LaidOk ∧ LaidV H B.laid lv ∧
  LsAt H a B.ls ∧ H kd = some (.dK kvs) ∧ KAt H kvs B.ks ∧ ∀ p H' ks, H p = none → Same H H' → ks.Perm B.ks → sortedS (ks.map (·.1)) = true → BookAt C H' p { B with ks := ks } → Q (.ref p) H'
theorem KAt.keepT {H H' : Hp} {kvs : List (Key × V)} {ks : List (Str × Int × Bool)} (h : KAt H kvs ks) (e : Same H H') : KAt H' kvs ks := h.keep fun t xs q => e _ _ q
theorem imp_Book {C : Addr} (vs : List V) (H : Hp) (Q : VK) (E : XK) (h : sp_Book C vs H Q E) : spMk C (sp_Book_init C) [] vs H Q E := by
  obtain ⟨a, kd, B, lv, kvs, rfl, ok, lo, hl, ha, hk, hK, k⟩ := h
  intro x dx nx nd ne
  have up : ∀ c o, H c = some o → upd (upd H dx (.own x)) x (.ins C dx []) c = some o := fun c o hc => by
    rw [upd_ne (ne_of_none hc nx), upd_ne (ne_of_none hc nd)]
    exact hc
  refine ⟨x, dx, a, kd, B, lv, kvs, rfl, ok, lo, hl.keep fun t o xs ht => up _ _ ht, upd_same, ha.keep up, up _ _ hk, hK.keepT up, fun H' ks b p1 p2 hB => ⟨rfl, k x H' ks nx (fun c o hc => ?_) p1 p2 hB⟩⟩
  exact b _ _ (up _ _ hc) (ne_of_none hc nx)
theorem pfl {f : Str} {v : V} : ∀ {fs : List (Str × V)} {n : Nat}, fs.length ≤ n → (putF f v fs).length ≤ n + 1
  | [], n, _ => by simp [putF]
  | (g, x) :: r, n, h => by
    unfold putF
    split
    · simp only [List.length_cons] at *
      omega
    · simp only [List.length_cons] at *
      have := pfl (f := f) (v := v) (fs := r) (n := n - 1) (by omega)
      omega
theorem pf0 : ([] : List (Str × V)).length ≤ 0 := Nat.le_refl _
theorem pf9 {n m : Nat} (h : n ≤ m) (hm : m < 1000 := by decide) : n < 1000 := by omega
def sp_need_book (C : Addr) : Sp := fun vs H Q _ => ∃ (p : Addr) (B : Bk), vs = [.ref p] ∧ BookAt C H p B ∧ Q .non H
/-- what the class must have for its fields -/
structure BkC (K : PySem.W.Frag) (C : Addr) : Prop where
  cl : Cls K C
  n1 : NoAttr K C "b_lengths"
  n2 : NoAttr K C "b_due"
  n3 : NoAttr K C "b_kinds"
  n4 : NoAttr K C "b_memory"
  n5 : NoAttr K C "b_begins"
  n6 : NoAttr K C "b_laid"
section
variable {P : Program} {w : World} {K : PySem.W.Frag} {mg : Str → Option Value} {base : Heap}
theorem ok_need_book {f : Addr} {fd : FuncData} (T : Tx K mg) (I_Book : C8.InsC K (He.ga K "Book")) (F : FnP K "need_book" s_need_book f fd) : FnOk P w K mg base CX0 1 f fd ["value"] (sp_need_book (He.ga K "Book")) := by
  have sc : FnScope ["value"] ["value"] (defScope s_need_book) := ⟨rfl, rfl, rfl, by decide +kernel, rfl, by decide +kernel, by decide +kernel⟩
  refine F.ok sc (by rintro vs H Q E ⟨_, _, rfl, _⟩; rfl) (fun cdv A outer s H vs Q E hr h => ⟨_, PSs.nox ((pss_one (ps_if (pt_not (pt_val (pe_callB (C8.call_isC I_Book) (by rfl) T.b_isinstance (by decide +kernel) (pa_cons (pv 0) (pa_cons (pe_glob (v := .ref (He.ga K "Book")) (by rfl) T.g_Book rfl) pa_nil))))) (pss_one ps_never) pss_nil))), ?_⟩)
  obtain ⟨p, B, rfl, ⟨dx, tl, kd, lv, kvs, hB⟩, q⟩ := h
  walk_at "rd"
  refine ⟨p, dx, _, rfl, hB.i, ?_⟩
  walk_at "rd"
  exact q
theorem ok_is_order {f : Addr} {fd : FuncData} (T : Tx K mg) (F : FnP K "is_order" s_is_order f fd) (d_is_name : Dn P w K mg base CX0 1 "is_name" ["value"] sp_is_name) : FnOk P w K mg base CX0 2 f fd ["names", "value"] sp_is_order := by
  have sc : FnScope ["names", "value", "name"] ["names", "value"] (defScope s_is_order) := ⟨rfl, rfl, rfl, by decide +kernel, rfl, by decide +kernel, by decide +kernel⟩
  refine F.ok sc (by rintro vs H Q E ⟨_, _, _, _, rfl, _⟩; rfl) (fun cdv A outer s H vs Q E hr h => ⟨_, PSs.nox ((pss_cons (ps_if (PW.pt (pw_or (pt_not (pt_val (pe_callB (c_isiK (K := K) rfl) (by rfl) T.b_isinstance (by decide +kernel) (pa_cons (pv 1) (pa_cons (pe_bltn (v := .ty "tuple") (by rfl) T.b_tuple (by decide +kernel) rfl) pa_nil))))) (pw_or1 (pt_not (pt_val (pe_callB (c_allK (K := K) rfl rfl) (by rfl) T.b_all (by decide +kernel) (pa_cons (pe_lc (own := [("name", 2)]) (by rfl) sc.nd (pi_tupK (K := K) rfl (pv 1)) (blkOk_by (own := [("name", 2)]) (N := ["names", "value", "name"]) (sc := defScope s_is_order) (by decide +kernel)) (fun _ _ _ _ _ => (pg_name (i := 2) sc.nd rfl (by first | exact Or.inl rfl | exact Or.inr rfl))) (fun _ _ _ _ _ => pts_nil) (fun _ _ _ _ _ => (pe_fn d_is_name (hr.mono (by decide)) pass0 (pa_cons (pv 2) pa_nil)))) pa_nil))))))) (pss_one (ps_ret pe_bl)) pss_nil)
      (pss_one (ps_ret (pe_cmpR (eqDK (K := K) rfl hr.units) (pe_callB (c_sortD (K := K) rfl hr) (by rfl) T.b_sorted (by decide +kernel) (pa_cons (pv 1) pa_nil)) (pe_callB (c_sortD (K := K) rfl hr) (by rfl) T.b_sorted (by decide +kernel) (pa_cons (pv 0) pa_nil)) (nomark _)))))), ?_⟩)
  obtain ⟨p, q, xs, ys, rfl, hp, hq, pm, nm, hl, k⟩ := h
  have hyl : ys.length = xs.length := pm.length_eq
  have nmy : ∀ z ∈ ys, NameOk z := fun z hz => nm z (pm.mem_iff.mp hz)
  walk_at "rd"
  refine r_isiT (r := true) (SqT.ty hq.sq) (by decide +kernel) ?_
  walk_at "rd"
  refine r_kLcTu (xs := ys.map V.str) (fun Da i H' => Same H H' ∧ H' Da = some (.lst ((List.replicate i true).map V.bl))) hq.sq (fun Da H' _ e h => ⟨e, h⟩) (fun Da i H' h => (hq.same h.1).sq) ?_ ?_
  · rintro Da i x H' hD hx ⟨e, h⟩
    obtain ⟨z, rfl, hz⟩ := strs_get hx
    have hil := (List.getElem?_eq_some_iff.mp hz).1
    walk_at "rd"
    refine ⟨z, rfl, nmy z (List.mem_of_getElem? hz), fun H2 e2 => ?_⟩
    refine r_kLcE (e2 _ _ h) (by rw [List.length_map, List.length_replicate]; omega) fun H3 b3 h3 => ⟨Same.mut (e.trans e2) b3 hD, ?_⟩
    rw [rep_more]
    exact h3
  · rintro Da H1 hD ⟨e1, h1⟩
    walk_at "rd"
    refine r_all (SqL.of h1) ?_
    rw [all_rep]
    walk_at "rd"
    refine r_sortS (.inr (hq.same e1).sq) (by omega) fun t1 H2 _ e2 ht1 => ?_
    walk_at "rd"
    refine r_sortS (.inl (SqL.of (e2 _ _ (e1 _ _ hp)))) (by omega) fun t2 H3 _ e3 ht2 => ?_
    rw [← srtS_eq pm] at ht2
    refine r_eqD_eq (d := .list ((srtS ys).map .str)) (.lst (SqL.of (e3 _ _ ht1)) (dp_strs _)) (.lst (SqL.of ht2) (dp_strs _)) (shp_strs fun z hz => name_strOk (nmy z ((srtS_perm ys).mem_iff.mp hz))) ?_
    exact k H3 ((e1.trans e2).trans e3)
theorem ok_Book_init {f C : Addr} {fd : FuncData} (T : Tx K mg) (bc : BkC K C) (F : FunD K "__init__" "Book.__init__" (defArgs s_Book___init__) (defBody s_Book___init__) (defScope s_Book___init__) [.int 0, .str "day", .non] [] f fd)
    (d_is_number_in : Dn P w K mg base CX0 2 "is_number_in" ["value", "least", "most"] (sp_is_number_in K)) (d_are_lengths : Dn P w K mg base CX0 3 "are_lengths" ["value"] (sp_are_lengths K)) (d_are_kinds : Dn P w K mg base CX0 4 "are_kinds" ["value"] sp_are_kinds) (d_is_order : Dn P w K mg base CX0 2 "is_order" ["names", "value"] sp_is_order) :
    FnOk P w K mg base CX0 5 f fd ["self", "lengths", "due", "kinds", "memory", "begins", "laid"] (sp_Book_init C) := by
  have sc : FnScope ["self", "lengths", "due", "kinds", "memory", "begins", "laid", "name"] ["self", "lengths", "due", "kinds", "memory", "begins", "laid"] (defScope s_Book___init__) := ⟨rfl, rfl, rfl, by decide +kernel, rfl, by decide +kernel, by decide +kernel⟩
  refine F.ok sc (by rintro vs H Q E ⟨_, _, _, _, _, _, _, rfl, _⟩; rfl) (fun cdv A outer s H vs Q E hr h => ⟨_, PSs.nox ((pss_cons (ps_if (pt_not (pt_val (pe_fn d_are_lengths (hr.mono (by decide)) pass0 (pa_cons (pv 1) pa_nil)))) (pss_one ps_never) pss_nil)
      (pss_cons (ps_if (pt_not (pt_val (pe_fn d_is_number_in (hr.mono (by decide)) pass0 (pa_cons (pv 2) (pa_cons pe_int (pa_cons (pe_op op_sub (pe_callB (c_either (c_minK (K := K) rfl rfl) (c_minT (K := K) rfl rfl)) (by rfl) T.b_min (by decide +kernel) (pa_cons (pv 1) pa_nil)) pe_int) pa_nil)))))) (pss_one ps_never) pss_nil)
      (pss_cons (ps_if (pt_not (pt_val (pe_fn d_are_kinds (hr.mono (by decide)) pass0 (pa_cons (pv 3) pa_nil)))) (pss_one ps_never) pss_nil)
      (pss_cons (ps_if (pt_not (pt_val (pe_fn d_is_number_in (hr.mono (by decide)) pass0 (pa_cons (pv 4) (pa_cons pe_int (pa_cons (pe_glob (v := .int 2) (by rfl) T.c_MOST_MEMORY.choose_spec ⟨_, rfl⟩) pa_nil)))))) (pss_one ps_never) pss_nil)
      (pss_cons (ps_if (PW.pt (pw_or (pt_not (pt_val (pe_callB (c_isiK (K := K) rfl) (by rfl) T.b_isinstance (by decide +kernel) (pa_cons (pv 5) (pa_cons (pe_bltn (v := .ty "str") (by rfl) T.b_str (by decide +kernel) rfl) pa_nil))))) (pw_or1 (pt_cmpR (notIn_seqK (K := K) rfl) (pv 5) (pe_tup (pa_cons (pe_glob (v := .str "day") (by rfl) T.c_DAY.choose_spec ⟨_, rfl⟩) (pa_cons (pe_glob (v := .str "statement") (by rfl) T.c_STATEMENT.choose_spec ⟨_, rfl⟩) pa_nil))) (by rfl))))) (pss_one ps_never) pss_nil)
      (Evl.pss_cut (ps_if (PW.pt (pw_and (pt_cmpR op_notN1 (pv 6) pe_non (nomark _)) (pw_and1 (pt_not (pt_val (pe_fn d_is_order (hr.mono (by decide)) pass0 (pa_cons (pe_callTy (c_listD rfl) (by rfl) T.b_list (by decide +kernel) (pa_cons (pv 3) pa_nil)) (pa_cons (pv 6) pa_nil)))))))) (pss_one ps_never) pss_nil)
      (pss_cons (ps_fldK (K := K) rfl (pv 0) (pe_callTy (c_tupleK (K := K) rfl) (by rfl) T.b_tuple (by decide +kernel) (pa_cons (pv 1) pa_nil)))
      (pss_cons (ps_fldK (K := K) rfl (pv 0) (pv 2))
      (pss_cons (ps_fldK (K := K) rfl (pv 0) (pe_dc (own := [("name", 7)]) (by rfl) sc.nd (pi_listK (K := K) rfl (pe_callB (c_sortedD rfl) (by rfl) T.b_sorted (by decide +kernel) (pa_cons (pv 3) pa_nil))) (blkOk_by (own := [("name", 7)]) (N := ["self", "lengths", "due", "kinds", "memory", "begins", "laid", "name"]) (sc := defScope s_Book___init__) (by decide +kernel)) (fun _ _ _ _ _ => (pg_name (i := 7) sc.nd rfl (by first | exact Or.inl rfl | exact Or.inr rfl))) (fun _ _ _ _ _ => pts_nil) (fun _ _ _ _ _ => (pv 7)) (fun _ _ _ _ _ => (pe_dget (hu_of hr) (pv 3) (pv 7) (fun _ _ => rfl)))))
      (pss_cons (ps_fldK (K := K) rfl (pv 0) (pv 4))
      (pss_cons (ps_fldK (K := K) rfl (pv 0) (pv 5))
      (pss_one (ps_fldK (K := K) rfl (pv 0) (pv 6))))))))))))))), ?_⟩)
  obtain ⟨p, dx, a, kd, B, lv, kvs, rfl, ok, lok, hlv, hp, ha, hk, hK, k⟩ := h
  have hl1 := ok.l1
  walk_at "rd"
  refine ⟨a, B.ls, rfl, ha.seq, ok.l1, ok.l2, ok.l3, fun H1 e1 => ?_⟩
  walk_at "rd"
  refine r_minSeq (ha.keep e1).seq (by omega) fun m hm hmin => ?_
  have hdm := ok.d1 m hm
  walk_at "rd"
  refine u_in ⟨ok.d0, by omega⟩ ?_
  walk_at "rd"
  refine ⟨kd, kvs, B.ks, rfl, e1 _ _ hk, hK.keepT e1, ok.kn, fun H2 e2 => ?_⟩
  have e02 := e1.trans e2
  walk_at "rd"
  refine u_in ⟨ok.m0, ok.m1⟩ ?_
  walk_at "rd"
  refine r_kTup fun t H3 nt e3 ht => ?_
  have e03 := e02.trans e3
  refine r_notInTS (xs := ["day", "statement"]) (SqT.of ht) ?_
  have hb : B.beg ∈ (["day", "statement"] : List Str) := by
    rcases ok.bg with h | h <;> rw [h] <;> simp
  rw [decide_eq_true hb]
  walk_at "rd"
  refine r_cut (fun σ' H' => σ' = [some (.ref p), some (.ref a), some (.int B.due), some (.ref kd), some (.int B.mem), some (.str B.beg), some lv, none] ∧ Same H H') ?_ ?_
  · walk_at "rd"
    cases hB : B.laid with
    | none =>
      rw [hB] at hlv
      obtain rfl : lv = .non := hlv
      walk_at "rd"
      exact ⟨rfl, e03⟩
    | some ns =>
      rw [hB] at hlv
      obtain ⟨tn, rfl, htn⟩ := hlv
      walk_at "rd"
      refine r_listD (e03 _ _ hk) fun l1 H9 _ e9 hl1 => ?_
      have hn : (kvs.map fun kv => kV kv.1) = (B.ks.map (·.1)).map V.str := by
        have e := congrArg (List.map kV) hK.keys
        rw [List.map_map, List.map_map] at e
        exact e
      rw [hn] at hl1
      walk_at "rd"
      refine ⟨l1, tn, B.ks.map (·.1), ns, rfl, hl1, (htn.same e03).same e9, lok ns hB, ok.kn.nm.ok, by rw [List.length_map]; have := ok.kn.hi; omega, fun H10 e10 => ?_⟩
      walk_at "rd"
      exact ⟨rfl, (e03.trans e9).trans e10⟩
  rintro σ' H3 ⟨rfl, e03⟩
  walk_at "rd"
  refine r_tupOf (ha.keep e03) fun tl H4 e4 htl => ?_
  have e04 := e03.trans e4
  have ntp : ∀ {u : Addr} {xs : List V} {G : Hp} {fs : List (Str × V)}, G u = some (.tup xs) → G p = some (.ins C dx fs) → u ≠ p := fun h1 h2 => ne_of h1 h2 (by intro z; cases z)
  walk_at "rd"
  refine r_kSFld (e04 _ _ hp) bc.cl bc.n1 (by decide) fun H5 b5 h5 => ?_
  have htl5 := b5 _ _ htl (ntp htl (e04 _ _ hp))
  walk_at "rd"
  refine r_kSFld h5 bc.cl bc.n2 (pf9 (pfl pf0)) fun H6 b6 h6 => ?_
  have htl6 := b6 _ _ htl5 (ntp htl5 h5)
  have nkp : kd ≠ p := ne_of hk hp (by intro z; cases z)
  have hk6 := b6 _ _ (b5 _ _ (e04 _ _ hk) nkp) nkp
  have kp06 : But p H H6 := fun b o hb hn => b6 _ _ (b5 _ _ (e04 _ _ hb) hn) hn
  have hK6 : KAt H6 kvs B.ks := by
    refine hK.keep fun u xs hu => kp06 _ _ hu (ntp hu hp)
  have hlen : B.ks.length < 64 := by
    have := ok.kn.hi
    omega
  walk_at "rd"
  refine r_sortedD (ks := B.ks.map (·.1)) hk6 hK6.keys (by rw [List.length_map]; exact hlen) fun ys q H7 py sy nq e7 hq => ?_
  obtain ⟨ms, pm, em⟩ := perm_lift (·.1) ys B.ks py
  have hk7 := e7 _ _ hk6
  have hK7 := hK6.keepT e7
  have nd := ok.kn.nm.nd
  have ndm : (ms.map (·.1)).Nodup := (pm.map (·.1)).nodup_iff.mpr nd
  have lm : ms.length ≤ 6 := by
    rw [pm.length_eq]
    exact ok.kn.hi
  have eys : ys.map V.str = ms.map fun m => V.str m.1 := by rw [← em, List.map_map]; rfl
  walk_at "rd"
  refine r_kDcL (xs := ys.map V.str) (SqL.of hq) (fun Da i H' => Same H7 H' ∧ ∃ kv, H' Da = some (.dK kv) ∧ KAt H' kv (ms.take i)) (fun Da H' _ e h => ⟨e, [], h, .nil⟩) (fun Da i H' h => SqL.of (h.1 _ _ hq)) ?_ ?_
  · rintro Da i y H' hD hy ⟨e8, kv, hDa, hkv⟩
    rw [eys] at hy
    obtain ⟨mm, hm, rfl⟩ : ∃ mm, ms[i]? = some mm ∧ y = V.str mm.1 := by
      rw [List.getElem?_map] at hy
      obtain ⟨mm, h1, h2⟩ := Option.map_eq_some_iff.mp hy
      exact ⟨mm, h1, h2.symm⟩
    obtain ⟨n, r, b⟩ := mm
    have hil := (List.getElem?_eq_some_iff.mp hm).1
    obtain ⟨t', hv, ht'⟩ := hK7.val nd (pm.mem_iff.mp (List.mem_of_getElem? hm))
    have hfresh : n ∉ (ms.take i).map (·.1) := fun z => by
      have e : ms.take (i + 1) = ms.take i ++ [(n, r, b)] := take_more hm
      have nd2 : ((ms.take (i + 1)).map (·.1)).Nodup := (ndm.sublist ((List.take_sublist _ _).map _))
      rw [e, List.map_append, List.nodup_append] at nd2
      exact nd2.2.2 n z n (by simp) rfl
    walk_at "rd"
    refine r_kDGetS (e8 _ _ hk7) hv ?_
    refine r_kDcE (kx := Sum.inr n) hDa (by rw [hkv.len, List.length_take]; omega) fun H9 b9 h9 => ?_
    rw [putK_new _ (hkv.fresh hfresh)] at h9
    have kp9 : ∀ u xs, H' u = some (.tup xs) → H9 u = some (.tup xs) := fun u xs hu => b9 _ _ hu (ne_of hu hDa (by intro z; cases z))
    refine ⟨Same.mut e8 b9 hD, _, h9, ?_⟩
    rw [take_more hm]
    exact (hkv.keep kp9).snoc (kp9 _ _ (e8 _ _ ht'))
  · rintro Da H8 hD ⟨e8, kv, hDa, hkv⟩
    have hfull : ms.take (ys.map V.str).length = ms := by
      rw [eys, List.length_map]
      exact List.take_length
    rw [hfull] at hkv
    have h8 := e8 _ _ (e7 _ _ h6)
    have ntD : Da ≠ p := ne_of hDa h8 (by intro z; cases z)
    walk_at "rd"
    refine r_kSFld h8 bc.cl bc.n3 (pf9 (pfl (pfl pf0))) fun H9 b9 h9 => ?_
    walk_at "rd"
    refine r_kSFld h9 bc.cl bc.n4 (pf9 (pfl (pfl (pfl pf0)))) fun H10 b10 h10 => ?_
    walk_at "rd"
    refine r_kSFld h10 bc.cl bc.n5 (pf9 (pfl (pfl (pfl (pfl pf0))))) fun H11 b11 h11 => ?_
    walk_at "rd"
    refine r_kSFld h11 bc.cl bc.n6 (pf9 (pfl (pfl (pfl (pfl (pfl pf0)))))) fun H12 b12 h12 => ?_
    have kp : But p H8 H12 := fun b o hb hn => b12 _ _ (b11 _ _ (b10 _ _ (b9 _ _ hb hn) hn) hn) hn
    have kpt : But p H H12 := fun b o hb hn => kp _ _ (e8 _ _ (e7 _ _ (kp06 _ _ hb hn))) hn
    have htl8 := e8 _ _ (e7 _ _ htl6)
    refine k H12 ms kpt pm (by rw [em]; exact sy) ⟨dx, tl, Da, lv, kv, ⟨h12, kp _ _ htl8 (ntp htl8 h8), kp _ _ hDa ntD, hkv.keep fun u xs hu => kp _ _ hu (ntp hu h8), ?_⟩⟩
    exact hlv.keep fun u o xs hu => kpt _ _ hu (ne_of hu hp (by intro z; cases z))
end
end Wp
set_option Elab.async false
set_option linter.all false
set_option maxRecDepth 100000
set_option maxHeartbeats 4000000
/-! An account as it stands in the heap. -/
namespace Wp
open PySem PySem.Spec PyProof.Rows L2
def rkB (B : Bk) : Str → Int := match B.laid with
  | none => fun _ => 0
  | some ns => fun k => (ns.idxOf k : Int)
theorem rkB_none {B : Bk} (h : B.laid = none) (k : Str) : rkB B k = 0 := by unfold rkB; rw [h]
theorem rkB_some {B : Bk} {ns : List Str} (h : B.laid = some ns) (k : Str) : rkB B k = (ns.idxOf k : Int) := by unfold rkB; rw [h]
def fAcc (bk lf kd pd : Addr) (ow : Int) : List (Str × V) := [("a_book", .ref bk), ("a_left", .ref lf), ("a_kinds", .ref kd), ("a_owed", .int ow), ("a_paid", .ref pd)]
theorem putF_owed (bk lf kd pd : Addr) (ow z : Int) : putF "a_owed" (.int z) (fAcc bk lf kd pd ow) = fAcc bk lf kd pd z := by kernel_rfl
structure AcIn (CA CB : Addr) (H0 H : Hp) (q : Addr) (B : Bk) (bk : Addr) (A : Ac) (ow : Int) (n : Nat) (dx lf kd pd : Addr) (lfs : List (Int × Int)) (kds : List (Key × V)) : Prop where
  sm : Same H0 H
  bo : BookAt CB H0 bk B
  nq : H0 q = none
  nl : H0 lf = none
  nk : H0 kd = none
  np : H0 pd = none
  i : H q = some (.ins CA dx (fAcc bk lf kd pd ow))
  l : H lf = some (.dK (encT lfs))
  lp : lfs.Perm (A.S.map (·.2))
  k : H kd = some (.dK kds)
  kl : kds.length ≤ n
  kk : ∀ o ∈ A.S, ∃ z, valV kds (Sum.inl o.2.1 : Key) = some (.str z) ∧ rkB B z = o.1 ∧ z ∈ B.ks.map (·.1)
  p : H pd = some (.dT (encPD A.P))
  ne : lf ≠ kd
def AcAt (CA CB : Addr) (H0 H : Hp) (q : Addr) (B : Bk) (bk : Addr) (A : Ac) (ow : Int) (n : Nat) : Prop := ∃ dx lf kd pd lfs kds, AcIn CA CB H0 H q B bk A ow n dx lf kd pd lfs kds
theorem AcIn.keep {CA CB q bk dx lf kd pd : Addr} {H0 H H' : Hp} {B : Bk} {A : Ac} {ow : Int} {n : Nat} {lfs : List (Int × Int)} {kds : List (Key × V)} (h : AcIn CA CB H0 H q B bk A ow n dx lf kd pd lfs kds) (e : Same H H') : AcIn CA CB H0 H' q B bk A ow n dx lf kd pd lfs kds :=
  ⟨h.sm.trans e, h.bo, h.nq, h.nl, h.nk, h.np, e _ _ h.i, e _ _ h.l, h.lp, e _ _ h.k, h.kl, h.kk, e _ _ h.p, h.ne⟩
theorem AcAt.keep {CA CB q bk : Addr} {H0 H H' : Hp} {B : Bk} {A : Ac} {ow : Int} {n : Nat} (h : AcAt CA CB H0 H q B bk A ow n) (e : Same H H') : AcAt CA CB H0 H' q B bk A ow n := by
  obtain ⟨dx, lf, kd, pd, lfs, kds, h⟩ := h
  exact ⟨dx, lf, kd, pd, lfs, kds, h.keep e⟩
/-! the dict of what is left -/
theorem lf_nd {lfs : List (Int × Int)} {S : List Op} (p : lfs.Perm (S.map (·.2))) (nd : (S.map (·.2.1)).Nodup) : (lfs.map (·.1)).Nodup := by
  have := p.map (·.1)
  rw [List.map_map] at this
  exact this.nodup_iff.mpr nd
theorem lf_look {lfs : List (Int × Int)} {o : Op} {S : List Op} (p : lfs.Perm ((o :: S).map (·.2))) (nd : ((o :: S).map (·.2.1)).Nodup) : lookT lfs o.2.1 = some o.2.2 :=
  look_of_mem (p := o.2) (lf_nd p nd) (p.mem_iff.mpr (List.mem_cons_self ..))
theorem putI_map {t : List (Int × Int)} {z c m : Int} (h : lookT t z = some m) : putI t z c = t.map (fun p => if p.1 = z then (p.1, c) else p) := by
  unfold putI
  rw [any_look, h]
  rfl
theorem map_other {R : List (Int × Int)} {z c : Int} (h : z ∉ R.map (·.1)) : R.map (fun p => if p.1 = z then (p.1, c) else p) = R := by
  conv => rhs; rw [← List.map_id R]
  refine List.map_congr_left fun p hp => ?_
  rw [if_neg fun e => h (List.mem_map.mpr ⟨p, hp, e⟩)]
  rfl
theorem lf_put {lfs : List (Int × Int)} {o : Op} {S : List Op} (p : lfs.Perm ((o :: S).map (·.2))) (nd : ((o :: S).map (·.2.1)).Nodup) (c : Int) : (putI lfs o.2.1 c).Perm ((o.2.1, c) :: S.map (·.2)) := by
  rw [putI_map (lf_look p nd)]
  have := p.map (fun p => if p.1 = o.2.1 then (p.1, c) else p)
  refine this.trans ?_
  rw [List.map_cons, List.map_cons, if_pos rfl]
  rw [map_other (R := S.map (·.2))]
  rw [List.map_cons, List.nodup_cons] at nd
  rw [List.map_map]
  exact nd.1
theorem lf_drop {lfs : List (Int × Int)} {a c : Int} {S : List Op} (p : lfs.Perm ((a, c) :: S.map (·.2))) (na : a ∉ S.map (·.2.1)) : (dropI lfs a).Perm (S.map (·.2)) := by
  unfold dropI
  refine (p.filter _).trans ?_
  rw [List.filter_cons_of_neg (by simp)]
  rw [List.filter_eq_self.mpr]
  intro x hx
  refine decide_eq_true fun e => na ?_
  obtain ⟨o, ho, rfl⟩ := List.mem_map.mp hx
  exact List.mem_map.mpr ⟨o, ho, e⟩
theorem look_putI {lfs : List (Int × Int)} {z c : Int} : lookT (putI lfs z c) z = some c := by rw [putI_look, if_pos rfl]
theorem putI_fresh {lfs : List (Int × Int)} {z c : Int} (h : z ∉ lfs.map (·.1)) : putI lfs z c = lfs ++ [(z, c)] := by
  unfold putI
  rw [any_look, look_none.mpr h]
  rfl
/-! laying, step by step -/
theorem pay_zero (A : Ac) (d : Int) {c : Int} (h : c ≤ 0) : A.pay d c = A := by
  unfold Ac.pay
  cases hS : A.S with
  | nil => simp [payS, ← hS]
  | cons o S => 
    unfold payS
    rw [if_pos h]
    simp [← hS]
theorem pay_part {o : Op} {S : List Op} {P : Pd} {d c : Int} (h0 : 0 < c) (h1 : c < o.2.2) : Ac.pay ⟨o :: S, P⟩ d c = ⟨(o.1, o.2.1, o.2.2 - c) :: S, addP P (o.2.1, d) c⟩ := by
  unfold Ac.pay
  show Ac.mk (payS (o :: S) c).2 _ = _
  unfold payS
  rw [if_neg (by omega), if_pos h1]
  rfl
theorem pay_all {o : Op} {S : List Op} {P : Pd} {d c : Int} (h0 : 0 < c) (h1 : o.2.2 ≤ c) : Ac.pay ⟨o :: S, P⟩ d c = Ac.pay ⟨S, addP P (o.2.1, d) o.2.2⟩ d (c - o.2.2) := by
  unfold Ac.pay
  show Ac.mk (payS (o :: S) c).2 _ = _
  rw [show payS (o :: S) c = ((o.2.1, o.2.2) :: (payS S (c - o.2.2)).1, (payS S (c - o.2.2)).2) by
    conv => lhs; unfold payS
    rw [if_neg (by omega), if_neg (by omega)]]
  rfl
theorem addP_len (P : Pd) (z : Int × Int) (c : Int) : (addP P z c).length ≤ P.length + 1 := by
  unfold addP putP
  split
  · simp
  · simp
/-- the least of what is left is the first one -/
theorem head_least {o : Op} {S : List Op} (h : (o :: S).Pairwise ltO) : ∀ y ∈ (o :: S), leP (o.1, o.2.1) (y.1, y.2.1) = true := fun y hy => by
  rcases List.mem_cons.mp hy with rfl | hy
  · simp [leP]
  · have := (List.pairwise_cons.mp h).1 y hy
    unfold ltO at this
    refine decide_eq_true ?_
    show o.1 < y.1 ∨ o.1 = y.1 ∧ o.2.1 ≤ y.2.1
    omega
theorem leP_anti {a b : Int × Int} (h1 : leP a b = true) (h2 : leP b a = true) : a = b := by
  have h1 := of_decide_eq_true h1
  have h2 := of_decide_eq_true h2
  exact Prod.ext (by omega) (by omega)
end Wp
set_option Elab.async false
set_option linter.all false
set_option maxRecDepth 100000
set_option maxHeartbeats 4000000
/-! Courses, plain: what was paid of each purchase; the law's own laying. -/
namespace Wp
open PySem PySem.Spec PyProof.Rows L2
theorem payS_len : ∀ (S : List Op) (c : Int), (payS S c).1.length ≤ S.length ∧ (payS S c).2.length ≤ S.length
  | [], c => by simp [payS]
  | o :: S, c => by
    unfold payS
    split
    · simp
    · split
      · simp
      · have := payS_len S (c - o.2.2)
        simp only [List.length_cons]
        omega
theorem foldP_len (d : Int) : ∀ (L : List (Int × Int)) (P : Pd), (L.foldl (fun P x => addP P (x.1, d) x.2) P).length ≤ P.length + L.length
  | [], P => by simp
  | x :: L, P => by
    rw [List.foldl_cons]
    have h1 := foldP_len d L (addP P (x.1, d) x.2)
    have h2 := addP_len P (x.1, d) x.2
    simp only [List.length_cons]
    omega
theorem list_snoc_ind {α : Type} {M : List α → Prop} (h0 : M []) (hs : ∀ xs z, M xs → M (xs ++ [z])) : ∀ xs, M xs := fun xs => by
  have : ∀ ys : List α, M ys.reverse := fun ys => by
    induction ys with
    | nil => exact h0
    | cons y r ih => rw [List.reverse_cons]; exact hs _ _ ih
  have := this xs.reverse
  rwa [List.reverse_reverse] at this
theorem acOf_len (rk : Str → Int) : ∀ rs : List CR, (acOf rk rs).S.length ≤ rs.length ∧ (acOf rk rs).P.length ≤ rs.length * rs.length := by
  refine list_snoc_ind (by simp [acOf_nil]) fun rs r ih => ?_
  rw [acOf_snoc, List.length_append, List.length_singleton]
  have e : (rs.length + 1) * (rs.length + 1) = rs.length * rs.length + 2 * rs.length + 1 := by
    rw [Nat.add_mul, Nat.mul_add]; omega
  rw [e]
  cases r with
  | buy d k c =>
    have := (insO_perm (rk k, ((rs.length : Nat) : Int), c) (acOf rk rs).S).length_eq
    rw [List.length_cons] at this
    exact ⟨(show (insO _ _).length ≤ _ by omega), (show (acOf rk rs).P.length ≤ _ by omega)⟩
  | pay d c =>
    have h1 := payS_len (acOf rk rs).S c
    have h2 := foldP_len d (payS (acOf rk rs).S c).1 (acOf rk rs).P
    exact ⟨(show (payS (acOf rk rs).S c).2.length ≤ _ by omega), Nat.le_trans h2 (by omega)⟩
/-! dicts by row and day -/
theorem anyP_look : ∀ (t : Pd) (z : Int × Int), (t.any fun p => decide (p.1 = z)) = (lookP t z).isSome
  | [], z => rfl
  | (k, c) :: r, z => by
    unfold lookP
    by_cases h : k = z
    · simp [h]
    · rw [List.any_cons, anyP_look r z]
      simp [h]
theorem lookP_none : ∀ {t : Pd} {z : Int × Int}, lookP t z = none ↔ z ∉ t.map (·.1)
  | [], z => by simp [lookP]
  | (k, c) :: r, z => by
    have := lookP_none (t := r) (z := z)
    unfold lookP
    by_cases h : k = z
    · simp [h]
    · rw [if_neg h, this]
      simp only [List.map_cons, List.mem_cons, not_or]
      exact ⟨fun x => ⟨fun e => h e.symm, x⟩, fun x => x.2⟩
theorem lookP_mem : ∀ {t : Pd} {p : (Int × Int) × Int}, (t.map (·.1)).Nodup → p ∈ t → lookP t p.1 = some p.2
  | [], p, _, h => by cases h
  | (k, c) :: r, p, nd, h => by
    rw [List.map_cons, List.nodup_cons] at nd
    rcases List.mem_cons.mp h with e | e
    · subst e
      simp [lookP]
    · unfold lookP
      rw [if_neg (fun z => nd.1 (by rw [show k = p.1 from z]; exact List.mem_map.mpr ⟨p, e, rfl⟩))]
      exact lookP_mem nd.2 e
theorem lookP_some {t : Pd} {z : Int × Int} (h : z ∈ t.map (·.1)) : ∃ c, lookP t z = some c := by
  cases e : lookP t z with
  | none => exact absurd h (lookP_none.mp e)
  | some c => exact ⟨c, rfl⟩
theorem putP_keys (t : Pd) (z : Int × Int) (c : Int) : (putP t z c).map (·.1) = if (lookP t z).isSome = true then t.map (·.1) else t.map (·.1) ++ [z] := by
  unfold putP
  rw [anyP_look]
  split
  · rw [List.map_map]
    refine List.map_congr_left fun p _ => ?_
    show (if p.1 = z then (p.1, c) else p).1 = p.1
    split <;> rfl
  · simp
theorem putP_nd {t : Pd} {z : Int × Int} {c : Int} (nd : (t.map (·.1)).Nodup) : ((putP t z c).map (·.1)).Nodup := by
  rw [putP_keys]
  split
  · exact nd
  · rename_i h
    have h1 : lookP t z = none := by
      cases e : lookP t z with
      | none => rfl
      | some c => rw [e] at h; exact absurd rfl h
    rw [List.nodup_append]
    refine ⟨nd, by simp, fun a ha b hb e => ?_⟩
    rw [List.mem_singleton.mp hb] at e
    subst e
    exact lookP_none.mp h1 ha
def sumAt (P : Pd) (n : Int) : Int := ((P.filter fun p => decide (p.1.1 = n)).map (·.2)).sum
theorem sumAt_nil (n : Int) : sumAt [] n = 0 := rfl
theorem sumAt_cons (p : (Int × Int) × Int) (P : Pd) (n : Int) : sumAt (p :: P) n = (if p.1.1 = n then p.2 else 0) + sumAt P n := by
  unfold sumAt
  rw [List.filter_cons]
  by_cases h : p.1.1 = n
  · simp [h]
  · simp [h]
theorem sumAt_app (P R : Pd) (n : Int) : sumAt (P ++ R) n = sumAt P n + sumAt R n := by
  unfold sumAt
  rw [List.filter_append, List.map_append, List.sum_append]
theorem sumAt_map : ∀ {P : Pd} {z : Int × Int} {c v : Int} (n : Int), (P.map (·.1)).Nodup → lookP P z = some v → sumAt (P.map fun p => if p.1 = z then (p.1, c) else p) n = sumAt P n + (if z.1 = n then c - v else 0)
  | [], z, c, v, n, _, h => by simp [lookP] at h
  | p :: P, z, c, v, n, nd, h => by
    rw [List.map_cons, List.nodup_cons] at nd
    rw [List.map_cons, sumAt_cons, sumAt_cons]
    unfold lookP at h
    by_cases e : p.1 = z
    · rw [if_pos e] at h
      have h := Option.some.inj h
      have e2 : P.map (fun p => if p.1 = z then (p.1, c) else p) = P := by
        conv => rhs; rw [← List.map_id P]
        refine List.map_congr_left fun q hq => ?_
        rw [if_neg fun e3 => nd.1 (List.mem_map.mpr ⟨q, hq, e3.trans e.symm⟩)]
        rfl
      rw [e2, if_pos e]
      show (if p.1.1 = n then c else 0) + _ = _
      rw [← e]
      split <;> omega
    · rw [if_neg e] at h
      rw [if_neg e, sumAt_map n nd.2 h]
      omega
theorem sumAt_addP {P : Pd} {z : Int × Int} {c : Int} (n : Int) (nd : (P.map (·.1)).Nodup) : sumAt (addP P z c) n = sumAt P n + (if z.1 = n then c else 0) := by
  unfold addP putP
  rw [anyP_look]
  cases h : lookP P z with
  | none =>
    rw [if_neg (by simp), sumAt_app, sumAt_cons, sumAt_nil]
    show _ + ((if z.1 = n then 0 + c else 0) + 0) = _
    split <;> omega
  | some v =>
    rw [if_pos (by simp), sumAt_map n nd h]
    show _ + (if z.1 = n then v + c - v else 0) = _
    split <;> omega
/-- a dict of what was paid as it must be -/
structure POk (P : Pd) (n M : Int) : Prop where
  nd : (P.map (·.1)).Nodup
  pos : ∀ p ∈ P, 1 ≤ p.2
  at' : ∀ p ∈ P, 0 ≤ p.1.1 ∧ p.1.1 < n
  dy : ∀ p ∈ P, 0 ≤ p.1.2 ∧ p.1.2 ≤ M
theorem POk.nil (n M : Int) : POk [] n M := ⟨List.nodup_nil, fun p h => (by cases h), fun p h => (by cases h), fun p h => (by cases h)⟩
theorem POk.mono {P : Pd} {n m M : Int} (h : POk P n M) (l : n ≤ m) : POk P m M := ⟨h.nd, h.pos, fun p hp => by have := h.at' p hp; omega, h.dy⟩
theorem POk.add {P : Pd} {n M a d c : Int} (h : POk P n M) (ha : 0 ≤ a ∧ a < n) (hd : 0 ≤ d ∧ d ≤ M) (hc : 1 ≤ c) : POk (addP P (a, d) c) n M := by
  have nd := putP_nd (z := (a, d)) (c := (lookP P (a, d)).getD 0 + c) h.nd
  have hv : 1 ≤ (lookP P (a, d)).getD 0 + c := by
    cases e : lookP P (a, d) with
    | none => show 1 ≤ 0 + c; omega
    | some v =>
      have hm : (a, d) ∈ P.map (·.1) := by
        refine Classical.byContradiction fun z => ?_
        rw [lookP_none.mpr z] at e
        cases e
      obtain ⟨p, hp, ep⟩ := List.mem_map.mp hm
      have := lookP_mem h.nd hp
      rw [ep, e] at this
      have := Option.some.inj this
      have := h.pos p hp
      show 1 ≤ v + c
      omega
  have key : ∀ p ∈ addP P (a, d) c, p ∈ P ∨ (p.1 = (a, d) ∧ 1 ≤ p.2) := fun p hp => by
    unfold addP putP at hp
    split at hp
    · obtain ⟨q, hq, rfl⟩ := List.mem_map.mp hp
      by_cases e : q.1 = (a, d)
      · rw [if_pos e]
        exact .inr ⟨e, hv⟩
      · rw [if_neg e]
        exact .inl hq
    · rcases List.mem_append.mp hp with hp | hp
      · exact .inl hp
      · rw [List.mem_singleton.mp hp]
        exact .inr ⟨rfl, hv⟩
  refine ⟨nd, fun p hp => ?_, fun p hp => ?_, fun p hp => ?_⟩
  · rcases key p hp with h1 | ⟨_, h1⟩
    · exact h.pos p h1
    · exact h1
  · rcases key p hp with h1 | ⟨h1, _⟩
    · exact h.at' p h1
    · rw [h1]; exact ha
  · rcases key p hp with h1 | ⟨h1, _⟩
    · exact h.dy p h1
    · rw [h1]; exact hd
def partAt (L : List (Int × Int)) (n : Int) : Int := ((L.filter fun x => decide (x.1 = n)).map (·.2)).sum
theorem partAt_cons (x : Int × Int) (L : List (Int × Int)) (n : Int) : partAt (x :: L) n = (if x.1 = n then x.2 else 0) + partAt L n := by
  unfold partAt
  rw [List.filter_cons]
  by_cases h : x.1 = n
  · simp [h]
  · simp [h]
def openAt (S : List Op) (n : Int) : Int := partAt (S.map (·.2)) n
theorem openAt_cons (o : Op) (S : List Op) (n : Int) : openAt (o :: S) n = (if o.2.1 = n then o.2.2 else 0) + openAt S n := partAt_cons o.2 _ n
theorem partAt_perm {L M : List (Int × Int)} (h : L.Perm M) (n : Int) : partAt L n = partAt M n := by
  induction h with
  | nil => rfl
  | cons x _ ih => rw [partAt_cons, partAt_cons, ih]
  | swap x y l => rw [partAt_cons, partAt_cons, partAt_cons, partAt_cons]; omega
  | trans _ _ h1 h2 => exact h1.trans h2
theorem payS_at : ∀ (S : List Op) (c n : Int), partAt (payS S c).1 n + openAt (payS S c).2 n = openAt S n
  | [], c, n => rfl
  | o :: S, c, n => by
    unfold payS
    split
    · show 0 + openAt (o :: S) n = _
      omega
    · split
      · rw [openAt_cons, openAt_cons, partAt_cons]
        show (if o.2.1 = n then c else 0) + 0 + ((if o.2.1 = n then o.2.2 - c else 0) + openAt S n) = _
        split <;> omega
      · have := payS_at S (c - o.2.2) n
        rw [openAt_cons, partAt_cons]
        show (if o.2.1 = n then o.2.2 else 0) + partAt (payS S (c - o.2.2)).1 n + openAt (payS S (c - o.2.2)).2 n = _
        omega
theorem payS_parts : ∀ {S : List Op} {c : Int}, (∀ o ∈ S, 1 ≤ o.2.2) → ∀ x ∈ (payS S c).1, 1 ≤ x.2 ∧ ∃ o ∈ S, o.2.1 = x.1
  | [], c, _ => fun x hx => by simp [payS] at hx
  | o :: S, c, h => fun x hx => by
    unfold payS at hx
    split at hx
    · cases hx
    · rename_i h1
      split at hx
      · rw [List.mem_singleton.mp hx]
        exact ⟨by show 1 ≤ c; omega, o, List.mem_cons_self .., rfl⟩
      · rcases List.mem_cons.mp hx with rfl | hx
        · exact ⟨h o (List.mem_cons_self ..), o, List.mem_cons_self .., rfl⟩
        · obtain ⟨h2, o', h3, h4⟩ := payS_parts (S := S) (fun y hy => h y (List.mem_cons_of_mem _ hy)) x hx
          exact ⟨h2, o', List.mem_cons_of_mem _ h3, h4⟩
theorem payS_all : ∀ {S : List Op}, (∀ o ∈ S, 1 ≤ o.2.2) → (payS S (sumO S)).2 = []
  | [], _ => by simp [payS]
  | o :: S, h => by
    have h1 := h o (List.mem_cons_self ..)
    have h2 : ∀ x ∈ S, 1 ≤ x.2.2 := fun x hx => h x (List.mem_cons_of_mem _ hx)
    have h3 := sumO_nonneg h2
    rw [sumO_cons]
    unfold payS
    rw [if_neg (by omega), if_neg (by omega)]
    show (payS S (o.2.2 + sumO S - o.2.2)).2 = []
    rw [show o.2.2 + sumO S - o.2.2 = sumO S by omega]
    exact payS_all h2
theorem foldP_ok {n M d : Int} (hd : 0 ≤ d ∧ d ≤ M) : ∀ {L : List (Int × Int)} {P : Pd}, POk P n M → (∀ x ∈ L, 1 ≤ x.2 ∧ 0 ≤ x.1 ∧ x.1 < n) →
    POk (L.foldl (fun P x => addP P (x.1, d) x.2) P) n M ∧ ∀ i, sumAt (L.foldl (fun P x => addP P (x.1, d) x.2) P) i = sumAt P i + partAt L i
  | [], P, h, _ => ⟨h, fun i => by show sumAt P i = sumAt P i + 0; omega⟩
  | x :: L, P, h, hx => by
    have h1 := hx x (List.mem_cons_self ..)
    obtain ⟨a, b⟩ := foldP_ok hd (L := L) (h.add (a := x.1) (d := d) (c := x.2) ⟨h1.2.1, h1.2.2⟩ hd h1.1) fun y hy => hx y (List.mem_cons_of_mem _ hy)
    refine ⟨a, fun i => ?_⟩
    rw [List.foldl_cons, b i, sumAt_addP i h.nd, partAt_cons]
    show sumAt P i + (if x.1 = i then x.2 else 0) + partAt L i = _
    omega
theorem pay_ok {A : Ac} {n M d c : Int} (hP : POk A.P n M) (hS : SOk A.S n) (hd : 0 ≤ d ∧ d ≤ M) : POk (A.pay d c).P n M ∧ ∀ i, sumAt (A.pay d c).P i + openAt (A.pay d c).S i = sumAt A.P i + openAt A.S i := by
  obtain ⟨a, b⟩ := foldP_ok (n := n) hd (L := (payS A.S c).1) hP fun x hx => by
    obtain ⟨h1, o, h2, h3⟩ := payS_parts hS.pos x hx
    have := hS.at' o h2
    exact ⟨h1, by omega, by omega⟩
  refine ⟨a, fun i => ?_⟩
  have := payS_at A.S c i
  have := b i
  show sumAt (List.foldl _ _ _) i + openAt (payS A.S c).2 i = _
  omega
/-- the cents of the purchase at a row -/
def boughtAt (rs : List CR) (i : Nat) : Int := match rs[i]? with
  | some (.buy _ _ c) => c
  | _ => 0
theorem boughtAt_snoc (rs : List CR) (r : CR) (i : Nat) : boughtAt (rs ++ [r]) i = boughtAt rs i + (if rs.length = i then (match r with | .buy _ _ c => c | .pay _ _ => 0) else 0) := by
  unfold boughtAt
  by_cases h : i < rs.length
  · rw [List.getElem?_append_left h, if_neg (by omega)]
    omega
  · by_cases e : rs.length = i
    · subst e
      rw [List.getElem?_append_right (Nat.le_refl _), Nat.sub_self, if_pos rfl, List.getElem?_eq_none (Nat.le_refl _)]
      cases r <;> simp
    · rw [if_neg e, List.getElem?_eq_none (by simp; omega), List.getElem?_eq_none (by omega)]
      rfl
theorem acOf_paid {ks : List Str} (rk : Str → Int) {M : Int} : ∀ rs : List CR, VR ks rs → (∀ r ∈ rs, 0 ≤ r.day ∧ r.day ≤ M) → POk (acOf rk rs).P rs.length M ∧ ∀ i : Nat, sumAt (acOf rk rs).P i + openAt (acOf rk rs).S i = boughtAt rs i := by
  refine list_snoc_ind (fun _ _ => ⟨POk.nil _ _, fun i => by simp [acOf_nil, sumAt_nil, openAt, partAt, boughtAt]⟩) fun rs r ih hv hd => ?_
  have hv0 : VR ks rs := by
    have := hv.take rs.length
    rwa [List.take_left] at this
  obtain ⟨h1, h2⟩ := ih hv0 fun x hx => hd x (List.mem_append_left _ hx)
  obtain ⟨s1, s2⟩ := acOf_ok rk rs.length rfl hv0
  rw [acOf_snoc]
  have hlen : ((rs ++ [r]).length : Int) = (rs.length : Int) + 1 := by simp
  rw [hlen]
  have hdr := hd r (List.mem_append_right _ (List.mem_singleton_self _))
  cases r with
  | buy d k c =>
    refine ⟨h1.mono (by omega), fun i => ?_⟩
    show sumAt (acOf rk rs).P i + openAt (insO (rk k, (rs.length : Int), c) (acOf rk rs).S) i = _
    have e : openAt (insO (rk k, (rs.length : Int), c) (acOf rk rs).S) i = (if (rs.length : Int) = (i : Int) then c else 0) + openAt (acOf rk rs).S i := by
      unfold openAt
      rw [partAt_perm ((insO_perm _ _).map (·.2)), List.map_cons, partAt_cons]
    rw [e, boughtAt_snoc]
    have := h2 i
    by_cases hi : rs.length = i
    · rw [if_pos hi, if_pos (by omega)]
      show _ = boughtAt rs i + c
      omega
    · rw [if_neg hi, if_neg (by omega)]
      omega
  | pay d c =>
    obtain ⟨a, b⟩ := pay_ok (c := c) h1 s1 (d := d) hdr
    refine ⟨a.mono (by omega), fun i => ?_⟩
    have h3 := b i
    have h4 := h2 i
    rw [boughtAt_snoc]
    show sumAt ((acOf rk rs).pay d c).P i + openAt ((acOf rk rs).pay d c).S i = boughtAt rs i + (if rs.length = i then 0 else 0)
    split <;> omega
/-- all is paid in the end -/
theorem settle_ok {ks : List Str} (rk : Str → Int) {M e : Int} {rs : List CR} (hv : VR ks rs) (hd : ∀ r ∈ rs, 0 ≤ r.day ∧ r.day ≤ M) (he : 0 ≤ e ∧ e ≤ M) :
    POk (settle rk rs e) rs.length M ∧ ∀ i : Nat, sumAt (settle rk rs e) i = boughtAt rs i := by
  obtain ⟨h1, h2⟩ := acOf_paid rk rs hv hd
  obtain ⟨s1, s2⟩ := acOf_ok rk rs.length rfl hv
  obtain ⟨a, b⟩ := pay_ok (c := owedC rs) h1 s1 he
  refine ⟨a, fun i => ?_⟩
  have h3 := b i
  have h4 := h2 i
  have h5 : ((acOf rk rs).pay e (owedC rs)).S = [] := by
    show (payS (acOf rk rs).S (owedC rs)).2 = []
    rw [← s2]
    exact payS_all s1.pos
  rw [h5] at h3
  have h6 : openAt [] (i : Int) = 0 := rfl
  show sumAt ((acOf rk rs).pay e (owedC rs)).P i = _
  omega
theorem settle_len (rk : Str → Int) (rs : List CR) (e : Int) : (settle rk rs e).length ≤ rs.length * rs.length + rs.length := by
  have h1 := acOf_len rk rs
  have h2 := payS_len (acOf rk rs).S (owedC rs)
  have h3 := foldP_len e (payS (acOf rk rs).S (owedC rs)).1 (acOf rk rs).P
  exact Nat.le_trans h3 (by omega)
/-! days of valid rows -/
theorem VR.days {ks : List Str} : ∀ rs : List CR, VR ks rs → 0 ≤ lastDay rs ∧ ∀ r ∈ rs, 0 ≤ r.day ∧ r.day ≤ lastDay rs := by
  refine list_snoc_ind (fun _ => ⟨Int.le_refl _, fun r h => (by cases h)⟩) fun rs r ih hv => ?_
  have hv0 : VR ks rs := by
    have := hv.take rs.length
    rwa [List.take_left] at this
  obtain ⟨h0, h1⟩ := ih hv0
  have hx := hv rs.length r (by simp)
  rw [List.take_left] at hx
  have hd : lastDay rs ≤ r.day := by
    cases r with
    | buy d k c => exact hx.1
    | pay d c => exact hx.1
  rw [lastDay_snoc]
  refine ⟨by omega, fun x hm => ?_⟩
  rcases List.mem_append.mp hm with hm | hm
  · have := h1 x hm
    omega
  · rw [List.mem_singleton.mp hm]
    omega
theorem VR.bought {ks : List Str} {rs : List CR} (hv : VR ks rs) (i : Nat) : 0 ≤ boughtAt rs i ∧ boughtAt rs i ≤ 1000000 := by
  unfold boughtAt
  cases e : rs[i]? with
  | none => exact ⟨Int.le_refl _, by decide⟩
  | some r =>
    cases r with
    | buy d k c =>
      obtain ⟨_, _, h1, h2⟩ := hv i _ e
      exact ⟨by show 0 ≤ c; omega, h2⟩
    | pay d c => exact ⟨Int.le_refl _, by show (0 : Int) ≤ 1000000; decide⟩
/-! pieces -/
abbrev Tri := Int × Int × Int
def piecesL (P : Pd) : List Tri := (srtK (P.map (·.1))).map fun k => (k.1, k.2, (lookP P k).getD 0)
theorem piecesL_perm {P : Pd} (nd : (P.map (·.1)).Nodup) : (piecesL P).Perm (P.map fun p => (p.1.1, p.1.2, p.2)) := by
  refine ((srtK_perm (P.map (·.1))).map _).trans ?_
  rw [List.map_map]
  have e : P.map ((fun k => (k.1, k.2, (lookP P k).getD 0)) ∘ (·.1)) = P.map fun p => (p.1.1, p.1.2, p.2) := List.map_congr_left fun p hp => by
    show (p.1.1, p.1.2, (lookP P p.1).getD 0) = _
    rw [lookP_mem nd hp]
    rfl
  rw [e]
theorem sumAt_le {P : Pd} (h : ∀ p ∈ P, 1 ≤ p.2) : ∀ p ∈ P, p.2 ≤ sumAt P p.1.1 ∧ ∀ n, 0 ≤ sumAt P n := by
  have h0 : ∀ (R : Pd), (∀ p ∈ R, 1 ≤ p.2) → ∀ n, 0 ≤ sumAt R n := fun R => by
    induction R with
    | nil => intro _ n; exact Int.le_refl _
    | cons q R ih =>
      intro h n
      rw [sumAt_cons]
      have := ih (fun p hp => h p (List.mem_cons_of_mem _ hp)) n
      have := h q (List.mem_cons_self ..)
      split <;> omega
  intro p hp
  refine ⟨?_, h0 P h⟩
  induction P with
  | nil => cases hp
  | cons q R ih =>
    rw [sumAt_cons]
    have hq := h q (List.mem_cons_self ..)
    have hR : ∀ p ∈ R, 1 ≤ p.2 := fun p hp => h p (List.mem_cons_of_mem _ hp)
    have h1 := h0 R hR p.1.1
    rcases List.mem_cons.mp hp with rfl | hp
    · rw [if_pos rfl]
      omega
    · have := ih hR hp
      split <;> omega
theorem perm_sum {l m : List Int} (p : l.Perm m) : l.sum = m.sum := by
  induction p with
  | nil => rfl
  | cons x _ ih => simp [ih]
  | swap x y l => simp; omega
  | trans _ _ h1 h2 => exact h1.trans h2
theorem pieces_sum {P : Pd} (nd : (P.map (·.1)).Nodup) (n : Int) : (((piecesL P).filter fun t => decide (t.1 = n)).map (·.2.2)).sum = sumAt P n := by
  rw [perm_sum (((piecesL_perm nd).filter _).map _)]
  unfold sumAt
  congr 1
  rw [List.filter_map, List.map_map]
  rfl
/-! the law's own laying -/
def stepL (d : Int) (x : Pd × List Op × Int) (o : Op) : Pd × List Op × Int :=
  (if 0 < min x.2.2 o.2.2 then addP x.1 (o.2.1, d) (min x.2.2 o.2.2) else x.1, x.2.1 ++ (if min x.2.2 o.2.2 < o.2.2 then [(o.1, o.2.1, o.2.2 - min x.2.2 o.2.2)] else []), x.2.2 - min x.2.2 o.2.2)
theorem stepL_zero (d : Int) : ∀ (S : List Op) (P : Pd) (L : List Op), (∀ o ∈ S, 1 ≤ o.2.2) → S.foldl (stepL d) (P, L, 0) = (P, L ++ S, 0)
  | [], P, L, _ => by simp
  | o :: S, P, L, h => by
    have h1 := h o (List.mem_cons_self ..)
    rw [List.foldl_cons]
    have e : stepL d (P, L, 0) o = (P, L ++ [o], 0) := by
      unfold stepL
      have m : min (0 : Int) o.2.2 = 0 := by omega
      show ((if 0 < min (0 : Int) o.2.2 then _ else P), L ++ (if min (0 : Int) o.2.2 < o.2.2 then [(o.1, o.2.1, o.2.2 - min (0 : Int) o.2.2)] else []), (0 : Int) - min (0 : Int) o.2.2) = _
      rw [m, if_neg (by omega), if_pos (by omega), Int.sub_zero]
      rfl
    rw [e, stepL_zero d S P _ fun x hx => h x (List.mem_cons_of_mem _ hx)]
    simp
theorem stepL_pay (d : Int) : ∀ (S : List Op) (P : Pd) (L : List Op) (c : Int), (∀ o ∈ S, 1 ≤ o.2.2) → 0 ≤ c → (S.foldl (stepL d) (P, L, c)).1 = (payS S c).1.foldl (fun P x => addP P (x.1, d) x.2) P ∧ (S.foldl (stepL d) (P, L, c)).2.1 = L ++ (payS S c).2
  | [], P, L, c, _, _ => by simp [payS]
  | o :: S, P, L, c, h, hc => by
    have h1 := h o (List.mem_cons_self ..)
    have h2 : ∀ x ∈ S, 1 ≤ x.2.2 := fun x hx => h x (List.mem_cons_of_mem _ hx)
    by_cases c0 : c ≤ 0
    · have : c = 0 := by omega
      subst this
      rw [stepL_zero d _ P L h]
      unfold payS
      rw [if_pos (Int.le_refl _)]
      exact ⟨rfl, rfl⟩
    · rw [List.foldl_cons]
      by_cases c1 : c < o.2.2
      · have e : stepL d (P, L, c) o = (addP P (o.2.1, d) c, L ++ [(o.1, o.2.1, o.2.2 - c)], 0) := by
          unfold stepL
          show ((if 0 < min c o.2.2 then addP P (o.2.1, d) (min c o.2.2) else P), L ++ (if min c o.2.2 < o.2.2 then [(o.1, o.2.1, o.2.2 - min c o.2.2)] else []), c - min c o.2.2) = _
          rw [show min c o.2.2 = c by omega, if_pos (by omega), if_pos c1, Int.sub_self]
        rw [e, stepL_zero d S _ _ h2]
        unfold payS
        rw [if_neg c0, if_pos c1]
        exact ⟨rfl, by simp⟩
      · have e : stepL d (P, L, c) o = (addP P (o.2.1, d) o.2.2, L, c - o.2.2) := by
          unfold stepL
          show ((if 0 < min c o.2.2 then addP P (o.2.1, d) (min c o.2.2) else P), L ++ (if min c o.2.2 < o.2.2 then [(o.1, o.2.1, o.2.2 - min c o.2.2)] else []), c - min c o.2.2) = _
          rw [show min c o.2.2 = o.2.2 by omega, if_pos (by omega), if_neg (by omega), List.append_nil]
        obtain ⟨a, b⟩ := stepL_pay d S (addP P (o.2.1, d) o.2.2) L (c - o.2.2) h2 (by omega)
        have e2 : payS (o :: S) c = ((o.2.1, o.2.2) :: (payS S (c - o.2.2)).1, (payS S (c - o.2.2)).2) := by
          conv => lhs; unfold payS
          rw [if_neg c0, if_neg c1]
        rw [e, a, b, e2]
        exact ⟨rfl, rfl⟩
theorem stepL_len (d : Int) : ∀ (S : List Op) (x : Pd × List Op × Int), (S.foldl (stepL d) x).2.1.length ≤ x.2.1.length + S.length ∧ (S.foldl (stepL d) x).1.length ≤ x.1.length + S.length
  | [], x => by simp
  | o :: S, x => by
    rw [List.foldl_cons]
    have h1 := stepL_len d S (stepL d x o)
    have h2 : (stepL d x o).2.1.length ≤ x.2.1.length + 1 := by
      unfold stepL
      show (x.2.1 ++ _).length ≤ _
      rw [List.length_append]
      split <;> simp
    have h3 : (stepL d x o).1.length ≤ x.1.length + 1 := by
      unfold stepL
      show (if _ then _ else _ : Pd).length ≤ _
      split
      · exact addP_len _ _ _
      · omega
    simp only [List.length_cons]
    omega
end Wp
set_option Elab.async false
set_option linter.all false
set_option maxRecDepth 100000
set_option maxHeartbeats 4000000
/-! Courses as they stand in the heap; lists of triples; sorted of triples. -/
namespace Wp
open PySem PySem.Spec PyProof.Rows L2
def encCR : CR → List V
  | .buy d k c => [.str "buy", .int d, .str k, .int c]
  | .pay d c => [.str "pay", .int d, .int c]
inductive RAt (H : Hp) : List V → List CR → Prop
  | nil : RAt H [] []
  | cons {t : Addr} {r : CR} {ws : List V} {rs : List CR} : H t = some (.tup (encCR r)) → RAt H ws rs → RAt H (.ref t :: ws) (r :: rs)
theorem RAt.keep {H H' : Hp} {ws : List V} {rs : List CR} (h : RAt H ws rs) (e : ∀ t xs, H t = some (.tup xs) → H' t = some (.tup xs)) : RAt H' ws rs := by
  induction h with
  | nil => exact .nil
  | cons h _ ih => exact .cons (e _ _ h) ih
theorem RAt.same {H H' : Hp} {ws : List V} {rs : List CR} (h : RAt H ws rs) (e : Same H H') : RAt H' ws rs := h.keep fun _ _ q => e _ _ q
theorem RAt.len {H : Hp} {ws : List V} {rs : List CR} (h : RAt H ws rs) : ws.length = rs.length := by
  induction h with
  | nil => rfl
  | cons _ _ ih => simp [ih]
theorem RAt.get {H : Hp} {ws : List V} {rs : List CR} (h : RAt H ws rs) : ∀ {i : Nat} {x : V}, ws[i]? = some x → ∃ t r, x = .ref t ∧ rs[i]? = some r ∧ H t = some (.tup (encCR r)) := by
  induction h with
  | nil => intro i x e; simp at e
  | @cons t r ws rs h _ ih =>
    intro i x e
    cases i with
    | zero => exact ⟨t, r, (Option.some.inj e).symm, rfl, h⟩
    | succ i =>
      obtain ⟨t', r', h1, h2, h3⟩ := ih (i := i) (by simpa using e)
      exact ⟨t', r', h1, by simpa using h2, h3⟩
theorem RAt.snoc {H : Hp} {ws : List V} {rs : List CR} {t : Addr} {r : CR} (h : RAt H ws rs) (ht : H t = some (.tup (encCR r))) : RAt H (ws ++ [.ref t]) (rs ++ [r]) := by
  induction h with
  | nil => exact .cons ht .nil
  | cons h _ ih => exact .cons h ih
/-- a course stands at p -/
def CourAt (K : PySem.W.Frag) (H : Hp) (p : Addr) (rs : List CR) (e : Int) : Prop := ∃ l ws, H p = some (.tup [.ref l, .int e]) ∧ SeqV K H l ws ∧ RAt H ws rs
theorem CourAt.keep {K : PySem.W.Frag} {H H' : Hp} {p : Addr} {rs : List CR} {e : Int} (h : CourAt K H p rs e) (s : Same H H') : CourAt K H' p rs e := by
  obtain ⟨l, ws, h1, h2, h3⟩ := h
  exact ⟨l, ws, s _ _ h1, h2.same s, h3.same s⟩
/-- the law's route -/
def RtAt (lg : Addr) (H : Hp) (p : Addr) (rs : List CR) (e : Int) : Prop := ∃ l ws, H p = some (.tup [.ref l, .int e]) ∧ H l = some (.lst ws) ∧ l ≠ lg ∧ RAt H ws rs
theorem RtAt.keep {lg : Addr} {H H' : Hp} {p : Addr} {rs : List CR} {e : Int} (h : RtAt lg H p rs e) (s : Same H H') : RtAt lg H' p rs e := by
  obtain ⟨l, ws, h1, h2, n, h3⟩ := h
  exact ⟨l, ws, s _ _ h1, s _ _ h2, n, h3.same s⟩
theorem RtAt.cour {K : PySem.W.Frag} {lg : Addr} {H : Hp} {p : Addr} {rs : List CR} {e : Int} (h : RtAt lg H p rs e) : CourAt K H p rs e := by
  obtain ⟨l, ws, h1, h2, n, h3⟩ := h
  exact ⟨l, ws, h1, .inl (SqL.of h2), h3⟩
/-! triples -/
inductive TAt (H : Hp) : List V → List Tri → Prop
  | nil : TAt H [] []
  | cons {t : Addr} {r : Tri} {ws : List V} {rs : List Tri} : H t = some (.tup [.int r.1, .int r.2.1, .int r.2.2]) → TAt H ws rs → TAt H (.ref t :: ws) (r :: rs)
theorem TAt.keep {H H' : Hp} {ws : List V} {rs : List Tri} (h : TAt H ws rs) (e : ∀ t xs, H t = some (.tup xs) → H' t = some (.tup xs)) : TAt H' ws rs := by
  induction h with
  | nil => exact .nil
  | cons h _ ih => exact .cons (e _ _ h) ih
theorem TAt.same {H H' : Hp} {ws : List V} {rs : List Tri} (h : TAt H ws rs) (e : Same H H') : TAt H' ws rs := h.keep fun _ _ q => e _ _ q
theorem TAt.len {H : Hp} {ws : List V} {rs : List Tri} (h : TAt H ws rs) : ws.length = rs.length := by
  induction h with
  | nil => rfl
  | cons _ _ ih => simp [ih]
theorem TAt.get {H : Hp} {ws : List V} {rs : List Tri} (h : TAt H ws rs) : ∀ {i : Nat} {x : V}, ws[i]? = some x → ∃ t r, x = .ref t ∧ rs[i]? = some r ∧ H t = some (.tup [.int r.1, .int r.2.1, .int r.2.2]) := by
  induction h with
  | nil => intro i x e; simp at e
  | @cons t r ws rs h _ ih =>
    intro i x e
    cases i with
    | zero => exact ⟨t, r, (Option.some.inj e).symm, rfl, h⟩
    | succ i =>
      obtain ⟨t', r', h1, h2, h3⟩ := ih (i := i) (by simpa using e)
      exact ⟨t', r', h1, by simpa using h2, h3⟩
theorem TAt.app {H : Hp} {ws us : List V} {rs ss : List Tri} (h : TAt H ws rs) (h2 : TAt H us ss) : TAt H (ws ++ us) (rs ++ ss) := by
  induction h with
  | nil => exact h2
  | cons h _ ih => exact .cons h ih
theorem TAt.zs {H : Hp} {ws : List V} {rs : List Tri} (h : TAt H ws rs) : ∃ zs : List (Addr × Tri), ws = zs.map (fun z => V.ref z.1) ∧ rs = zs.map (·.2) ∧ ∀ z ∈ zs, H z.1 = some (.tup [.int z.2.1, .int z.2.2.1, .int z.2.2.2]) := by
  induction h with
  | nil => exact ⟨[], rfl, rfl, fun z h => by cases h⟩
  | @cons t r ws rs h _ ih =>
    obtain ⟨zs, h1, h2, h3⟩ := ih
    refine ⟨(t, r) :: zs, by rw [h1]; rfl, by rw [h2]; rfl, fun z hz => ?_⟩
    rcases List.mem_cons.mp hz with rfl | hz
    · exact h
    · exact h3 z hz
theorem TAt.of {H : Hp} : ∀ (zs : List (Addr × Tri)), (∀ z ∈ zs, H z.1 = some (.tup [.int z.2.1, .int z.2.2.1, .int z.2.2.2])) → TAt H (zs.map fun z => V.ref z.1) (zs.map (·.2))
  | [], _ => .nil
  | z :: zs, h => .cons (h z (List.mem_cons_self ..)) (TAt.of zs fun y hy => h y (List.mem_cons_of_mem _ hy))
def enc3 (t : Tri) : PyData := .tuple [.int t.1, .int t.2.1, .int t.2.2]
theorem TAt.dp {K : PySem.W.Frag} {H : Hp} {ws : List V} {rs : List Tri} (h : TAt H ws rs) : DpAll K H ws (rs.map enc3) := by
  induction h with
  | nil => exact .nil
  | cons h _ ih => exact .cons (.tup (SqT.of h) (.cons (.int _) (.cons (.int _) (.cons (.int _) .nil)))) ih
def leT (p q : Tri) : Bool := decide (p.1 < q.1 ∨ (p.1 = q.1 ∧ (p.2.1 < q.2.1 ∨ (p.2.1 = q.2.1 ∧ p.2.2 ≤ q.2.2))))
theorem lt3 (x y z x' y' z' : Int) : PySem.W.dataLt (.tuple [.int x, .int y, .int z]) (.tuple [.int x', .int y', .int z']) = decide (x < x' ∨ (x = x' ∧ (y < y' ∨ (y = y' ∧ z < z')))) := by
  rw [PySem.W.dataLt_tuple, PySem.W.dataLt_cons (by simp [PySem.W.alike]), PySem.W.dataLt_cons (by simp [PySem.W.alike]), PySem.W.dataLt_cons (by simp [PySem.W.alike]), PySem.W.dataLt_int, PySem.W.dataLt_int, PySem.W.dataLt_int]
  have e : PyProof.Rows.lexLt PyProof.Rows.itemOrd (PySem.W.keyToksAll []) (PySem.W.keyToksAll []) = false := PyProof.Rows.lex_irrefl _
  rw [e]
  simp only [PyData.eqv, beq_iff_eq]
  by_cases h1 : x = x' <;> by_cases h2 : y = y' <;> by_cases h3 : z = z' <;> simp [h1, h2, h3]
theorem leT_eq : PySem.W.dataLe false enc3 = leT := by
  funext p q
  show (!PySem.W.dataLt (.tuple [.int q.1, .int q.2.1, .int q.2.2]) (.tuple [.int p.1, .int p.2.1, .int p.2.2])) = _
  rw [lt3]
  unfold leT
  by_cases h : q.1 < p.1 ∨ (q.1 = p.1 ∧ (q.2.1 < p.2.1 ∨ (q.2.1 = p.2.1 ∧ q.2.2 < p.2.2)))
  · rw [decide_eq_true h, decide_eq_false (by omega)]
    rfl
  · rw [decide_eq_false h, decide_eq_true (by omega)]
    rfl
theorem leT_trans (a b c : Tri) (h1 : leT a b = true) (h2 : leT b c = true) : leT a c = true := by
  have h1 := of_decide_eq_true h1
  have h2 := of_decide_eq_true h2
  exact decide_eq_true (by omega)
theorem leT_total (a b : Tri) : (leT a b || leT b a) = true := by
  by_cases h : leT a b = true
  · rw [h]; rfl
  · have h := of_decide_eq_false (Bool.eq_false_iff.mpr h)
    rw [show leT b a = true from decide_eq_true (by omega), Bool.or_true]
theorem leT_anti {a b : Tri} (h1 : leT a b = true) (h2 : leT b a = true) : a = b := by
  have h1 := of_decide_eq_true h1
  have h2 := of_decide_eq_true h2
  refine Prod.ext (by omega) (Prod.ext (by omega) (by omega))
theorem ltO_leT {a b : Op} (h : ltO a b) : leT a b = true := by
  unfold ltO at h
  exact decide_eq_true (by omega)
theorem tri_alike (ks : List Tri) : PySem.W.AllAlike (ks.map enc3) := PySem.W.AllAlike.of fun a b => by simp [enc3, PySem.W.alike, PySem.W.alikeAll]
theorem tri_sortable (ks : List Tri) : PySem.W.Sortable (ks.map enc3) := PySem.W.Sortable.tuples fun r => ⟨_, _, rfl⟩
theorem tri_depth (ks : List Tri) : ∀ d ∈ ks.map enc3, d.depth ≤ 20 := fun d hd => by
  obtain ⟨z, _, rfl⟩ := List.mem_map.mp hd
  simp [enc3, PyData.depth, PyData.depthAll]
section
variable {K : PySem.W.Frag} {H : Hp} {Q : VK} {p a : Addr} {ws : List V} {S : List Tri} {σ : L2.St} {g : TG} {tw : TS} {D : Ends} {xs : List V} {n : Nat} {i j : Int} {td ty : TE}
theorem r_sortO {S0 : List Op} (h : SeqV K H p ws) (hO : TAt H ws S) (pm : S.Perm S0) (asc : S0.Pairwise ltO) (hz : ws.length ≤ 1000000) (q : ∀ t ws' H', H t = none → Same H H' → H' t = some (.lst ws') → TAt H' ws' S0 → Q (.ref t) H') : rSortD K [.ref p] H Q := by
  obtain ⟨zs, rfl, rfl, hzs⟩ := hO.zs
  refine ⟨p, _, (zs.map (·.2)).map enc3, rfl, h, hO.dp, tri_alike _, tri_sortable _, hz, tri_depth _, fun t ht => ?_⟩
  have e : srtV (zs.map fun z => V.ref z.1) ((zs.map (·.2)).map enc3) = (zs.mergeSort fun a b => leT a.2 b.2).map fun z => V.ref z.1 := by
    rw [List.map_map, srt_map]
    congr 1
    have : PySem.W.dataLe false (enc3 ∘ fun z : Addr × Tri => z.2) = fun a b => leT a.2 b.2 := by
      funext x y
      exact congrFun (congrFun leT_eq x.2) y.2
    rw [this]
  rw [e]
  have pz := List.mergeSort_perm zs fun a b => leT a.2 b.2
  have e2 : (zs.mergeSort fun a b => leT a.2 b.2).map (·.2) = S0 := by
    refine List.Perm.eq_of_pairwise (le := fun a b => leT a b = true) (fun _ _ _ _ h1 h2 => leT_anti h1 h2) ?_ (asc.imp fun h => ltO_leT h) ((pz.map _).trans pm)
    rw [List.pairwise_map]
    exact List.pairwise_mergeSort (fun a b c => leT_trans a.2 b.2 c.2) (fun a b => leT_total a.2 b.2) zs
  refine q t _ _ ht (Same.new ht) upd_same ?_
  rw [← e2]
  exact TAt.of _ fun z hz => Same.new ht _ _ (hzs z (pz.mem_iff.mp hz))
/-! enumerate of a list or a tuple, while other things change -/
theorem r_forES2 {H0 : Hp} (hv : σ[n]? = some (some (.ref a))) (hl : SeqV K H0 a xs) (h00 : Same H0 H) (Pv : Nat → L2.St → Hp → Prop) (h0 : Pv 0 σ H) (hk : ∀ i σ' H', Pv i σ' H' → Same H0 H')
    (hs : ∀ i x T σ' H1 H', xs[i]? = some x → Pv i σ' H1 → H1 T = none → Same H1 H' → H' T = some (.tup [.int (i : Nat), x]) → g (.ref T) σ' H' fun σ2 H2 => tw { D with nx := Pv (i + 1), ct := Pv (i + 1), bk := D.nx } σ2 H2)
    (hd : ∀ σ' H', Pv xs.length σ' H' → D.nx σ' H') : tFor (iEither (iEnum K (tCons (tVar n) tNil)) (iEnumT K (tCons (tVar n) tNil))) g tw D σ H := by
  rcases hl with hl | hl
  · exact .inl (r_cons (r_var hv (r_nil (r_kForE Pv (SqL.same h00 hl) h0 (fun i σ' H' p => SqL.same (hk i σ' H' p) hl) hs hd))))
  · refine .inr (r_cons (r_var hv (r_nil ?_)))
    refine ⟨a, xs, rfl, SqT.same h00 hl, fun i m σ H => m = xs.length - i ∧ i ≤ xs.length ∧ Pv i σ H, ⟨xs.length, by simp, Nat.zero_le _, h0⟩, ?_⟩
    rintro i m σ H ⟨rfl, hi, p⟩
    have q := SqT.same (hk i σ H p) hl
    by_cases hlt : i < xs.length
    · refine .inr ⟨⟨xs, xs[i], q, by simp [hlt]⟩, Pv (i + 1), fun σ' H' p' => ⟨xs.length - (i + 1), by omega, rfl, hlt, p'⟩, fun x H' y => ?_⟩
      obtain ⟨T, z, rfl, nT, rfl, y⟩ := y
      exact hs i z T σ H _ (y xs q) p nT (Same.new nT) upd_same
    · have e : i = xs.length := by omega
      subst e
      exact .inl ⟨⟨xs, q, Nat.le_refl _⟩, hd σ H p⟩
/-! a key in a dict -/
def kDIn (Q : VK) (y : V) : VK := fun x H2 => ∃ a o, x = .ref a ∧ DGet H2 a y o ∧ Q (.bl o.isSome) H2
theorem r_din (q : ty σ H fun y H1 => td σ H1 (kDIn Q y)) : tDIn ty td σ H Q := q
theorem r_kDInS {kvs : List (Key × V)} {z : Str} {v : V} (h1 : H a = some (.dK kvs)) (h2 : valV kvs (Sum.inr z) = some v) (q : Q (.bl true) H) : kDIn Q (.str z) (.ref a) H :=
  ⟨a, some v, rfl, .inl ⟨kvs, Sum.inr z, .inl h1, rfl, h2.symm⟩, q⟩
theorem r_cont (q : D.ct σ H) : tCont D σ H := q
/-! a list some times -/
theorem r_rep {l : Addr} {k : Int} {xs : List V} (h : H l = some (.lst xs)) (h0 : 0 ≤ k) (h1 : k ≤ 1000) (hz : xs.length ≤ 1000) (q : ∀ p H', H p = none → Same H H' → H' p = some (.lst (List.replicate k.toNat xs).flatten) → Q (.ref p) H') : rRep (.ref l) (.int k) H Q := by
  refine ⟨l, k, xs, rfl, rfl, h, by omega, by omega, ?_, fun p hp => q p _ hp (Same.new hp) upd_same⟩
  refine sz5 (Nat.le_trans (Nat.mul_le_mul hz (show k.toNat ≤ 1000 by omega)) (by decide))
/-! repr of triples -/
theorem sm_tris : ∀ {ps : List Tri}, (∀ p ∈ ps, p.1.natAbs < 10 ^ 60 ∧ p.2.1.natAbs < 10 ^ 60 ∧ p.2.2.natAbs < 10 ^ 60) → smAll (ps.map enc3) = true ∧ wzAll (ps.map enc3) = 194 * ps.length
  | [], _ => ⟨rfl, by simp [wzAll]⟩
  | r :: rs, h => by
    obtain ⟨h1, h2⟩ := sm_tris fun r' hr' => h r' (List.mem_cons_of_mem _ hr')
    obtain ⟨a1, a2, a3⟩ := h r (List.mem_cons_self ..)
    constructor
    · rw [List.map_cons, smAll_cons, h1, Bool.and_true]
      simp only [enc3, smI, smAll_cons]
      rw [decide_eq_true a1, decide_eq_true a2, decide_eq_true a3]
      simp [smAll]
    · rw [List.map_cons, wzAll]
      simp only [enc3, wz, wzAll, List.length_cons]
      omega
theorem depth_tris : ∀ rs : List Tri, PyData.depthAll (rs.map enc3) ≤ 2
  | [] => by simp [PyData.depthAll]
  | r :: rs => by
    have := depth_tris rs
    simp only [List.map_cons, PyData.depthAll, enc3, PyData.depth]
    omega
theorem r_repr3 {ps : List Tri} (h : SqL K H p ws) (hr : TAt H ws ps) (ok : ∀ p ∈ ps, p.1.natAbs < 10 ^ 60 ∧ p.2.1.natAbs < 10 ^ 60 ∧ p.2.2.natAbs < 10 ^ 60) (hz : ps.length ≤ 50000) (q : Q (.str (PyData.list (ps.map enc3)).shown) H) : rRepr K [.ref p] H Q := by
  obtain ⟨h1, h2⟩ := sm_tris ok
  refine r_repr (d := .list (ps.map enc3)) (.lst h hr.dp) ?_ ?_ ?_ q
  · simpa [smI] using h1
  · have := depth_tris ps
    simp only [PyData.depth]
    omega
  · simp only [wz]
    omega
/-! repr of a route -/
def encCRow : CR → PyData
  | .buy d k c => .tuple [.str "buy", .int d, .str k, .int c]
  | .pay d c => .tuple [.str "pay", .int d, .int c]
theorem RAt.dp {ws : List V} {rs : List CR} (h : RAt H ws rs) : DpAll K H ws (rs.map encCRow) := by
  induction h with
  | nil => exact .nil
  | @cons t r ws rs h _ ih =>
    refine .cons ?_ ih
    cases r with
    | buy d k c => exact .tup (SqT.of h) (.cons (.str _) (.cons (.int _) (.cons (.str _) (.cons (.int _) .nil))))
    | pay d c => exact .tup (SqT.of h) (.cons (.str _) (.cons (.int _) (.cons (.int _) .nil)))
theorem sm_nameC {z : Str} (h : NameOk z) : smI (.str z) = true ∧ z.length ≤ 8 := by
  refine ⟨?_, h.hi⟩
  simp only [smI, List.all_eq_true]
  intro c hc
  have := h.low c hc
  exact decide_eq_true (Nat.lt_of_le_of_lt this.2 (by decide))
def RSm : CR → Prop
  | .buy d k c => d.natAbs < 10 ^ 60 ∧ NameOk k ∧ c.natAbs < 10 ^ 60
  | .pay d c => d.natAbs < 10 ^ 60 ∧ c.natAbs < 10 ^ 60
theorem sm_buy : smI (.str "buy") = true ∧ wz (.str "buy") = 38 := by decide +kernel
theorem sm_payw : smI (.str "pay") = true ∧ wz (.str "pay") = 38 := by decide +kernel
theorem sm_crow {r : CR} (h : RSm r) : smI (encCRow r) = true ∧ wz (encCRow r) ≤ 300 := by
  cases r with
  | buy d k c =>
    obtain ⟨h1, h2, h3⟩ := h
    obtain ⟨k1, k2⟩ := sm_nameC h2
    constructor
    · simp only [encCRow]
      rw [smI, smAll_cons, smAll_cons, smAll_cons, smAll_cons, sm_buy.1, k1]
      simp only [smI, smAll]
      rw [decide_eq_true h1, decide_eq_true h3]
      rfl
    · simp only [encCRow]
      rw [wz, wzAll, wzAll, wzAll, wzAll, wzAll, sm_buy.2]
      simp only [wz]
      have : k.length = k.cps.size := rfl
      omega
  | pay d c =>
    obtain ⟨h1, h3⟩ := h
    constructor
    · simp only [encCRow]
      rw [smI, smAll_cons, smAll_cons, smAll_cons, sm_payw.1]
      simp only [smI, smAll]
      rw [decide_eq_true h1, decide_eq_true h3]
      rfl
    · simp only [encCRow]
      rw [wz, wzAll, wzAll, wzAll, wzAll, sm_payw.2]
      simp only [wz]
      omega
theorem sm_crows : ∀ {rs : List CR}, (∀ r ∈ rs, RSm r) → smAll (rs.map encCRow) = true ∧ wzAll (rs.map encCRow) ≤ 302 * rs.length
  | [], _ => ⟨rfl, by simp [wzAll]⟩
  | r :: rs, h => by
    obtain ⟨h1, h2⟩ := sm_crows fun r' hr' => h r' (List.mem_cons_of_mem _ hr')
    obtain ⟨a1, a2⟩ := sm_crow (h r (List.mem_cons_self ..))
    constructor
    · rw [List.map_cons, smAll_cons, h1, a1]
      rfl
    · rw [List.map_cons, wzAll, List.length_cons]
      omega
theorem depth_crows : ∀ rs : List CR, PyData.depthAll (rs.map encCRow) ≤ 2
  | [] => by simp [PyData.depthAll]
  | r :: rs => by
    have := depth_crows rs
    cases r <;> simp only [List.map_cons, PyData.depthAll, encCRow, PyData.depth] <;> omega
def routeD (rs : List CR) (e : Int) : PyData := .tuple [.list (rs.map encCRow), .int e]
theorem r_reprRt {lg p : Addr} {rs : List CR} {e : Int} (h : RtAt lg H p rs e) (ok : ∀ r ∈ rs, RSm r) (he : e.natAbs < 10 ^ 60) (hz : rs.length ≤ 1000) (q : Q (.str (routeD rs e).shown) H) : rRepr K [.ref p] H Q := by
  obtain ⟨l, ws, h1, h2, _, h3⟩ := h
  obtain ⟨s1, s2⟩ := sm_crows ok
  have dd := depth_crows rs
  refine r_repr (d := routeD rs e) (.tup (SqT.of h1) (.cons (.lst (SqL.of h2) h3.dp) (.cons (.int _) .nil))) ?_ ?_ ?_ q
  · simp only [routeD, smI, smAll]
    rw [s1, decide_eq_true he]
    rfl
  · simp only [routeD, PyData.depth, PyData.depthAll]
    omega
  · simp only [routeD, wz, wzAll]
    omega
end
end Wp
set_option Elab.async false
set_option linter.all false
set_option maxRecDepth 100000
set_option maxHeartbeats 4000000
namespace Wp
open PySem PySem.Spec PyProof.Rows L2
abbrev s_Book_lengths : Stmt := inClass (topS 29) 1
abbrev s_Book_due : Stmt := inClass (topS 29) 2
abbrev s_Book_kinds : Stmt := inClass (topS 29) 3
abbrev s_Book_memory : Stmt := inClass (topS 29) 4
abbrev s_Book_begins : Stmt := inClass (topS 29) 5
abbrev s_Book_laid : Stmt := inClass (topS 29) 6
local macro_rules | `(tactic| walk_at "val") => `(tactic| assumption)
local macro_rules | `(tactic| walk_at "rd1") => `(tactic| first
  | with_reducible refine r_seq ?_ | with_reducible refine r_next ?_ | with_reducible refine r_if ?_ | with_reducible refine r_asg ?_ | with_reducible refine r_gname ?_
  | with_reducible refine r_ret ?_ | with_reducible refine r_retN ?_ | with_reducible refine r_drop ?_ | with_reducible refine r_par ?_ | with_reducible refine r_kPar ?_
  | ((with_reducible refine' r_var ?hv ?_); (case hv => exact rfl)) | with_reducible refine r_c ?_ | with_reducible refine r_nil ?_ | with_reducible refine r_cons ?_
  | with_reducible refine r_fn ?_ | with_reducible refine r_cb ?_ | with_reducible refine r_op ?_ | with_reducible refine r_un ?_ | with_reducible refine r_I0 ?_
  | with_reducible refine r_pow5 ?_ | with_reducible refine r_pow6 ?_ | with_reducible refine r_pow7 ?_ | with_reducible refine r_pow9 ?_ | with_reducible refine r_pow18 ?_ | with_reducible refine r_pow20 ?_ | with_reducible refine r_pow30 ?_
  | with_reducible refine r_isN_non ?_ | with_reducible refine r_isN_ref ?_ | with_reducible refine r_isN_int ?_ | with_reducible refine r_isN_str ?_ | with_reducible refine r_isN_bl ?_ | with_reducible refine r_notN_non ?_ | with_reducible refine r_notN_ref ?_ | with_reducible refine r_notN_int ?_ | with_reducible refine r_notN_str ?_ | with_reducible refine r_notN_bl ?_
  | ((with_reducible refine r_I ?hc ?_); (case hc => walk_at "side")) | with_reducible refine r_U ?_
  | with_reducible refine r_eqI ?_ | with_reducible refine r_neI ?_ | with_reducible refine r_eqS ?_ | with_reducible refine r_neS ?_ | with_reducible refine r_eqB ?_ | with_reducible refine r_neB ?_
  | with_reducible refine r_chain ?_ | with_reducible refine r_test ?_ | with_reducible refine r_tB ?_ | with_reducible refine r_kTest ?_ | with_reducible refine r_not ?_
  | with_reducible refine r_and ?_ | with_reducible refine r_or ?_ | with_reducible refine r_tif ?_ | with_reducible refine r_andV ?_ | with_reducible refine r_orV ?_ | with_reducible refine r_notV ?_
  | with_reducible refine r_kAndV ?_ | with_reducible refine r_kOrV ?_ | with_reducible refine r_kNotV ?_
  | with_reducible refine w_T ?_ | with_reducible refine w_F ?_ | with_reducible refine w_NT ?_ | with_reducible refine w_NF ?_
  | with_reducible refine r_tup ?_ | with_reducible refine r_lst ?_ | with_reducible refine r_fld ?_ | with_reducible refine r_prop ?_ | ((with_reducible refine' r_aug ?h1 ?_); (case h1 => exact rfl)) | with_reducible refine r_ipI ?_ | with_reducible refine r_dget ?_ | with_reducible refine r_dput ?_ | with_reducible refine r_bm ?_
  | ((with_reducible refine' r_kDGetS ?h1 ?h2 ?_); (case h1 => assumption); (case h2 => walk_at "val"))
  | ((with_reducible refine' r_kBML ?h1 ?_); (case h1 => assumption))
  | with_reducible refine r_forL ?_ | with_reducible refine r_forR1 ?_ | with_reducible refine r_forR2 ?_ | with_reducible refine r_forT ?_ | with_reducible refine r_lcL ?_ | with_reducible refine r_lcR1 ?_
  | ((with_reducible refine r_kLcG ?hw ?_); (case hw => exact rfl)) | with_reducible refine r_kLcT ?_ | with_reducible refine r_yes ?_
  | with_reducible refine r_pnil ?_ | with_reducible refine r_pcons ?_
  | with_reducible refine r_fnK ?_ | ((with_reducible refine r_kFnK ?hl ?_); (case hl => exact rfl))
  | with_reducible refine r_isi_ii ?_ | with_reducible refine r_isi_ib ?_ | with_reducible refine r_isi_bi ?_ | with_reducible refine r_isi_bb ?_ | with_reducible refine r_isi_ss ?_ | with_reducible refine r_isi_is ?_ | with_reducible refine r_isi_it ?_
  | ((with_reducible refine' r_isi_tt ?h1 ?_); (case h1 => assumption))
  | with_reducible refine r_sfld ?_ | with_reducible refine r_gnil ?_ | with_reducible refine r_gcons ?_
  | ((with_reducible refine' r_gtup ?h1 ?h2 ?_); (case h1 => exact SqT.of (by assumption)); (case h2 => exact rfl))
  | with_reducible refine r_sl ?_ | with_reducible refine r_noPart ?_ | with_reducible refine r_part ?_ | with_reducible refine r_kPart ?_ | with_reducible refine r_m1 ?_ | with_reducible refine r_kM1 ?_ | with_reducible refine r_forS ?_ | with_reducible refine r_lcS ?_ | with_reducible refine r_lcTu ?_ | with_reducible refine r_lcK ?_ | with_reducible refine r_dcL ?_ | with_reducible refine r_dcK ?_ | with_reducible refine r_lc2L ?_ | with_reducible refine r_kLc2TL ?_ | with_reducible refine r_dcEn ?_ | with_reducible refine r_gslc ?_ | with_reducible refine r_lcEn ?_ | with_reducible refine r_forET ?_ | with_reducible refine r_lenD ?_
  | ((with_reducible refine r_kDcG ?hw ?_); (case hw => exact rfl)) | with_reducible refine r_kDcT ?_
  | with_reducible refine r_fldaug ?_ | with_reducible refine r_daug ?_ | with_reducible refine r_rAdd ?_ | with_reducible refine r_rSub ?_ | with_reducible refine r_ddel ?_ | with_reducible refine r_bmF ?_ | with_reducible refine r_dget2 ?_ | with_reducible refine r_listItems ?_ | with_reducible refine r_bm0 ?_ | with_reducible refine r_lc2E ?_ | ((with_reducible refine r_kLc2G ?hw ?_); (case hw => exact rfl)) | with_reducible refine r_kLc2T ?_ | with_reducible refine r_forE ?_ | with_reducible refine r_orT ?_ | with_reducible refine r_din ?_ | with_reducible refine r_augS ?_ | with_reducible refine r_dnotin ?_ | with_reducible refine r_lcIT ?_ | with_reducible refine r_cont ?_ | with_reducible refine r_meth ?_ | with_reducible refine r_frz ?_ | with_reducible refine r_par3 ?_ | with_reducible refine r_kPar3 ?_ | with_reducible refine r_dz ?_ | with_reducible refine r_revL ?_ | with_reducible refine r_star ?_ | with_reducible refine r_int1 ?_ | with_reducible refine r_int1b ?_ | with_reducible refine r_min2 ?_ | with_reducible refine r_max2 ?_ | with_reducible refine r_gsub ?_)
local macro_rules | `(tactic| walk_at "rd") => `(tactic| repeat walk_at "rd1")
local macro_rules | `(tactic| walk_at "side") => `(tactic| first | assumption | exact Or.inr ⟨by decide, by decide⟩ | exact Or.inl ⟨by decide, by decide⟩ | (constructor <;> omega) | omega | decide | (refine Or.inl ⟨?_, ?_⟩ <;> omega) | (refine Or.inr ⟨?_, ?_⟩ <;> omega) | (refine ⟨?_, ?_, ?_⟩ <;> first | decide | omega))
def sp_g_lengths (C : Addr) : Sp := fun vs H Q _ => ∃ (p : Addr) (B : Bk), vs = [.ref p] ∧ BookAt C H p B ∧ ∀ tl, H tl = some (.tup (B.ls.map V.int)) → Q (.ref tl) H
def sp_g_due (C : Addr) : Sp := fun vs H Q _ => ∃ (p : Addr) (B : Bk), vs = [.ref p] ∧ BookAt C H p B ∧ Q (.int B.due) H
def sp_g_memory (C : Addr) : Sp := fun vs H Q _ => ∃ (p : Addr) (B : Bk), vs = [.ref p] ∧ BookAt C H p B ∧ Q (.int B.mem) H
def sp_g_begins (C : Addr) : Sp := fun vs H Q _ => ∃ (p : Addr) (B : Bk), vs = [.ref p] ∧ BookAt C H p B ∧ Q (.str B.beg) H
def sp_g_laid (C : Addr) : Sp := fun vs H Q _ => ∃ (p : Addr) (B : Bk), vs = [.ref p] ∧ BookAt C H p B ∧ ∀ lv, LaidV H B.laid lv → Q lv H
def sp_g_kinds (C : Addr) : Sp := fun vs H Q _ => ∃ (p : Addr) (B : Bk), vs = [.ref p] ∧ BookAt C H p B ∧ ∀ q H' kvs, H q = none → Same H H' → H' q = some (.dK kvs) → KAt H' kvs B.ks → Q (.ref q) H'
section
variable {P : Program} {w : World} {K : PySem.W.Frag} {mg : Str → Option Value} {base : Heap}
theorem ok_Book_lengths {f C : Addr} {fd : FuncData} (T : Tx K mg) (bc : BkC K C) (F : FunD K "lengths" "Book.lengths" (defArgs s_Book_lengths) (defBody s_Book_lengths) (defScope s_Book_lengths) [] [] f fd) : FnOk P w K mg base CX0 1 f fd ["self"] (sp_g_lengths C) := by
  have sc : FnScope ["self"] ["self"] (defScope s_Book_lengths) := ⟨rfl, rfl, rfl, by decide +kernel, rfl, by decide +kernel, by decide +kernel⟩
  refine F.ok sc (by rintro vs H Q E ⟨_, _, rfl, _⟩; rfl) (fun cdv A outer s H vs Q E hr h => ⟨_, PSs.nox ((pss_one (ps_ret (pe_fldK (K := K) rfl (pv 0))))), ?_⟩)
  obtain ⟨p, B, rfl, ⟨dx, tl, kd, lv, kvs, hB⟩, k⟩ := h
  walk_at "rd"
  exact r_kFld hB.i bc.cl bc.n1 rfl (k tl hB.l)
theorem ok_Book_due {f C : Addr} {fd : FuncData} (T : Tx K mg) (bc : BkC K C) (F : FunD K "due" "Book.due" (defArgs s_Book_due) (defBody s_Book_due) (defScope s_Book_due) [] [] f fd) : FnOk P w K mg base CX0 1 f fd ["self"] (sp_g_due C) := by
  have sc : FnScope ["self"] ["self"] (defScope s_Book_due) := ⟨rfl, rfl, rfl, by decide +kernel, rfl, by decide +kernel, by decide +kernel⟩
  refine F.ok sc (by rintro vs H Q E ⟨_, _, rfl, _⟩; rfl) (fun cdv A outer s H vs Q E hr h => ⟨_, PSs.nox ((pss_one (ps_ret (pe_fldK (K := K) rfl (pv 0))))), ?_⟩)
  obtain ⟨p, B, rfl, ⟨dx, tl, kd, lv, kvs, hB⟩, k⟩ := h
  walk_at "rd"
  exact r_kFld hB.i bc.cl bc.n2 rfl k
theorem ok_Book_memory {f C : Addr} {fd : FuncData} (T : Tx K mg) (bc : BkC K C) (F : FunD K "memory" "Book.memory" (defArgs s_Book_memory) (defBody s_Book_memory) (defScope s_Book_memory) [] [] f fd) : FnOk P w K mg base CX0 1 f fd ["self"] (sp_g_memory C) := by
  have sc : FnScope ["self"] ["self"] (defScope s_Book_memory) := ⟨rfl, rfl, rfl, by decide +kernel, rfl, by decide +kernel, by decide +kernel⟩
  refine F.ok sc (by rintro vs H Q E ⟨_, _, rfl, _⟩; rfl) (fun cdv A outer s H vs Q E hr h => ⟨_, PSs.nox ((pss_one (ps_ret (pe_fldK (K := K) rfl (pv 0))))), ?_⟩)
  obtain ⟨p, B, rfl, ⟨dx, tl, kd, lv, kvs, hB⟩, k⟩ := h
  walk_at "rd"
  exact r_kFld hB.i bc.cl bc.n4 rfl k
theorem ok_Book_begins {f C : Addr} {fd : FuncData} (T : Tx K mg) (bc : BkC K C) (F : FunD K "begins" "Book.begins" (defArgs s_Book_begins) (defBody s_Book_begins) (defScope s_Book_begins) [] [] f fd) : FnOk P w K mg base CX0 1 f fd ["self"] (sp_g_begins C) := by
  have sc : FnScope ["self"] ["self"] (defScope s_Book_begins) := ⟨rfl, rfl, rfl, by decide +kernel, rfl, by decide +kernel, by decide +kernel⟩
  refine F.ok sc (by rintro vs H Q E ⟨_, _, rfl, _⟩; rfl) (fun cdv A outer s H vs Q E hr h => ⟨_, PSs.nox ((pss_one (ps_ret (pe_fldK (K := K) rfl (pv 0))))), ?_⟩)
  obtain ⟨p, B, rfl, ⟨dx, tl, kd, lv, kvs, hB⟩, k⟩ := h
  walk_at "rd"
  exact r_kFld hB.i bc.cl bc.n5 rfl k
theorem ok_Book_laid {f C : Addr} {fd : FuncData} (T : Tx K mg) (bc : BkC K C) (F : FunD K "laid" "Book.laid" (defArgs s_Book_laid) (defBody s_Book_laid) (defScope s_Book_laid) [] [] f fd) : FnOk P w K mg base CX0 1 f fd ["self"] (sp_g_laid C) := by
  have sc : FnScope ["self"] ["self"] (defScope s_Book_laid) := ⟨rfl, rfl, rfl, by decide +kernel, rfl, by decide +kernel, by decide +kernel⟩
  refine F.ok sc (by rintro vs H Q E ⟨_, _, rfl, _⟩; rfl) (fun cdv A outer s H vs Q E hr h => ⟨_, PSs.nox ((pss_one (ps_ret (pe_fldK (K := K) rfl (pv 0))))), ?_⟩)
  obtain ⟨p, B, rfl, ⟨dx, tl, kd, lv, kvs, hB⟩, k⟩ := h
  walk_at "rd"
  exact r_kFld hB.i bc.cl bc.n6 rfl (k lv hB.d)
theorem ok_Book_kinds {f C : Addr} {fd : FuncData} (T : Tx K mg) (bc : BkC K C) (F : FunD K "kinds" "Book.kinds" (defArgs s_Book_kinds) (defBody s_Book_kinds) (defScope s_Book_kinds) [] [] f fd) : FnOk P w K mg base CX0 1 f fd ["self"] (sp_g_kinds C) := by
  have sc : FnScope ["self"] ["self"] (defScope s_Book_kinds) := ⟨rfl, rfl, rfl, by decide +kernel, rfl, by decide +kernel, by decide +kernel⟩
  refine F.ok sc (by rintro vs H Q E ⟨_, _, rfl, _⟩; rfl) (fun cdv A outer s H vs Q E hr h => ⟨_, PSs.nox ((pss_one (ps_ret (pe_callTy c_dictD (by rfl) T.b_dict (by decide +kernel) (pa_cons (pe_fldK (K := K) rfl (pv 0)) pa_nil))))), ?_⟩)
  obtain ⟨p, B, rfl, ⟨dx, tl, kd, lv, kvs, hB⟩, k⟩ := h
  walk_at "rd"
  refine r_kFld hB.i bc.cl bc.n3 rfl ?_
  walk_at "rd"
  exact r_dictD hB.k fun q H1 nq e1 hq => k q H1 kvs nq e1 hq (hB.a.keepT e1)
end
end Wp
set_option Elab.async false
set_option linter.all false
set_option maxRecDepth 100000
set_option maxHeartbeats 4000000
/-! Accounts: made, bought, the next one, paid. -/
namespace Wp
open PySem PySem.Spec PyProof.Rows L2
abbrev s_Account___init__ : Stmt := inClass (topS 34) 0
abbrev s_Account_buy : Stmt := inClass (topS 34) 1
abbrev s_Account_next_row : Stmt := inClass (topS 34) 2
abbrev s_Account_pay : Stmt := inClass (topS 34) 3
local macro_rules | `(tactic| walk_at "val") => `(tactic| assumption)
local macro_rules | `(tactic| walk_at "rd1") => `(tactic| first
  | with_reducible refine r_seq ?_ | with_reducible refine r_next ?_ | with_reducible refine r_if ?_ | with_reducible refine r_asg ?_ | with_reducible refine r_gname ?_
  | with_reducible refine r_ret ?_ | with_reducible refine r_retN ?_ | with_reducible refine r_drop ?_ | with_reducible refine r_par ?_ | with_reducible refine r_kPar ?_
  | ((with_reducible refine' r_var ?hv ?_); (case hv => exact rfl)) | with_reducible refine r_c ?_ | with_reducible refine r_nil ?_ | with_reducible refine r_cons ?_
  | with_reducible refine r_fn ?_ | with_reducible refine r_cb ?_ | with_reducible refine r_op ?_ | with_reducible refine r_un ?_ | with_reducible refine r_I0 ?_
  | with_reducible refine r_pow5 ?_ | with_reducible refine r_pow6 ?_ | with_reducible refine r_pow7 ?_ | with_reducible refine r_pow9 ?_ | with_reducible refine r_pow18 ?_ | with_reducible refine r_pow20 ?_ | with_reducible refine r_pow30 ?_
  | with_reducible refine r_isN_non ?_ | with_reducible refine r_isN_ref ?_ | with_reducible refine r_isN_int ?_ | with_reducible refine r_isN_str ?_ | with_reducible refine r_isN_bl ?_ | with_reducible refine r_notN_non ?_ | with_reducible refine r_notN_ref ?_ | with_reducible refine r_notN_int ?_ | with_reducible refine r_notN_str ?_ | with_reducible refine r_notN_bl ?_
  | ((with_reducible refine r_I ?hc ?_); (case hc => walk_at "side")) | with_reducible refine r_U ?_
  | with_reducible refine r_eqI ?_ | with_reducible refine r_neI ?_ | with_reducible refine r_eqS ?_ | with_reducible refine r_neS ?_ | with_reducible refine r_eqB ?_ | with_reducible refine r_neB ?_
  | with_reducible refine r_chain ?_ | with_reducible refine r_test ?_ | with_reducible refine r_tB ?_ | with_reducible refine r_kTest ?_ | with_reducible refine r_not ?_
  | with_reducible refine r_and ?_ | with_reducible refine r_or ?_ | with_reducible refine r_tif ?_ | with_reducible refine r_andV ?_ | with_reducible refine r_orV ?_ | with_reducible refine r_notV ?_
  | with_reducible refine r_kAndV ?_ | with_reducible refine r_kOrV ?_ | with_reducible refine r_kNotV ?_
  | with_reducible refine w_T ?_ | with_reducible refine w_F ?_ | with_reducible refine w_NT ?_ | with_reducible refine w_NF ?_
  | with_reducible refine r_tup ?_ | with_reducible refine r_lst ?_ | with_reducible refine r_fld ?_ | with_reducible refine r_prop ?_ | ((with_reducible refine' r_aug ?h1 ?_); (case h1 => exact rfl)) | with_reducible refine r_ipI ?_ | with_reducible refine r_dget ?_ | with_reducible refine r_dput ?_ | with_reducible refine r_bm ?_
  | ((with_reducible refine' r_kDGetS ?h1 ?h2 ?_); (case h1 => assumption); (case h2 => walk_at "val"))
  | ((with_reducible refine' r_kBML ?h1 ?_); (case h1 => assumption))
  | with_reducible refine r_forL ?_ | with_reducible refine r_forR1 ?_ | with_reducible refine r_forR2 ?_ | with_reducible refine r_forT ?_ | with_reducible refine r_lcL ?_ | with_reducible refine r_lcR1 ?_
  | ((with_reducible refine r_kLcG ?hw ?_); (case hw => exact rfl)) | with_reducible refine r_kLcT ?_ | with_reducible refine r_yes ?_
  | with_reducible refine r_pnil ?_ | with_reducible refine r_pcons ?_
  | with_reducible refine r_fnK ?_ | ((with_reducible refine r_kFnK ?hl ?_); (case hl => exact rfl))
  | with_reducible refine r_isi_ii ?_ | with_reducible refine r_isi_ib ?_ | with_reducible refine r_isi_bi ?_ | with_reducible refine r_isi_bb ?_ | with_reducible refine r_isi_ss ?_ | with_reducible refine r_isi_is ?_ | with_reducible refine r_isi_it ?_
  | ((with_reducible refine' r_isi_tt ?h1 ?_); (case h1 => assumption))
  | with_reducible refine r_sfld ?_ | with_reducible refine r_gnil ?_ | with_reducible refine r_gcons ?_
  | ((with_reducible refine' r_gtup ?h1 ?h2 ?_); (case h1 => exact SqT.of (by assumption)); (case h2 => exact rfl))
  | with_reducible refine r_sl ?_ | with_reducible refine r_noPart ?_ | with_reducible refine r_part ?_ | with_reducible refine r_kPart ?_ | with_reducible refine r_m1 ?_ | with_reducible refine r_kM1 ?_ | with_reducible refine r_forS ?_ | with_reducible refine r_lcS ?_ | with_reducible refine r_lcTu ?_ | with_reducible refine r_lcK ?_ | with_reducible refine r_dcL ?_ | with_reducible refine r_dcK ?_ | with_reducible refine r_lc2L ?_ | with_reducible refine r_kLc2TL ?_ | with_reducible refine r_dcEn ?_ | with_reducible refine r_gslc ?_ | with_reducible refine r_lcEn ?_ | with_reducible refine r_forET ?_ | with_reducible refine r_lenD ?_
  | ((with_reducible refine r_kDcG ?hw ?_); (case hw => exact rfl)) | with_reducible refine r_kDcT ?_
  | with_reducible refine r_fldaug ?_ | with_reducible refine r_daug ?_ | with_reducible refine r_rAdd ?_ | with_reducible refine r_rSub ?_ | with_reducible refine r_ddel ?_ | with_reducible refine r_bmF ?_ | with_reducible refine r_dget2 ?_ | with_reducible refine r_listItems ?_ | with_reducible refine r_bm0 ?_ | with_reducible refine r_lc2E ?_ | ((with_reducible refine r_kLc2G ?hw ?_); (case hw => exact rfl)) | with_reducible refine r_kLc2T ?_ | with_reducible refine r_forE ?_ | with_reducible refine r_orT ?_ | with_reducible refine r_din ?_ | with_reducible refine r_augS ?_ | with_reducible refine r_dnotin ?_ | with_reducible refine r_lcIT ?_ | with_reducible refine r_cont ?_ | with_reducible refine r_meth ?_ | with_reducible refine r_frz ?_ | with_reducible refine r_par3 ?_ | with_reducible refine r_kPar3 ?_ | with_reducible refine r_dz ?_ | with_reducible refine r_revL ?_ | with_reducible refine r_star ?_ | with_reducible refine r_int1 ?_ | with_reducible refine r_int1b ?_ | with_reducible refine r_min2 ?_ | with_reducible refine r_max2 ?_ | with_reducible refine r_gsub ?_)
local macro_rules | `(tactic| walk_at "rd") => `(tactic| repeat walk_at "rd1")
local macro_rules | `(tactic| walk_at "side") => `(tactic| first | assumption | exact Or.inr ⟨by decide, by decide⟩ | exact Or.inl ⟨by decide, by decide⟩ | (constructor <;> omega) | omega | decide | (refine Or.inl ⟨?_, ?_⟩ <;> omega) | (refine Or.inr ⟨?_, ?_⟩ <;> omega) | (refine ⟨?_, ?_, ?_⟩ <;> first | decide | omega))
structure AccC (K : PySem.W.Frag) (C : Addr) : Prop where
  cl : Cls K C
  n1 : NoAttr K C "a_book"
  n2 : NoAttr K C "a_left"
  n3 : NoAttr K C "a_kinds"
  n4 : NoAttr K C "a_owed"
  n5 : NoAttr K C "a_paid"
def sp_Account_init (CA : Addr) : Sp := fun vs H Q _ => ∃ (p dx bk : Addr), vs = [.ref p, .ref bk] ∧ H p = some (.ins CA dx []) ∧
  ∀ H' lf kd pd, But p H H' → H lf = none → H kd = none → H pd = none → lf ≠ kd → H' p = some (.ins CA dx (fAcc bk lf kd pd 0)) → H' lf = some (.dK (encT [])) → H' kd = some (.dK []) → H' pd = some (.dT (encPD [])) → Q .non H'
def sp_Account (CA CB : Addr) : Sp := fun vs H Q _ => ∃ (bk : Addr) (B : Bk), vs = [.ref bk] ∧ BookAt CB H bk B ∧
  ∀ q H', AcAt CA CB H H' q B bk ⟨[], []⟩ 0 0 → Q (.ref q) H'
theorem imp_Account {CA CB : Addr} (vs : List V) (H : Hp) (Q : VK) (E : XK) (h : sp_Account CA CB vs H Q E) : spMk CA (sp_Account_init CA) [] vs H Q E := by
  obtain ⟨bk, B, rfl, hB, k⟩ := h
  intro x dx nx nd ne
  have up : ∀ c o, H c = some o → upd (upd H dx (.own x)) x (.ins CA dx []) c = some o := fun c o hc => by
    rw [upd_ne (ne_of_none hc nx), upd_ne (ne_of_none hc nd)]
    exact hc
  have dn : ∀ c, upd (upd H dx (.own x)) x (.ins CA dx []) c = none → H c = none := fun c hc => by
    cases e : H c with
    | none => rfl
    | some o => rw [up c o e] at hc; cases hc
  refine ⟨x, dx, bk, rfl, upd_same, fun H' lf kd pd b nl nk np ne i l k' p => ⟨rfl, k x H' ⟨dx, lf, kd, pd, [], [], ⟨fun c o hc => b _ _ (up _ _ hc) (ne_of_none hc nx), hB, nx, dn _ nl, dn _ nk, dn _ np, i, l, .nil, k', Nat.le_refl _, fun o ho => (by cases ho), p, ne⟩⟩⟩⟩
def sp_buy (CA CB : Addr) : Sp := fun vs H Q _ => ∃ (q bk : Addr) (H0 : Hp) (B : Bk) (A : Ac) (ow c : Int) (n : Nat) (z : Str), vs = [.ref q, .int (n : Nat), .str z, .int c] ∧ AcAt CA CB H0 H q B bk A ow n ∧ SOk A.S (n : Nat) ∧ n ≤ 1000 ∧ z ∈ B.ks.map (·.1) ∧
  ∀ H', AcAt CA CB H0 H' q B bk ⟨insO (rkB B z, (n : Nat), c) A.S, A.P⟩ (ow + c) (n + 1) → Q .non H'
def sp_next_row (CA CB : Addr) : Sp := fun vs H Q _ => ∃ (q bk : Addr) (H0 : Hp) (B : Bk) (o : Op) (S : List Op) (P : Pd) (ow : Int) (n : Nat), vs = [.ref q] ∧ AcAt CA CB H0 H q B bk ⟨o :: S, P⟩ ow n ∧ SOk (o :: S) (n : Nat) ∧ n ≤ 1000 ∧ B.LaidOk ∧
  ∀ H', Same H H' → Q (.int o.2.1) H'
def sp_pay (CA CB : Addr) : Sp := fun vs H Q _ => ∃ (q bk : Addr) (H0 : Hp) (B : Bk) (A : Ac) (ow d c : Int) (n : Nat), vs = [.ref q, .int d, .int c] ∧ AcAt CA CB H0 H q B bk A ow n ∧ SOk A.S (n : Nat) ∧ n ≤ 1000 ∧ B.LaidOk ∧ 0 ≤ c ∧ c ≤ sumO A.S ∧ A.P.length + A.S.length + 1 ≤ 900000 ∧
  ∀ H', AcAt CA CB H0 H' q B bk (A.pay d c) (ow - c) n → Q .non H'
theorem SOk.len {S : List Op} {n : Nat} (h : SOk S (n : Nat)) : S.length ≤ n := by
  have := List.Nodup.length_le_of_subset (l₁ := S.map (·.2.1)) (l₂ := (List.range n).map fun i => ((i : Nat) : Int)) h.nd (fun z hz => by
    obtain ⟨o, ho, rfl⟩ := List.mem_map.mp hz
    have := h.at' o ho
    exact List.mem_map.mpr ⟨o.2.1.toNat, List.mem_range.mpr (by omega), by omega⟩)
  simpa using this
theorem putKlen (c : List (Key × V)) (k : Key) (x : V) : (putK c k x).length ≤ c.length + 1 := by
  unfold putK
  split <;> simp
theorem r_dnewE {σ : L2.St} {H : Hp} {Q : VK} (q : ∀ p H', H p = none → Same H H' → H' p = some (.dK (encT [])) → Q (.ref p) H') : tDNewK σ H Q := fun p hp => q p _ hp (Same.new hp) upd_same
theorem r_dnewN {σ : L2.St} {H : Hp} {Q : VK} (q : ∀ p H', H p = none → Same H H' → H' p = some (.dK []) → Q (.ref p) H') : tDNewK σ H Q := fun p hp => q p _ hp (Same.new hp) upd_same
def gRk (kds : List (Key × V)) (B : Bk) (r : Int) : Int := match valV kds (Sum.inl r : Key) with
  | some (.str z) => rkB B z
  | _ => 0
theorem PLs.app {H : Hp} {ws us : List V} {ks ls : List (Int × Int)} (h : PLs H ws ks) (h2 : PLs H us ls) : PLs H (ws ++ us) (ks ++ ls) := by
  induction h with
  | nil => exact h2
  | cons h _ ih => exact .cons h ih
theorem r_kDPutI {H : Hp} {a : Addr} {kvs : List (Key × V)} {v : V} {z : Int} {D : Ends} {σ : L2.St} (h1 : H a = some (.dK kvs)) (hz : kvs.length < 1000000) (q : ∀ H', But a H H' → H' a = some (.dK (putK kvs (Sum.inl z : Key) v)) → D.nx σ H') : kDPut D σ v (.ref a) (.int z) H :=
  ⟨a, _, rfl, .inl ⟨kvs, Sum.inl z, h1, rfl, sz6 hz, rfl⟩, q _ But.upd upd_same⟩
section
variable {P : Program} {w : World} {K : PySem.W.Frag} {mg : Str → Option Value} {base : Heap}
theorem ok_Account_init {f CA : Addr} {fd : FuncData} (T : Tx K mg) (ac : AccC K CA) (F : FunD K "__init__" "Account.__init__" (defArgs s_Account___init__) (defBody s_Account___init__) (defScope s_Account___init__) [] [] f fd) :
    FnOk P w K mg base CX0 1 f fd ["self", "book"] (sp_Account_init CA) := by
  have sc : FnScope ["self", "book"] ["self", "book"] (defScope s_Account___init__) := ⟨rfl, rfl, rfl, by decide +kernel, rfl, by decide +kernel, by decide +kernel⟩
  refine F.ok sc (by rintro vs H Q E ⟨_, _, _, rfl, _⟩; rfl) (fun cdv A outer s H vs Q E hr h => ⟨_, PSs.nox ((pss_cons (ps_fldK (K := K) rfl (pv 0) (pv 1))
      (pss_cons (ps_fldK (K := K) rfl (pv 0) pe_dnewK)
      (pss_cons (ps_fldK (K := K) rfl (pv 0) pe_dnewK)
      (pss_cons (ps_fldK (K := K) rfl (pv 0) pe_int)
      (pss_one (ps_fldK (K := K) rfl (pv 0) pe_dnewT))))))), ?_⟩)
  obtain ⟨p, dx, bk, rfl, hp, k⟩ := h
  walk_at "rd"
  refine r_kSFld hp ac.cl ac.n1 (by decide) fun H1 b1 h1 => ?_
  walk_at "rd"
  refine r_dnewE fun lf H2 n2 e2 h2 => ?_
  have nlf : lf ≠ p := (ne_of_none h1 n2).symm
  have i2 := e2 _ _ h1
  walk_at "rd"
  refine r_kSFld i2 ac.cl ac.n2 (pf9 (pfl pf0)) fun H3 b3 i3 => ?_
  have l3 := b3 _ _ h2 nlf
  walk_at "rd"
  refine r_dnewN fun kd H4 n4 e4 h4 => ?_
  have i4 := e4 _ _ i3
  have nkd : kd ≠ p := (ne_of_none i3 n4).symm
  have l4 := e4 _ _ l3
  have nlk : lf ≠ kd := ne_of_none l3 n4
  walk_at "rd"
  refine r_kSFld i4 ac.cl ac.n3 (pf9 (pfl (pfl pf0))) fun H5 b5 i5 => ?_
  have l5 := b5 _ _ l4 nlf
  have k5 := b5 _ _ h4 nkd
  walk_at "rd"
  refine r_kSFld i5 ac.cl ac.n4 (pf9 (pfl (pfl (pfl pf0)))) fun H6 b6 i6 => ?_
  have l6 := b6 _ _ l5 nlf
  have k6 := b6 _ _ k5 nkd
  walk_at "rd"
  refine r_dnewT fun pd H7 n7 e7 h7 => ?_
  have npd : pd ≠ p := (ne_of_none i6 n7).symm
  walk_at "rd"
  refine r_kSFld (e7 _ _ i6) ac.cl ac.n5 (pf9 (pfl (pfl (pfl (pfl pf0))))) fun H8 b8 i8 => ?_
  have up2 : ∀ c o, H c = some o → c ≠ p → H2 c = some o := fun c o hc hn => e2 _ _ (b1 _ _ hc hn)
  have up4 : ∀ c o, H c = some o → c ≠ p → H4 c = some o := fun c o hc hn => e4 _ _ (b3 _ _ (up2 c o hc hn) hn)
  have up8 : ∀ c o, H c = some o → c ≠ p → H8 c = some o := fun c o hc hn => b8 _ _ (e7 _ _ (b6 _ _ (b5 _ _ (up4 c o hc hn) hn) hn)) hn
  have fr : ∀ {c : Addr} {G : Hp}, (∀ o, H c = some o → c ≠ p → G c = some o) → c ≠ p → G c = none → H c = none := fun {c G} u hn hg => by
    cases e : H c with
    | none => rfl
    | some o => rw [u o e hn] at hg; cases hg
  walk_at "rd"
  exact k H8 lf kd pd up8 (fr (fun o hc hn => b1 _ _ hc hn) nlf n2) (fr (fun o hc hn => b3 _ _ (up2 _ _ hc hn) hn) nkd n4) (fr (fun o hc hn => b6 _ _ (b5 _ _ (up4 _ _ hc hn) hn) hn) npd n7) nlk i8
    (b8 _ _ (e7 _ _ l6) nlf) (b8 _ _ (e7 _ _ k6) nkd) (b8 _ _ h7 npd)
theorem ok_Account_buy {f CA CB : Addr} {fd : FuncData} (T : Tx K mg) (ac : AccC K CA) (F : FunD K "buy" "Account.buy" (defArgs s_Account_buy) (defBody s_Account_buy) (defScope s_Account_buy) [] [] f fd) :
    FnOk P w K mg base CX0 1 f fd ["self", "row", "kind", "cents"] (sp_buy CA CB) := by
  have sc : FnScope ["self", "row", "kind", "cents"] ["self", "row", "kind", "cents"] (defScope s_Account_buy) := ⟨rfl, rfl, rfl, by decide +kernel, rfl, by decide +kernel, by decide +kernel⟩
  refine F.ok sc (by rintro vs H Q E ⟨_, _, _, _, _, _, _, _, _, rfl, _⟩; rfl) (fun cdv A outer s H vs Q E hr h => ⟨_, PSs.nox ((pss_cons (ps_dput (hu_of hr) (pe_fldK (K := K) rfl (pv 0)) (pv 1) (pv 3) rfl)
      (pss_cons (ps_dput (hu_of hr) (pe_fldK (K := K) rfl (pv 0)) (pv 1) (pv 2) rfl)
      (pss_one (ps_fldaugK (K := K) rfl (pv 0) (pv 3) in_add))))), ?_⟩)
  obtain ⟨q, bk, H0, B, A, ow, c, n, z, rfl, ⟨dx, lf, kd, pd, lfs, kds, hA⟩, hS, hn, hz, k⟩ := h
  have hlen := hA.lp.length_eq
  rw [List.length_map] at hlen
  have hsl := hS.len
  have hkl := hA.kl
  have nq1 : q ≠ lf := ne_of hA.i hA.l (by intro z; cases z)
  have nq2 : q ≠ kd := ne_of hA.i hA.k (by intro z; cases z)
  have np1 : pd ≠ lf := ne_of hA.p hA.l (by intro z; cases z)
  have np2 : pd ≠ kd := ne_of hA.p hA.k (by intro z; cases z)
  have np3 : pd ≠ q := ne_of hA.p hA.i (by intro z; cases z)
  have hnl : ((n : Nat) : Int) ∉ lfs.map (·.1) := fun hm => by
    have := (hA.lp.map (·.1)).mem_iff.mp hm
    rw [List.map_map] at this
    obtain ⟨o, ho, e⟩ := List.mem_map.mp this
    have h1 := hS.at' o ho
    have e : o.2.1 = (n : Int) := e
    omega
  walk_at "rd"
  refine r_kFld hA.i ac.cl ac.n2 rfl ?_
  walk_at "rd"
  refine r_kDPutT hA.l (by omega) fun H1 b1 l1 => ?_
  rw [putI_fresh hnl] at l1
  have i1 := b1 _ _ hA.i nq1
  have k1 := b1 _ _ hA.k hA.ne.symm
  have p1 := b1 _ _ hA.p np1
  walk_at "rd"
  refine r_kFld i1 ac.cl ac.n3 rfl ?_
  walk_at "rd"
  refine r_kDPutI k1 (by omega) fun H2 b2 k2 => ?_
  have i2 := b2 _ _ i1 nq2
  have l2 := b2 _ _ l1 hA.ne
  have p2 := b2 _ _ p1 np2
  walk_at "rd"
  refine r_kFldAug i2 ac.cl ac.n4 rfl ?_
  walk_at "rd"
  refine r_kFldAug2 i2 (show 5 < 1000 by decide) fun H3 b3 i3 => ?_
  rw [putF_owed] at i3
  have same : Same H0 H3 := fun a o ha => b3 _ _ (b2 _ _ (b1 _ _ (hA.sm _ _ ha) (ne_of_none ha hA.nl)) (ne_of_none ha hA.nk)) (ne_of_none ha hA.nq)
  walk_at "rd"
  refine k H3 ⟨dx, lf, kd, pd, _, _, ⟨same, hA.bo, hA.nq, hA.nl, hA.nk, hA.np, i3, b3 _ _ l2 nq1.symm, ?_, b3 _ _ k2 nq2.symm, ?_, ?_, b3 _ _ p2 np3, hA.ne⟩⟩
  · refine List.Perm.trans ?_ ((insO_perm _ A.S).map (·.2)).symm
    exact (List.perm_append_singleton _ _).trans (hA.lp.cons _)
  · have := putKlen kds (Sum.inl ((n : Nat) : Int) : Key) (V.str z)
    omega
  · intro o ho
    rcases List.mem_cons.mp ((insO_perm _ A.S).mem_iff.mp ho) with rfl | ho
    · exact ⟨z, by rw [valV_put, if_pos rfl], rfl, hz⟩
    · obtain ⟨y, h1, h2, h3⟩ := hA.kk o ho
      have := hS.at' o ho
      exact ⟨y, by rw [valV_put, if_neg fun e => by have := Sum.inl.inj e; omega]; exact h1, h2, h3⟩
theorem ok_Account_next_row {f CA CB : Addr} {fd : FuncData} (T : Tx K mg) (ac : AccC K CA) (F : FunD K "next_row" "Account.next_row" (defArgs s_Account_next_row) (defBody s_Account_next_row) (defScope s_Account_next_row) [] [] f fd) (m_laid : Dpr P w K mg base CX0 1 CB "laid" (sp_g_laid CB)) :
    FnOk P w K mg base CX0 3 f fd ["self"] (sp_next_row CA CB) := by
  have sc : FnScope ["self", "laid", "row"] ["self"] (defScope s_Account_next_row) := ⟨rfl, rfl, rfl, by decide +kernel, rfl, by decide +kernel, by decide +kernel⟩
  refine F.ok sc (by rintro vs H Q E ⟨_, _, _, _, _, _, _, _, _, rfl, _⟩; rfl) (fun cdv A outer s H vs Q E hr h => ⟨_, PSs.nox ((pss_cons (ps_set (i := 1) sc.nd rfl (by first | exact Or.inl rfl | exact Or.inr rfl) (pe_propA m_laid (pe_fldK (K := K) rfl (pv 0)) (hr.mono (by decide)) pass0))
      (pss_cons (ps_if (pt_cmpR op_isN1 (pv 1) pe_non (nomark _)) (pss_one (ps_ret (pe_callB (cr_minK rfl) (by rfl) T.b_min (by decide +kernel) (pa_cons (pe_fldK (K := K) rfl (pv 0)) pa_nil)))) pss_nil)
      (pss_one (ps_ret (pe_ix (ix_tupK (K := K) rfl) (pe_callB (c_minP (K := K) rfl rfl hr) (by rfl) T.b_min (by decide +kernel) (pa_cons (pe_lock (pe_lc (own := [("row", 2)]) (by rfl) sc.nd (pi_keys (pe_fldK (K := K) rfl (pv 0))) (blkOk_by (own := [("row", 2)]) (N := ["self", "laid", "row"]) (sc := defScope s_Account_next_row) (by decide +kernel)) (fun _ _ _ _ _ => (pg_name (i := 2) sc.nd rfl (by first | exact Or.inl rfl | exact Or.inr rfl))) (fun _ _ _ _ _ => pts_nil) (fun _ _ _ _ _ => (pe_tup (pa_cons (pe_tix (K := K) rfl (pv 1) (pa_cons (pe_dget (hu_of hr) (pe_fldK (K := K) rfl (pv 0)) (pv 2) (fun _ _ => rfl)) pa_nil)) (pa_cons (pv 2) pa_nil)))))) pa_nil)) pe_int (fun _ _ => rfl))))))), ?_⟩)
  obtain ⟨q, bk, H0, B, o, S, P', ow, n, rfl, ⟨dx, lf, kd, pd, lfs, kds, hA⟩, hS, hn, lok, k⟩ := h
  have hl := head_least hS.asc
  have hlen := hA.lp.length_eq
  rw [List.length_map] at hlen
  have hsl := hS.len
  have hlen : lfs.length = (o :: S).length := hlen
  have hne : lfs ≠ [] := fun z => by rw [z] at hlen; simp at hlen
  obtain ⟨dxb, tl, kb, lv, kvs, hI⟩ := (hA.bo.keep hA.sm)
  walk_at "rd"
  refine r_kFld hA.i ac.cl ac.n1 rfl ?_
  refine r_kProp hI.i ?_
  refine ⟨bk, B, rfl, ⟨dxb, tl, kb, lv, kvs, hI⟩, fun lv hlv => ?_⟩
  walk_at "rd"
  cases hB : B.laid with
  | none =>
    rw [hB] at hlv
    obtain rfl : lv = .non := hlv
    walk_at "rd"
    refine r_kFld hA.i ac.cl ac.n2 rfl ?_
    walk_at "rd"
    refine r_minKT hA.l hne fun m hm hmin => ?_
    have kz : ∀ y ∈ o :: S, y.1 = 0 := fun y hy => by
      obtain ⟨z, h1, h2, h3⟩ := hA.kk y hy
      rw [← h2, rkB_none hB]
    have e : m = o.2.1 := by
      have pm := hA.lp.map (·.1)
      rw [List.map_map] at pm
      obtain ⟨y, hy, e⟩ := List.mem_map.mp (pm.mem_iff.mp hm)
      have h1 := of_decide_eq_true (hl y hy)
      have h0 := kz y hy
      have h00 := kz o (List.mem_cons_self ..)
      have h2 := hmin o.2.1 (pm.mem_iff.mpr (List.mem_map.mpr ⟨o, List.mem_cons_self .., rfl⟩))
      have e : y.2.1 = m := e
      simp only at h1
      omega
    rw [e]
    exact k H (Same.refl _)
  | some ns =>
    rw [hB] at hlv
    obtain ⟨tn, rfl, htn⟩ := hlv
    walk_at "rd"
    refine r_lockD hA.l fun od H1 hd1 ho1 hn1 => ?_
    have nq1 : q ≠ lf := ne_of hA.i hA.l (by intro z; cases z)
    have i1 := ho1 _ _ hA.i nq1
    have k1 := ho1 _ _ hA.k hA.ne.symm
    have t1 : FrzT H1 tn (ns.map V.str) := by
      obtain ⟨ob, h1, h2⟩ := htn
      exact ⟨ob, h1, ho1 _ _ h2 (ne_of h2 hA.l (by intro z; cases z))⟩
    have gz : ∀ y ∈ o :: S, gRk kds B y.2.1 = y.1 := fun y hy => by
      obtain ⟨z, h1, h2, h3⟩ := hA.kk y hy
      unfold gRk
      rw [h1]
      exact h2
    walk_at "rd"
    refine r_kFld i1 ac.cl ac.n2 rfl ?_
    refine r_kLcK hd1 (fun Da i H' => Same H1 H' ∧ ∃ ws, H' Da = some (.lst ws) ∧ PLs H' ws ((lfs.take i).map fun p => (gRk kds B p.1, p.1))) (fun Da H' _ e h => ⟨e, [], h, .nil⟩) (fun Da i H' h => h.1 _ _ hd1) ?_ ?_
    · rintro Da i key v H' hD hi ⟨e, ws, hDa, hP⟩
      rw [show encT lfs = lfs.map fun p => ((Sum.inl p.1 : Key), V.int p.2) from rfl, List.getElem?_map] at hi
      obtain ⟨p, hp, ep⟩ := Option.map_eq_some_iff.mp hi
      obtain ⟨rfl, rfl⟩ := Prod.mk.inj ep
      have hil := (List.getElem?_eq_some_iff.mp hp).1
      obtain ⟨y, hy, ey⟩ := List.mem_map.mp (hA.lp.mem_iff.mp (List.mem_of_getElem? hp))
      obtain ⟨z, z1, z2, z3⟩ := hA.kk y hy
      rw [show y.2.1 = p.1 by rw [ey]] at z1
      have hzn : z ∈ ns := (lok ns hB).mem_iff.mpr z3
      have hwl := hP.len
      rw [List.length_map, List.length_take] at hwl
      have hg : gRk kds B p.1 = ((ns.idxOf z : Nat) : Int) := by
        unfold gRk
        rw [z1]
        exact rkB_some hB z
      walk_at "rd"
      refine r_kBMF (t1.same e) ?_
      walk_at "rd"
      refine r_kFld (e _ _ i1) ac.cl ac.n3 rfl ?_
      walk_at "rd"
      refine r_kDGetI (e _ _ k1) z1 ?_
      walk_at "rd"
      refine r_tix (t1.same e).sq hzn ?_
      walk_at "rd"
      refine r_kTup fun t H2 nt e2 ht => ?_
      refine r_kLcE (e2 _ _ hDa) (by omega) fun H3 b3 h3 => ⟨Same.mut (e.trans e2) b3 hD, _, h3, ?_⟩
      have kp3 : ∀ u xs, H2 u = some (.tup xs) → H3 u = some (.tup xs) := fun u xs hu => b3 _ _ hu (ne_of hu (e2 _ _ hDa) (by intro z; cases z))
      rw [take_more hp, List.map_append]
      refine PLs.app (hP.keep fun u xs hu => kp3 _ _ (e2 _ _ hu)) (.cons ?_ .nil)
      show H3 t = some (.tup [.int (gRk kds B p.1), .int p.1])
      rw [hg]
      exact kp3 _ _ ht
    · rintro Da H' hD ⟨e, ws, hDa, hP⟩
      rw [show (encT lfs).length = lfs.length from List.length_map _, List.take_length] at hP
      have hDn : Da ≠ lf := by
        rintro rfl
        rw [hd1] at hD
        cases hD
      refine r_kLock hA.l ho1 hd1 e fun H4 e4 o4 => ?_
      have hne2 : (lfs.map fun p => (gRk kds B p.1, p.1)) ≠ [] := fun z => hne (List.map_eq_nil_iff.mp z)
      walk_at "rd"
      refine r_minP (SqL.of (o4 _ _ hDa hDn)) (hP.keep fun u xs hu => o4 _ _ hu (ne_of hu (e _ _ hd1) (by intro z; cases z))) hne2 fun t kk hk1 hk2 ht => ?_
      have mm : ∀ y ∈ o :: S, (y.1, y.2.1) ∈ lfs.map fun p => (gRk kds B p.1, p.1) := fun y hy => List.mem_map.mpr ⟨y.2, hA.lp.mem_iff.mpr (List.mem_map.mpr ⟨y, hy, rfl⟩), by rw [gz y hy]⟩
      obtain ⟨p, hp, rfl⟩ := List.mem_map.mp hk1
      obtain ⟨y, hy, rfl⟩ := List.mem_map.mp (hA.lp.mem_iff.mp hp)
      have h1 := hk2 _ (mm o (List.mem_cons_self ..))
      have h2 := hl y hy
      rw [gz y hy] at h1
      have h3 := congrArg Prod.snd (leP_anti h1 h2)
      have h3 : y.2.1 = o.2.1 := h3
      walk_at "rd"
      refine r_ixT (SqT.of ht) (at_get (n := 1) rfl rfl) ?_
      rw [h3]
      exact k H4 e4
theorem ok_Account_pay {f CA CB : Addr} {fd : FuncData} (T : Tx K mg) (ac : AccC K CA) (F : FunD K "pay" "Account.pay" (defArgs s_Account_pay) (defBody s_Account_pay) (defScope s_Account_pay) [] [] f fd) (mt_Account_next_row : Dm P w K mg base CX0 3 CA "next_row" (sp_next_row CA CB)) :
    FnOk P w K mg base CX0 4 f fd ["self", "day", "cents"] (sp_pay CA CB) := by
  have sc : FnScope ["self", "day", "cents", "row", "part"] ["self", "day", "cents"] (defScope s_Account_pay) := ⟨rfl, rfl, rfl, by decide +kernel, rfl, by decide +kernel, by decide +kernel⟩
  refine F.ok sc (by rintro vs H Q E ⟨_, _, _, _, _, _, _, _, _, rfl, _⟩; rfl) (fun cdv A outer s H vs Q E hr h => ⟨_, PSs.nox ((pss_cons (ps_fldaugK (K := K) rfl (pv 0) (pv 2) in_sub)
      (pss_one (ps_while PassesOwn.never (pt_cmpR op_gt (pv 2) pe_int (nomark _)) (pss_cons (ps_set (i := 3) sc.nd rfl (by first | exact Or.inl rfl | exact Or.inr rfl) (pe_mt0 mt_Account_next_row (hr.mono (by decide)) pass0 (pv 0)))
      (pss_cons (ps_set (i := 4) sc.nd rfl (by first | exact Or.inl rfl | exact Or.inr rfl) (pe_callB (c_min2 rfl) (by rfl) T.b_min (by decide +kernel) (pa_cons (pv 2) (pa_cons (pe_dget (hu_of hr) (pe_fldK (K := K) rfl (pv 0)) (pv 3) (fun _ _ => rfl)) pa_nil))))
      (pss_cons (ps_dput (hu_of hr) (pe_fldK (K := K) rfl (pv 0)) (pe_tup (pa_cons (pv 3) (pa_cons (pv 1) pa_nil))) (pe_op op_add (pe_dget2 (hu_of hr) (pe_fldK (K := K) rfl (pv 0)) (pe_tup (pa_cons (pv 3) (pa_cons (pv 1) pa_nil))) pe_int ⟨by rfl, by rfl, by rfl, by rfl⟩) (pv 4)) rfl)
      (pss_cons (ps_daug (hu_of hr) (pe_fldK (K := K) rfl (pv 0)) (pv 3) (pv 4) in_sub (fun _ _ _ => rfl))
      (Evl.pss_cut (ps_if (pt_cmpR op_eq (pe_dget (hu_of hr) (pe_fldK (K := K) rfl (pv 0)) (pv 3) (fun _ _ => rfl)) pe_int (nomark _)) (pss_one (ps_ddel (pe_fldK (K := K) rfl (pv 0)) (pv 3))) pss_nil)
      (pss_one (ps_aug (i := 2) sc.nd rfl (by first | exact Or.inl rfl | exact Or.inr rfl) (pv 4) ip_sub))))))))))), ?_⟩)
  obtain ⟨q, bk, H0, B, A, ow, d, c, n, rfl, ⟨dx, lf, kd, pd, lfs, kds, hA⟩, hS, hn, lok, c0, c1, hz, k⟩ := h
  walk_at "rd"
  refine r_kFldAug hA.i ac.cl ac.n4 rfl ?_
  walk_at "rd"
  refine r_kFldAug2 hA.i (show 5 < 1000 by decide) fun H1 b1 i1 => ?_
  rw [putF_owed] at i1
  have nq1 : q ≠ lf := ne_of hA.i hA.l (by intro z; cases z)
  have nq2 : q ≠ kd := ne_of hA.i hA.k (by intro z; cases z)
  have np3 : pd ≠ q := ne_of hA.p hA.i (by intro z; cases z)
  have A1 : AcAt CA CB H0 H1 q B bk A (ow - c) n := ⟨dx, lf, kd, pd, lfs, kds, ⟨fun a o ha => b1 _ _ (hA.sm _ _ ha) (ne_of_none ha hA.nq), hA.bo, hA.nq, hA.nl, hA.nk, hA.np, i1, b1 _ _ hA.l nq1.symm, hA.lp, b1 _ _ hA.k nq2.symm, hA.kl, hA.kk, b1 _ _ hA.p np3, hA.ne⟩⟩
  walk_at "rd"
  refine r_while (fun m σ' H' => ∃ (A' : Ac) (c' : Int) (v1 v2 : Option V), σ' = [some (.ref q), some (.int d), some (.int c'), v1, v2] ∧ AcAt CA CB H0 H' q B bk A' (ow - c) n ∧ SOk A'.S (n : Nat) ∧ 0 ≤ c' ∧ c' ≤ sumO A'.S ∧ A'.pay d c' = A.pay d c ∧ m = A'.S.length + (if 0 < c' then 1 else 0) ∧ A'.P.length + m ≤ 900000)
    _ ⟨A, c, none, none, rfl, A1, hS, c0, c1, rfl, rfl, by split <;> omega⟩ ?_
  rintro m σ' H2 ⟨⟨S', P'⟩, c', v1, v2, rfl, ⟨dx, lf, kd, pd, lfs, kds, hA⟩, hS, c0, c1, ep, rfl, hz⟩
  have nq1 : q ≠ lf := ne_of hA.i hA.l (by intro z; cases z)
  have nq2 : q ≠ kd := ne_of hA.i hA.k (by intro z; cases z)
  have np1 : pd ≠ lf := ne_of hA.p hA.l (by intro z; cases z)
  have np2 : pd ≠ kd := ne_of hA.p hA.k (by intro z; cases z)
  have np3 : pd ≠ q := ne_of hA.p hA.i (by intro z; cases z)
  walk_at "rd"
  refine r_kWh (fun h1 => ?_) (fun h1 => ?_)
  · have h1 := of_decide_eq_true h1
    rw [if_pos (show 0 < c' from h1)] at *
    cases S' with
    | nil =>
      exfalso
      have : sumO ([] : List Op) = 0 := rfl
      simp only at c1
      omega
    | cons o S =>
    have hlen : lfs.length = (o :: S).length := by have := hA.lp.length_eq; rwa [List.length_map] at this
    have hsl := hS.len
    have hz : P'.length + ((o :: S).length + 1) ≤ 900000 := hz
    have hS : SOk (o :: S) (n : Nat) := hS
    have hpos := hS.pos o (List.mem_cons_self ..)
    have hnd := hS.nd
    have ho : o.2.1 ∉ S.map (·.2.1) := by rw [List.map_cons, List.nodup_cons] at hnd; exact hnd.1
    walk_at "rd"
    refine r_kMeth hA.i rfl ?_
    walk_at "rd"
    refine ⟨q, bk, H0, B, o, S, P', _, n, rfl, ⟨dx, lf, kd, pd, lfs, kds, hA⟩, hS, hn, lok, fun H3 e3 => ?_⟩
    have hA := hA.keep e3
    walk_at "rd"
    refine r_kFld hA.i ac.cl ac.n2 rfl ?_
    walk_at "rd"
    refine r_kDGetT hA.l (lf_look hA.lp hnd) ?_
    walk_at "rd"
    refine r_kFld hA.i ac.cl ac.n5 rfl ?_
    refine r_kDGet2T hA.p ?_
    walk_at "rd"
    refine r_kTup fun t1 H4 nt1 e4 ht1 => ?_
    have hA := hA.keep e4
    walk_at "rd"
    refine r_kDGet2zT hA.p ht1 ?_
    walk_at "rd"
    refine r_kFld hA.i ac.cl ac.n5 rfl ?_
    walk_at "rd"
    refine r_kTup fun t2 H5 nt2 e5 ht2 => ?_
    have hA := hA.keep e5
    refine r_kDPutP hA.p ht2 (by have : P'.length + ((o :: S).length + 1) ≤ 900000 := hz; show P'.length < 1000000; omega) fun H6 b6 p6 => ?_
    have i6 := b6 _ _ hA.i np3.symm
    have l6 := b6 _ _ hA.l np1.symm
    have k6 := b6 _ _ hA.k np2.symm
    walk_at "rd"
    refine r_kFld i6 ac.cl ac.n2 rfl ?_
    walk_at "rd"
    refine r_kDAugT l6 (lf_look hA.lp hnd) ?_
    walk_at "rd"
    refine r_kDAug2T l6 (by omega) fun H7 b7 l7 => ?_
    have i7 := b7 _ _ i6 nq1
    have k7 := b7 _ _ k6 hA.ne.symm
    have p7 := b7 _ _ p6 np1
    have sm7 : Same H0 H7 := fun a u ha => b7 _ _ (b6 _ _ (hA.sm _ _ ha) (ne_of_none ha hA.np)) (ne_of_none ha hA.nl)
    walk_at "rd"
    have lp7 := lf_put hA.lp hnd (o.2.2 - min c' o.2.2)
    refine r_cut (fun σ' H' => σ' = [some (.ref q), some (.int d), some (.int c'), some (.int o.2.1), some (.int (min c' o.2.2))] ∧ AcAt CA CB H0 H' q B bk ⟨if c' < o.2.2 then (o.1, o.2.1, o.2.2 - c') :: S else S, addP P' (o.2.1, d) (min c' o.2.2)⟩ (ow - c) n) ?_ ?_
    · walk_at "rd"
      refine r_kFld i7 ac.cl ac.n2 rfl ?_
      walk_at "rd"
      refine r_kDGetT l7 look_putI ?_
      walk_at "rd"
      refine w_dec (fun g => ?_) (fun g => ?_)
      · have g2 : ¬ c' < o.2.2 := by omega
        walk_at "rd"
        refine r_kFld i7 ac.cl ac.n2 rfl ?_
        walk_at "rd"
        refine r_kDDel l7 look_putI fun H8 b8 l8 => ?_
        walk_at "rd"
        rw [if_neg g2]
        exact ⟨rfl, dx, lf, kd, pd, _, kds, ⟨fun a u ha => b8 _ _ (sm7 _ _ ha) (ne_of_none ha hA.nl), hA.bo, hA.nq, hA.nl, hA.nk, hA.np, b8 _ _ i7 nq1, l8, lf_drop lp7 ho, b8 _ _ k7 hA.ne.symm, hA.kl, fun y hy => hA.kk y (List.mem_cons_of_mem _ hy), b8 _ _ p7 np1, hA.ne⟩⟩
      · have g2 : c' < o.2.2 := by omega
        walk_at "rd"
        rw [if_pos g2]
        refine ⟨rfl, dx, lf, kd, pd, _, kds, ⟨sm7, hA.bo, hA.nq, hA.nl, hA.nk, hA.np, i7, l7, ?_, k7, hA.kl, fun y hy => ?_, p7, hA.ne⟩⟩
        · rw [show min c' o.2.2 = c' by omega] at lp7 ⊢
          exact lp7
        · rcases List.mem_cons.mp hy with rfl | hy
          · exact hA.kk o (List.mem_cons_self ..)
          · exact hA.kk y (List.mem_cons_of_mem _ hy)
    · rintro σ' H8 ⟨rfl, A8⟩
      walk_at "rd"
      have hPl := addP_len P' (o.2.1, d) (min c' o.2.2)
      rw [sumO_cons] at c1
      by_cases g : c' < o.2.2
      · rw [if_pos g] at A8
        rw [show min c' o.2.2 = c' by omega] at A8 hPl ⊢
        refine ⟨(S.length + 1) + 0, ?_, ⟨(o.1, o.2.1, o.2.2 - c') :: S, addP P' (o.2.1, d) c'⟩, c' - c', _, _, rfl, A8, hS.less g, by omega, ?_, ?_, ?_, ?_⟩
        · show _ < S.length + 1 + 1
          omega
        · have := sumO_nonneg (hS.less g).pos
          show c' - c' ≤ sumO ((o.1, o.2.1, o.2.2 - c') :: S)
          omega
        · rw [pay_zero _ _ (by omega), ← ep, pay_part h1 g]
        · rw [if_neg (by omega)]
          rfl
        · show (addP P' (o.2.1, d) c').length + (S.length + 1 + 0) ≤ 900000
          simp only [List.length_cons] at hz
          omega
      · rw [if_neg g] at A8
        rw [show min c' o.2.2 = o.2.2 by omega] at A8 hPl ⊢
        refine ⟨S.length + (if 0 < c' - o.2.2 then 1 else 0), ?_, ⟨S, addP P' (o.2.1, d) o.2.2⟩, c' - o.2.2, _, _, rfl, A8, hS.tail, by omega, ?_, ?_, rfl, ?_⟩
        · show _ < S.length + 1 + 1
          split <;> omega
        · show c' - o.2.2 ≤ sumO S
          omega
        · rw [← ep, pay_all h1 (by omega)]
        · show (addP P' (o.2.1, d) o.2.2).length + _ ≤ 900000
          simp only [List.length_cons] at hz
          split <;> omega
  · have h1 := of_decide_eq_false h1
    walk_at "rd"
    rw [← ep, pay_zero _ _ (by omega)] at k
    exact k H2 ⟨dx, lf, kd, pd, lfs, kds, hA⟩
end
end Wp
set_option Elab.async false
set_option linter.all false
set_option maxRecDepth 100000
set_option maxHeartbeats 4000000
/-! Courses: rows judged, accounts of courses, pieces. -/
namespace Wp
open PySem PySem.Spec PyProof.Rows L2
abbrev s_is_row : Stmt := topS 35
abbrev s_account_of : Stmt := topS 36
abbrev s_need_account : Stmt := topS 37
local macro_rules | `(tactic| walk_at "val") => `(tactic| assumption)
local macro_rules | `(tactic| walk_at "rd1") => `(tactic| first
  | with_reducible refine r_seq ?_ | with_reducible refine r_next ?_ | with_reducible refine r_if ?_ | with_reducible refine r_asg ?_ | with_reducible refine r_gname ?_
  | with_reducible refine r_ret ?_ | with_reducible refine r_retN ?_ | with_reducible refine r_drop ?_ | with_reducible refine r_par ?_ | with_reducible refine r_kPar ?_
  | ((with_reducible refine' r_var ?hv ?_); (case hv => exact rfl)) | with_reducible refine r_c ?_ | with_reducible refine r_nil ?_ | with_reducible refine r_cons ?_
  | with_reducible refine r_fn ?_ | with_reducible refine r_cb ?_ | with_reducible refine r_op ?_ | with_reducible refine r_un ?_ | with_reducible refine r_I0 ?_
  | with_reducible refine r_pow5 ?_ | with_reducible refine r_pow6 ?_ | with_reducible refine r_pow7 ?_ | with_reducible refine r_pow9 ?_ | with_reducible refine r_pow18 ?_ | with_reducible refine r_pow20 ?_ | with_reducible refine r_pow30 ?_
  | with_reducible refine r_isN_non ?_ | with_reducible refine r_isN_ref ?_ | with_reducible refine r_isN_int ?_ | with_reducible refine r_isN_str ?_ | with_reducible refine r_isN_bl ?_ | with_reducible refine r_notN_non ?_ | with_reducible refine r_notN_ref ?_ | with_reducible refine r_notN_int ?_ | with_reducible refine r_notN_str ?_ | with_reducible refine r_notN_bl ?_
  | ((with_reducible refine r_I ?hc ?_); (case hc => walk_at "side")) | with_reducible refine r_U ?_
  | with_reducible refine r_eqI ?_ | with_reducible refine r_neI ?_ | with_reducible refine r_eqS ?_ | with_reducible refine r_neS ?_ | with_reducible refine r_eqB ?_ | with_reducible refine r_neB ?_
  | with_reducible refine r_chain ?_ | with_reducible refine r_test ?_ | with_reducible refine r_tB ?_ | with_reducible refine r_kTest ?_ | with_reducible refine r_not ?_
  | with_reducible refine r_and ?_ | with_reducible refine r_or ?_ | with_reducible refine r_tif ?_ | with_reducible refine r_andV ?_ | with_reducible refine r_orV ?_ | with_reducible refine r_notV ?_
  | with_reducible refine r_kAndV ?_ | with_reducible refine r_kOrV ?_ | with_reducible refine r_kNotV ?_
  | with_reducible refine w_T ?_ | with_reducible refine w_F ?_ | with_reducible refine w_NT ?_ | with_reducible refine w_NF ?_
  | with_reducible refine r_tup ?_ | with_reducible refine r_lst ?_ | with_reducible refine r_fld ?_ | with_reducible refine r_prop ?_ | ((with_reducible refine' r_aug ?h1 ?_); (case h1 => exact rfl)) | with_reducible refine r_ipI ?_ | with_reducible refine r_dget ?_ | with_reducible refine r_dput ?_ | with_reducible refine r_bm ?_
  | ((with_reducible refine' r_kDGetS ?h1 ?h2 ?_); (case h1 => assumption); (case h2 => walk_at "val"))
  | ((with_reducible refine' r_kBML ?h1 ?_); (case h1 => assumption))
  | with_reducible refine r_forL ?_ | with_reducible refine r_forR1 ?_ | with_reducible refine r_forR2 ?_ | with_reducible refine r_forT ?_ | with_reducible refine r_lcL ?_ | with_reducible refine r_lcR1 ?_
  | ((with_reducible refine r_kLcG ?hw ?_); (case hw => exact rfl)) | with_reducible refine r_kLcT ?_ | with_reducible refine r_yes ?_
  | with_reducible refine r_pnil ?_ | with_reducible refine r_pcons ?_
  | with_reducible refine r_fnK ?_ | ((with_reducible refine r_kFnK ?hl ?_); (case hl => exact rfl))
  | with_reducible refine r_isi_ii ?_ | with_reducible refine r_isi_ib ?_ | with_reducible refine r_isi_bi ?_ | with_reducible refine r_isi_bb ?_ | with_reducible refine r_isi_ss ?_ | with_reducible refine r_isi_is ?_ | with_reducible refine r_isi_it ?_
  | ((with_reducible refine' r_isi_tt ?h1 ?_); (case h1 => assumption))
  | with_reducible refine r_sfld ?_ | with_reducible refine r_gnil ?_ | with_reducible refine r_gcons ?_
  | ((with_reducible refine' r_gtup ?h1 ?h2 ?_); (case h1 => exact SqT.of (by assumption)); (case h2 => exact rfl))
  | with_reducible refine r_sl ?_ | with_reducible refine r_noPart ?_ | with_reducible refine r_part ?_ | with_reducible refine r_kPart ?_ | with_reducible refine r_m1 ?_ | with_reducible refine r_kM1 ?_ | with_reducible refine r_forS ?_ | with_reducible refine r_lcS ?_ | with_reducible refine r_lcTu ?_ | with_reducible refine r_lcK ?_ | with_reducible refine r_dcL ?_ | with_reducible refine r_dcK ?_ | with_reducible refine r_lc2L ?_ | with_reducible refine r_kLc2TL ?_ | with_reducible refine r_dcEn ?_ | with_reducible refine r_gslc ?_ | with_reducible refine r_lcEn ?_ | with_reducible refine r_forET ?_ | with_reducible refine r_lenD ?_
  | ((with_reducible refine r_kDcG ?hw ?_); (case hw => exact rfl)) | with_reducible refine r_kDcT ?_
  | with_reducible refine r_fldaug ?_ | with_reducible refine r_daug ?_ | with_reducible refine r_rAdd ?_ | with_reducible refine r_rSub ?_ | with_reducible refine r_ddel ?_ | with_reducible refine r_bmF ?_ | with_reducible refine r_dget2 ?_ | with_reducible refine r_listItems ?_ | with_reducible refine r_bm0 ?_ | with_reducible refine r_lc2E ?_ | ((with_reducible refine r_kLc2G ?hw ?_); (case hw => exact rfl)) | with_reducible refine r_kLc2T ?_ | with_reducible refine r_forE ?_ | with_reducible refine r_orT ?_ | with_reducible refine r_din ?_ | with_reducible refine r_augS ?_ | with_reducible refine r_dnotin ?_ | with_reducible refine r_lcIT ?_ | with_reducible refine r_cont ?_ | with_reducible refine r_meth ?_ | with_reducible refine r_frz ?_ | with_reducible refine r_par3 ?_ | with_reducible refine r_kPar3 ?_ | with_reducible refine r_dz ?_ | with_reducible refine r_revL ?_ | with_reducible refine r_star ?_ | with_reducible refine r_int1 ?_ | with_reducible refine r_int1b ?_ | with_reducible refine r_min2 ?_ | with_reducible refine r_max2 ?_ | with_reducible refine r_gsub ?_)
local macro_rules | `(tactic| walk_at "rd") => `(tactic| repeat walk_at "rd1")
local macro_rules | `(tactic| walk_at "side") => `(tactic| first | assumption | exact Or.inr ⟨by decide, by decide⟩ | exact Or.inl ⟨by decide, by decide⟩ | (constructor <;> omega) | omega | decide | (refine Or.inl ⟨?_, ?_⟩ <;> omega) | (refine Or.inr ⟨?_, ?_⟩ <;> omega) | (refine ⟨?_, ?_, ?_⟩ <;> first | decide | omega))
theorem AcAt.mono {CA CB q bk : Addr} {H0 H : Hp} {B : Bk} {A : Ac} {ow : Int} {n m : Nat} (h : AcAt CA CB H0 H q B bk A ow n) (l : n ≤ m) : AcAt CA CB H0 H q B bk A ow m := by
  obtain ⟨dx, lf, kd, pd, lfs, kds, h⟩ := h
  exact ⟨dx, lf, kd, pd, lfs, kds, ⟨h.sm, h.bo, h.nq, h.nl, h.nk, h.np, h.i, h.l, h.lp, h.k, Nat.le_trans h.kl l, h.kk, h.p, h.ne⟩⟩
theorem AcAt.sm {CA CB q bk : Addr} {H0 H : Hp} {B : Bk} {A : Ac} {ow : Int} {n : Nat} (h : AcAt CA CB H0 H q B bk A ow n) : Same H0 H := by
  obtain ⟨dx, lf, kd, pd, lfs, kds, h⟩ := h
  exact h.sm
def sp_is_row (CB : Addr) : Sp := fun vs H Q _ => ∃ (bk t : Addr) (B : Bk) (r : CR) (d o : Int), vs = [.ref bk, .ref t, .int d, .int o] ∧ BookAt CB H bk B ∧ B.Ok ∧ H t = some (.tup (encCR r)) ∧ okRow (B.ks.map (·.1)) d o r ∧ Q (.bl true) H
/-- a right course for a book -/
structure CourOk (B : Bk) (rs : List CR) (e : Int) : Prop where
  v : VR (B.ks.map (·.1)) rs
  e : lastDay rs ≤ e
  n : rs.length ≤ 200
def sp_account_of (K : PySem.W.Frag) (CA CB : Addr) : Sp := fun vs H Q _ => ∃ (bk p : Addr) (B : Bk) (rs : List CR) (e : Int), vs = [.ref bk, .ref p] ∧ BookAt CB H bk B ∧ B.Ok ∧ B.LaidOk ∧ CourAt K H p rs e ∧ CourOk B rs e ∧
  ∀ q H', AcAt CA CB H H' q B bk ((acOf (rkB B) rs).pay e (owedC rs)) 0 rs.length → Q (.ref q) H'
def sp_pieces_of (CA CB : Addr) : Sp := fun vs H Q _ => ∃ (q bk : Addr) (H0 : Hp) (B : Bk) (A : Ac) (ow : Int) (n : Nat), vs = [.ref q] ∧ AcAt CA CB H0 H q B bk A ow n ∧ A.P.length ≤ 900000 ∧
  ∀ p ws H', H p = none → Same H H' → H' p = some (.lst ws) → TAt H' ws (piecesL A.P) → Q (.ref p) H'
section
variable {P : Program} {w : World} {K : PySem.W.Frag} {mg : Str → Option Value} {base : Heap}
theorem ok_is_row {f CB : Addr} {fd : FuncData} (T : Tx K mg) (bc : BkC K CB) (F : FnP K "is_row" s_is_row f fd) (d_is_number : Dn P w K mg base CX0 1 "is_number" ["value"] (sp_is_number K)) :
    FnOk P w K mg base CX0 2 f fd ["book", "value", "day", "owed"] (sp_is_row CB) := by
  have sc : FnScope ["book", "value", "day", "owed"] ["book", "value", "day", "owed"] (defScope s_is_row) := ⟨rfl, rfl, rfl, by decide +kernel, rfl, by decide +kernel, by decide +kernel⟩
  refine F.ok sc (by rintro vs H Q E ⟨_, _, _, _, _, _, rfl, _⟩; rfl) (fun cdv A outer s H vs Q E hr h => ⟨_, PSs.nox ((pss_cons (ps_if (PW.pt (pw_or (pt_not (pt_val (pe_callB (c_isiK (K := K) rfl) (by rfl) T.b_isinstance (by decide +kernel) (pa_cons (pv 1) (pa_cons (pe_bltn (v := .ty "tuple") (by rfl) T.b_tuple (by decide +kernel) rfl) pa_nil))))) (pw_or (pt_cmpR op_lt (pe_callB (c_lenK (K := K) rfl) (by rfl) T.b_len (by decide +kernel) (pa_cons (pv 1) pa_nil)) pe_int (nomark _)) (pw_or1 (pt_not (pt_val (pe_callB (c_isiK (K := K) rfl) (by rfl) T.b_isinstance (by decide +kernel) (pa_cons (pe_ix (ix_tupK (K := K) rfl) (pv 1) pe_int (fun _ _ => rfl)) (pa_cons (pe_bltn (v := .ty "str") (by rfl) T.b_str (by decide +kernel) rfl) pa_nil))))))))) (pss_one (ps_ret pe_bl)) pss_nil)
      (pss_cons (ps_if (PW.pt (pw_or (pt_not (pt_val (pe_fn d_is_number (hr.mono (by decide)) pass0 (pa_cons (pe_ix (ix_tupK (K := K) rfl) (pv 1) pe_int (fun _ _ => rfl)) pa_nil)))) (pw_or (pt_cmpR op_lt (pe_ix (ix_tupK (K := K) rfl) (pv 1) pe_int (fun _ _ => rfl)) (pv 2) (nomark _)) (pw_or (pt_not (pt_val (pe_fn d_is_number (hr.mono (by decide)) pass0 (pa_cons (pe_ix (ix_tupK (K := K) rfl) (pv 1) (pe_un un_neg pe_int) (fun _ _ => rfl)) pa_nil)))) (pw_or1 (pt_cmpR op_lt (pe_ix (ix_tupK (K := K) rfl) (pv 1) (pe_un un_neg pe_int) (fun _ _ => rfl)) pe_int (nomark _))))))) (pss_one (ps_ret pe_bl)) pss_nil)
      (pss_cons (ps_if (pt_cmpR op_eq (pe_ix (ix_tupK (K := K) rfl) (pv 1) pe_int (fun _ _ => rfl)) (pe_glob (v := .str "buy") (by rfl) T.c_BUY.choose_spec ⟨_, rfl⟩) (nomark _)) (pss_one (ps_ret (pe_and (pe_cmpR op_eq (pe_callB (c_lenK (K := K) rfl) (by rfl) T.b_len (by decide +kernel) (pa_cons (pv 1) pa_nil)) pe_int (nomark _)) (pe_and (pe_callB (c_isiK (K := K) rfl) (by rfl) T.b_isinstance (by decide +kernel) (pa_cons (pe_ix (ix_tupK (K := K) rfl) (pv 1) pe_int (fun _ _ => rfl)) (pa_cons (pe_bltn (v := .ty "str") (by rfl) T.b_str (by decide +kernel) rfl) pa_nil))) (pe_one (pe_cmp (pc_din (hu_of hr) (pe_ix (ix_tupK (K := K) rfl) (pv 1) pe_int (fun _ _ => rfl)) (pe_fldK (K := K) rfl (pv 0))) (by rfl))))))) pss_nil)
      (pss_one (ps_ret (pe_and (pe_cmpR op_eq (pe_ix (ix_tupK (K := K) rfl) (pv 1) pe_int (fun _ _ => rfl)) (pe_glob (v := .str "pay") (by rfl) T.c_PAY.choose_spec ⟨_, rfl⟩) (nomark _)) (pe_and (pe_cmpR op_eq (pe_callB (c_lenK (K := K) rfl) (by rfl) T.b_len (by decide +kernel) (pa_cons (pv 1) pa_nil)) pe_int (nomark _)) (pe_one (pe_cmpR op_le (pe_ix (ix_tupK (K := K) rfl) (pv 1) pe_int (fun _ _ => rfl)) (pv 3) (nomark _))))))))))), ?_⟩)
  obtain ⟨bk, t, B, r, d, o, rfl, hB, ok, ht, hr, k⟩ := h
  obtain ⟨dxb, tl, kb, lv, kvs, hI⟩ := id hB
  cases r with
  | buy d' z c =>
    obtain ⟨h1, h2, h3, h4⟩ := hr
    have ht : H t = some (.tup [.str "buy", .int d', .str z, .int c]) := ht
    walk_at "rd"
    refine r_lenT (SqT.of ht) ?_
    walk_at "rd"
    refine w_dec (fun h => absurd (show (4 : Int) < 3 from h) (by decide)) (fun _ => ?_)
    walk_at "rd"
    refine r_ixT (SqT.of ht) (at_get (n := 0) rfl rfl) ?_
    walk_at "rd"
    refine r_ixT (SqT.of ht) (at_get (n := 1) rfl rfl) ?_
    walk_at "rd"
    refine ⟨_, _, rfl, .int d', ?_⟩
    walk_at "rd"
    refine w_no rfl ?_
    walk_at "rd"
    refine r_ixT (SqT.of ht) (at_get (n := 1) rfl rfl) ?_
    walk_at "rd"
    refine w_dec (fun h => absurd h (by omega)) (fun _ => ?_)
    walk_at "rd"
    refine r_ixT (SqT.of ht) (show atI _ _ = some (V.int c) from rfl) ?_
    walk_at "rd"
    refine ⟨_, _, rfl, .int c, ?_⟩
    walk_at "rd"
    refine w_no rfl ?_
    walk_at "rd"
    refine r_ixT (SqT.of ht) (show atI _ _ = some (V.int c) from rfl) ?_
    walk_at "rd"
    refine w_dec (fun h => absurd h (by omega)) (fun _ => ?_)
    walk_at "rd"
    refine r_ixT (SqT.of ht) (at_get (n := 0) rfl rfl) ?_
    walk_at "rd"
    refine w_dec (fun _ => ?_) (fun h => absurd rfl h)
    walk_at "rd"
    refine r_lenT (SqT.of ht) ?_
    walk_at "rd"
    refine w_dec (fun _ => ?_) (fun h => absurd rfl h)
    walk_at "rd"
    refine r_ixT (SqT.of ht) (at_get (n := 2) rfl rfl) ?_
    walk_at "rd"
    refine r_ixT (SqT.of ht) (at_get (n := 2) rfl rfl) ?_
    walk_at "rd"
    refine r_kFld hI.i bc.cl bc.n3 rfl ?_
    obtain ⟨kk, hk1, hk2⟩ := List.mem_map.mp h2
    obtain ⟨kn, kr, kf⟩ := kk
    obtain rfl : kn = z := hk2
    obtain ⟨tt, hv, _⟩ := hI.a.val ok.kn.nm.nd hk1
    exact r_kDInS hI.k hv k
  | pay d' c =>
    obtain ⟨h1, h2, h3⟩ := hr
    have ht : H t = some (.tup [.str "pay", .int d', .int c]) := ht
    walk_at "rd"
    refine r_lenT (SqT.of ht) ?_
    walk_at "rd"
    refine w_dec (fun h => absurd (show (3 : Int) < 3 from h) (by decide)) (fun _ => ?_)
    walk_at "rd"
    refine r_ixT (SqT.of ht) (at_get (n := 0) rfl rfl) ?_
    walk_at "rd"
    refine r_ixT (SqT.of ht) (at_get (n := 1) rfl rfl) ?_
    walk_at "rd"
    refine ⟨_, _, rfl, .int d', ?_⟩
    walk_at "rd"
    refine w_no rfl ?_
    walk_at "rd"
    refine r_ixT (SqT.of ht) (at_get (n := 1) rfl rfl) ?_
    walk_at "rd"
    refine w_dec (fun h => absurd h (by omega)) (fun _ => ?_)
    walk_at "rd"
    refine r_ixT (SqT.of ht) (show atI _ _ = some (V.int c) from rfl) ?_
    walk_at "rd"
    refine ⟨_, _, rfl, .int c, ?_⟩
    walk_at "rd"
    refine w_no rfl ?_
    walk_at "rd"
    refine r_ixT (SqT.of ht) (show atI _ _ = some (V.int c) from rfl) ?_
    walk_at "rd"
    refine w_dec (fun h => absurd h (by omega)) (fun _ => ?_)
    walk_at "rd"
    refine r_ixT (SqT.of ht) (at_get (n := 0) rfl rfl) ?_
    walk_at "rd"
    refine w_dec (fun h => absurd h (by decide +kernel)) (fun _ => ?_)
    walk_at "rd"
    refine r_ixT (SqT.of ht) (at_get (n := 0) rfl rfl) ?_
    walk_at "rd"
    refine w_dec (fun _ => ?_) (fun h => absurd rfl h)
    walk_at "rd"
    refine r_lenT (SqT.of ht) ?_
    walk_at "rd"
    refine w_dec (fun _ => ?_) (fun h => absurd rfl h)
    walk_at "rd"
    refine r_ixT (SqT.of ht) (at_get (n := 2) rfl rfl) ?_
    walk_at "rd"
    rw [decide_eq_true h3]
    exact k
theorem ok_account_of {f CA CB : Addr} {fd : FuncData} (T : Tx K mg) (ac : AccC K CA) (F : FnP K "account_of" s_account_of f fd) (d_is_number : Dn P w K mg base CX0 1 "is_number" ["value"] (sp_is_number K)) (d_is_list : Dn P w K mg base CX0 1 "is_list" ["value"] (sp_is_list K))
    (d_is_row : Dn P w K mg base CX0 2 "is_row" ["book", "value", "day", "owed"] (sp_is_row CB)) (mk_Account : Dc P w K mg base CX0 1 "Account" (sp_Account CA CB)) (mt_Account_buy : Dm P w K mg base CX0 1 CA "buy" (sp_buy CA CB)) (mt_Account_pay : Dm P w K mg base CX0 4 CA "pay" (sp_pay CA CB)) :
    FnOk P w K mg base CX0 6 f fd ["book", "course"] (sp_account_of K CA CB) := by
  have sc : FnScope ["book", "course", "account", "day", "rows", "end", "at", "row"] ["book", "course"] (defScope s_account_of) := ⟨rfl, rfl, rfl, by decide +kernel, rfl, by decide +kernel, by decide +kernel⟩
  refine F.ok sc (by rintro vs H Q E ⟨_, _, _, _, _, rfl, _⟩; rfl) (fun cdv A outer s H vs Q E hr h => ⟨_, PSs.nox ((pss_cons (ps_if (PW.pt (pw_or (pt_not (pt_val (pe_callB (c_isiK (K := K) rfl) (by rfl) T.b_isinstance (by decide +kernel) (pa_cons (pv 1) (pa_cons (pe_bltn (v := .ty "tuple") (by rfl) T.b_tuple (by decide +kernel) rfl) pa_nil))))) (pw_or (pt_cmpR op_ne (pe_callB (c_lenK (K := K) rfl) (by rfl) T.b_len (by decide +kernel) (pa_cons (pv 1) pa_nil)) pe_int (nomark _)) (pw_or1 (pt_not (pt_val (pe_fn d_is_list (hr.mono (by decide)) pass0 (pa_cons (pe_ix (ix_tupK (K := K) rfl) (pv 1) pe_int (fun _ _ => rfl)) pa_nil)))))))) (pss_one ps_never) pss_nil)
      (pss_cons (ps_asg (pe_tup (pa_cons (pe_mk mk_Account (hr.mono (by decide)) pass0 (pa_cons (pv 0) pa_nil)) (pa_cons pe_int (pa_cons (pv 1) pa_nil)))) (pg_tupK (K := K) (n := 3) rfl rfl (pgs_cons (pg_name (i := 2) sc.nd rfl (by first | exact Or.inl rfl | exact Or.inr rfl)) (pgs_cons (pg_name (i := 3) sc.nd rfl (by first | exact Or.inl rfl | exact Or.inr rfl)) (pgs_cons (pg_tupK (K := K) (n := 2) rfl rfl (pgs_cons (pg_name (i := 4) sc.nd rfl (by first | exact Or.inl rfl | exact Or.inr rfl)) (pgs_cons (pg_name (i := 5) sc.nd rfl (by first | exact Or.inl rfl | exact Or.inr rfl)) pgs_nil))) pgs_nil)))))
      (pss_cons (ps_for PassesOwn.never rfl (pi_either (pi_enumK (K := K) rfl (by rfl) T.b_enumerate (pa_cons (pv 4) pa_nil)) (pi_enumTK (K := K) rfl (by rfl) T.b_enumerate (pa_cons (pv 4) pa_nil))) (pg_tupK (K := K) (n := 2) rfl rfl (pgs_cons (pg_name (i := 6) sc.nd rfl (by first | exact Or.inl rfl | exact Or.inr rfl)) (pgs_cons (pg_name (i := 7) sc.nd rfl (by first | exact Or.inl rfl | exact Or.inr rfl)) pgs_nil))) (pss_cons (ps_if (pt_not (pt_val (pe_fn d_is_row (hr.mono (by decide)) pass0 (pa_cons (pv 0) (pa_cons (pv 7) (pa_cons (pv 3) (pa_cons (pe_fldK (K := K) rfl (pv 2)) pa_nil))))))) (pss_one ps_never) pss_nil)
      (pss_cons (ps_set (i := 3) sc.nd rfl (by first | exact Or.inl rfl | exact Or.inr rfl) (pe_ix (ix_tupK (K := K) rfl) (pv 7) pe_int (fun _ _ => rfl)))
      (pss_one (ps_if (pt_cmpR op_eq (pe_ix (ix_tupK (K := K) rfl) (pv 7) pe_int (fun _ _ => rfl)) (pe_glob (v := .str "buy") (by rfl) T.c_BUY.choose_spec ⟨_, rfl⟩) (nomark _)) (pss_one (ps_expr (pe_mt mt_Account_buy (hr.mono (by decide)) pass0 (pv 2) (pa_cons (pv 6) (pa_cons (pe_ix (ix_tupK (K := K) rfl) (pv 7) pe_int (fun _ _ => rfl)) (pa_cons (pe_ix (ix_tupK (K := K) rfl) (pv 7) pe_int (fun _ _ => rfl)) pa_nil)))))) (pss_one (ps_expr (pe_mt mt_Account_pay (hr.mono (by decide)) pass0 (pv 2) (pa_cons (pv 3) (pa_cons (pe_ix (ix_tupK (K := K) rfl) (pv 7) pe_int (fun _ _ => rfl)) pa_nil))))))))))
      (pss_cons (ps_if (PW.pt (pw_or (pt_not (pt_val (pe_fn d_is_number (hr.mono (by decide)) pass0 (pa_cons (pv 5) pa_nil)))) (pw_or1 (pt_cmpR op_lt (pv 5) (pv 3) (nomark _))))) (pss_one ps_never) pss_nil)
      (pss_cons (ps_expr (pe_mt mt_Account_pay (hr.mono (by decide)) pass0 (pv 2) (pa_cons (pv 5) (pa_cons (pe_fldK (K := K) rfl (pv 2)) pa_nil))))
      (pss_one (ps_ret (pv 2))))))))), ?_⟩)
  obtain ⟨bk, p, B, rs, e, rfl, hB, ok, lok, ⟨l, ws, hp, hl, hR⟩, co, k⟩ := h
  have hlen := hR.len
  have hn := co.n
  have hv := co.v
  walk_at "rd"
  refine r_lenT (SqT.of hp) ?_
  walk_at "rd"
  refine w_ndec (fun h => absurd rfl h) (fun _ => ?_)
  walk_at "rd"
  refine r_ixT (SqT.of hp) (at_get (n := 0) rfl rfl) ?_
  walk_at "rd"
  refine ⟨l, ws, rfl, hl, fun H1 e1 => ?_⟩
  walk_at "rd"
  refine ⟨bk, B, rfl, hB.keep e1, fun q H2 A2 => ?_⟩
  walk_at "rd"
  refine r_kTup fun t H3 nt e3 ht => ?_
  have e13 := A2.sm.trans e3
  have hp3 := e13 _ _ (e1 _ _ hp)
  have A3 := A2.keep e3
  walk_at "rd"
  refine r_forES2 (xs := ws) rfl (hl.same e1) e13 (fun i σ' H' => ∃ x6 x7, σ' = [some (.ref bk), some (.ref p), some (.ref q), some (.int (lastDay (rs.take i))), some (.ref l), some (.int e), x6, x7] ∧ AcAt CA CB H1 H' q B bk (acOf (rkB B) (rs.take i)) (owedC (rs.take i)) i)
    ⟨_, _, rfl, A3⟩ (fun i σ' H' ⟨_, _, _, h⟩ => h.sm) ?_ ?_
  · rintro i x T' σ' H4 H5 hx ⟨x6, x7, rfl, A4⟩ nT e5 hT
    obtain ⟨tr, r, rfl, hr, htr⟩ := hR.get hx
    have hi := (List.getElem?_eq_some_iff.mp hr).1
    have A5 := A4.keep e5
    have htr5 := A5.sm _ _ (e1 _ _ htr)
    have hok := hv i r hr
    obtain ⟨sok, ssum⟩ := acOf_ok (rkB B) _ rfl (hv.take i)
    have hti : (rs.take i).length = i := by rw [List.length_take]; omega
    rw [hti] at sok
    have hplen := acOf_len (rkB B) (rs.take i)
    rw [hti] at hplen
    have hii : i * i ≤ 40000 := Nat.le_trans (Nat.mul_le_mul (show i ≤ 200 by omega) (show i ≤ 200 by omega)) (by decide)
    obtain ⟨dx, lf, kd, pd, lfs, kds, hA⟩ := id A5
    walk_at "rd"
    refine r_kFld hA.i ac.cl ac.n4 rfl ?_
    walk_at "rd"
    refine ⟨bk, tr, B, r, _, _, rfl, (hB.keep e1).keep A5.sm, ok, htr5, hok, ?_⟩
    walk_at "rd"
    cases r with
    | buy d z c =>
      obtain ⟨h1, h2, h3, h4⟩ := hok
      have htr5 : H5 tr = some (.tup [.str "buy", .int d, .str z, .int c]) := htr5
      refine r_ixT (SqT.of htr5) (at_get (n := 1) rfl rfl) ?_
      walk_at "rd"
      refine r_ixT (SqT.of htr5) (at_get (n := 0) rfl rfl) ?_
      walk_at "rd"
      refine w_dec (fun _ => ?_) (fun h => absurd rfl h)
      walk_at "rd"
      refine r_kMeth hA.i rfl ?_
      walk_at "rd"
      refine r_ixT (SqT.of htr5) (at_get (n := 2) rfl rfl) ?_
      walk_at "rd"
      refine r_ixT (SqT.of htr5) (at_get (n := 3) rfl rfl) ?_
      walk_at "rd"
      refine ⟨q, bk, H1, B, _, _, c, i, z, rfl, A5, sok, by omega, h2, fun H6 A6 => ?_⟩
      walk_at "rd"
      rw [take_more hr, lastDay_snoc, acOf_snoc, owedC_snoc, hti]
      exact ⟨_, _, rfl, A6⟩
    | pay d c =>
      obtain ⟨h1, h2, h3⟩ := hok
      have htr5 : H5 tr = some (.tup [.str "pay", .int d, .int c]) := htr5
      refine r_ixT (SqT.of htr5) (at_get (n := 1) rfl rfl) ?_
      walk_at "rd"
      refine r_ixT (SqT.of htr5) (at_get (n := 0) rfl rfl) ?_
      walk_at "rd"
      refine w_dec (fun h => absurd h (by decide +kernel)) (fun _ => ?_)
      walk_at "rd"
      refine r_kMeth hA.i rfl ?_
      walk_at "rd"
      refine r_ixT (SqT.of htr5) (at_get (n := 2) rfl rfl) ?_
      walk_at "rd"
      refine ⟨q, bk, H1, B, _, _, d, c, i, rfl, A5, sok, by omega, lok, by omega, by rw [ssum]; exact h3, by omega, fun H6 A6 => ?_⟩
      walk_at "rd"
      rw [take_more hr, lastDay_snoc, acOf_snoc, owedC_snoc, hti]
      exact ⟨_, _, rfl, A6.mono (Nat.le_succ _)⟩
  · rintro σ' H4 ⟨x6, x7, rfl, A4⟩
    rw [hlen, List.take_length] at A4 ⊢
    obtain ⟨sok, ssum⟩ := acOf_ok (rkB B) _ rfl hv
    have hplen := acOf_len (rkB B) rs
    have hii : rs.length * rs.length ≤ 40000 := Nat.le_trans (Nat.mul_le_mul hn hn) (by decide)
    have hs0 := sumO_nonneg sok.pos
    have he := co.e
    obtain ⟨dx, lf, kd, pd, lfs, kds, hA⟩ := id A4
    walk_at "rd"
    refine ⟨_, _, rfl, .int e, ?_⟩
    walk_at "rd"
    refine w_no rfl ?_
    walk_at "rd"
    refine w_dec (fun h => absurd h (by omega)) (fun _ => ?_)
    walk_at "rd"
    refine r_kMeth hA.i rfl ?_
    walk_at "rd"
    refine r_kFld hA.i ac.cl ac.n4 rfl ?_
    walk_at "rd"
    refine ⟨q, bk, H1, B, _, _, e, owedC rs, rs.length, rfl, A4, sok, by omega, lok, by omega, by omega, by omega, fun H5 A5 => ?_⟩
    walk_at "rd"
    rw [Int.sub_self] at A5
    obtain ⟨dx, lf, kd, pd, lfs, kds, hA⟩ := A5
    exact k q H5 ⟨dx, lf, kd, pd, lfs, kds, ⟨e1.trans hA.sm, hB, e1.free hA.nq, e1.free hA.nl, e1.free hA.nk, e1.free hA.np, hA.i, hA.l, hA.lp, hA.k, hA.kl, hA.kk, hA.p, hA.ne⟩⟩
theorem ok_need_account {f CA CB : Addr} {fd : FuncData} (T : Tx K mg) (F : FnP K "need_account" s_need_account f fd) (d_need_book : Dn P w K mg base CX0 1 "need_book" ["value"] (sp_need_book CB)) (d_account_of : Dn P w K mg base CX0 6 "account_of" ["book", "course"] (sp_account_of K CA CB)) :
    FnOk P w K mg base CX0 7 f fd ["book", "course"] (sp_account_of K CA CB) := by
  have sc : FnScope ["book", "course"] ["book", "course"] (defScope s_need_account) := ⟨rfl, rfl, rfl, by decide +kernel, rfl, by decide +kernel, by decide +kernel⟩
  refine F.ok sc (by rintro vs H Q E ⟨_, _, _, _, _, rfl, _⟩; rfl) (fun cdv A outer s H vs Q E hr h => ⟨_, PSs.nox ((pss_cons (ps_expr (pe_fn d_need_book (hr.mono (by decide)) pass0 (pa_cons (pv 0) pa_nil)))
      (pss_one (ps_ret (pe_fn d_account_of (hr.mono (by decide)) pass0 (pa_cons (pv 0) (pa_cons (pv 1) pa_nil))))))), ?_⟩)
  obtain ⟨bk, p, B, rs, e, rfl, hB, h⟩ := h
  walk_at "rd"
  refine ⟨bk, B, rfl, hB, ?_⟩
  walk_at "rd"
  exact ⟨bk, p, B, rs, e, rfl, hB, h⟩
end
end Wp
set_option Elab.async false
set_option linter.all false
set_option maxRecDepth 100000
set_option maxHeartbeats 4000000
/-! More of the draws; the law's own promise. -/
namespace Wp
open PySem PySem.Spec PyProof.Rows L2
/-- ints within bounds -/
def IntsIn (lo hi : Int) : List V → Prop
  | [] => True
  | x :: xs => (∃ z, x = .int z ∧ lo ≤ z ∧ z ≤ hi) ∧ IntsIn lo hi xs
theorem IntsIn.get {lo hi : Int} : ∀ {xs : List V} {i : Nat} {x : V}, IntsIn lo hi xs → xs[i]? = some x → ∃ z, x = .int z ∧ lo ≤ z ∧ z ≤ hi
  | [], _, _, _, h => by simp at h
  | _ :: _, 0, _, a, h => by
    have e := Option.some.inj h
    subst e
    exact a.1
  | _ :: r, i + 1, x, a, h => IntsIn.get (xs := r) (i := i) a.2 h
def AnyI : List V → Prop
  | [] => True
  | x :: xs => (∃ z, x = .int z) ∧ AnyI xs
theorem AnyI.get : ∀ {xs : List V} {i : Nat} {x : V}, AnyI xs → xs[i]? = some x → ∃ z, x = .int z
  | [], _, _, _, h => by simp at h
  | _ :: _, 0, _, a, h => by
    have e := Option.some.inj h
    subst e
    exact a.1
  | _ :: r, i + 1, x, a, h => AnyI.get (xs := r) (i := i) a.2 h
section
variable {K : PySem.W.Frag} {st l c p : Addr} {cs : List Int} {B n : Int} {H H0 H' : Hp} {Q : VK} {E : XK} {xs : List V}
theorem DS.nl (D : DS st l c cs B H) (h : H p = none) : p ≠ l := by
  obtain ⟨zs, _, hl⟩ := D.lg
  exact (ne_of_none hl h).symm
theorem DS.nst (D : DS st l c cs B H) (h : H p = none) : p ≠ st := by
  obtain ⟨r, t, _, _, _, hd⟩ := D.d
  exact (ne_of_none hd h).symm
theorem u_take (D : DS st l c cs B H) (hB : B ≤ 35184372088832) (h1 : 0 < n) (h2 : n < 1073741824) (k : ∀ (i : Int) (H' : Hp), 0 ≤ i → i < n → DS st l c cs (B + 1) H' → Kp st l H H' → Q (.int i) H') : sp_take [.ref st, .int n] H Q E :=
  ⟨st, l, c, cs, B, n, rfl, h1, h2, hB, D, k⟩
theorem u_pick (D : DS st l c cs B H0) (hB : B ≤ 35184372088832) (np : H0 p = none) (e : Same H0 H) (hp : H p = some (.lst xs)) (hne : xs ≠ []) (hlen : xs.length < 1000000)
    (k : ∀ (i : Nat) (x : V) (H' : Hp), xs[i]? = some x → DS st l c cs (B + 1) H' → Kp st l H0 H' → Q x H') : sp_pick [.ref st, .ref p] H Q E :=
  ⟨st, l, c, p, cs, B, xs, rfl, hB, D.keep e, hp, hne, hlen, D.nl np, fun i x H' hx D' k' => k i x H' hx D' ((Kp.of e).trans k')⟩
theorem Kp.tup {ys : List V} (k : Kp st l H H') (D : DS st l c cs B H) (h : H p = some (.tup ys)) : H' p = some (.tup ys) := by
  obtain ⟨zs, _, hl⟩ := D.lg
  obtain ⟨r, t, _, _, _, hd⟩ := D.d
  exact k _ _ h (ne_of h hd (by intro z; cases z)) (ne_of h hl (by intro z; cases z))
end
def spLaw (K : PySem.W.Frag) : Sp := fun vs H Q _ => ∃ (a : Addr) (cs : List Int), vs = [.ref a] ∧ SqL K H a (cs.map V.int) ∧ cs.length ≤ 63 ∧ ∀ H', Q (.bl true) H'
theorem SqL.kp {K : PySem.W.Frag} {st l a : Addr} {H H1 H2 : Hp} {xs : List V} (h : SqL K H a xs) (e : Same H H1) (n1 : H st = none) (n2 : H l = none) (k : Kp st l H1 H2) : SqL K H2 a xs := by
  rcases h with (h | ⟨o, h⟩) | h
  · exact .inl (.inl (k _ _ (e _ _ h) (ne_of_none h n1) (ne_of_none h n2)))
  · exact .inl (.inr ⟨o, k _ _ (e _ _ h) (ne_of_none h n1) (ne_of_none h n2)⟩)
  · exact .inr h
section
variable {st l c p : Addr} {cs : List Int} {B : Int} {H H0 H' : Hp}
theorem DS.nc (D : DS st l c cs B H) (h : H p = none) : p ≠ c := (ne_of_none D.cl h).symm
theorem DS.but {B' : Int} (D : DS st l c cs B H) (D0 : DS st l c cs B' H0) (n : H0 p = none) (b : But p H H') : DS st l c cs B H' := by
  obtain ⟨⟨r, t, hr, h0, h1, h⟩, ⟨zs, hz, h2⟩, h3, n1⟩ := D
  exact ⟨⟨r, t, hr, h0, h1, b _ _ h (D0.nst n).symm⟩, ⟨zs, hz, b _ _ h2 (D0.nl n).symm⟩, b _ _ h3 (D0.nc n).symm, n1⟩
/-- after a draw and a change of what was new -/
theorem Kp.mut {H1 H2 : Hp} (k : Kp st l H H1) (b : But p H1 H2) (n : H p = none) : Kp st l H H2 := fun x o h n1 n2 => b x o (k x o h n1 n2) (ne_of_none h n)
end
end Wp
set_option Elab.async false
set_option linter.all false
set_option maxRecDepth 100000
set_option maxHeartbeats 4000000
namespace Wp
open PySem PySem.Spec PyProof.Rows L2
abbrev s__law_some : Stmt := topS 52
local macro_rules | `(tactic| walk_at "val") => `(tactic| assumption)
local macro_rules | `(tactic| walk_at "rd1") => `(tactic| first
  | with_reducible refine r_seq ?_ | with_reducible refine r_next ?_ | with_reducible refine r_if ?_ | with_reducible refine r_asg ?_ | with_reducible refine r_gname ?_
  | with_reducible refine r_ret ?_ | with_reducible refine r_retN ?_ | with_reducible refine r_drop ?_ | with_reducible refine r_par ?_ | with_reducible refine r_kPar ?_
  | ((with_reducible refine' r_var ?hv ?_); (case hv => exact rfl)) | with_reducible refine r_c ?_ | with_reducible refine r_nil ?_ | with_reducible refine r_cons ?_
  | with_reducible refine r_fn ?_ | with_reducible refine r_cb ?_ | with_reducible refine r_op ?_ | with_reducible refine r_un ?_ | with_reducible refine r_I0 ?_
  | with_reducible refine r_pow5 ?_ | with_reducible refine r_pow6 ?_ | with_reducible refine r_pow7 ?_ | with_reducible refine r_pow9 ?_ | with_reducible refine r_pow18 ?_ | with_reducible refine r_pow20 ?_ | with_reducible refine r_pow30 ?_
  | with_reducible refine r_isN_non ?_ | with_reducible refine r_isN_ref ?_ | with_reducible refine r_isN_int ?_ | with_reducible refine r_isN_str ?_ | with_reducible refine r_isN_bl ?_ | with_reducible refine r_notN_non ?_ | with_reducible refine r_notN_ref ?_ | with_reducible refine r_notN_int ?_ | with_reducible refine r_notN_str ?_ | with_reducible refine r_notN_bl ?_
  | ((with_reducible refine r_I ?hc ?_); (case hc => walk_at "side")) | with_reducible refine r_U ?_
  | with_reducible refine r_eqI ?_ | with_reducible refine r_neI ?_ | with_reducible refine r_eqS ?_ | with_reducible refine r_neS ?_ | with_reducible refine r_eqB ?_ | with_reducible refine r_neB ?_
  | with_reducible refine r_chain ?_ | with_reducible refine r_test ?_ | with_reducible refine r_tB ?_ | with_reducible refine r_kTest ?_ | with_reducible refine r_not ?_
  | with_reducible refine r_and ?_ | with_reducible refine r_or ?_ | with_reducible refine r_tif ?_ | with_reducible refine r_andV ?_ | with_reducible refine r_orV ?_ | with_reducible refine r_notV ?_
  | with_reducible refine r_kAndV ?_ | with_reducible refine r_kOrV ?_ | with_reducible refine r_kNotV ?_
  | with_reducible refine w_T ?_ | with_reducible refine w_F ?_ | with_reducible refine w_NT ?_ | with_reducible refine w_NF ?_
  | with_reducible refine r_tup ?_ | with_reducible refine r_lst ?_ | with_reducible refine r_fld ?_ | with_reducible refine r_prop ?_ | ((with_reducible refine' r_aug ?h1 ?_); (case h1 => exact rfl)) | with_reducible refine r_ipI ?_ | with_reducible refine r_dget ?_ | with_reducible refine r_dput ?_ | with_reducible refine r_bm ?_
  | ((with_reducible refine' r_kDGetS ?h1 ?h2 ?_); (case h1 => assumption); (case h2 => walk_at "val"))
  | ((with_reducible refine' r_kBML ?h1 ?_); (case h1 => assumption))
  | with_reducible refine r_forL ?_ | with_reducible refine r_forR1 ?_ | with_reducible refine r_forR2 ?_ | with_reducible refine r_forT ?_ | with_reducible refine r_lcL ?_ | with_reducible refine r_lcR1 ?_
  | ((with_reducible refine r_kLcG ?hw ?_); (case hw => exact rfl)) | with_reducible refine r_kLcT ?_ | with_reducible refine r_yes ?_
  | with_reducible refine r_pnil ?_ | with_reducible refine r_pcons ?_
  | with_reducible refine r_fnK ?_ | ((with_reducible refine r_kFnK ?hl ?_); (case hl => exact rfl))
  | with_reducible refine r_isi_ii ?_ | with_reducible refine r_isi_ib ?_ | with_reducible refine r_isi_bi ?_ | with_reducible refine r_isi_bb ?_ | with_reducible refine r_isi_ss ?_ | with_reducible refine r_isi_is ?_ | with_reducible refine r_isi_it ?_
  | ((with_reducible refine' r_isi_tt ?h1 ?_); (case h1 => assumption))
  | with_reducible refine r_sfld ?_ | with_reducible refine r_gnil ?_ | with_reducible refine r_gcons ?_
  | ((with_reducible refine' r_gtup ?h1 ?h2 ?_); (case h1 => exact SqT.of (by assumption)); (case h2 => exact rfl))
  | with_reducible refine r_sl ?_ | with_reducible refine r_noPart ?_ | with_reducible refine r_part ?_ | with_reducible refine r_kPart ?_ | with_reducible refine r_m1 ?_ | with_reducible refine r_kM1 ?_ | with_reducible refine r_forS ?_ | with_reducible refine r_lcS ?_ | with_reducible refine r_lcTu ?_ | with_reducible refine r_lcK ?_ | with_reducible refine r_dcL ?_ | with_reducible refine r_dcK ?_ | with_reducible refine r_lc2L ?_ | with_reducible refine r_kLc2TL ?_ | with_reducible refine r_dcEn ?_ | with_reducible refine r_gslc ?_ | with_reducible refine r_lcEn ?_ | with_reducible refine r_forET ?_ | with_reducible refine r_lenD ?_
  | ((with_reducible refine r_kDcG ?hw ?_); (case hw => exact rfl)) | with_reducible refine r_kDcT ?_
  | with_reducible refine r_fldaug ?_ | with_reducible refine r_daug ?_ | with_reducible refine r_rAdd ?_ | with_reducible refine r_rSub ?_ | with_reducible refine r_ddel ?_ | with_reducible refine r_bmF ?_ | with_reducible refine r_dget2 ?_ | with_reducible refine r_listItems ?_ | with_reducible refine r_bm0 ?_ | with_reducible refine r_lc2E ?_ | ((with_reducible refine r_kLc2G ?hw ?_); (case hw => exact rfl)) | with_reducible refine r_kLc2T ?_ | with_reducible refine r_forE ?_ | with_reducible refine r_orT ?_ | with_reducible refine r_din ?_ | with_reducible refine r_augS ?_ | with_reducible refine r_dnotin ?_ | with_reducible refine r_lcIT ?_ | with_reducible refine r_cont ?_ | with_reducible refine r_meth ?_ | with_reducible refine r_frz ?_ | with_reducible refine r_par3 ?_ | with_reducible refine r_kPar3 ?_ | with_reducible refine r_dz ?_ | with_reducible refine r_revL ?_ | with_reducible refine r_star ?_ | with_reducible refine r_int1 ?_ | with_reducible refine r_int1b ?_ | with_reducible refine r_min2 ?_ | with_reducible refine r_max2 ?_ | with_reducible refine r_gsub ?_)
local macro_rules | `(tactic| walk_at "rd") => `(tactic| repeat walk_at "rd1")
local macro_rules | `(tactic| walk_at "side") => `(tactic| first | assumption | exact Or.inr ⟨by decide, by decide⟩ | exact Or.inl ⟨by decide, by decide⟩ | (constructor <;> omega) | omega | decide | (refine Or.inl ⟨?_, ?_⟩ <;> omega) | (refine Or.inr ⟨?_, ?_⟩ <;> omega) | (refine ⟨?_, ?_, ?_⟩ <;> first | decide | omega))
theorem r_popAtN {l : Addr} {xs : List V} {n : Nat} {z : V} {i : Int} {H : Hp} {Q : VK} (h : H l = some (.lst xs)) (hi : i = (n : Int)) (hn : xs[n]? = some z) (hz : xs.length ≤ 1000000) (k : ∀ H', But l H H' → H' l = some (.lst (xs.eraseIdx n)) → Q z H') : rPopAt (.ref l) [.int i] H Q := by
  subst hi
  have hl := (List.getElem?_eq_some_iff.mp hn).1
  refine ⟨l, xs, (n : Int), n, z, rfl, rfl, h, by omega, by omega, ?_, hn, k _ But.upd upd_same⟩
  simp [seqIndex?]
  omega
theorem pop_perm {α : Type} : ∀ {xs : List α} {n : Nat} (h : n < xs.length), ([xs[n]] ++ xs.eraseIdx n).Perm xs
  | x :: xs, 0, _ => List.Perm.refl _
  | x :: xs, n + 1, h => by
    have hn : n < xs.length := by simpa using h
    have ih := pop_perm (xs := xs) (n := n) hn
    show (xs[n] :: x :: xs.eraseIdx n).Perm (x :: xs)
    exact (List.Perm.swap _ _ _).trans (List.Perm.cons x ih)
/-- some of them, drawn one by one -/
def sp_some : Sp := fun vs H Q _ => ∃ (st l c p : Addr) (cs : List Int) (B n : Int) (xs : List V), vs = [.ref st, .ref p, .int n] ∧ B ≤ 17592186044416 ∧ DS st l c cs B H ∧ H p = some (.lst xs) ∧ xs.length ≤ 100 ∧ 0 ≤ n ∧ n ≤ 100 ∧
  ∀ (t : Addr) (ys rest : List V) (H' : Hp), H t = none → (ys ++ rest).Perm xs → (ys.length : Int) = min (xs.length : Int) n → H' t = some (.lst ys) → DS st l c cs (B + 100) H' → Kp st l H H' → Q (.ref t) H'
section
variable {P : Program} {w : World} {K : PySem.W.Frag} {mg : Str → Option Value} {base : Heap}
theorem ok__law_some {f : Addr} {fd : FuncData} (T : Tx K mg) (F : FnP K "_law_some" s__law_some f fd) (d__law_take : Dn P w K mg base CX0 2 "_law_take" ["_law_state", "_law_size"] sp_take) :
    FnOk P w K mg base CX0 3 f fd ["_law_state", "_law_some_here", "_law_many"] sp_some := by
  have sc : FnScope ["_law_state", "_law_some_here", "_law_many", "_law_left", "_law_found", "_law_k"] ["_law_state", "_law_some_here", "_law_many"] (defScope s__law_some) := ⟨rfl, rfl, rfl, by decide +kernel, rfl, by decide +kernel, by decide +kernel⟩
  refine F.ok sc (by rintro vs H Q E ⟨_, _, _, _, _, _, _, _, rfl, _⟩; rfl) (fun cdv A outer s H vs Q E hr h => ⟨_, PSs.nox ((pss_cons (ps_par (i := 3) (j := 4) (by rfl) sc.nd rfl rfl (by decide) rfl rfl (pa_cons (pe_callTy (c_listK (K := K) rfl) (by rfl) T.b_list (by decide +kernel) (pa_cons (pv 1) pa_nil)) (pa_cons (pe_lst pa_nil) pa_nil)) (by rfl))
      (pss_cons (ps_for PassesOwn.never rfl (pi_range1 (by rfl) T.b_range (pa_cons (pe_callB (c_min2 rfl) (by rfl) T.b_min (by decide +kernel) (pa_cons (pe_callB (c_lenK (K := K) rfl) (by rfl) T.b_len (by decide +kernel) (pa_cons (pv 3) pa_nil)) (pa_cons (pv 2) pa_nil))) pa_nil)) (pg_name (i := 5) sc.nd rfl (by first | exact Or.inl rfl | exact Or.inr rfl)) (pss_one (ps_expr (pe_bmK (K := K) rfl PySem.F.plainAttrs_list PySem.F.slot_list_append PySem.F.type_list_append mt_append (pv 4) (pa_cons (pe_bmK (K := K) rfl PySem.F.plainAttrs_list PySem.F.slot_list_pop PySem.F.type_list_pop mt_popAt (pv 3) (pa_cons (pe_fn d__law_take (hr.mono (by decide)) pass0 (pa_cons (pv 0) (pa_cons (pe_callB (c_lenK (K := K) rfl) (by rfl) T.b_len (by decide +kernel) (pa_cons (pv 3) pa_nil)) pa_nil))) pa_nil)) pa_nil)))))
      (pss_one (ps_ret (pv 4)))))), ?_⟩)
  obtain ⟨st, l, c, p, cs, B, n, xs, rfl, hB, D, hp, hxl, n0, n1, k⟩ := h
  walk_at "rd"
  refine r_listL (SqL.of hp) fun lf H1 nlf e1 hlf => ?_
  walk_at "rd"
  refine r_kLst fun fo H2 nfo e2 hfo => ?_
  walk_at "rd"
  have D2 := (D.keep e1).keep e2
  have a1 : lf ≠ st := D.nst nlf
  have a2 : lf ≠ l := D.nl nlf
  have nfo0 : H fo = none := e1.free nfo
  have b1 : fo ≠ st := D.nst nfo0
  have b2 : fo ≠ l := D.nl nfo0
  have ne : lf ≠ fo := ne_of_none hlf nfo
  refine r_lenL (SqL.of (e2 _ _ hlf)) ?_
  walk_at "rd"
  refine r_kForR1 (fun i σ' H' => ∃ (y : Option V) (ys rest : List V), σ' = [some (.ref st), some (.ref p), some (.int n), some (.ref lf), some (.ref fo), y] ∧ (ys ++ rest).Perm xs ∧ ys.length = i ∧ H' lf = some (.lst rest) ∧ H' fo = some (.lst ys) ∧ DS st l c cs (B + (i : Int)) H' ∧ Kp st l H H')
    (by omega) ⟨_, [], xs, rfl, List.Perm.refl _, rfl, e2 _ _ hlf, hfo, D2.mono (by omega), Kp.of (e1.trans e2)⟩ ?_ ?_
  · rintro i σ' H3 hi ⟨y, ys, rest, rfl, pm, hyl, hr, hf, D3, k3⟩
    have hlen := pm.length_eq
    rw [List.length_append, hyl] at hlen
    have hr0 : 0 < rest.length := by omega
    walk_at "rd"
    refine r_lenL (SqL.of hr) ?_
    walk_at "rd"
    refine u_take D3 (by omega) (by omega) (by omega) fun m H4 m0 m1 D4 k4 => ?_
    have hr4 := k4 _ _ hr a1 a2
    have hf4 := k4 _ _ hf b1 b2
    walk_at "rd"
    have hmi : m.toNat < rest.length := by omega
    refine r_popAtN hr4 (n := m.toNat) (by omega) (List.getElem?_eq_getElem hmi) (by omega) fun H5 b5 h5 => ?_
    walk_at "rd"
    refine r_append (b5 _ _ hf4 ne.symm) (by omega) fun H6 b6 h6 => ?_
    refine ⟨_, ys ++ [rest[m.toNat]], rest.eraseIdx m.toNat, rfl, ?_, by simp [hyl], b6 _ _ h5 ne, h6, ?_, ?_⟩
    · refine List.Perm.trans ?_ pm
      rw [List.append_assoc]
      refine List.Perm.append_left ys ?_
      exact pop_perm hmi
    · have D5 := D4.but D nlf b5
      exact (D5.but D nfo0 b6).mono (by omega)
    · exact ((k3.trans k4).mut b5 nlf).mut b6 nfo0
  · rintro σ' H3 ⟨y, ys, rest, rfl, pm, hyl, hr, hf, D3, k3⟩
    walk_at "rd"
    exact k fo ys rest H3 nfo0 pm (by omega) hf (D3.mono (by omega)) k3
end
end Wp
set_option Elab.async false
set_option linter.all false
set_option maxRecDepth 100000
set_option maxHeartbeats 4000000
namespace Wp
open PySem PySem.Spec PyProof.Rows L2
abbrev s__law_names : Stmt := topS 53
local macro_rules | `(tactic| walk_at "val") => `(tactic| assumption)
local macro_rules | `(tactic| walk_at "rd1") => `(tactic| first
  | with_reducible refine r_seq ?_ | with_reducible refine r_next ?_ | with_reducible refine r_if ?_ | with_reducible refine r_asg ?_ | with_reducible refine r_gname ?_
  | with_reducible refine r_ret ?_ | with_reducible refine r_retN ?_ | with_reducible refine r_drop ?_ | with_reducible refine r_par ?_ | with_reducible refine r_kPar ?_
  | ((with_reducible refine' r_var ?hv ?_); (case hv => exact rfl)) | with_reducible refine r_c ?_ | with_reducible refine r_nil ?_ | with_reducible refine r_cons ?_
  | with_reducible refine r_fn ?_ | with_reducible refine r_cb ?_ | with_reducible refine r_op ?_ | with_reducible refine r_un ?_ | with_reducible refine r_I0 ?_
  | with_reducible refine r_pow5 ?_ | with_reducible refine r_pow6 ?_ | with_reducible refine r_pow7 ?_ | with_reducible refine r_pow9 ?_ | with_reducible refine r_pow18 ?_ | with_reducible refine r_pow20 ?_ | with_reducible refine r_pow30 ?_
  | with_reducible refine r_isN_non ?_ | with_reducible refine r_isN_ref ?_ | with_reducible refine r_isN_int ?_ | with_reducible refine r_isN_str ?_ | with_reducible refine r_isN_bl ?_ | with_reducible refine r_notN_non ?_ | with_reducible refine r_notN_ref ?_ | with_reducible refine r_notN_int ?_ | with_reducible refine r_notN_str ?_ | with_reducible refine r_notN_bl ?_
  | ((with_reducible refine r_I ?hc ?_); (case hc => walk_at "side")) | with_reducible refine r_U ?_
  | with_reducible refine r_eqI ?_ | with_reducible refine r_neI ?_ | with_reducible refine r_eqS ?_ | with_reducible refine r_neS ?_ | with_reducible refine r_eqB ?_ | with_reducible refine r_neB ?_
  | with_reducible refine r_chain ?_ | with_reducible refine r_test ?_ | with_reducible refine r_tB ?_ | with_reducible refine r_kTest ?_ | with_reducible refine r_not ?_
  | with_reducible refine r_and ?_ | with_reducible refine r_or ?_ | with_reducible refine r_tif ?_ | with_reducible refine r_andV ?_ | with_reducible refine r_orV ?_ | with_reducible refine r_notV ?_
  | with_reducible refine r_kAndV ?_ | with_reducible refine r_kOrV ?_ | with_reducible refine r_kNotV ?_
  | with_reducible refine w_T ?_ | with_reducible refine w_F ?_ | with_reducible refine w_NT ?_ | with_reducible refine w_NF ?_
  | with_reducible refine r_tup ?_ | with_reducible refine r_lst ?_ | with_reducible refine r_fld ?_ | with_reducible refine r_prop ?_ | ((with_reducible refine' r_aug ?h1 ?_); (case h1 => exact rfl)) | with_reducible refine r_ipI ?_ | with_reducible refine r_dget ?_ | with_reducible refine r_dput ?_ | with_reducible refine r_bm ?_
  | ((with_reducible refine' r_kDGetS ?h1 ?h2 ?_); (case h1 => assumption); (case h2 => walk_at "val"))
  | ((with_reducible refine' r_kBML ?h1 ?_); (case h1 => assumption))
  | with_reducible refine r_forL ?_ | with_reducible refine r_forR1 ?_ | with_reducible refine r_forR2 ?_ | with_reducible refine r_forT ?_ | with_reducible refine r_lcL ?_ | with_reducible refine r_lcR1 ?_
  | ((with_reducible refine r_kLcG ?hw ?_); (case hw => exact rfl)) | with_reducible refine r_kLcT ?_ | with_reducible refine r_yes ?_
  | with_reducible refine r_pnil ?_ | with_reducible refine r_pcons ?_
  | with_reducible refine r_fnK ?_ | ((with_reducible refine r_kFnK ?hl ?_); (case hl => exact rfl))
  | with_reducible refine r_isi_ii ?_ | with_reducible refine r_isi_ib ?_ | with_reducible refine r_isi_bi ?_ | with_reducible refine r_isi_bb ?_ | with_reducible refine r_isi_ss ?_ | with_reducible refine r_isi_is ?_ | with_reducible refine r_isi_it ?_
  | ((with_reducible refine' r_isi_tt ?h1 ?_); (case h1 => assumption))
  | with_reducible refine r_sfld ?_ | with_reducible refine r_gnil ?_ | with_reducible refine r_gcons ?_
  | ((with_reducible refine' r_gtup ?h1 ?h2 ?_); (case h1 => exact SqT.of (by assumption)); (case h2 => exact rfl))
  | with_reducible refine r_sl ?_ | with_reducible refine r_noPart ?_ | with_reducible refine r_part ?_ | with_reducible refine r_kPart ?_ | with_reducible refine r_m1 ?_ | with_reducible refine r_kM1 ?_ | with_reducible refine r_forS ?_ | with_reducible refine r_lcS ?_ | with_reducible refine r_lcTu ?_ | with_reducible refine r_lcK ?_ | with_reducible refine r_dcL ?_ | with_reducible refine r_dcK ?_ | with_reducible refine r_lc2L ?_ | with_reducible refine r_kLc2TL ?_ | with_reducible refine r_dcEn ?_ | with_reducible refine r_gslc ?_ | with_reducible refine r_lcEn ?_ | with_reducible refine r_forET ?_ | with_reducible refine r_lenD ?_
  | ((with_reducible refine r_kDcG ?hw ?_); (case hw => exact rfl)) | with_reducible refine r_kDcT ?_
  | with_reducible refine r_fldaug ?_ | with_reducible refine r_daug ?_ | with_reducible refine r_rAdd ?_ | with_reducible refine r_rSub ?_ | with_reducible refine r_ddel ?_ | with_reducible refine r_bmF ?_ | with_reducible refine r_dget2 ?_ | with_reducible refine r_listItems ?_ | with_reducible refine r_bm0 ?_ | with_reducible refine r_lc2E ?_ | ((with_reducible refine r_kLc2G ?hw ?_); (case hw => exact rfl)) | with_reducible refine r_kLc2T ?_ | with_reducible refine r_forE ?_ | with_reducible refine r_orT ?_ | with_reducible refine r_din ?_ | with_reducible refine r_augS ?_ | with_reducible refine r_dnotin ?_ | with_reducible refine r_lcIT ?_ | with_reducible refine r_cont ?_ | with_reducible refine r_meth ?_ | with_reducible refine r_frz ?_ | with_reducible refine r_par3 ?_ | with_reducible refine r_kPar3 ?_ | with_reducible refine r_dz ?_ | with_reducible refine r_revL ?_ | with_reducible refine r_star ?_ | with_reducible refine r_int1 ?_ | with_reducible refine r_int1b ?_ | with_reducible refine r_min2 ?_ | with_reducible refine r_max2 ?_ | with_reducible refine r_gsub ?_)
local macro_rules | `(tactic| walk_at "rd") => `(tactic| repeat walk_at "rd1")
local macro_rules | `(tactic| walk_at "side") => `(tactic| first | assumption | exact Or.inr ⟨by decide, by decide⟩ | exact Or.inl ⟨by decide, by decide⟩ | (constructor <;> omega) | omega | decide | (refine Or.inl ⟨?_, ?_⟩ <;> omega) | (refine Or.inr ⟨?_, ?_⟩ <;> omega) | (refine ⟨?_, ?_, ?_⟩ <;> first | decide | omega))
section
variable {X : Cx} {K : PySem.W.Frag} {H : Hp} {Q : VK} {p : Addr} {z : Str}
def rJoin (K : PySem.W.Frag) : V → List V → Hp → VK → Prop := fun x xs H Q => ∃ a p, ∃ ys : List Str, x = .str a ∧ xs = [.ref p] ∧ (SqL K H p (ys.map V.str) ∨ SqT K H p (ys.map V.str)) ∧ (ys.map (·.length)).sum + ys.length * a.length ≤ 16777216 ∧ Q (.str (Txt.join a ys)) H
theorem pe_joinK {o e : Expr} {to te : TE} {apos pos : Pos} (h : X.K = K) (ho : PE X o to) (he : PE X e te) (hs : starEach [e] X.env = [(false, eval e X.env)] := by rfl) (hbase : attributeBase o "join" X.env (eval o X.env) = eval o X.env := by rfl)
    (hline : (apos.endLine == pos.line) = true := by rfl) : PE X (.Call (.Attribute o "join" apos) [e] [] pos) (tM1 (rJoin K) to te) := by
  subst h
  exact pe_join ho he hs hbase hline
theorem r_joinL {ys : List Str} (h : SqL K H p (ys.map V.str)) (hz : (ys.map (·.length)).sum + ys.length * z.length ≤ 16777216) (q : Q (.str (Txt.join z ys)) H) : rJoin K (.str z) [.ref p] H Q := ⟨z, p, ys, rfl, rfl, .inl h, hz, q⟩
theorem r_addS {a b : Str} (h : a.length + b.length ≤ 1000000) (q : Q (.str (a ++ b)) H) : ∃ i j, V.str a = .str i ∧ V.str b = .str j ∧ i.length + j.length ≤ sizeLine ∧ Q (.str (i ++ j)) H := ⟨a, b, rfl, rfl, sz5 h, q⟩
theorem r_split {a b : Str} (h1 : (b.length == 0) = false) (h2 : a.length + 2 ≤ 1000000) (q : ∀ p H', H p = none → Same H H' → H' p = some (.lst ((Txt.split a b).map V.str)) → Q (.ref p) H') :
    ∃ a' b', V.str a = .str a' ∧ [V.str b] = [.str b'] ∧ (b'.length == 0) = false ∧ a'.length + 2 ≤ sizeLine ∧ rNewStrs (Txt.split a' b') H Q := ⟨a, b, rfl, rfl, h1, sz5 h2, fun p hp => q p _ hp (Same.new hp) upd_same⟩
end
def sp_pickS : Sp := fun vs H Q _ => ∃ (st l c : Addr) (cs : List Int) (B : Int) (z : Str), vs = [.ref st, .str z] ∧ B ≤ 35184372088832 ∧ DS st l c cs B H ∧ 0 < z.length ∧ z.length < 1000 ∧
  ∀ (i : Nat) (d : Nat) (H' : Hp), z.cps.toList[i]? = some d → DS st l c cs (B + 1) H' → Kp st l H H' → Q (.str ⟨#[d]⟩) H'
def sp_names : Sp := fun vs H Q _ => ∃ (st l c : Addr) (cs : List Int) (B n : Int), vs = [.ref st, .int n] ∧ B ≤ 17592186044416 ∧ DS st l c cs B H ∧ 0 ≤ n ∧ n ≤ 20 ∧
  ∀ (t : Addr) (xs : List Str) (H' : Hp), H t = none → (xs.length : Int) = n → NamesOk xs → H' t = some (.lst (xs.map V.str)) → DS st l c cs (B + 11 * n) H' → Kp st l H H' → Q (.ref t) H'
section
variable {P : Program} {w : World} {K : PySem.W.Frag} {mg : Str → Option Value} {base : Heap}
theorem ok__law_pickS {f : Addr} {fd : FuncData} (T : Tx K mg) (F : FnP K "_law_pick" s__law_pick f fd) (d__law_take : Dn P w K mg base CX0 2 "_law_take" ["_law_state", "_law_size"] sp_take) :
    FnOk P w K mg base CX0 3 f fd ["_law_state", "_law_some_here"] sp_pickS := by
  have sc : FnScope ["_law_state", "_law_some_here"] ["_law_state", "_law_some_here"] (defScope s__law_pick) := ⟨rfl, rfl, rfl, by decide +kernel, rfl, by decide +kernel, by decide +kernel⟩
  refine F.ok sc (by rintro vs H Q E ⟨_, _, _, _, _, _, rfl, _⟩; rfl) (fun cdv A outer s H vs Q E hr h => ⟨_, PSs.nox ((pss_one (ps_ret (pe_ix ix_str (pv 1) (pe_fn d__law_take (hr.mono (by decide)) pass0 (pa_cons (pv 0) (pa_cons (pe_callB (c_lenK (K := K) rfl) (by rfl) T.b_len (by decide +kernel) (pa_cons (pv 1) pa_nil)) pa_nil))) (fun _ _ => rfl))))), ?_⟩)
  obtain ⟨st, l, c, cs, B, z, rfl, hB, D, h0, h1, k⟩ := h
  walk_at "rd"
  refine r_lenS (by omega) ?_
  walk_at "rd"
  refine ⟨st, l, c, cs, B, (z.length : Int), rfl, by omega, by omega, hB, D, fun i H' i0 i1 D' k' => ?_⟩
  have hl : z.length = z.cps.toList.length := by simp [Str.length]
  obtain ⟨j, rfl⟩ := Int.eq_ofNat_of_zero_le i0
  have hj : j < z.cps.toList.length := by omega
  have e : z.cps.toList[j]? = some z.cps.toList[j] := List.getElem?_eq_getElem hj
  exact r_ixS (by omega) (atI_nat e) (k j _ H' e D' k')
theorem ok__law_names {f : Addr} {fd : FuncData} (T : Tx K mg) (F : FnP K "_law_names" s__law_names f fd)
    (d__law_take : Dn P w K mg base CX0 2 "_law_take" ["_law_state", "_law_size"] sp_take) (d__law_pick : Dn P w K mg base CX0 3 "_law_pick" ["_law_state", "_law_some_here"] sp_pick) (d__law_pickS : Dn P w K mg base CX0 3 "_law_pick" ["_law_state", "_law_some_here"] sp_pickS) :
    FnOk P w K mg base CX0 4 f fd ["_law_state", "_law_many"] sp_names := by
  have sc : FnScope ["_law_state", "_law_many", "_law_letters", "_law_found", "_law_pool", "_law_k", "_law_label", "_law_near", "_law_j", "_law_letter", "_law_one_of"] ["_law_state", "_law_many"] (defScope s__law_names) := ⟨rfl, rfl, rfl, by decide +kernel, rfl, by decide +kernel, by decide +kernel⟩
  refine F.ok sc (by rintro vs H Q E ⟨_, _, _, _, _, _, rfl, _⟩; rfl) (fun cdv A outer s H vs Q E hr h => ⟨_, PSs.nox ((pss_cons (ps_asg (pe_tup (pa_cons pe_str (pa_cons (pe_lst pa_nil) pa_nil))) (pg_tupK (K := K) (n := 2) rfl rfl (pgs_cons (pg_name (i := 2) sc.nd rfl (by first | exact Or.inl rfl | exact Or.inr rfl)) (pgs_cons (pg_name (i := 3) sc.nd rfl (by first | exact Or.inl rfl | exact Or.inr rfl)) pgs_nil))))
      (pss_cons (ps_set (i := 4) sc.nd rfl (by first | exact Or.inl rfl | exact Or.inr rfl) (pe_split pe_str pe_str))
      (pss_cons (ps_for PassesOwn.never rfl (pi_range1 (by rfl) T.b_range (pa_cons (pv 1) pa_nil)) (pg_name (i := 5) sc.nd rfl (by first | exact Or.inl rfl | exact Or.inr rfl)) (pss_cons (ps_set (i := 6) sc.nd rfl (by first | exact Or.inl rfl | exact Or.inr rfl) (pe_slice sl_str (pe_fn d__law_pick (hr.mono (by decide)) pass0 (pa_cons (pv 0) (pa_cons (pv 4) pa_nil))) po_none (po_some pe_int)))
      (Evl.pss_cut (ps_if (pt_cmpR op_eq (pe_fn d__law_take (hr.mono (by decide)) pass0 (pa_cons (pv 0) (pa_cons pe_int pa_nil))) pe_int (nomark _)) (pss_one (ps_set (i := 6) sc.nd rfl (by first | exact Or.inl rfl | exact Or.inr rfl) (pe_joinK (K := K) rfl pe_str (pe_lc (own := [("_law_j", 8)]) (by rfl) sc.nd (pi_range1 (by rfl) T.b_range (pa_cons (pe_op op_add pe_int (pe_fn d__law_take (hr.mono (by decide)) pass0 (pa_cons (pv 0) (pa_cons pe_int pa_nil)))) pa_nil)) (blkOk_by (own := [("_law_j", 8)]) (N := ["_law_state", "_law_many", "_law_letters", "_law_found", "_law_pool", "_law_k", "_law_label", "_law_near", "_law_j", "_law_letter", "_law_one_of"]) (sc := defScope s__law_names) (by decide +kernel)) (fun _ _ _ _ _ => (pg_name (i := 8) sc.nd rfl (by first | exact Or.inl rfl | exact Or.inr rfl))) (fun _ _ _ _ _ => pts_nil) (fun _ _ _ _ _ => (pe_fn d__law_pickS (hr.mono (by decide)) pass0 (pa_cons (pv 0) (pa_cons (pv 2) pa_nil)))))))) pss_nil)
      (pss_cons (ps_set (i := 7) sc.nd rfl (by first | exact Or.inl rfl | exact Or.inr rfl) (pe_op op_cat (pe_lst (pa_cons (pv 6) pa_nil)) (pe_lc (own := [("_law_letter", 9)]) (by rfl) sc.nd (pi_str (pv 2)) (blkOk_by (own := [("_law_letter", 9)]) (N := ["_law_state", "_law_many", "_law_letters", "_law_found", "_law_pool", "_law_k", "_law_label", "_law_near", "_law_j", "_law_letter", "_law_one_of"]) (sc := defScope s__law_names) (by decide +kernel)) (fun _ _ _ _ _ => (pg_name (i := 9) sc.nd rfl (by first | exact Or.inl rfl | exact Or.inr rfl))) (fun _ _ _ _ _ => pts_nil) (fun _ _ _ _ _ => (pe_op op_add_str (pe_slice sl_str (pv 6) po_none (po_some pe_int)) (pv 9))))))
      (pss_one (ps_expr (pe_bmK (K := K) rfl PySem.F.plainAttrs_list PySem.F.slot_list_append PySem.F.type_list_append mt_append (pv 3) (pa_cons (pe_ix (ix_listK (K := K) rfl) (pe_lc (own := [("_law_one_of", 10)]) (by rfl) sc.nd (pi_listK (K := K) rfl (pv 7)) (blkOk_by (own := [("_law_one_of", 10)]) (N := ["_law_state", "_law_many", "_law_letters", "_law_found", "_law_pool", "_law_k", "_law_label", "_law_near", "_law_j", "_law_letter", "_law_one_of"]) (sc := defScope s__law_names) (by decide +kernel)) (fun _ _ _ _ _ => (pg_name (i := 10) sc.nd rfl (by first | exact Or.inl rfl | exact Or.inr rfl))) (fun _ _ _ _ _ => (pts_one (pt_cmpR (notIn_seqK (K := K) rfl) (pv 10) (pv 3) (by rfl)))) (fun _ _ _ _ _ => (pv 10))) pe_int (fun _ _ => rfl)) pa_nil))))))))
      (pss_one (ps_ret (pv 3))))))), ?_⟩)
  obtain ⟨st, l, c, cs, B, n, rfl, hB, D, n0, n1, k⟩ := h
  walk_at "rd"
  refine r_kLst fun t H1 nt e1 ht => ?_
  walk_at "rd"
  refine r_kTup fun tq H2 ntq e2 htq => ?_
  walk_at "rd"
  refine r_split (by decide +kernel) (by decide +kernel) fun pl H3 npl e3 hpl => ?_
  rw [split_pool] at hpl
  walk_at "rd"
  have D3 : DS st l c cs B H3 := ((D.keep e1).keep e2).keep e3
  have n1t : t ≠ l := D.nl nt
  have n2t : t ≠ st := D.nst nt
  have npl0 : H pl = none := (e1.trans e2).free npl
  have n1p : pl ≠ l := D.nl npl0
  have n2p : pl ≠ st := D.nst npl0
  have ntp : pl ≠ t := by
    rintro rfl
    rw [e2 _ _ ht] at npl
    cases npl
  refine r_kForR1 (fun i σ' H' => ∃ (xs : List Str) (y5 y6 y7 y8 y9 y10 : Option V), σ' = [some (.ref st), some (.int n), some (.str abc), some (.ref t), some (.ref pl), y5, y6, y7, y8, y9, y10] ∧ xs.length = i ∧ NamesOk xs ∧
    H' t = some (.lst (xs.map V.str)) ∧ H' pl = some (.lst (pool.map V.str)) ∧ DS st l c cs (B + 11 * (i : Int)) H' ∧ Kp st l H H') (by omega) ⟨[], _, _, _, _, _, _, rfl, rfl, NamesOk.nil, e3 _ _ (e2 _ _ ht), hpl, D3.mono (by omega), Kp.of ((e1.trans e2).trans e3)⟩ ?_ ?_
  · rintro i σ' H4 hi ⟨xs, y5, y6, y7, y8, y9, y10, rfl, hxl, hN, ht4, hpl4, D4, k4⟩
    walk_at "rd"
    refine ⟨st, l, c, pl, cs, _, _, rfl, by omega, D4, hpl4, by simp [pool], by simp [pool], n1p, fun j x H5 hx D5 k5 => ?_⟩
    obtain ⟨s0, rfl, hs0⟩ := strs_get hx
    have hsm := List.mem_of_getElem? hs0
    obtain ⟨hs1, hs2⟩ := lowB_ok (pool_ok s0 hsm)
    have hs3 := pool_len s0 hsm
    have ok0 := cut8 hs1 hs2
    walk_at "rd"
    refine r_slS (by omega) ?_
    walk_at "rd"
    have ht5 := k5 _ _ ht4 n2t n1t
    have hpl5 := k5 _ _ hpl4 n2p n1p
    refine r_cut (fun σ' H' => ∃ (lab : Str) (y7 y8 y9 y10 : Option V), σ' = [some (.ref st), some (.int n), some (.str abc), some (.ref t), some (.ref pl), some (.int (i : Int)), some (.str lab), y7, y8, y9, y10] ∧ NameOk lab ∧
      H' t = some (.lst (xs.map V.str)) ∧ H' pl = some (.lst (pool.map V.str)) ∧ DS st l c cs (B + 11 * (i : Int) + 11) H' ∧ Kp st l H H') ?_ ?_
    · walk_at "rd"
      refine u_take D5 (by omega) (by decide) (by decide) fun a1 H6 a1l a1h D6 k6 => ?_
      walk_at "rd"
      have ht6 := k6 _ _ ht5 n2t n1t
      have hpl6 := k6 _ _ hpl5 n2p n1p
      refine w_dec (fun hc => ?_) (fun hc => ?_)
      · walk_at "rd"
        refine u_take D6 (by omega) (by decide) (by decide) fun a2 H7 a2l a2h D7 k7 => ?_
        walk_at "rd"
        have ht7 := k7 _ _ ht6 n2t n1t
        have hpl7 := k7 _ _ hpl6 n2p n1p
        refine r_kLcR1 (fun Da j H' => ∃ ds : List Nat, ds.length = j ∧ H' Da = some (.lst (((ds.map fun d => (⟨#[d]⟩ : Str))).map V.str)) ∧ (∀ d ∈ ds, 97 ≤ d ∧ d ≤ 122) ∧ DS st l c cs (B + 11 * (i : Int) + 3 + (j : Int)) H' ∧ Kp st l H7 H') (by omega)
          (fun Da H' _ e h => ⟨[], rfl, h, (by intro d hd; cases hd), (D7.keep e).mono (by omega), Kp.of e⟩) ?_ ?_
        · rintro Da j H' hD hj ⟨ds, hdl, hDa, hds, D', k'⟩
          walk_at "rd"
          refine ⟨st, l, c, cs, _, abc, rfl, by omega, D', by decide +kernel, by decide +kernel, fun i2 d H8 hd D8 k8 => ?_⟩
          refine r_kLcE (k8 _ _ hDa (D7.nst hD) (D7.nl hD)) (by rw [List.length_map, List.length_map]; omega) fun H9 b9 h9 => ⟨ds ++ [d], by simp [hdl], ?_, ?_, (D8.but D7 hD b9).mono (by omega), (k'.trans k8).mut b9 hD⟩
          · rw [List.map_append, List.map_append]
            exact h9
          · intro d' hd'
            rcases List.mem_append.mp hd' with hd' | hd'
            · exact hds d' hd'
            · rw [List.mem_singleton.mp hd']
              exact abc_at hd
        · rintro Da H8 hD ⟨ds, hdl, hDa, hds, D8, k8⟩
          have hdl2 : 1 ≤ ds.length ∧ ds.length ≤ 8 := by omega
          walk_at "rd"
          refine r_joinL (ys := ds.map fun d => (⟨#[d]⟩ : Str)) (SqL.of hDa) ?_ ?_
          · have e0 : (Str.ofString "").length = 0 := by decide +kernel
            have e1 : ∀ l : List Nat, ((l.map fun d => (⟨#[d]⟩ : Str)).map (·.length)).sum = l.length := by
              intro l
              induction l with
              | nil => rfl
              | cons a r ih =>
                simp only [List.map_cons, List.sum_cons, ih, List.length_cons]
                show 1 + r.length = r.length + 1
                omega
            rw [e1, List.length_map]
            show ds.length + ds.length * (Str.ofString "").length ≤ 16777216
            rw [e0]
            omega
          · walk_at "rd"
            have ej : Txt.join (Str.ofString "") (ds.map fun d => (⟨#[d]⟩ : Str)) = ⟨ds.toArray⟩ := join_signs ds
            rw [ej]
            exact ⟨_, _, _, _, _, rfl, join_ok hdl2.1 hdl2.2 hds, k8 _ _ ht7 n2t n1t, k8 _ _ hpl7 n2p n1p, D8.mono (by omega), (((k4.trans k5).trans k6).trans k7).trans k8⟩
      · walk_at "rd"
        exact ⟨_, _, _, _, _, rfl, ok0, ht6, hpl6, D6.mono (by omega), (k4.trans k5).trans k6⟩
    rintro σ' H6 ⟨lab, z7, z8, z9, z10, rfl, okL, ht6, hpl6, D6, k6⟩
    have hl8 := okL.hi
    walk_at "rd"
    refine r_kLst fun q1 H7 nq1 e7 hq1 => ?_
    walk_at "rd"
    refine r_kLcS (fun Da j H' => Same H7 H' ∧ H' Da = some (.lst (((abc.cps.toList.take j).map (near lab)).map V.str))) (fun Da H' _ e h => ⟨e, h⟩) ?_ ?_
    · rintro Da j d H' hD hd ⟨e8, h8⟩
      walk_at "rd"
      refine r_slS (by omega) ?_
      walk_at "rd"
      have hcl : (cutS lab none (some 7)).length = min 7 lab.length := cut_len lab 7
      have h1d : (⟨#[d]⟩ : Str).length = 1 := rfl
      have hj : abc.cps.toList[j]? = some d := by
        rw [Array.getElem?_toList]
        exact hd
      have hjl : j < 26 := by
        have := (List.getElem?_eq_some_iff.mp hj).1
        have e := abc_len
        simp only [Str.length] at e
        simp at this
        omega
      refine r_addS (by omega) ?_
      refine r_kLcE h8 (by rw [List.length_map, List.length_map, List.length_take]; omega) fun H9 b9 h9 => ⟨Same.mut e8 b9 hD, ?_⟩
      rw [take_more hj, List.map_append, List.map_append]
      exact h9
    · rintro Da H8 hD ⟨e8, h8⟩
      have hsz : abc.cps.toList.take abc.cps.size = abc.cps.toList := by
        rw [← Array.length_toList, List.take_length]
      have h8 : H8 Da = some (.lst ((abc.cps.toList.map (near lab)).map V.str)) := by
        have h8' := h8
        rw [hsz] at h8'
        exact h8'
      walk_at "rd"
      have hal : abc.cps.toList.length = 26 := by rw [abc_list]; rfl
      refine r_cat (e8 _ _ hq1) h8 (by rw [List.length_map, List.length_map, hal]; simp) fun q2 H9 nq2 e9 hq2 => ?_
      have hcand : H9 q2 = some (.lst ((lab :: abc.cps.toList.map (near lab)).map V.str)) := hq2
      have e69 : Same H6 H9 := (e7.trans e8).trans e9
      have ht9 := e69 _ _ ht6
      walk_at "rd"
      refine r_kLcL (xs := (lab :: abc.cps.toList.map (near lab)).map V.str) (fun Db j H' => Same H9 H' ∧ H' Db = some (.lst ((((lab :: abc.cps.toList.map (near lab)).take j).filter fun s => !decide (s ∈ xs)).map V.str))) (SqL.of hcand) (fun Db H' _ e h => ⟨e, h⟩) (fun Db j H' ⟨e, _⟩ => SqL.of (e _ _ hcand)) ?_ ?_
      · rintro Db j y H' hD' hy ⟨e10, h10⟩
        obtain ⟨s1, rfl, hs1⟩ := strs_get hy
        walk_at "rd"
        refine r_notInS (SqL.of (e10 _ _ ht9)) ?_
        walk_at "rd"
        refine w_ndec (fun hne => ?_) (fun hin => ?_)
        · walk_at "rd"
          refine r_kLcE h10 ?_ fun H11 b11 h11 => ⟨Same.mut e10 b11 hD', ?_⟩
          · rw [List.length_map]
            have := List.length_filter_le (fun s => !decide (s ∈ xs)) ((lab :: abc.cps.toList.map (near lab)).take j)
            have h2 : ((lab :: abc.cps.toList.map (near lab)).take j).length ≤ 27 := by
              rw [List.length_take, List.length_cons, List.length_map, hal]
              omega
            omega
          · rw [take_more hs1, List.filter_append, List.map_append, List.filter_cons_of_pos (by simp [hne])]
            exact h11
        · refine ⟨e10, ?_⟩
          rw [take_more hs1, List.filter_append, List.map_append, List.filter_cons_of_neg (by simp [hin])]
          simpa using h10
      · rintro Db H10 hD' ⟨e10, h10⟩
        rw [List.length_map, List.take_length] at h10
        obtain ⟨d, hd1, hd2⟩ := near_new (z := lab) (found := xs) (by omega)
        have hmem : near lab d ∈ (lab :: abc.cps.toList.map (near lab)).filter fun s => !decide (s ∈ xs) :=
          List.mem_filter.mpr ⟨List.mem_cons_of_mem _ (List.mem_map.mpr ⟨d, hd1, rfl⟩), by simp [hd2]⟩
        obtain ⟨x0, r0, hF⟩ : ∃ x0 r0, (lab :: abc.cps.toList.map (near lab)).filter (fun s => !decide (s ∈ xs)) = x0 :: r0 := by
          cases hq : (lab :: abc.cps.toList.map (near lab)).filter fun s => !decide (s ∈ xs) with
          | nil =>
            rw [hq] at hmem
            cases hmem
          | cons a b => exact ⟨a, b, rfl⟩
        have hx0 : x0 ∈ (lab :: abc.cps.toList.map (near lab)).filter fun s => !decide (s ∈ xs) := by
          rw [hF]
          exact List.mem_cons_self ..
        obtain ⟨hx1, hx2⟩ := List.mem_filter.mp hx0
        have hx3 : x0 ∉ xs := by simpa using hx2
        have hx4 : NameOk x0 := by
          rcases List.mem_cons.mp hx1 with rfl | hx1
          · exact okL
          · obtain ⟨d', hd', rfl⟩ := List.mem_map.mp hx1
            exact near_ok okL.low (abc_mem.mp hd')
        rw [hF] at h10
        walk_at "rd"
        refine r_ixL (SqL.of h10) (at_get (n := 0) rfl rfl) ?_
        walk_at "rd"
        have ht10 := e10 _ _ ht9
        refine r_append ht10 (by rw [List.length_map]; omega) fun H11 b11 h11 => ?_
        have D11 : DS st l c cs (B + 11 * (i : Int) + 11) H11 := ((D6.keep e69).keep e10).but D nt b11
        have k11 : Kp st l H H11 := (k6.trans (Kp.of (e69.trans e10))).mut b11 nt
        refine ⟨xs ++ [x0], _, _, _, _, _, _, rfl, by simp [hxl], hN.snoc hx4 hx3, ?_, b11 _ _ (e10 _ _ (e69 _ _ hpl6)) ntp, D11.mono (by omega), k11⟩
        rw [List.map_append]
        exact h11
  · rintro σ' H4 ⟨xs, y5, y6, y7, y8, y9, y10, rfl, hxl, hN, ht4, hpl4, D4, k4⟩
    walk_at "rd"
    exact k t xs H4 nt (by omega) hN ht4 (D4.mono (by omega)) k4
end
end Wp
set_option Elab.async false
set_option linter.all false
set_option maxRecDepth 100000
set_option maxHeartbeats 4000000
/-! The law's own model of a book: a dict. -/
namespace Wp
open PySem PySem.Spec PyProof.Rows L2
def mk4 (a k d m : V) : List (Key × V) := [(Sum.inr ("lengths" : Str), a), (Sum.inr ("kinds" : Str), k), (Sum.inr ("laid" : Str), d), (Sum.inr ("memory" : Str), m)]
def mk5 (a k d m u : V) : List (Key × V) := mk4 a k d m ++ [(Sum.inr ("due" : Str), u)]
def mkv (a k d m u b : V) : List (Key × V) := [(Sum.inr ("lengths" : Str), a), (Sum.inr ("kinds" : Str), k), (Sum.inr ("laid" : Str), d), (Sum.inr ("memory" : Str), m), (Sum.inr ("due" : Str), u), (Sum.inr ("begins" : Str), b)]
section
variable {a k d m u b x : V}
theorem mk4_nd : ((mk4 a k d m).map (·.1)).Nodup := (by decide +kernel : ([Sum.inr ("lengths" : Str), Sum.inr ("kinds" : Str), Sum.inr ("laid" : Str), Sum.inr ("memory" : Str)] : List Key).Nodup)
theorem mp5 : putK (mk4 a k d m) (Sum.inr ("due" : Str)) u = mk5 a k d m u := by
  refine putK_new _ ?_
  unfold mk4
  rw [valV_neg (kne (by decide +kernel)), valV_neg (kne (by decide +kernel)), valV_neg (kne (by decide +kernel)), valV_neg (kne (by decide +kernel))]
  rfl
theorem mp6 : putK (mk5 a k d m u) (Sum.inr ("begins" : Str)) b = mkv a k d m u b := by
  refine putK_new _ ?_
  show valV [(Sum.inr ("lengths" : Str), a), (Sum.inr ("kinds" : Str), k), (Sum.inr ("laid" : Str), d), (Sum.inr ("memory" : Str), m), (Sum.inr ("due" : Str), u)] _ = none
  rw [valV_neg (kne (by decide +kernel)), valV_neg (kne (by decide +kernel)), valV_neg (kne (by decide +kernel)), valV_neg (kne (by decide +kernel)), valV_neg (kne (by decide +kernel))]
  rfl
theorem mv1 : valV (mkv a k d m u b) (Sum.inr ("lengths" : Str)) = some a := by
  unfold mkv
  rw [valV_pos rfl]
theorem mv2 : valV (mkv a k d m u b) (Sum.inr ("kinds" : Str)) = some k := by
  unfold mkv
  rw [valV_neg (kne (by decide +kernel)), valV_pos rfl]
theorem mv3 : valV (mkv a k d m u b) (Sum.inr ("laid" : Str)) = some d := by
  unfold mkv
  rw [valV_neg (kne (by decide +kernel)), valV_neg (kne (by decide +kernel)), valV_pos rfl]
theorem mv4 : valV (mkv a k d m u b) (Sum.inr ("memory" : Str)) = some m := by
  unfold mkv
  rw [valV_neg (kne (by decide +kernel)), valV_neg (kne (by decide +kernel)), valV_neg (kne (by decide +kernel)), valV_pos rfl]
theorem mv5 : valV (mkv a k d m u b) (Sum.inr ("due" : Str)) = some u := by
  unfold mkv
  rw [valV_neg (kne (by decide +kernel)), valV_neg (kne (by decide +kernel)), valV_neg (kne (by decide +kernel)), valV_neg (kne (by decide +kernel)), valV_pos rfl]
theorem mv6 : valV (mkv a k d m u b) (Sum.inr ("begins" : Str)) = some b := by
  unfold mkv
  rw [valV_neg (kne (by decide +kernel)), valV_neg (kne (by decide +kernel)), valV_neg (kne (by decide +kernel)), valV_neg (kne (by decide +kernel)), valV_neg (kne (by decide +kernel)), valV_pos rfl]
theorem mput {q : Key} (h : (valV (mkv a k d m u b) q).isSome = true) : putK (mkv a k d m u b) q x = (mkv a k d m u b).map (fun kv => if kv.1 = q then (kv.1, x) else kv) := by
  unfold putK
  rw [if_pos (by rw [valV_any]; exact h)]
theorem mq1 : putK (mkv a k d m u b) (Sum.inr ("lengths" : Str)) x = mkv x k d m u b := by
  rw [mput (by rw [mv1]; rfl)]
  simp only [mkv, List.map_cons, List.map_nil, if_pos trivial, if_neg (kne (x := "kinds") (y := "lengths") (by decide +kernel)), if_neg (kne (x := "laid") (y := "lengths") (by decide +kernel)), if_neg (kne (x := "memory") (y := "lengths") (by decide +kernel)), if_neg (kne (x := "due") (y := "lengths") (by decide +kernel)), if_neg (kne (x := "begins") (y := "lengths") (by decide +kernel))]
theorem mq2 : putK (mkv a k d m u b) (Sum.inr ("kinds" : Str)) x = mkv a x d m u b := by
  rw [mput (by rw [mv2]; rfl)]
  simp only [mkv, List.map_cons, List.map_nil, if_pos trivial, if_neg (kne (x := "lengths") (y := "kinds") (by decide +kernel)), if_neg (kne (x := "laid") (y := "kinds") (by decide +kernel)), if_neg (kne (x := "memory") (y := "kinds") (by decide +kernel)), if_neg (kne (x := "due") (y := "kinds") (by decide +kernel)), if_neg (kne (x := "begins") (y := "kinds") (by decide +kernel))]
theorem mq3 : putK (mkv a k d m u b) (Sum.inr ("laid" : Str)) x = mkv a k x m u b := by
  rw [mput (by rw [mv3]; rfl)]
  simp only [mkv, List.map_cons, List.map_nil, if_pos trivial, if_neg (kne (x := "lengths") (y := "laid") (by decide +kernel)), if_neg (kne (x := "kinds") (y := "laid") (by decide +kernel)), if_neg (kne (x := "memory") (y := "laid") (by decide +kernel)), if_neg (kne (x := "due") (y := "laid") (by decide +kernel)), if_neg (kne (x := "begins") (y := "laid") (by decide +kernel))]
theorem mq4 : putK (mkv a k d m u b) (Sum.inr ("memory" : Str)) x = mkv a k d x u b := by
  rw [mput (by rw [mv4]; rfl)]
  simp only [mkv, List.map_cons, List.map_nil, if_pos trivial, if_neg (kne (x := "lengths") (y := "memory") (by decide +kernel)), if_neg (kne (x := "kinds") (y := "memory") (by decide +kernel)), if_neg (kne (x := "laid") (y := "memory") (by decide +kernel)), if_neg (kne (x := "due") (y := "memory") (by decide +kernel)), if_neg (kne (x := "begins") (y := "memory") (by decide +kernel))]
theorem mq5 : putK (mkv a k d m u b) (Sum.inr ("due" : Str)) x = mkv a k d m x b := by
  rw [mput (by rw [mv5]; rfl)]
  simp only [mkv, List.map_cons, List.map_nil, if_pos trivial, if_neg (kne (x := "lengths") (y := "due") (by decide +kernel)), if_neg (kne (x := "kinds") (y := "due") (by decide +kernel)), if_neg (kne (x := "laid") (y := "due") (by decide +kernel)), if_neg (kne (x := "memory") (y := "due") (by decide +kernel)), if_neg (kne (x := "begins") (y := "due") (by decide +kernel))]
theorem mq6 : putK (mkv a k d m u b) (Sum.inr ("begins" : Str)) x = mkv a k d m u x := by
  rw [mput (by rw [mv6]; rfl)]
  simp only [mkv, List.map_cons, List.map_nil, if_pos trivial, if_neg (kne (x := "lengths") (y := "begins") (by decide +kernel)), if_neg (kne (x := "kinds") (y := "begins") (by decide +kernel)), if_neg (kne (x := "laid") (y := "begins") (by decide +kernel)), if_neg (kne (x := "memory") (y := "begins") (by decide +kernel)), if_neg (kne (x := "due") (y := "begins") (by decide +kernel))]
theorem mkv_len : (mkv a k d m u b).length = 6 := rfl
end
/-- a model stands at p, its parts at a, kd and lv -/
structure MdlIn (lg : Addr) (H : Hp) (p : Addr) (B : Bk) (ad kd : Addr) (lv : V) (kvs : List (Key × V)) : Prop where
  i : H p = some (.dK (mkv (.ref ad) (.ref kd) lv (.int B.mem) (.int B.due) (.str B.beg)))
  l : H ad = some (.lst (B.ls.map V.int))
  n : ad ≠ lg
  k : H kd = some (.dK kvs)
  a : KAt H kvs B.ks
  d : LaidV H B.laid lv
def Mdl (l : Addr) (H : Hp) (p : Addr) (B : Bk) : Prop := ∃ a kd lv kvs, MdlIn l H p B a kd lv kvs
theorem KAt.all {H : Hp} {kvs : List (Key × V)} {ks : List (Str × Int × Bool)} (h : KAt H kvs ks) : ∀ kv ∈ kvs, ∃ t, kv.2 = .ref t := by
  induction h with
  | nil => intro kv h; cases h
  | cons _ _ ih =>
    intro kv h
    rcases List.mem_cons.mp h with rfl | h
    · exact ⟨_, rfl⟩
    · exact ih kv h
section
variable {st l c p a kd : Addr} {cs : List Int} {n : Int} {H H' : Hp} {B : Bk} {lv : V} {kvs : List (Key × V)} {ks : List (Str × Int × Bool)}
theorem KAt.nst (h : KAt H kvs ks) (hk : H kd = some (.dK kvs)) (D : DS st l c cs n H) : kd ≠ st := by
  rintro rfl
  obtain ⟨r, t, _, _, _, hd⟩ := D.d
  rw [hd] at hk
  injection hk with hk
  injection hk with hk
  subst hk
  obtain ⟨t', h⟩ := h.all (Sum.inr ("rest" : Str), .int r) (by simp [dkv])
  cases h
theorem DS.dne {kvs : List (Key × V)} (D : DS st l c cs n H) (hk : H kd = some (.dK kvs)) (h : kvs.length ≠ 4) : kd ≠ st := by
  rintro rfl
  obtain ⟨r, t, _, _, _, hd⟩ := D.d
  rw [hd] at hk
  injection hk with hk
  injection hk with hk
  subst hk
  exact h rfl
theorem DS.nld {o : HO} (D : DS st l c cs n H) (hk : H kd = some o) (h : ∀ xs, o ≠ .lst xs) : kd ≠ l := by
  rintro rfl
  obtain ⟨zs, _, hd⟩ := D.lg
  rw [hd] at hk
  injection hk with hk
  exact h _ hk.symm
theorem Kp.frzs (k : Kp st l H H') (D : DS st l c cs n H) : ∀ t o xs, H t = some (.frz o (.tup xs)) → H' t = some (.frz o (.tup xs)) := fun t o xs h => by
  obtain ⟨zs, _, hl⟩ := D.lg
  obtain ⟨r, t', _, _, _, hd⟩ := D.d
  exact k _ _ h (ne_of h hd (by intro z; cases z)) (ne_of h hl (by intro z; cases z))
theorem Kp.tups (k : Kp st l H H') (D : DS st l c cs n H) : ∀ t xs, H t = some (.tup xs) → H' t = some (.tup xs) := fun t xs h => k.tup D h
theorem MdlIn.kp (h : MdlIn l H p B a kd lv kvs) (k : Kp st l H H') (D : DS st l c cs n H) : MdlIn l H' p B a kd lv kvs := by
  obtain ⟨h1, h2, h3, h4, h5, h6⟩ := h
  refine ⟨k _ _ h1 (D.dne h1 (by rw [mkv_len]; decide)) (D.nld h1 fun xs z => by cases z), k _ _ h2 ?_ h3, h3, k _ _ h4 (h5.nst h4 D) (D.nld h4 fun xs z => by cases z), h5.keep (k.tups D), h6.keep (k.frzs D)⟩
  rintro rfl
  obtain ⟨r, t, _, _, _, hd⟩ := D.d
  rw [hd] at h2
  cases h2
theorem Mdl.kp (h : Mdl l H p B) (k : Kp st l H H') (D : DS st l c cs n H) : Mdl l H' p B := by
  obtain ⟨a, kd, lv, kvs, h⟩ := h
  exact ⟨a, kd, lv, kvs, h.kp k D⟩
theorem MdlIn.keep (h : MdlIn l H p B a kd lv kvs) (e : Same H H') : MdlIn l H' p B a kd lv kvs :=
  ⟨e _ _ h.i, e _ _ h.l, h.n, e _ _ h.k, h.a.keepT e, h.d.keep fun t o xs ht => e _ _ ht⟩
theorem Mdl.keep (h : Mdl l H p B) (e : Same H H') : Mdl l H' p B := by
  obtain ⟨a, kd, lv, kvs, h⟩ := h
  exact ⟨a, kd, lv, kvs, h.keep e⟩
theorem BookAt.kp {C : Addr} (h : BookAt C H p B) (k : Kp st l H H') (D : DS st l c cs n H) : BookAt C H' p B := by
  obtain ⟨dx, tl, kd, lv, kvs, h1, h2, h3, h4, h5⟩ := h
  obtain ⟨r, t, _, _, _, hd⟩ := D.d
  exact ⟨dx, tl, kd, lv, kvs, k _ _ h1 (ne_of h1 hd (by intro z; cases z)) (D.nld h1 fun xs z => by cases z), k.tup D h2, k _ _ h3 (h4.nst h3 D) (D.nld h3 fun xs z => by cases z), h4.keep (k.tups D), h5.keep (k.frzs D)⟩
end
end Wp
set_option Elab.async false
set_option linter.all false
set_option maxRecDepth 100000
set_option maxHeartbeats 4000000
namespace Wp
open PySem PySem.Spec PyProof.Rows L2
abbrev s__law_model : Stmt := topS 54
abbrev s__law_made : Stmt := topS 55
local macro_rules | `(tactic| walk_at "val") => `(tactic| assumption)
local macro_rules | `(tactic| walk_at "rd1") => `(tactic| first
  | with_reducible refine r_seq ?_ | with_reducible refine r_next ?_ | with_reducible refine r_if ?_ | with_reducible refine r_asg ?_ | with_reducible refine r_gname ?_
  | with_reducible refine r_ret ?_ | with_reducible refine r_retN ?_ | with_reducible refine r_drop ?_ | with_reducible refine r_par ?_ | with_reducible refine r_kPar ?_
  | ((with_reducible refine' r_var ?hv ?_); (case hv => exact rfl)) | with_reducible refine r_c ?_ | with_reducible refine r_nil ?_ | with_reducible refine r_cons ?_
  | with_reducible refine r_fn ?_ | with_reducible refine r_cb ?_ | with_reducible refine r_op ?_ | with_reducible refine r_un ?_ | with_reducible refine r_I0 ?_
  | with_reducible refine r_pow5 ?_ | with_reducible refine r_pow6 ?_ | with_reducible refine r_pow7 ?_ | with_reducible refine r_pow9 ?_ | with_reducible refine r_pow18 ?_ | with_reducible refine r_pow20 ?_ | with_reducible refine r_pow30 ?_
  | with_reducible refine r_isN_non ?_ | with_reducible refine r_isN_ref ?_ | with_reducible refine r_isN_int ?_ | with_reducible refine r_isN_str ?_ | with_reducible refine r_isN_bl ?_ | with_reducible refine r_notN_non ?_ | with_reducible refine r_notN_ref ?_ | with_reducible refine r_notN_int ?_ | with_reducible refine r_notN_str ?_ | with_reducible refine r_notN_bl ?_
  | ((with_reducible refine r_I ?hc ?_); (case hc => walk_at "side")) | with_reducible refine r_U ?_
  | with_reducible refine r_eqI ?_ | with_reducible refine r_neI ?_ | with_reducible refine r_eqS ?_ | with_reducible refine r_neS ?_ | with_reducible refine r_eqB ?_ | with_reducible refine r_neB ?_
  | with_reducible refine r_chain ?_ | with_reducible refine r_test ?_ | with_reducible refine r_tB ?_ | with_reducible refine r_kTest ?_ | with_reducible refine r_not ?_
  | with_reducible refine r_and ?_ | with_reducible refine r_or ?_ | with_reducible refine r_tif ?_ | with_reducible refine r_andV ?_ | with_reducible refine r_orV ?_ | with_reducible refine r_notV ?_
  | with_reducible refine r_kAndV ?_ | with_reducible refine r_kOrV ?_ | with_reducible refine r_kNotV ?_
  | with_reducible refine w_T ?_ | with_reducible refine w_F ?_ | with_reducible refine w_NT ?_ | with_reducible refine w_NF ?_
  | with_reducible refine r_tup ?_ | with_reducible refine r_lst ?_ | with_reducible refine r_fld ?_ | with_reducible refine r_prop ?_ | ((with_reducible refine' r_aug ?h1 ?_); (case h1 => exact rfl)) | with_reducible refine r_ipI ?_ | with_reducible refine r_dget ?_ | with_reducible refine r_dput ?_ | with_reducible refine r_bm ?_
  | ((with_reducible refine' r_kDGetS ?h1 ?h2 ?_); (case h1 => assumption); (case h2 => walk_at "val"))
  | ((with_reducible refine' r_kBML ?h1 ?_); (case h1 => assumption))
  | with_reducible refine r_forL ?_ | with_reducible refine r_forR1 ?_ | with_reducible refine r_forR2 ?_ | with_reducible refine r_forT ?_ | with_reducible refine r_lcL ?_ | with_reducible refine r_lcR1 ?_
  | ((with_reducible refine r_kLcG ?hw ?_); (case hw => exact rfl)) | with_reducible refine r_kLcT ?_ | with_reducible refine r_yes ?_
  | with_reducible refine r_pnil ?_ | with_reducible refine r_pcons ?_
  | with_reducible refine r_fnK ?_ | ((with_reducible refine r_kFnK ?hl ?_); (case hl => exact rfl))
  | with_reducible refine r_isi_ii ?_ | with_reducible refine r_isi_ib ?_ | with_reducible refine r_isi_bi ?_ | with_reducible refine r_isi_bb ?_ | with_reducible refine r_isi_ss ?_ | with_reducible refine r_isi_is ?_ | with_reducible refine r_isi_it ?_
  | ((with_reducible refine' r_isi_tt ?h1 ?_); (case h1 => assumption))
  | with_reducible refine r_sfld ?_ | with_reducible refine r_gnil ?_ | with_reducible refine r_gcons ?_
  | ((with_reducible refine' r_gtup ?h1 ?h2 ?_); (case h1 => exact SqT.of (by assumption)); (case h2 => exact rfl))
  | with_reducible refine r_sl ?_ | with_reducible refine r_noPart ?_ | with_reducible refine r_part ?_ | with_reducible refine r_kPart ?_ | with_reducible refine r_m1 ?_ | with_reducible refine r_kM1 ?_ | with_reducible refine r_forS ?_ | with_reducible refine r_lcS ?_ | with_reducible refine r_lcTu ?_ | with_reducible refine r_lcK ?_ | with_reducible refine r_dcL ?_ | with_reducible refine r_dcK ?_ | with_reducible refine r_lc2L ?_ | with_reducible refine r_kLc2TL ?_ | with_reducible refine r_dcEn ?_ | with_reducible refine r_gslc ?_ | with_reducible refine r_lcEn ?_ | with_reducible refine r_forET ?_ | with_reducible refine r_lenD ?_
  | ((with_reducible refine r_kDcG ?hw ?_); (case hw => exact rfl)) | with_reducible refine r_kDcT ?_
  | with_reducible refine r_fldaug ?_ | with_reducible refine r_daug ?_ | with_reducible refine r_rAdd ?_ | with_reducible refine r_rSub ?_ | with_reducible refine r_ddel ?_ | with_reducible refine r_bmF ?_ | with_reducible refine r_dget2 ?_ | with_reducible refine r_listItems ?_ | with_reducible refine r_bm0 ?_ | with_reducible refine r_lc2E ?_ | ((with_reducible refine r_kLc2G ?hw ?_); (case hw => exact rfl)) | with_reducible refine r_kLc2T ?_ | with_reducible refine r_forE ?_ | with_reducible refine r_orT ?_ | with_reducible refine r_din ?_ | with_reducible refine r_augS ?_ | with_reducible refine r_dnotin ?_ | with_reducible refine r_lcIT ?_ | with_reducible refine r_cont ?_ | with_reducible refine r_meth ?_ | with_reducible refine r_frz ?_ | with_reducible refine r_par3 ?_ | with_reducible refine r_kPar3 ?_ | with_reducible refine r_dz ?_ | with_reducible refine r_revL ?_ | with_reducible refine r_star ?_ | with_reducible refine r_int1 ?_ | with_reducible refine r_int1b ?_ | with_reducible refine r_min2 ?_ | with_reducible refine r_max2 ?_ | with_reducible refine r_gsub ?_)
local macro_rules | `(tactic| walk_at "rd") => `(tactic| repeat walk_at "rd1")
local macro_rules | `(tactic| walk_at "side") => `(tactic| first | assumption | exact Or.inr ⟨by decide, by decide⟩ | exact Or.inl ⟨by decide, by decide⟩ | (constructor <;> omega) | omega | decide | (refine Or.inl ⟨?_, ?_⟩ <;> omega) | (refine Or.inr ⟨?_, ?_⟩ <;> omega) | (refine ⟨?_, ?_, ?_⟩ <;> first | decide | omega))
local macro_rules | `(tactic| walk_at "val") => `(tactic| first | exact mv1 | exact mv2 | exact mv3 | exact mv4 | exact mv5 | exact mv6)
theorem r_dnewK {σ : L2.St} {H : Hp} {Q : VK} (q : ∀ p H', H p = none → Same H H' → H' p = some (.dK []) → Q (.ref p) H') : tDNewK σ H Q := fun p hp => q p _ hp (Same.new hp) upd_same
theorem r_minL {K : PySem.W.Frag} {H : Hp} {p : Addr} {Q : VK} {ns : List Int} (h : SqL K H p (ns.map V.int)) (h0 : 0 < ns.length) (k : ∀ m, m ∈ ns → (∀ y ∈ ns, m ≤ y) → Q (.int m) H) : rMin K [.ref p] H Q := ⟨p, ns, rfl, h, h0, k⟩
def sp_model : Sp := fun vs H Q _ => ∃ (st l c : Addr) (cs : List Int) (n many : Int) (il : Bool), vs = [.ref st, .int many, .bl il] ∧ n ≤ 8796093022208 ∧ DS st l c cs n H ∧ 1 ≤ many ∧ many ≤ 6 ∧
  ∀ p B H', H p = none → B.Ok → B.LaidOk → Mdl l H' p B → DS st l c cs (n + 200) H' → Kp st l H H' → Q (.ref p) H'
def sp_made (C : Addr) : Sp := fun vs H Q _ => ∃ (l p : Addr) (B : Bk), vs = [.ref p] ∧ B.Ok ∧ B.LaidOk ∧ Mdl l H p B ∧
  ∀ q H' ks, H q = none → Same H H' → ks.Perm B.ks → sortedS (ks.map (·.1)) = true → BookAt C H' q { B with ks := ks } → Q (.ref q) H'
section
variable {P : Program} {w : World} {K : PySem.W.Frag} {mg : Str → Option Value} {base : Heap}
theorem ok__law_made {f C : Addr} {fd : FuncData} (T : Tx K mg) (F : FnP K "_law_made" s__law_made f fd) (mk_Book : Dc P w K mg base CX0 5 "Book" (sp_Book C)) :
    FnOk P w K mg base CX0 7 f fd ["_law_model_here"] (sp_made C) := by
  have sc : FnScope ["_law_model_here", "_law_start"] ["_law_model_here"] (defScope s__law_made) := ⟨rfl, rfl, rfl, by decide +kernel, rfl, by decide +kernel, by decide +kernel⟩
  refine F.ok sc (by rintro vs H Q E ⟨_, _, _, rfl, _⟩; rfl) (fun cdv A outer s H vs Q E hr h => ⟨_, PSs.nox ((pss_cons (ps_set (i := 1) sc.nd rfl (by first | exact Or.inl rfl | exact Or.inr rfl) (pe_lst (pa_cons (pe_dget (hu_of hr) (pv 0) pe_str (fun _ _ => rfl)) (pa_cons (pe_dget (hu_of hr) (pv 0) pe_str (fun _ _ => rfl)) (pa_cons (pe_dget (hu_of hr) (pv 0) pe_str (fun _ _ => rfl)) pa_nil)))))
      (pss_one (ps_ret (pe_mk mk_Book (hr.mono (by decide)) pass0 (pa_cons (pe_ix (ix_listK (K := K) rfl) (pv 1) pe_int (fun _ _ => rfl)) (pa_cons (pe_ix (ix_listK (K := K) rfl) (pv 1) pe_int (fun _ _ => rfl)) (pa_cons (pe_ix (ix_listK (K := K) rfl) (pv 1) pe_int (fun _ _ => rfl)) (pa_cons (pe_dget (hu_of hr) (pv 0) pe_str (fun _ _ => rfl)) (pa_cons (pe_dget (hu_of hr) (pv 0) pe_str (fun _ _ => rfl)) (pa_cons (pe_dget (hu_of hr) (pv 0) pe_str (fun _ _ => rfl)) pa_nil))))))))))), ?_⟩)
  obtain ⟨l, p, B, rfl, ok, lok, ⟨a, kd, lv, kvs, hM⟩, k⟩ := h
  walk_at "rd"
  refine r_kDGetS hM.i mv1 ?_
  walk_at "rd"
  refine r_kDGetS hM.i mv5 ?_
  walk_at "rd"
  refine r_kDGetS hM.i mv2 ?_
  walk_at "rd"
  refine r_kLst fun t H1 nt e1 ht => ?_
  have hM1 := hM.keep e1
  walk_at "rd"
  refine r_ixL (SqL.of ht) (at_get (n := 0) rfl rfl) ?_
  walk_at "rd"
  refine r_ixL (SqL.of ht) (at_get (n := 1) rfl rfl) ?_
  walk_at "rd"
  refine r_ixL (SqL.of ht) (at_get (n := 2) rfl rfl) ?_
  walk_at "rd"
  refine r_kDGetS hM1.i mv4 ?_
  walk_at "rd"
  refine r_kDGetS hM1.i mv6 ?_
  walk_at "rd"
  refine r_kDGetS hM1.i mv3 ?_
  refine ⟨a, kd, B, lv, kvs, rfl, ok, lok, hM1.d, .inl hM1.l, hM1.k, hM1.a, fun q H' ks nq e2 p1 p2 hB => k q H' ks (e1.free nq) (e1.trans e2) p1 p2 hB⟩
theorem ok__law_model {f : Addr} {fd : FuncData} (T : Tx K mg) (F : FnP K "_law_model" s__law_model f fd)
    (d__law_take : Dn P w K mg base CX0 2 "_law_take" ["_law_state", "_law_size"] sp_take) (d__law_pick : Dn P w K mg base CX0 3 "_law_pick" ["_law_state", "_law_some_here"] sp_pick)
    (d__law_names : Dn P w K mg base CX0 4 "_law_names" ["_law_state", "_law_many"] sp_names) (d__law_some : Dn P w K mg base CX0 3 "_law_some" ["_law_state", "_law_some_here", "_law_many"] sp_some) :
    FnOk P w K mg base CX0 5 f fd ["_law_state", "_law_many", "_law_is_laid"] sp_model := by
  have sc : FnScope ["_law_state", "_law_many", "_law_is_laid", "_law_rounds", "_law_wide", "_law_sizes", "_law_model_here", "_law_label", "_law_rated", "_law_k"] ["_law_state", "_law_many", "_law_is_laid"] (defScope s__law_model) := ⟨rfl, rfl, rfl, by decide +kernel, rfl, by decide +kernel, by decide +kernel⟩
  refine F.ok sc (by rintro vs H Q E ⟨_, _, _, _, _, _, _, rfl, _⟩; rfl) (fun cdv A outer s H vs Q E hr h => ⟨_, PSs.nox ((pss_cons (ps_asg (pe_tup (pa_cons (pe_op op_add pe_int (pe_fn d__law_take (hr.mono (by decide)) pass0 (pa_cons (pv 0) (pa_cons (pe_fn d__law_pick (hr.mono (by decide)) pass0 (pa_cons (pv 0) (pa_cons (pe_lst (pa_cons pe_int (pa_cons pe_int (pa_cons pe_int pa_nil)))) pa_nil))) pa_nil)))) (pa_cons (pe_fn d__law_pick (hr.mono (by decide)) pass0 (pa_cons (pv 0) (pa_cons (pe_lst (pa_cons pe_int (pa_cons pe_int (pa_cons pe_int (pa_cons pe_int pa_nil))))) pa_nil))) pa_nil))) (pg_tupK (K := K) (n := 2) rfl rfl (pgs_cons (pg_name (i := 3) sc.nd rfl (by first | exact Or.inl rfl | exact Or.inr rfl)) (pgs_cons (pg_name (i := 4) sc.nd rfl (by first | exact Or.inl rfl | exact Or.inr rfl)) pgs_nil))))
      (pss_cons (ps_setLc (i := 5) (own := [("_law_k", 9)]) (by rfl) sc.nd rfl rfl (sw_true rfl rfl rfl (by decide +kernel)) (pi_range1 (by rfl) T.b_range (pa_cons (pv 3) pa_nil)) (blkOk_by (own := [("_law_k", 9)]) (N := ["_law_state", "_law_many", "_law_is_laid", "_law_rounds", "_law_wide", "_law_sizes", "_law_model_here", "_law_label", "_law_rated", "_law_k"]) (sc := defScope s__law_model) (by decide +kernel)) (fun _ _ _ _ _ => (pg_name (i := 9) sc.nd rfl (by first | exact Or.inl rfl | exact Or.inr rfl))) (fun _ _ _ _ _ => pts_nil) (fun _ _ _ _ _ => (pe_op op_add pe_int (pe_fn d__law_take (hr.mono (by decide)) pass0 (pa_cons (pv 0) (pa_cons (pv 4) pa_nil))))))
      (pss_cons (ps_set (i := 6) sc.nd rfl (by first | exact Or.inl rfl | exact Or.inr rfl) (pe_disp (pps_cons pe_str (pv 5) (pps_cons pe_str pe_dnewK (pps_cons pe_str pe_non (pps_cons pe_str (pe_fn d__law_take (hr.mono (by decide)) pass0 (pa_cons (pv 0) (pa_cons pe_int pa_nil))) pps_nil)))) (by rfl) (by rfl) (fun z => by cases z) (by decide)))
      (pss_cons (ps_dput (hu_of hr) (pv 6) pe_str (pe_fn d__law_pick (hr.mono (by decide)) pass0 (pa_cons (pv 0) (pa_cons (pe_lst (pa_cons pe_int (pa_cons (pe_op op_sub (pe_callB (c_minK (K := K) rfl rfl) (by rfl) T.b_min (by decide +kernel) (pa_cons (pv 5) pa_nil)) pe_int) (pa_cons (pe_fn d__law_take (hr.mono (by decide)) pass0 (pa_cons (pv 0) (pa_cons (pe_callB (c_minK (K := K) rfl rfl) (by rfl) T.b_min (by decide +kernel) (pa_cons (pv 5) pa_nil)) pa_nil))) pa_nil)))) pa_nil))) rfl)
      (pss_cons (ps_dput (hu_of hr) (pv 6) pe_str (pe_fn d__law_pick (hr.mono (by decide)) pass0 (pa_cons (pv 0) (pa_cons (pe_lst (pa_cons pe_str (pa_cons pe_str pa_nil))) pa_nil))) rfl)
      (pss_cons (ps_for PassesOwn.never rfl (pi_listK (K := K) rfl (pe_fn d__law_names (hr.mono (by decide)) pass0 (pa_cons (pv 0) (pa_cons (pe_op op_add pe_int (pe_fn d__law_take (hr.mono (by decide)) pass0 (pa_cons (pv 0) (pa_cons (pv 1) pa_nil)))) pa_nil)))) (pg_name (i := 7) sc.nd rfl (by first | exact Or.inl rfl | exact Or.inr rfl)) (pss_cons (ps_set (i := 8) sc.nd rfl (by first | exact Or.inl rfl | exact Or.inr rfl) (pe_fn d__law_pick (hr.mono (by decide)) pass0 (pa_cons (pv 0) (pa_cons (pe_lst (pa_cons pe_int (pa_cons pe_int (pa_cons pe_int (pa_cons pe_int (pa_cons pe_int (pa_cons (pe_fn d__law_take (hr.mono (by decide)) pass0 (pa_cons (pv 0) (pa_cons pe_int pa_nil))) pa_nil))))))) pa_nil))))
      (pss_one (ps_dput (hu_of hr) (pe_dget (hu_of hr) (pv 6) pe_str (fun _ _ => rfl)) (pv 7) (pe_tup (pa_cons (pv 8) (pa_cons (pe_cmpR op_gt (pe_fn d__law_take (hr.mono (by decide)) pass0 (pa_cons (pv 0) (pa_cons pe_int pa_nil))) pe_int (nomark _)) pa_nil))) rfl))))
      (Evl.pss_cut (ps_if (PW.pt (pw_and (pt_val (pv 2)) (pw_and1 (pt_cmpR op_gt (pe_fn d__law_take (hr.mono (by decide)) pass0 (pa_cons (pv 0) (pa_cons pe_int pa_nil))) pe_int (nomark _))))) (pss_one (ps_dput (hu_of hr) (pv 6) pe_str (pe_callTy (c_tupleF (K := K) rfl) (by rfl) T.b_tuple (by decide +kernel) (pa_cons (pe_fn d__law_some (hr.mono (by decide)) pass0 (pa_cons (pv 0) (pa_cons (pe_callTy (c_listD rfl) (by rfl) T.b_list (by decide +kernel) (pa_cons (pe_dget (hu_of hr) (pv 6) pe_str (fun _ _ => rfl)) pa_nil)) (pa_cons pe_int pa_nil)))) pa_nil)) rfl)) pss_nil)
      (pss_one (ps_ret (pv 6))))))))))), ?_⟩)
  obtain ⟨st, l, c, cs, n, many, il, rfl, hn, D, m1, m6, k⟩ := h
  walk_at "rd"
  refine r_kLst fun a1 H1 na1 e1 ha1 => ?_
  walk_at "rd"
  refine u_pick D (by omega) na1 e1 ha1 (by simp) (by simp) fun i1 x1 H2 hx1 D2 k2 => ?_
  obtain ⟨z1, rfl, z11, z12⟩ := IntsIn.get (lo := 1) (hi := 4) (by simp [IntsIn]) hx1
  walk_at "rd"
  refine u_take D2 (by omega) (by omega) (by omega) fun r H3 r0 r1 D3 k3 => ?_
  walk_at "rd"
  refine r_kLst fun a2 H4 na2 e4 ha2 => ?_
  walk_at "rd"
  refine u_pick D3 (by omega) na2 e4 ha2 (by simp) (by simp) fun i2 x2 H5 hx2 D5 k5 => ?_
  obtain ⟨z2, rfl, z21, z22⟩ := IntsIn.get (lo := 1) (hi := 30) (by simp [IntsIn]) hx2
  walk_at "rd"
  refine r_kTup fun tq H6 ntq e6 htq => ?_
  walk_at "rd"
  have k6 : Kp st l H H6 := ((k2.trans k3).trans k5).trans (Kp.of e6)
  have D6 := D5.keep e6
  refine r_kLcR1 (fun Da i H' => ∃ ls : List Int, ls.length = i ∧ (∀ z ∈ ls, 2 ≤ z ∧ z ≤ 31) ∧ H' Da = some (.lst (ls.map V.int)) ∧ DS st l c cs (n + 1 + 1 + 1 + (i : Int)) H' ∧ Kp st l H6 H') (by omega)
    (fun Da H' nD e h => ⟨[], rfl, fun z hz => (by cases hz), h, (D6.keep e).mono (by omega), Kp.of e⟩) ?_ ?_
  · rintro Da i H' nD hi ⟨ls, hl, hz, hDa, D7, k7⟩
    walk_at "rd"
    refine u_take D7 (by omega) (by omega) (by omega) fun y H8 y0 y1 D8 k8 => ?_
    walk_at "rd"
    refine r_kLcE (k8 _ _ hDa (D6.nst nD) (D6.nl nD)) (by rw [List.length_map]; omega) fun H9 b9 h9 => ?_
    refine ⟨ls ++ [2 + y], by simp [hl], ?_, by rw [List.map_append]; exact h9, (D8.but D6 nD b9).mono (by omega), (k7.trans k8).mut b9 nD⟩
    intro z hz'
    rcases List.mem_append.mp hz' with h | h
    · exact hz z h
    · rw [List.mem_singleton.mp h]
      omega
  rintro sz H7 nsz ⟨ls, hl, hz, hsz, D7, k7⟩
  walk_at "rd"
  have hn0 := D7
  refine r_disp fun p H8 np e8 hp => ?_
  walk_at "rd"
  refine r_dnewK fun kd H9 nkd e9 hkd => ?_
  walk_at "rd"
  have D9 := (D7.keep e8).keep e9
  have npk : p ≠ kd := ne_of_none hp nkd
  have np0 : H7 kd = none := e8.free nkd
  refine u_take D9 (by omega) (by omega) (by omega) fun m H10 m0 m1 D10 k10 => ?_
  have hp10 := k10 _ _ (e9 _ _ hp) (D7.nst np) (D7.nl np)
  have hkd10 := k10 _ _ hkd (D7.nst np0) (D7.nl np0)
  have hsz10 := k10 _ _ (e9 _ _ (e8 _ _ hsz)) (D6.nst nsz) (D6.nl nsz)
  walk_at "rd"
  refine r_kDisp (mk4 (.ref sz) (.ref kd) .non (.int m)) hp10 rfl (show 4 ≤ 15 by decide) mk4_nd fun H11 b11 hp11 => ?_
  have D11 := D10.but D7 np b11
  have kp11 : Kp st l H7 H11 := ((Kp.of (e8.trans e9)).trans k10).mut b11 np
  have hkd11 := b11 _ _ hkd10 npk.symm
  have nsp : sz ≠ p := ne_of_none hsz np
  have hsz11 := b11 _ _ hsz10 nsp
  walk_at "rd"
  have hlz : 0 < ls.length := by omega
  refine r_minL (SqL.of hsz11) hlz fun mn hmn hmin => ?_
  have hmn2 := hz mn hmn
  walk_at "rd"
  refine r_minL (SqL.of hsz11) hlz fun mn' hmn' hmin' => ?_
  obtain rfl : mn' = mn := Int.le_antisymm (hmin' _ hmn) (hmin _ hmn')
  walk_at "rd"
  refine u_take D11 (by omega) (by omega) (by omega) fun y H12 y0 y1 D12 k12 => ?_
  walk_at "rd"
  refine r_kLst fun a3 H13 na3 e13 ha3 => ?_
  walk_at "rd"
  refine u_pick D12 (by omega) na3 e13 ha3 (by simp) (by simp) fun i3 x3 H14 hx3 D14 k14 => ?_
  obtain ⟨due, rfl, due0, due1⟩ := IntsIn.get (lo := 0) (hi := mn' - 1) (by simp [IntsIn]; omega) hx3
  have kp14 := (kp11.trans k12).trans k14
  have k1114 := k12.trans k14
  have hp14 := k1114 _ _ hp11 (D7.nst np) (D7.nl np)
  walk_at "rd"
  refine r_kDPutS hp14 (by simp [mk4]) fun H15 b15 hp15 => ?_
  rw [mp5] at hp15
  have D15 := D14.but D7 np b15
  have kp15 := kp14.mut b15 np
  have hkd15 := b15 _ _ (k1114 _ _ hkd11 (D7.nst np0) (D7.nl np0)) npk.symm
  have hsz15 := b15 _ _ (k1114 _ _ hsz11 (D6.nst nsz) (D6.nl nsz)) nsp
  walk_at "rd"
  refine r_kLst fun a4 H16 na4 e16 ha4 => ?_
  walk_at "rd"
  refine u_pick D15 (by omega) na4 e16 ha4 (by simp) (by simp) fun i4 x4 H17 hx4 D17 k17 => ?_
  obtain ⟨bg, rfl, hbg⟩ : ∃ bg : Str, x4 = .str bg ∧ (bg = "day" ∨ bg = "statement") := by
    rcases List.mem_cons.mp (List.mem_of_getElem? hx4) with h | h
    · exact ⟨_, h, .inl rfl⟩
    · exact ⟨_, List.mem_singleton.mp h, .inr rfl⟩
  have hp17 := k17 _ _ hp15 (D7.nst np) (D7.nl np)
  walk_at "rd"
  refine r_kDPutS hp17 (by simp [mk4, mk5]) fun H18 b18 hp18 => ?_
  rw [mp6] at hp18
  have D18 := D17.but D7 np b18
  have kp18 := (kp15.trans k17).mut b18 np
  have hkd18 := b18 _ _ (k17 _ _ hkd15 (D7.nst np0) (D7.nl np0)) npk.symm
  have hsz18 := b18 _ _ (k17 _ _ hsz15 (D6.nst nsz) (D6.nl nsz)) nsp
  walk_at "rd"
  refine u_take D18 (by omega) (by omega) (by omega) fun q H19 q0 q1 D19 k19 => ?_
  walk_at "rd"
  refine ⟨st, l, c, cs, _, 1 + q, rfl, (by omega : _ ≤ (17592186044416 : Int)), D19, by omega, by omega, fun t nms H20 nt hnl hnm ht D20 k20 => ?_⟩
  have k1820 := k19.trans k20
  have D20' : DS st l c cs (n + 80) H20 := D20.mono (by omega)
  have kp20 := kp18.trans k1820
  have hp20 := k1820 _ _ hp18 (D7.nst np) (D7.nl np)
  have hkd19 := k19 _ _ hkd18 (D7.nst np0) (D7.nl np0)
  have hkd20 := k20 _ _ hkd19 (D7.nst np0) (D7.nl np0)
  have hsz20 := k1820 _ _ hsz18 (D6.nst nsz) (D6.nl nsz)
  have ntk : t ≠ kd := (ne_of_none hkd19 nt).symm
  have nt1 : t ≠ st := D19.nst nt
  have nt2 : t ≠ l := D19.nl nt
  have nsk : sz ≠ kd := ne_of_none hsz np0
  have hnl6 : nms.length ≤ 6 := by omega
  walk_at "rd"
  refine r_kForL (xs := nms.map V.str) (fun i σ' H' => ∃ (y7 y8 y9 : Option V) (kvs : List (Key × V)) (ks : List (Str × Int × Bool)), σ' = [some (.ref st), some (.int many), some (.bl il), some (.int (1 + r)), some (.int z2), some (.ref sz), some (.ref p), y7, y8, y9] ∧
      ks.map (·.1) = nms.take i ∧ (∀ k ∈ ks, 0 ≤ k.2.1 ∧ k.2.1 ≤ 1000) ∧ H' kd = some (.dK kvs) ∧ KAt H' kvs ks ∧ H' p = some (.dK (mkv (.ref sz) (.ref kd) .non (.int m) (.int due) (.str bg))) ∧ H' sz = some (.lst (ls.map V.int)) ∧ H' t = some (.lst (nms.map V.str)) ∧
      DS st l c cs (n + 80 + 3 * (i : Int)) H' ∧ Kp st l H7 H') (SqL.of ht) ⟨_, _, _, [], [], rfl, rfl, fun k h => (by cases h), hkd20, .nil, hp20, hsz20, ht, D20'.mono (by omega), kp20⟩
      (fun i σ' H' ⟨_, _, _, _, _, _, _, _, _, _, _, _, h, _⟩ => SqL.of h) ?_ ?_
  · rintro i x σ' H21 hx ⟨y7, y8, y9, kvs, ks, rfl, hks, hrt, hkd21, hK, hp21, hsz21, ht21, D21, kp21⟩
    obtain ⟨nm, rfl, hnx⟩ := strs_get hx
    have hil := (List.getElem?_eq_some_iff.mp hnx).1
    walk_at "rd"
    refine u_take D21 (by omega) (by omega) (by omega) fun y H22 y0 y1 D22 k22 => ?_
    walk_at "rd"
    refine r_kLst fun a5 H23 na5 e23 ha5 => ?_
    walk_at "rd"
    refine u_pick D22 (by omega) na5 e23 ha5 (by simp) (by simp) fun i5 x5 H24 hx5 D24 k24 => ?_
    obtain ⟨rt, rfl, rt0, rt1⟩ := IntsIn.get (lo := 0) (hi := 1000) (by simp [IntsIn]; omega) hx5
    walk_at "rd"
    refine u_take D24 (by omega) (by omega) (by omega) fun fr H25 fr0 fr1 D25 k25 => ?_
    have k2125 := (k22.trans k24).trans k25
    walk_at "rd"
    refine r_kTup fun tq H26 ntq e26 htq => ?_
    have k2126 := k2125.trans (Kp.of e26)
    have hp26 := k2126 _ _ hp21 (D7.nst np) (D7.nl np)
    have hkd26 := k2126 _ _ hkd21 (D7.nst np0) (D7.nl np0)
    have hlen := hK.len
    have hkl : ks.length = i := by
      have := congrArg List.length hks
      rw [List.length_map, List.length_take] at this
      omega
    have hfresh : nm ∉ ks.map (·.1) := fun z => by
      rw [hks] at z
      have nd2 : ((nms.take (i + 1))).Nodup := hnm.nd.sublist (List.take_sublist _ _)
      rw [take_more hnx, List.nodup_append] at nd2
      exact nd2.2.2 nm z nm (by simp) rfl
    walk_at "rd"
    refine r_kDPutS hkd26 (by omega) fun H27 b27 hkd27 => ?_
    rw [putK_new _ (hK.fresh hfresh)] at hkd27
    have hK26 : KAt H26 kvs ks := hK.keep (k2126.tups D21)
    have tk : ∀ u xs, H26 u = some (.tup xs) → H27 u = some (.tup xs) := fun u xs hu => b27 _ _ hu (ne_of hu hkd26 (by intro z; cases z))
    refine ⟨_, _, _, _, ks ++ [(nm, rt, _)], rfl, ?_, ?_, hkd27, (hK26.keep tk).snoc (tk _ _ htq), b27 _ _ hp26 npk, b27 _ _ (k2126 _ _ hsz21 (D6.nst nsz) (D6.nl nsz)) nsk, b27 _ _ (k2126 _ _ ht21 nt1 nt2) ntk, ((D25.keep e26).but D7 np0 b27).mono (by omega), (kp21.trans k2126).mut b27 np0⟩
    · rw [List.map_append, hks, take_more hnx]
      rfl
    · intro k' hk'
      rcases List.mem_append.mp hk' with h | h
      · exact hrt k' h
      · rw [List.mem_singleton.mp h]
        exact ⟨rt0, rt1⟩
  rintro σ' H21 ⟨y7, y8, y9, kvs, ks, rfl, hks, hrt, hkd21, hK, hp21, hsz21, ht21, D21, kp21⟩
  rw [List.length_map, List.take_length] at hks
  rw [List.length_map] at D21
  have hkl : ks.length = nms.length := by
    have := congrArg List.length hks
    rw [List.length_map] at this
    exact this
  have kok : KindsOk ks := ⟨by omega, by omega, by rw [hks]; exact hnm, hrt⟩
  have okB : ∀ o, (⟨ls, due, ks, m, bg, o⟩ : Bk).Ok := fun o => ⟨(show 1 ≤ ls.length by omega), (show ls.length ≤ 4 by omega), hz, due0, fun x hx => by have := hmin _ hx; show due < x; omega, kok, m0, (show m ≤ 2 by omega), hbg⟩
  have hp0 : H p = none := by
    rcases hq : H p with _ | o
    · rfl
    · have h1 := (k6.trans k7) _ _ hq (D7.nst np) (D7.nl np)
      rw [np] at h1
      cases h1
  refine r_cut (fun σ' H' => ∃ lv o, σ' = [some (.ref st), some (.int many), some (.bl il), some (.int (1 + r)), some (.int z2), some (.ref sz), some (.ref p), y7, y8, y9] ∧ MdlIn l H' p ⟨ls, due, ks, m, bg, o⟩ sz kd lv kvs ∧ (⟨ls, due, ks, m, bg, o⟩ : Bk).LaidOk ∧ DS st l c cs (n + 200) H' ∧ Kp st l H7 H') ?_ ?_
  · have none_ok : (⟨ls, due, ks, m, bg, none⟩ : Bk).LaidOk := fun ns h => by cases h
    have M0 : MdlIn l H21 p ⟨ls, due, ks, m, bg, none⟩ sz kd .non kvs := ⟨hp21, hsz21, D6.nl nsz, hkd21, hK, rfl⟩
    walk_at "rd"
    cases il with
    | false =>
      walk_at "rd"
      exact ⟨_, none, rfl, M0, none_ok, D21.mono (by omega), kp21⟩
    | true =>
      walk_at "rd"
      refine u_take D21 (by omega) (by omega) (by omega) fun w0 H22 w1 w2 D22 k22 => ?_
      have M2 := M0.kp k22 D21
      have hp22 := M2.i
      walk_at "rd"
      refine w_dec (fun cc => ?_) (fun cc => ?_)
      · walk_at "rd"
        refine r_listD M2.k fun l1 H23 nl1 e23 hl1 => ?_
        have hn' : (kvs.map fun kv => kV kv.1) = (ks.map (·.1)).map V.str := by
          have e := congrArg (List.map kV) hK.keys
          rw [List.map_map, List.map_map] at e
          exact e
        rw [hn'] at hl1
        walk_at "rd"
        refine ⟨st, l, c, l1, cs, _, 6, _, rfl, (by omega : _ ≤ (17592186044416 : Int)), D22.keep e23, hl1, by rw [List.length_map, List.length_map]; omega, by omega, by omega, fun t1 ys rest H24 nt1 pm hyl ht1 D24 k24 => ?_⟩
        have hrest : rest = [] := by
          have := pm.length_eq
          rw [List.length_append, List.length_map, List.length_map] at this
          rw [List.length_map, List.length_map] at hyl
          exact List.eq_nil_of_length_eq_zero (by omega)
        subst hrest
        rw [List.append_nil] at pm
        obtain ⟨ns, pn, rfl⟩ := perm_lift V.str ys (ks.map (·.1)) pm
        have M4 := (M2.keep e23).kp k24 (D22.keep e23)
        walk_at "rd"
        refine r_tupF (SqL.of ht1) fun tl H25 ntl e25 htl => ?_
        have M5 := M4.keep e25
        walk_at "rd"
        refine r_kDPutS M5.i (by rw [mkv_len]; decide) fun H26 b26 h26 => ?_
        rw [mq3] at h26
        have tk : ∀ u xs, H25 u = some (.tup xs) → H26 u = some (.tup xs) := fun u xs hu => b26 _ _ hu (ne_of hu M5.i (by intro z; cases z))
        refine ⟨_, some ns, rfl, ⟨h26, b26 _ _ M5.l nsp, M5.n, b26 _ _ M5.k npk.symm, M5.a.keep tk, ⟨tl, rfl, htl.keep fun u o xs hu => b26 _ _ hu (ne_of hu M5.i (by intro z; cases z))⟩⟩, fun ns' h => ?_, ((D24.keep e25).but D7 np b26).mono (by omega), ((((kp21.trans k22).trans (Kp.of e23)).trans k24).trans (Kp.of e25)).mut b26 np⟩
        obtain rfl := Option.some.inj h
        exact pn
      · walk_at "rd"
        exact ⟨_, none, rfl, M2, none_ok, D22.mono (by omega), kp21.trans k22⟩
  · rintro σ' H22 ⟨lv, o, rfl, hM, lo, D22, k22⟩
    walk_at "rd"
    exact k p _ H22 hp0 (okB o) lo ⟨_, _, _, _, hM⟩ D22 ((k6.trans k7).trans k22)
end
end Wp
set_option Elab.async false
set_option linter.all false
set_option maxRecDepth 100000
set_option maxHeartbeats 4000000
/-! A model and a book of it. -/
namespace Wp
open PySem PySem.Spec PyProof.Rows L2
/-- a model and a book of it -/
structure Two (C l : Addr) (H : Hp) (p q : Addr) (B : Bk) : Prop where
  m : Mdl l H p B
  o : B.Ok
  lo : B.LaidOk
  b : ∃ ks, ks.Perm B.ks ∧ BookAt C H q { B with ks := ks }
theorem Two.keep {C l p q : Addr} {H H' : Hp} {B : Bk} (h : Two C l H p q B) (e : Same H H') : Two C l H' p q B := by
  obtain ⟨ks, h1, h2⟩ := h.b
  exact ⟨h.m.keep e, h.o, h.lo, ks, h1, h2.keep e⟩
theorem Two.kp {C st l c p q : Addr} {cs : List Int} {n : Int} {H H' : Hp} {B : Bk} (h : Two C l H p q B) (k : Kp st l H H') (D : DS st l c cs n H) : Two C l H' p q B := by
  obtain ⟨ks, h1, h2⟩ := h.b
  exact ⟨h.m.kp k D, h.o, h.lo, ks, h1, h2.kp k D⟩
theorem Bk.Ok.perm {B : Bk} (ok : B.Ok) {ks : List (Str × Int × Bool)} (p : ks.Perm B.ks) : ({ B with ks := ks } : Bk).Ok := by
  obtain ⟨h1, h2, h3, h4, h5, ⟨k1, k2, ⟨k3, k4⟩, k5⟩, h7, h8, h9⟩ := ok
  have pn := p.map (·.1)
  exact ⟨h1, h2, h3, h4, h5, ⟨by rw [p.length_eq]; exact k1, by rw [p.length_eq]; exact k2, ⟨fun z hz => k3 z (pn.mem_iff.mp hz), pn.nodup_iff.mpr k4⟩, fun k hk => k5 k (p.mem_iff.mp hk)⟩, h7, h8, h9⟩
theorem Bk.LaidOk.perm {B : Bk} (lo : B.LaidOk) {ks : List (Str × Int × Bool)} (p : ks.Perm B.ks) : ({ B with ks := ks } : Bk).LaidOk := fun ns h => (lo ns h).trans (p.map (·.1)).symm
end Wp
set_option Elab.async false
set_option linter.all false
set_option maxRecDepth 100000
set_option maxHeartbeats 4000000
/-! Bounds of what courses hold; routes while draws go on. -/
namespace Wp
open PySem PySem.Spec PyProof.Rows L2
theorem VR.names {ks ks' : List Str} {rs : List CR} (h : VR ks rs) (e : ∀ z ∈ ks, z ∈ ks') : VR ks' rs := fun i r hr => by
  have := h i r hr
  cases r with
  | buy d k c => exact ⟨this.1, e _ this.2.1, this.2.2⟩
  | pay d c => exact this
theorem VR.perm {ks ks' : List (Str × Int × Bool)} {rs : List CR} (h : VR (ks.map (·.1)) rs) (p : ks'.Perm ks) : VR (ks'.map (·.1)) rs := h.names fun z hz => (p.map _).mem_iff.mpr hz
theorem VR.owed {ks : List Str} : ∀ rs : List CR, VR ks rs → owedC rs ≤ 1000000 * (rs.length : Int) := by
  refine list_snoc_ind (fun _ => by simp [owedC]) fun rs r ih hv => ?_
  have hv0 : VR ks rs := by
    have := hv.take rs.length
    rwa [List.take_left] at this
  have h0 := ih hv0
  have hx := hv rs.length r (by simp)
  rw [List.take_left] at hx
  rw [owedC_snoc, List.length_append, List.length_singleton, Int.natCast_add]
  cases r with
  | buy d k c =>
    have := hx.2.2.2
    simp only [CR.sum]
    omega
  | pay d c =>
    have := hx.2.1
    simp only [CR.sum]
    omega
theorem VR.small {ks : List Str} {rs : List CR} (h : VR ks rs) (nm : ∀ z ∈ ks, NameOk z) (hd : lastDay rs ≤ 100000) (hn : rs.length ≤ 1000) : ∀ r ∈ rs, RSm r := fun r hr => by
  obtain ⟨i, hi, rfl⟩ := List.getElem_of_mem hr
  have h60 : (10000000000 : Nat) < 10 ^ 60 := by decide
  have hdays := (VR.days rs h).2 rs[i] hr
  have hx := h i rs[i] (List.getElem?_eq_getElem hi)
  have ho := VR.owed (rs.take i) (h.take i)
  rw [List.length_take] at ho
  revert hx hdays
  generalize rs[i] = r
  intro hdays hx
  cases r with
  | buy d k c =>
    obtain ⟨_, h2, h3, h4⟩ := hx
    have hdays : 0 ≤ d ∧ d ≤ lastDay rs := hdays
    exact ⟨by omega, nm k h2, by omega⟩
  | pay d c =>
    obtain ⟨_, h3, h4⟩ := hx
    have hdays : 0 ≤ d ∧ d ≤ lastDay rs := hdays
    exact ⟨by omega, by omega⟩
theorem pieces_small {P : Pd} {n M : Int} (h : POk P n M) (hn : n ≤ 1000) (hM : M ≤ 100000) (hs : ∀ i : Nat, sumAt P i ≤ 1000000) : ∀ t ∈ piecesL P, (0 ≤ t.1 ∧ t.1 < n) ∧ (0 ≤ t.2.1 ∧ t.2.1 ≤ M) ∧ (1 ≤ t.2.2 ∧ t.2.2 ≤ 1000000) := fun t ht => by
  obtain ⟨p, hp, rfl⟩ := List.mem_map.mp ((piecesL_perm h.nd).mem_iff.mp ht)
  have h1 := h.at' p hp
  have h2 := h.dy p hp
  have h3 := h.pos p hp
  have h4 := (sumAt_le h.pos p hp).1
  have h5 := hs p.1.1.toNat
  rw [show ((p.1.1.toNat : Nat) : Int) = p.1.1 by omega] at h5
  exact ⟨h1, h2, h3, by show p.2 ≤ 1000000; omega⟩
theorem small60 {t : Tri} {n M : Int} (hn : n ≤ 1000) (hM : M ≤ 100000) (h : (0 ≤ t.1 ∧ t.1 < n) ∧ (0 ≤ t.2.1 ∧ t.2.1 ≤ M) ∧ (1 ≤ t.2.2 ∧ t.2.2 ≤ 1000000)) : t.1.natAbs < 10 ^ 60 ∧ t.2.1.natAbs < 10 ^ 60 ∧ t.2.2.natAbs < 10 ^ 60 := by
  have h60 : (10000000000 : Nat) < 10 ^ 60 := by decide
  omega
/-- what a valid course has in the end -/
structure Fin (rk : Str → Int) (rs : List CR) (e : Int) : Prop where
  ok : POk (settle rk rs e) rs.length e
  sum : ∀ i : Nat, sumAt (settle rk rs e) i = boughtAt rs i
  sml : ∀ t ∈ piecesL (settle rk rs e), (0 ≤ t.1 ∧ t.1 < rs.length) ∧ (0 ≤ t.2.1 ∧ t.2.1 ≤ e) ∧ (1 ≤ t.2.2 ∧ t.2.2 ≤ 1000000)
  len : (piecesL (settle rk rs e)).length ≤ 40200
theorem Fin.of {ks : List Str} (rk : Str → Int) {rs : List CR} {e : Int} (h : VR ks rs) (he : lastDay rs ≤ e) (h2 : e ≤ 100000) (hn : rs.length ≤ 200) : Fin rk rs e := by
  have hd := VR.days rs h
  obtain ⟨p1, p2⟩ := settle_ok rk (M := e) h (fun r hr => by have := hd.2 r hr; omega) ⟨by omega, Int.le_refl _⟩
  refine ⟨p1, p2, pieces_small p1 (by omega) h2 fun i => by rw [p2 i]; exact (h.bought i).2, ?_⟩
  have hl := settle_len rk rs e
  have hii : rs.length * rs.length ≤ 40000 := Nat.le_trans (Nat.mul_le_mul hn hn) (by decide)
  have := (piecesL_perm p1.nd).length_eq
  rw [List.length_map] at this
  omega
theorem Fin.r60 {rk : Str → Int} {rs : List CR} {e : Int} (h : Fin rk rs e) (hn : rs.length ≤ 200) (he : e ≤ 100000) : ∀ t ∈ piecesL (settle rk rs e), t.1.natAbs < 10 ^ 60 ∧ t.2.1.natAbs < 10 ^ 60 ∧ t.2.2.natAbs < 10 ^ 60 := fun t ht => small60 (by omega) he (h.sml t ht)
theorem RtAt.kp {st l c : Addr} {cs : List Int} {n : Int} {H H' : Hp} {p : Addr} {rs : List CR} {e : Int} (h : RtAt l H p rs e) (k : Kp st l H H') (D : DS st l c cs n H) : RtAt l H' p rs e := by
  obtain ⟨a, ws, h1, h2, h3, h4⟩ := h
  obtain ⟨r, t, _, _, _, hd⟩ := D.d
  exact ⟨a, ws, k.tups D _ _ h1, k _ _ h2 (ne_of h2 hd (by intro z; cases z)) h3, h3, h4.keep (k.tups D)⟩
end Wp
set_option Elab.async false
set_option linter.all false
set_option maxRecDepth 100000
set_option maxHeartbeats 4000000
namespace Wp
open PySem PySem.Spec PyProof.Rows L2
theorem Bk.Ok.ls {B : Bk} (ok : B.Ok) : LsOk B.ls := ⟨ok.l1, ok.l2, ok.l3⟩
theorem first_eq (B : Bk) (m : Int) : B.first m = firstL B.ls m := rfl
theorem Bk.Ok.due31 {B : Bk} (ok : B.Ok) : B.due + 1 ≤ 31 := by
  have l1 := ok.l1
  obtain ⟨x, hx⟩ := List.exists_mem_of_length_pos (show 0 < B.ls.length by omega)
  have := ok.l3 x hx
  have := ok.d1 x hx
  omega
end Wp
set_option Elab.async false
set_option linter.all false
set_option maxRecDepth 100000
set_option maxHeartbeats 4000000
/-! Statements and interest, plain. -/
namespace Wp
open PySem PySem.Spec PyProof.Rows L2
def bbF (d : Int) : CR → Option Int
  | .buy d' _ c => if d' ≤ d then some c else none
  | .pay _ _ => none
def boughtBy (rs : List CR) (d : Int) : Int := (rs.filterMap (bbF d)).sum
def paidL (P : Pd) (d : Int) : List Int := (P.filter fun p => decide (p.1.2 ≤ d)).map (·.2)
def paidBy (P : Pd) (d : Int) : Int := (paidL P d).sum
def wholeB (B : Bk) (rs : List CR) (P : Pd) (m : Int) : Bool := decide (m < 0) || decide (boughtBy rs (firstL B.ls (m + 1) - 1) ≤ paidBy P (firstL B.ls (m + 1) + B.due))
def sparedL (B : Bk) (rs : List CR) (P : Pd) (m : Int) : List Bool := (List.range (B.mem + 1).toNat).map fun b : Nat => wholeB B rs P (m - (b : Int))
def sparedB (B : Bk) (rs : List CR) (P : Pd) (m : Int) : Bool := (sparedL B rs P m).all id
def beginF (B : Bk) (rs : List CR) (P : Pd) (d : Int) (b : Bool) : Int :=
  if b = false then d else if sparedB B rs P (monthL B.ls d) = true then firstL B.ls (monthL B.ls d + 1) + B.due + 1 else if B.beg = "day" then d else firstL B.ls (monthL B.ls d + 1)
def begOf (B : Bk) (rs : List CR) (P : Pd) (z : Int) : Int := match rs[z.toNat]? with
  | some (.buy d k _) => beginF B rs P d (B.freeOf k)
  | _ => 0
def rateAt (B : Bk) (rs : List CR) (z : Int) : Int := match rs[z.toNat]? with
  | some (.buy _ k _) => B.rateOf k
  | _ => 0
def bearOf (B : Bk) (rs : List CR) (P : Pd) : List (Tri × Int × Int) := (piecesL P).map fun t => (t, begOf B rs P t.1, rateAt B rs t.1)
def daysOf (x : Tri × Int × Int) : Int := max 0 (x.1.2.1 - x.2.1)
def bear5 (x : Tri × Int × Int) : List Int := [x.1.1, x.1.2.1, x.1.2.2, daysOf x, daysOf x * x.2.2 * x.1.2.2]
def bearL (B : Bk) (rs : List CR) (P : Pd) : List (List Int) := (bearOf B rs P).map bear5
def grains (B : Bk) (rs : List CR) (P : Pd) : Int := ((bearOf B rs P).map fun x => daysOf x * x.2.2 * x.1.2.2).sum
theorem boughtBy_snoc (rs : List CR) (r : CR) (d : Int) : boughtBy (rs ++ [r]) d = boughtBy rs d + (bbF d r).getD 0 := by
  unfold boughtBy
  rw [List.filterMap_append, List.sum_append]
  cases h : bbF d r with
  | none => simp [h]
  | some c => simp [h]
/-! kinds by another order -/
theorem find_perm {ks ks' : List (Str × Int × Bool)} (nd : (ks.map (·.1)).Nodup) (p : ks'.Perm ks) (n : Str) : (ks'.find? fun k => decide (k.1 = n)) = ks.find? fun k => decide (k.1 = n) := by
  have nd' : (ks'.map (·.1)).Nodup := (p.map _).nodup_iff.mpr nd
  by_cases h : n ∈ ks.map (·.1)
  · obtain ⟨⟨n', r, b⟩, hm, e⟩ := List.mem_map.mp h
    obtain rfl : n' = n := e
    rw [Bk.find_of nd hm, Bk.find_of nd' (p.mem_iff.mpr hm)]
  · have h' : n ∉ ks'.map (·.1) := fun z => h ((p.map _).mem_iff.mp z)
    have none_of : ∀ l : List (Str × Int × Bool), n ∉ l.map (·.1) → (l.find? fun k => decide (k.1 = n)) = none := fun l hl => by
      rw [List.find?_eq_none]
      intro x hx z
      exact hl (List.mem_map.mpr ⟨x, hx, of_decide_eq_true z⟩)
    rw [none_of _ h, none_of _ h']
theorem rateOf_perm {B : Bk} (nd : (B.ks.map (·.1)).Nodup) {ks : List (Str × Int × Bool)} (p : ks.Perm B.ks) (n : Str) : ({ B with ks := ks } : Bk).rateOf n = B.rateOf n := by
  unfold Bk.rateOf
  rw [show ({ B with ks := ks } : Bk).ks = ks from rfl, find_perm nd p n]
theorem freeOf_perm {B : Bk} (nd : (B.ks.map (·.1)).Nodup) {ks : List (Str × Int × Bool)} (p : ks.Perm B.ks) (n : Str) : ({ B with ks := ks } : Bk).freeOf n = B.freeOf n := by
  unfold Bk.freeOf
  rw [show ({ B with ks := ks } : Bk).ks = ks from rfl, find_perm nd p n]
theorem kind_at {B : Bk} (nd : (B.ks.map (·.1)).Nodup) {n : Str} (h : n ∈ B.ks.map (·.1)) : (n, B.rateOf n, B.freeOf n) ∈ B.ks := by
  obtain ⟨⟨n', r, b⟩, hm, e⟩ := List.mem_map.mp h
  obtain rfl : n' = n := e
  have := Bk.find_of nd hm
  unfold Bk.rateOf Bk.freeOf
  rw [this]
  exact hm
theorem bearOf_perm {B : Bk} (nd : (B.ks.map (·.1)).Nodup) {ks : List (Str × Int × Bool)} (p : ks.Perm B.ks) (rs : List CR) (P : Pd) : bearOf { B with ks := ks } rs P = bearOf B rs P := by
  unfold bearOf
  refine List.map_congr_left fun t _ => ?_
  have e1 : begOf { B with ks := ks } rs P t.1 = begOf B rs P t.1 := by
    unfold begOf
    cases h : rs[t.1.toNat]? with
    | none => rfl
    | some r =>
      cases r with
      | buy d k c =>
        show beginF _ _ _ _ (({ B with ks := ks } : Bk).freeOf k) = _
        rw [freeOf_perm nd p]
        rfl
      | pay d c => rfl
  have e2 : rateAt { B with ks := ks } rs t.1 = rateAt B rs t.1 := by
    unfold rateAt
    cases h : rs[t.1.toNat]? with
    | none => rfl
    | some r =>
      cases r with
      | buy d k c => exact rateOf_perm nd p k
      | pay d c => rfl
  rw [e1, e2]
/-- each piece is one of a purchase -/
theorem piece_buy {ks : List Str} {rk : Str → Int} {rs : List CR} {e : Int} (fn : Fin rk rs e) (hv : VR ks rs) {t : Tri} (h : t ∈ piecesL (settle rk rs e)) : ∃ d k c, rs[t.1.toNat]? = some (.buy d k c) ∧ k ∈ ks ∧ 0 ≤ t.1 := by
  obtain ⟨p, hp, rfl⟩ := List.mem_map.mp ((piecesL_perm fn.ok.nd).mem_iff.mp h)
  have h1 := fn.ok.at' p hp
  have h3 := fn.ok.pos p hp
  have h4 := (sumAt_le fn.ok.pos p hp).1
  have h5 := fn.sum p.1.1.toNat
  rw [show ((p.1.1.toNat : Nat) : Int) = p.1.1 by omega] at h5
  have h6 : 1 ≤ boughtAt rs p.1.1.toNat := by omega
  unfold boughtAt at h6
  show ∃ d k c, rs[p.1.1.toNat]? = some (.buy d k c) ∧ k ∈ ks ∧ 0 ≤ p.1.1
  cases hr : rs[p.1.1.toNat]? with
  | none => rw [hr] at h6; simp at h6
  | some r =>
    cases r with
    | buy d k c => exact ⟨d, k, c, rfl, (hv _ _ hr).2.1, h1.1⟩
    | pay d c => rw [hr] at h6; simp at h6
theorem rate_bounds {B : Bk} (hk : ∀ k ∈ B.ks, 0 ≤ k.2.1 ∧ k.2.1 ≤ 1000) (nd : (B.ks.map (·.1)).Nodup) (n : Str) : 0 ≤ B.rateOf n ∧ B.rateOf n ≤ 1000 := by
  by_cases h : n ∈ B.ks.map (·.1)
  · exact hk _ (kind_at nd h)
  · unfold Bk.rateOf
    rw [List.find?_eq_none.mpr fun x hx z => h (List.mem_map.mpr ⟨x, hx, of_decide_eq_true z⟩)]
    exact ⟨Int.le_refl _, by show (0 : Int) ≤ 1000; decide⟩
theorem rateAt_bounds {B : Bk} (hk : ∀ k ∈ B.ks, 0 ≤ k.2.1 ∧ k.2.1 ≤ 1000) (nd : (B.ks.map (·.1)).Nodup) (rs : List CR) (z : Int) : 0 ≤ rateAt B rs z ∧ rateAt B rs z ≤ 1000 := by
  unfold rateAt
  cases h : rs[z.toNat]? with
  | none => exact ⟨Int.le_refl _, by show (0 : Int) ≤ 1000; decide⟩
  | some r =>
    cases r with
    | buy d k c => exact rate_bounds hk nd k
    | pay d c => exact ⟨Int.le_refl _, by show (0 : Int) ≤ 1000; decide⟩
theorem bear_bounds {ks : List Str} {rk : Str → Int} {B : Bk} {rs : List CR} {e : Int} (fn : Fin rk rs e) (hv : VR ks rs) (hk : ∀ k ∈ B.ks, 0 ≤ k.2.1 ∧ k.2.1 ≤ 1000) (nd : (B.ks.map (·.1)).Nodup) {r : Tri × Int × Int} (h : r ∈ bearOf B rs (settle rk rs e)) :
    0 ≤ r.2.2 ∧ r.2.2 ≤ 1000 ∧ 1 ≤ r.1.2.2 ∧ r.1.2.2 ≤ 1000000 ∧ 0 ≤ r.1.2.1 ∧ r.1.2.1 ≤ e := by
  obtain ⟨t, ht, rfl⟩ := List.mem_map.mp h
  have h1 := fn.sml t ht
  have h2 := rateAt_bounds hk nd rs t.1
  exact ⟨h2.1, h2.2, h1.2.2.1, h1.2.2.2, h1.2.1.1, h1.2.1.2⟩
def kDNotIn (Q : VK) (y : V) : VK := fun x H2 => ∃ a o, x = .ref a ∧ DGet H2 a y o ∧ Q (.bl (!o.isSome)) H2
theorem r_dnotin {σ : L2.St} {H : Hp} {Q : VK} {ty td : TE} (q : ty σ H fun y H1 => td σ H1 (kDNotIn Q y)) : tDNotIn ty td σ H Q := q
theorem r_kDNotInT {H : Hp} {Q : VK} {a : Addr} {t : List (Int × Int)} {z : Int} (h : H a = some (.dK (encT t))) (q : Q (.bl (!(lookT t z).isSome)) H) : kDNotIn Q (.int z) (.ref a) H :=
  ⟨a, (lookT t z).map V.int, rfl, .inl ⟨encT t, Sum.inl z, .inl h, rfl, (valV_enc z t).symm⟩, by
    have e : ((lookT t z).map V.int).isSome = (lookT t z).isSome := by cases lookT t z <;> rfl
    rw [e]
    exact q⟩
theorem begOf_nonneg {ks : List Str} {B : Bk} (ok : B.Ok) {rs : List CR} (hv : VR ks rs) (P : Pd) (z : Int) : 0 ≤ begOf B rs P z := by
  unfold begOf
  cases h : rs[z.toNat]? with
  | none => exact Int.le_refl _
  | some r =>
    cases r with
    | buy d k c =>
      have hd := (VR.days rs hv).2 _ (List.mem_of_getElem? h)
      have hd : 0 ≤ d ∧ d ≤ lastDay rs := hd
      have mb := month_bounds ok.ls d
      have d0 := ok.d0
      show 0 ≤ beginF B rs P d (B.freeOf k)
      unfold beginF
      split
      · exact hd.1
      · split
        · omega
        · split
          · exact hd.1
          · omega
    | pay d c => exact Int.le_refl _
theorem term_bounds {a b c : Int} (a0 : 0 ≤ a) (a1 : a ≤ 100000) (b0 : 0 ≤ b) (b1 : b ≤ 1000) (c0 : 0 ≤ c) (c1 : c ≤ 1000000) : 0 ≤ a * b * c ∧ a * b * c ≤ 100000000000000 := by
  have h1 := Int.mul_nonneg a0 b0
  have h2 : a * b ≤ 100000 * 1000 := Int.mul_le_mul a1 b1 b0 (by decide)
  have h3 := Int.mul_nonneg h1 c0
  have h4 : a * b * c ≤ 100000 * 1000 * 1000000 := Int.mul_le_mul h2 c1 c0 (by decide)
  exact ⟨h3, Int.le_trans h4 (by decide)⟩
theorem bear_term {ks : List Str} {rk : Str → Int} {B : Bk} {rs : List CR} {e : Int} (fn : Fin rk rs e) (hv : VR ks rs) (ok : B.Ok) (he : e ≤ 100000) {r : Tri × Int × Int} (h : r ∈ bearOf B rs (settle rk rs e)) :
    (0 ≤ daysOf r ∧ daysOf r ≤ 100000) ∧ 0 ≤ daysOf r * r.2.2 * r.1.2.2 ∧ daysOf r * r.2.2 * r.1.2.2 ≤ 100000000000000 := by
  have hb := bear_bounds fn hv ok.kn.rt ok.kn.nm.nd h
  have hg : 0 ≤ r.2.1 := by
    obtain ⟨t, ht, rfl⟩ := List.mem_map.mp h
    exact begOf_nonneg ok hv _ _
  have hd : 0 ≤ daysOf r ∧ daysOf r ≤ 100000 := by
    unfold daysOf
    omega
  exact ⟨hd, term_bounds hd.1 hd.2 hb.1 hb.2.1 (by omega) (by omega)⟩
theorem bear5_small {ks : List Str} {rk : Str → Int} {B : Bk} {rs : List CR} {e : Int} (fn : Fin rk rs e) (hv : VR ks rs) (ok : B.Ok) (he : e ≤ 100000) (hn : rs.length ≤ 200) : ∀ x ∈ bearL B rs (settle rk rs e), x.length ≤ 5 ∧ ∀ z ∈ x, z.natAbs < 10 ^ 60 := fun x hx => by
  obtain ⟨r, hr, rfl⟩ := List.mem_map.mp hx
  have h60 : (1000000000000000 : Nat) < 10 ^ 60 := by decide
  have hb := bear_bounds fn hv ok.kn.rt ok.kn.nm.nd hr
  have ht := bear_term fn hv ok he hr
  have h1 : 0 ≤ r.1.1 ∧ r.1.1 < rs.length := by
    obtain ⟨t, ht', rfl⟩ := List.mem_map.mp hr
    exact (fn.sml t ht').1
  refine ⟨by simp [bear5], fun z hz => ?_⟩
  simp only [bear5, List.mem_cons, List.not_mem_nil, or_false] at hz
  rcases hz with rfl | rfl | rfl | rfl | rfl <;> omega
theorem bearL_len {rk : Str → Int} {B : Bk} {rs : List CR} {e : Int} (fn : Fin rk rs e) : (bearL B rs (settle rk rs e)).length ≤ 40200 := by
  unfold bearL bearOf
  rw [List.length_map, List.length_map]
  exact fn.len
theorem sum_bounds {M : Int} : ∀ {l : List Int}, (∀ z ∈ l, 0 ≤ z ∧ z ≤ M) → 0 ≤ l.sum ∧ l.sum ≤ M * (l.length : Int)
  | [], _ => by simp
  | a :: r, h => by
    have h1 := sum_bounds (l := r) fun z hz => h z (List.mem_cons_of_mem _ hz)
    have h2 := h a (List.mem_cons_self ..)
    rw [List.sum_cons, List.length_cons, Int.natCast_add, Int.mul_add]
    have : M * ((1 : Nat) : Int) = M := by simp
    omega
theorem grains_bounds {ks : List Str} {rk : Str → Int} {B : Bk} {rs : List CR} {e : Int} (fn : Fin rk rs e) (hv : VR ks rs) (ok : B.Ok) (he : e ≤ 100000) : 0 ≤ grains B rs (settle rk rs e) ∧ grains B rs (settle rk rs e) ≤ 10000000000000000000 := by
  have h := sum_bounds (M := 100000000000000) (l := (bearOf B rs (settle rk rs e)).map fun x => daysOf x * x.2.2 * x.1.2.2) fun z hz => by
    obtain ⟨r, hr, rfl⟩ := List.mem_map.mp hz
    exact (bear_term fn hv ok he hr).2
  have hl : (bearOf B rs (settle rk rs e)).length ≤ 40200 := by
    unfold bearOf
    rw [List.length_map]
    exact fn.len
  rw [List.length_map] at h
  unfold grains
  omega
/-! lists of tuples of ints -/
inductive LAt (H : Hp) : List V → List (List Int) → Prop
  | nil : LAt H [] []
  | cons {t : Addr} {r : List Int} {ws : List V} {rs : List (List Int)} : H t = some (.tup (r.map V.int)) → LAt H ws rs → LAt H (.ref t :: ws) (r :: rs)
theorem LAt.keep {H H' : Hp} {ws : List V} {rs : List (List Int)} (h : LAt H ws rs) (e : ∀ t xs, H t = some (.tup xs) → H' t = some (.tup xs)) : LAt H' ws rs := by
  induction h with
  | nil => exact .nil
  | cons h _ ih => exact .cons (e _ _ h) ih
theorem LAt.same {H H' : Hp} {ws : List V} {rs : List (List Int)} (h : LAt H ws rs) (e : Same H H') : LAt H' ws rs := h.keep fun _ _ q => e _ _ q
theorem LAt.len {H : Hp} {ws : List V} {rs : List (List Int)} (h : LAt H ws rs) : ws.length = rs.length := by
  induction h with
  | nil => rfl
  | cons _ _ ih => simp [ih]
theorem LAt.get {H : Hp} {ws : List V} {rs : List (List Int)} (h : LAt H ws rs) : ∀ {i : Nat} {x : V}, ws[i]? = some x → ∃ t r, x = .ref t ∧ rs[i]? = some r ∧ H t = some (.tup (r.map V.int)) := by
  induction h with
  | nil => intro i x e; simp at e
  | @cons t r ws rs h _ ih =>
    intro i x e
    cases i with
    | zero => exact ⟨t, r, (Option.some.inj e).symm, rfl, h⟩
    | succ i =>
      obtain ⟨t', r', h1, h2, h3⟩ := ih (i := i) (by simpa using e)
      exact ⟨t', r', h1, by simpa using h2, h3⟩
theorem LAt.app {H : Hp} {ws us : List V} {rs ss : List (List Int)} (h : LAt H ws rs) (h2 : LAt H us ss) : LAt H (ws ++ us) (rs ++ ss) := by
  induction h with
  | nil => exact h2
  | cons h _ ih => exact .cons h ih
def encI (t : List Int) : PyData := .tuple (t.map .int)
theorem LAt.dp {K : PySem.W.Frag} {H : Hp} {ws : List V} {rs : List (List Int)} (h : LAt H ws rs) : DpAll K H ws (rs.map encI) := by
  induction h with
  | nil => exact .nil
  | cons h _ ih => exact .cons (.tup (SqT.of h) (dp_ints _)) ih
theorem sm_lists : ∀ {ps : List (List Int)}, (∀ p ∈ ps, p.length ≤ 5 ∧ ∀ z ∈ p, z.natAbs < 10 ^ 60) → smAll (ps.map encI) = true ∧ wzAll (ps.map encI) ≤ 320 * ps.length
  | [], _ => ⟨rfl, by simp [wzAll]⟩
  | r :: rs, h => by
    obtain ⟨h1, h2⟩ := sm_lists fun r' hr' => h r' (List.mem_cons_of_mem _ hr')
    obtain ⟨a1, a2⟩ := h r (List.mem_cons_self ..)
    constructor
    · rw [List.map_cons, smAll_cons, h1, Bool.and_true]
      simp only [encI, smI]
      exact sm_ints a2
    · rw [List.map_cons, wzAll]
      simp only [encI, wz, List.length_cons]
      rw [wz_ints]
      omega
theorem depth_lists : ∀ rs : List (List Int), PyData.depthAll (rs.map encI) ≤ 2
  | [] => by simp [PyData.depthAll]
  | r :: rs => by
    have := depth_lists rs
    have h2 := dep_ints r
    simp only [List.map_cons, PyData.depthAll, encI, PyData.depth]
    omega
section
variable {K : PySem.W.Frag} {H : Hp} {Q : VK} {p : Addr} {ws : List V} {σ : L2.St} {g : TG} {tt : TT} {te ta : TE} {vs : List Nat} {xs : List V} {tw : TS} {D : Ends}
theorem r_reprL {ps : List (List Int)} (h : SqL K H p ws) (hr : LAt H ws ps) (ok : ∀ p ∈ ps, p.length ≤ 5 ∧ ∀ z ∈ p, z.natAbs < 10 ^ 60) (hz : ps.length ≤ 50000) (q : Q (.str (PyData.list (ps.map encI)).shown) H) : rRepr K [.ref p] H Q := by
  obtain ⟨h1, h2⟩ := sm_lists ok
  refine r_repr (d := .list (ps.map encI)) (.lst h hr.dp) ?_ ?_ ?_ q
  · simpa [smI] using h1
  · have := depth_lists ps
    simp only [PyData.depth]
    omega
  · simp only [wz]
    omega
/-! a list or a tuple gone through, told by an expression -/
theorem r_lcSeq (ht : ∀ Q' : VK, Q' (.ref p) H → ta σ H Q') (hl : SeqV K H p xs) (Pv : Addr → Nat → Hp → Prop) (h0 : ∀ Da H', H Da = none → Same H H' → H' Da = some (.lst []) → Pv Da 0 H') (hk : ∀ Da i H', Pv Da i H' → Same H H')
    (hs : ∀ Da i x H', H Da = none → xs[i]? = some x → Pv Da i H' → g x (wipe σ vs) H' (kLcG tt te vs σ Da Pv i)) (hd : ∀ Da H', H Da = none → Pv Da xs.length H' → Q (.ref Da) H') :
    tLc (iEither (iList K ta) (iTup K ta)) g tt te vs σ H Q := by
  rcases hl with hl | hl
  · exact .inl (r_lcL (ht _ (r_kLcL Pv hl h0 (fun Da i H' p => SqL.same (hk Da i H' p) hl) hs hd)))
  · exact .inr (r_lcTu (ht _ (r_kLcTu Pv hl h0 (fun Da i H' p => SqT.same (hk Da i H' p) hl) hs hd)))
theorem r_forSeq {H0 : Hp} (ht : ∀ Q' : VK, Q' (.ref p) H → ta σ H Q') (hl : SeqV K H0 p xs) (h00 : Same H0 H) (Pv : Nat → L2.St → Hp → Prop) (h0 : Pv 0 σ H) (hk : ∀ i σ' H', Pv i σ' H' → Same H0 H')
    (hs : ∀ i x σ' H', xs[i]? = some x → Pv i σ' H' → g x σ' H' fun σ2 H2 => tw { D with nx := Pv (i + 1), ct := Pv (i + 1), bk := D.nx } σ2 H2) (hd : ∀ σ' H', Pv xs.length σ' H' → D.nx σ' H') :
    tFor (iEither (iList K ta) (iTup K ta)) g tw D σ H := by
  rcases hl with hl | hl
  · exact .inl (r_forL (ht _ (r_kForL Pv (SqL.same h00 hl) h0 (fun i σ' H' p => SqL.same (hk i σ' H' p) hl) hs hd)))
  · exact .inr (r_forT (ht _ (r_kForT Pv (SqT.same h00 hl) h0 (fun i σ' H' p => SqT.same (hk i σ' H' p) hl) hs hd)))
theorem r_ixSeq {i : Int} {v : V} (h : SeqV K H p xs) (e : atI xs i = some v) (q : Q v H) : rIx K (.ref p) (.int i) H Q := h.elim (fun h => r_ixSL h e q) (fun h => r_ixST h e q)
/-- the rows of a course, told as course[0] -/
theorem c0_at {n : Nat} {l : Addr} {e : Int} (hv : σ[n]? = some (some (.ref p))) (hp : H p = some (.tup [.ref l, .int e])) : ∀ Q' : VK, Q' (.ref l) H → tOp (rIxT K) (tVar n) (tC (.int 0)) σ H Q' :=
  fun Q' q => r_op (r_var hv (r_c (r_ixT (SqT.of hp) (at_get (n := 0) rfl rfl) q)))
end
end Wp
set_option Elab.async false
set_option linter.all false
set_option maxRecDepth 100000
set_option maxHeartbeats 4000000
/-! Dicts keyed by tuples: their keys and their items gone through. -/
namespace Wp
open PySem PySem.Spec PyProof.Rows L2
/-- the pairs of the locked dict at d, each a new tuple, its first item the key's own tuple -/
def ItiT (d : Addr) (o : Obj) (kvs : List (List Key × V)) : It :=
  ⟨fun i H => H d = some (.frz o (.dT kvs)) ∧ i < kvs.length, fun i H x H' => ∃ (T : Addr) (k : List Key) (v : V) (q : Addr), kvs[i]? = some (k, v) ∧ x = .ref T ∧ H T = none ∧ H q = some (.tup (k.map kV)) ∧ H' = upd H T (.tup [.ref q, v]), fun i H => H d = some (.frz o (.dT kvs)) ∧ kvs.length ≤ i⟩
section
variable {X : Cx} {pins : List (Addr × Obj)} {σ : L2.St} {H : Hp} {s : Shared} {d : Addr} {o : Obj}
theorem frzT2 {kvs : List (List Key × V)} (I : Inv X pins σ H s) (h : H d = some (.frz o (.dT kvs))) :
    (d == sysModules) = false ∧ s.heap.get? d = some o ∧ o.ExactDict ∧ ∃ (es : Array DictEntry) (ep : Nat), o.data = .dict es ep ∧ es.size = kvs.length ∧
      ∀ (i : Nat) (k : List Key) (v : V), kvs[i]? = some (k, v) → ∃ (en : DictEntry) (q : Addr), es[i]? = some en ∧ en.key = .ref q ∧ H q = some (.tup (k.map kV)) ∧ RelV v en.val := by
  obtain ⟨hd, z, hs, xs, pr, o', es, ep, ho, hx, hdt, he, _⟩ := I.hok d _ h
  rw [hd] at ho
  cases ho
  refine ⟨hs, hd, hx, es, ep, hdt, ?_, fun i k v e => ?_⟩
  · have l1 : es.size = xs.length := size_of_entries he
    have l2 : kvs.length = xs.length := Paired.length pr
    omega
  · obtain ⟨b, hb, e1, e2, e3⟩ := paired_get pr e
    have q := entry_at he i
    rw [hb] at q
    exact ⟨_, b.2.1, q, rfl, e2, e3⟩
end
section
variable {P : Program} {w : World} {K : PySem.W.Frag} {d : Addr} {o : Obj} {es : Array DictEntry} {ep : Nat}
theorem turn_itemsT {kvs : List (List Key × V)} {elts : List Expr} {kk : Nat} {tpos : Pos} (it : Addr) (hod : o.data = .dict es ep) :
    Turn P w K (.Tuple elts kk tpos) (ItiT d o kvs) [it] it (fun i h => ∃ ok ov, h.get? it = some (DVw.itmOb d .none i kvs.length ep ok ov)) where
  mem := by simp
  obj := fun i h st b hb => by
    have e : b = it := by simpa using hb
    subst e
    obtain ⟨ok, ov, e⟩ := st
    exact ⟨_, e, fun v z => nomatch z⟩
  keep := fun i h h' st k => let ⟨ok, ov, e⟩ := st; ⟨ok, ov, k it (by simp) _ e⟩
  item := by
    intro X hP hw hK hc i pins s σ H E I hf st hg
    subst hP hw hK
    obtain ⟨hd, hi⟩ := hg
    obtain ⟨hs, hgd, hx, es', ep', hdt, hsz, ent⟩ := frzT2 I hd
    obtain ⟨rfl, rfl⟩ := dict_ep hod hdt
    obtain ⟨⟨k, v⟩, hkv⟩ : ∃ p, kvs[i]? = some p := ⟨kvs[i], List.getElem?_eq_getElem hi⟩
    obtain ⟨en, q, he, hkey, hq, ru⟩ := ent i k v hkv
    obtain ⟨ok, ov, hit⟩ := st
    have hlt : it < s.heap.objs.size := Heap.lt_size hit
    refine DVw.itm_item hit hgd hdt hsz he fun h' b1 b2 b3 b4 => ?_
    refine ⟨_, rfl, wpAny_letOwnedTupleGo_items (s := { s with heap := h' }) (d := d) (i := i + 1) (n := kvs.length) (ep := ep') (ok := en.key) (ov := en.val) b1 fun h'' he' sb => ?_⟩
    have hT2 : h''.get? s.heap.objs.size = some { cls := .type "tuple", data := .seq #[en.key, en.val] } := (sb.2 _ (Nat.ne_of_gt hlt)).trans b2
    have rk : RelV (.ref q) en.key := hkey
    have new : ObjOk X.prog X.w (upd H s.heap.objs.size (.tup [.ref q, v])) h'' s.heap.objs.size (.tup [.ref q, v]) :=
      ⟨by show 2 ≤ sizeLine; decide, [en.key, en.val], .cons rk (.cons ru .nil), ⟨_, hT2, rfl, _, rfl⟩⟩
    have I1 : Inv X pins σ (upd H s.heap.objs.size (.tup [.ref q, v])) { s with heap := h'' } :=
      I.turnedNew (t' := s.toks) (ch := [it]) (fun b ob hb z => (sb.2 b (by simpa using hb)).trans (b4 b ob (by simpa using hb) z)) hf (Nat.le_refl _) new
    refine ⟨.ref s.heap.objs.size, _, I1, rfl, ⟨_, k, v, q, hkv, rfl, I.hok.fresh (Nat.le_refl _), hq, rfl⟩, ⟨en.key, en.val, he'⟩, fun b hb => ?_⟩
    have z : b = it := by simpa using hb
    rw [z, upd_ne (Nat.ne_of_lt hlt)]
    exact (hf it (by simp)).1
  done := by
    intro X hP hw hK hc i pins s σ H E I hf st hg
    subst hP hw hK
    obtain ⟨hd, hi⟩ := hg
    obtain ⟨f0, f1, f2, f3, f4, f5⟩ := hf it (by simp)
    obtain ⟨hs, hgd, hx, es', ep', hdt, hsz, ent⟩ := frzT2 I hd
    obtain ⟨rfl, rfl⟩ := dict_ep hod hdt
    obtain ⟨ok, ov, hit⟩ := st
    have he : es'[i]? = none := Array.getElem?_eq_none (by rw [hsz]; exact hi)
    exact DVw.itm_end (I.ok.hd hc) hit hgd hdt hsz he fun h' eb => ⟨rfl, I.turned (t' := s.toks) (fun b ob hb e => eb b ob hb e) f0 f1 f3 f4 f5⟩
  self := fun A i s Q E st h => let ⟨_, _, e⟩ := st; PySem.W.kcp_self e h
end
def iItemsT (td : TE) : TI := fun σ H R => td σ H fun x H1 => ∃ d o kvs, x = .ref d ∧ H1 d = some (.frz o (.dT kvs)) ∧ R (ItiT d o kvs) H1
section
variable {X : Cx} {e : Expr} {td : TE} {apos cpos : Pos}
theorem pi_itemsT {elts : List Expr} {kk : Nat} {tpos : Pos} (he : PE X e td) (hbase : attributeBase e "items" X.env (eval e X.env) = eval e X.env := by rfl) (hline : (apos.endLine == cpos.line) = true := by rfl) :
    PI X (.Tuple elts kk tpos) (.Call (.Attribute e "items" apos) [] [] cpos) (iItemsT td) := by
  refine ⟨fun pins s σ H R I h => ?_⟩
  refine wpAny_Call_method (T := "dict") (id := "dict.items") hbase rfl hline F.plainAttrs_dict F.slot_dict_items F.type_dict_items (thn (he.run pins s σ H _ I h) fun u s1 ⟨x, H1, I1, rx, d, o, kvs, ex, hd, q⟩ => ?_)
  subst ex
  obtain rfl : u = Value.ref d := rx
  obtain ⟨hs, hgd, hx, es, ep, hdt, hsz, ent⟩ := frzT2 I1 hd
  refine ⟨⟨o, hgd, hx.1⟩, fun a ea => ?_, ?_⟩
  · cases ea
    exact ⟨o, hgd, hx.2.1⟩
  refine callWith_method0 (first := [.ref d]) (DT.callItems (es := es) (ep := ep) hs ⟨o, hgd, hx, hdt⟩ ?_)
  have I2 : Inv X pins σ H1 { s1 with heap := s1.heap.push { cls := .type "dict_items", data := .fields #[.ref d] } } := I1.kept (t' := s1.toks) fun b ob q => Heap.get?_push_of_some _ q
  refine DSub.iter_itms (a := d) (es := es) (ep := ep) (ob := o) (Heap.get?_push_size _ rfl) (Heap.get?_push_of_some _ hgd) hdt ?_
  refine pi_one (tk := s1.toks) I2 _ (turn_itemsT _ hdt) ⟨.none, .none, ?_⟩ q
  rw [← hsz]
  exact Heap.get?_push_size _ rfl
end
/-! readings -/
section
variable {K : PySem.W.Frag} {H : Hp} {Q : VK} {p d : Addr} {σ : L2.St} {g : TG} {tt : TT} {te ta td ty : TE} {vs : List Nat} {kvs : List (List Key × V)} {o : Obj} {t : Pd}
theorem r_lockDT {t : TE} (h : H d = some (.dT kvs)) (q : ∀ od H1, H1 d = some (.frz od (.dT kvs)) → (∀ b o, H b = some o → b ≠ d → H1 b = some o) → (∀ b, H1 b = none → H b = none) → t σ H1 (kLock d od (.dT kvs) Q)) : tLockE t σ H Q :=
  ⟨d, .dT kvs, h, True.intro, fun od => q od _ upd_same (fun b o e n => by rw [upd_ne n]; exact e) (fun b e => by
    by_cases hb : b = d
    · rw [hb, upd_same] at e
      cases e
    · rw [upd_ne hb] at e
      exact e)⟩
def kLcIT (g : TG) (tt : TT) (te : TE) (vs : List Nat) (σ : L2.St) (Q : VK) : VK := fun x H1 => ∃ d o kvs, x = .ref d ∧ H1 d = some (.frz o (.dT kvs)) ∧ LcW (ItiT d o kvs) g tt te vs σ Q H1
theorem r_lcIT (h : ta σ H (kLcIT g tt te vs σ Q)) : tLc (iItemsT ta) g tt te vs σ H Q := h
theorem r_kLcIT (hd : H d = some (.frz o (.dT (encPD t)))) (Pv : Addr → Nat → Hp → Prop) (h0 : ∀ Da H', H Da = none → Same H H' → H' Da = some (.lst []) → Pv Da 0 H') (hk : ∀ Da i H', Pv Da i H' → H' d = some (.frz o (.dT (encPD t))))
    (hs : ∀ Da i (c : (Int × Int) × Int) T q H1 H', H Da = none → t[i]? = some c → Pv Da i H1 → H1 T = none → Same H1 H' → H' q = some (.tup [.int c.1.1, .int c.1.2]) → H' T = some (.tup [.ref q, .int c.2]) → g (.ref T) (wipe σ vs) H' (kLcG tt te vs σ Da Pv i)) (hf : ∀ Da H', H Da = none → Pv Da t.length H' → Q (.ref Da) H') : kLcIT g tt te vs σ Q (.ref d) H :=
  ⟨d, o, encPD t, rfl, hd, by
    have := lc_it (J := ItiT d o (encPD t)) (g := g) (tt := tt) (te := te) (vs := vs) (σ := σ) (Q := Q) (H := H) (encPD t).length Pv h0 (fun Da i H' _ hi p => ⟨hk Da i H' p, hi⟩) (fun Da H' _ p => ⟨hk Da _ H' p, Nat.le_refl _⟩) (fun Da i x H' H2 hD _ p y => by
      obtain ⟨T, k, v, q, e, rfl, nT, hq, rfl⟩ := y
      rw [show encPD t = t.map fun p => (keyP p.1, V.int p.2) from rfl, List.getElem?_map] at e
      obtain ⟨c, hc, ec⟩ := Option.map_eq_some_iff.mp e
      obtain ⟨rfl, rfl⟩ := Prod.mk.inj ec
      exact hs Da i c T q H' _ hD hc p nT (Same.new nT) (Same.new nT _ _ hq) upd_same) (fun Da H' hD p => hf Da H' hD (by rw [encPD_len] at p; exact p))
    exact this⟩
theorem r_kLcKT (hd : H d = some (.frz o (.dT (encPD t)))) (Pv : Addr → Nat → Hp → Prop) (h0 : ∀ Da H', H Da = none → Same H H' → H' Da = some (.lst []) → Pv Da 0 H') (hk : ∀ Da i H', Pv Da i H' → H' d = some (.frz o (.dT (encPD t))))
    (hs : ∀ Da i (c : (Int × Int) × Int) q H', H Da = none → t[i]? = some c → Pv Da i H' → H' q = some (.tup [.int c.1.1, .int c.1.2]) → g (.ref q) (wipe σ vs) H' (kLcG tt te vs σ Da Pv i)) (hf : ∀ Da H', H Da = none → Pv Da t.length H' → Q (.ref Da) H') : kLcK g tt te vs σ Q (.ref d) H :=
  ⟨d, o, rfl, .inr ⟨encPD t, hd, by
    have := lc_it (J := Itkt d o (encPD t)) (g := g) (tt := tt) (te := te) (vs := vs) (σ := σ) (Q := Q) (H := H) (encPD t).length Pv h0 (fun Da i H' _ hi p => ⟨hk Da i H' p, hi⟩) (fun Da H' _ p => ⟨hk Da _ H' p, Nat.le_refl _⟩) (fun Da i x H' H2 hD _ p y => by
      obtain ⟨rfl, k, v, q, e, rfl, hq⟩ := y
      rw [show encPD t = t.map fun p => (keyP p.1, V.int p.2) from rfl, List.getElem?_map] at e
      obtain ⟨c, hc, ec⟩ := Option.map_eq_some_iff.mp e
      obtain ⟨rfl, rfl⟩ := Prod.mk.inj ec
      exact hs Da i c q _ hD hc p hq) (fun Da H' hD p => hf Da H' hD (by rw [encPD_len] at p; exact p))
    exact this⟩⟩
theorem r_kDGetPF {a b : Addr} {i j : Int} {c : Int} (h : H a = some (.frz o (.dT (encPD t)))) (hb : H b = some (.tup [.int i, .int j])) (e : lookP t (i, j) = some c) (q : Q (.int c) H) : kDGet Q (.ref a) (.ref b) H :=
  ⟨a, .int c, rfl, .inr ⟨encPD t, keyP (i, j), b, .inr ⟨o, h⟩, rfl, hb, by rw [valV_encPD, e]; rfl⟩, q⟩
end
end Wp
set_option Elab.async false
set_option linter.all false
set_option maxRecDepth 100000
set_option maxHeartbeats 4000000
/-! need_number, Book.month_at. -/
namespace Wp
open PySem PySem.Spec PyProof.Rows L2
abbrev s_need_number : Stmt := topS 28
abbrev s_Book_month_at : Stmt := inClass (topS 29) 12
local macro_rules | `(tactic| walk_at "val") => `(tactic| assumption)
local macro_rules | `(tactic| walk_at "rd1") => `(tactic| first
  | with_reducible refine r_seq ?_ | with_reducible refine r_next ?_ | with_reducible refine r_if ?_ | with_reducible refine r_asg ?_ | with_reducible refine r_gname ?_
  | with_reducible refine r_ret ?_ | with_reducible refine r_retN ?_ | with_reducible refine r_drop ?_ | with_reducible refine r_par ?_ | with_reducible refine r_kPar ?_
  | ((with_reducible refine' r_var ?hv ?_); (case hv => exact rfl)) | with_reducible refine r_c ?_ | with_reducible refine r_nil ?_ | with_reducible refine r_cons ?_
  | with_reducible refine r_fn ?_ | with_reducible refine r_cb ?_ | with_reducible refine r_op ?_ | with_reducible refine r_un ?_ | with_reducible refine r_I0 ?_
  | with_reducible refine r_pow5 ?_ | with_reducible refine r_pow6 ?_ | with_reducible refine r_pow7 ?_ | with_reducible refine r_pow9 ?_ | with_reducible refine r_pow18 ?_ | with_reducible refine r_pow20 ?_ | with_reducible refine r_pow30 ?_
  | with_reducible refine r_isN_non ?_ | with_reducible refine r_isN_ref ?_ | with_reducible refine r_isN_int ?_ | with_reducible refine r_isN_str ?_ | with_reducible refine r_isN_bl ?_ | with_reducible refine r_notN_non ?_ | with_reducible refine r_notN_ref ?_ | with_reducible refine r_notN_int ?_ | with_reducible refine r_notN_str ?_ | with_reducible refine r_notN_bl ?_
  | ((with_reducible refine r_I ?hc ?_); (case hc => walk_at "side")) | with_reducible refine r_U ?_
  | with_reducible refine r_eqI ?_ | with_reducible refine r_neI ?_ | with_reducible refine r_eqS ?_ | with_reducible refine r_neS ?_ | with_reducible refine r_eqB ?_ | with_reducible refine r_neB ?_
  | with_reducible refine r_chain ?_ | with_reducible refine r_test ?_ | with_reducible refine r_tB ?_ | with_reducible refine r_kTest ?_ | with_reducible refine r_not ?_
  | with_reducible refine r_and ?_ | with_reducible refine r_or ?_ | with_reducible refine r_tif ?_ | with_reducible refine r_andV ?_ | with_reducible refine r_orV ?_ | with_reducible refine r_notV ?_
  | with_reducible refine r_kAndV ?_ | with_reducible refine r_kOrV ?_ | with_reducible refine r_kNotV ?_
  | with_reducible refine w_T ?_ | with_reducible refine w_F ?_ | with_reducible refine w_NT ?_ | with_reducible refine w_NF ?_
  | with_reducible refine r_tup ?_ | with_reducible refine r_lst ?_ | with_reducible refine r_fld ?_ | with_reducible refine r_prop ?_ | ((with_reducible refine' r_aug ?h1 ?_); (case h1 => exact rfl)) | with_reducible refine r_ipI ?_ | with_reducible refine r_dget ?_ | with_reducible refine r_dput ?_ | with_reducible refine r_bm ?_
  | ((with_reducible refine' r_kDGetS ?h1 ?h2 ?_); (case h1 => assumption); (case h2 => walk_at "val"))
  | ((with_reducible refine' r_kBML ?h1 ?_); (case h1 => assumption))
  | with_reducible refine r_forL ?_ | with_reducible refine r_forR1 ?_ | with_reducible refine r_forR2 ?_ | with_reducible refine r_forT ?_ | with_reducible refine r_lcL ?_ | with_reducible refine r_lcR1 ?_
  | ((with_reducible refine r_kLcG ?hw ?_); (case hw => exact rfl)) | with_reducible refine r_kLcT ?_ | with_reducible refine r_yes ?_
  | with_reducible refine r_pnil ?_ | with_reducible refine r_pcons ?_
  | with_reducible refine r_fnK ?_ | ((with_reducible refine r_kFnK ?hl ?_); (case hl => exact rfl))
  | with_reducible refine r_isi_ii ?_ | with_reducible refine r_isi_ib ?_ | with_reducible refine r_isi_bi ?_ | with_reducible refine r_isi_bb ?_ | with_reducible refine r_isi_ss ?_ | with_reducible refine r_isi_is ?_ | with_reducible refine r_isi_it ?_
  | ((with_reducible refine' r_isi_tt ?h1 ?_); (case h1 => assumption))
  | with_reducible refine r_sfld ?_ | with_reducible refine r_gnil ?_ | with_reducible refine r_gcons ?_
  | ((with_reducible refine' r_gtup ?h1 ?h2 ?_); (case h1 => exact SqT.of (by assumption)); (case h2 => exact rfl))
  | with_reducible refine r_sl ?_ | with_reducible refine r_noPart ?_ | with_reducible refine r_part ?_ | with_reducible refine r_kPart ?_ | with_reducible refine r_m1 ?_ | with_reducible refine r_kM1 ?_ | with_reducible refine r_forS ?_ | with_reducible refine r_lcS ?_ | with_reducible refine r_lcTu ?_ | with_reducible refine r_lcK ?_ | with_reducible refine r_dcL ?_ | with_reducible refine r_dcK ?_ | with_reducible refine r_lc2L ?_ | with_reducible refine r_kLc2TL ?_ | with_reducible refine r_dcEn ?_ | with_reducible refine r_gslc ?_ | with_reducible refine r_lcEn ?_ | with_reducible refine r_forET ?_ | with_reducible refine r_lenD ?_
  | ((with_reducible refine r_kDcG ?hw ?_); (case hw => exact rfl)) | with_reducible refine r_kDcT ?_
  | with_reducible refine r_fldaug ?_ | with_reducible refine r_daug ?_ | with_reducible refine r_rAdd ?_ | with_reducible refine r_rSub ?_ | with_reducible refine r_ddel ?_ | with_reducible refine r_bmF ?_ | with_reducible refine r_dget2 ?_ | with_reducible refine r_listItems ?_ | with_reducible refine r_bm0 ?_ | with_reducible refine r_lc2E ?_ | ((with_reducible refine r_kLc2G ?hw ?_); (case hw => exact rfl)) | with_reducible refine r_kLc2T ?_ | with_reducible refine r_forE ?_ | with_reducible refine r_orT ?_ | with_reducible refine r_din ?_ | with_reducible refine r_augS ?_ | with_reducible refine r_dnotin ?_ | with_reducible refine r_lcIT ?_ | with_reducible refine r_cont ?_ | with_reducible refine r_meth ?_ | with_reducible refine r_frz ?_ | with_reducible refine r_par3 ?_ | with_reducible refine r_kPar3 ?_ | with_reducible refine r_dz ?_ | with_reducible refine r_revL ?_ | with_reducible refine r_star ?_ | with_reducible refine r_int1 ?_ | with_reducible refine r_int1b ?_ | with_reducible refine r_min2 ?_ | with_reducible refine r_max2 ?_ | with_reducible refine r_gsub ?_)
local macro_rules | `(tactic| walk_at "rd") => `(tactic| repeat walk_at "rd1")
local macro_rules | `(tactic| walk_at "side") => `(tactic| first | assumption | exact Or.inr ⟨by decide, by decide⟩ | exact Or.inl ⟨by decide, by decide⟩ | (constructor <;> omega) | omega | decide | (refine Or.inl ⟨?_, ?_⟩ <;> omega) | (refine Or.inr ⟨?_, ?_⟩ <;> omega) | (refine ⟨?_, ?_, ?_⟩ <;> first | decide | omega))
def sp_need_number : Sp := fun vs H Q _ => ∃ i : Int, vs = [.int i] ∧ 0 ≤ i ∧ i ≤ 2000 ∧ Q .non H
def sp_month_at (C : Addr) : Sp := fun vs H Q _ => ∃ (p : Addr) (B : Bk) (d : Int), vs = [.ref p, .int d] ∧ BookAt C H p B ∧ B.Ok ∧ Q (.int (monthL B.ls d)) H
section
variable {P : Program} {w : World} {K : PySem.W.Frag} {mg : Str → Option Value} {base : Heap}
theorem ok_need_number {f : Addr} {fd : FuncData} (T : Tx K mg) (F : FnP K "need_number" s_need_number f fd) (d_is_number_in : Dn P w K mg base CX0 2 "is_number_in" ["value", "least", "most"] (sp_is_number_in K)) :
    FnOk P w K mg base CX0 3 f fd ["value"] sp_need_number := by
  have sc : FnScope ["value"] ["value"] (defScope s_need_number) := ⟨rfl, rfl, rfl, by decide +kernel, rfl, by decide +kernel, by decide +kernel⟩
  refine F.ok sc (by rintro vs H Q E ⟨_, rfl, _⟩; rfl) (fun cdv A outer s H vs Q E hr h => ⟨_, PSs.nox ((pss_one (ps_if (pt_not (pt_val (pe_fn d_is_number_in (hr.mono (by decide)) pass0 (pa_cons (pv 0) (pa_cons pe_int (pa_cons (pe_glob (v := .int 2000) (by rfl) T.c_MOST_DAY.choose_spec ⟨_, rfl⟩) pa_nil)))))) (pss_one ps_never) pss_nil))), ?_⟩)
  obtain ⟨i, rfl, h0, h1, q⟩ := h
  walk_at "rd"
  refine u_in ⟨h0, h1⟩ ?_
  walk_at "rd"
  exact q
theorem ok_Book_month_at {f C : Addr} {fd : FuncData} (T : Tx K mg) (bc : BkC K C) (F : FunD K "month_at" "Book.month_at" (defArgs s_Book_month_at) (defBody s_Book_month_at) (defScope s_Book_month_at) [] [] f fd) :
    FnOk P w K mg base CX0 1 f fd ["self", "day"] (sp_month_at C) := by
  have sc : FnScope ["self", "day", "many", "month", "left"] ["self", "day"] (defScope s_Book_month_at) := ⟨rfl, rfl, rfl, by decide +kernel, rfl, by decide +kernel, by decide +kernel⟩
  refine F.ok sc (by rintro vs H Q E ⟨_, _, _, rfl, _⟩; rfl) (fun cdv A outer s H vs Q E hr h => ⟨_, PSs.nox ((pss_cons (ps_set (i := 2) sc.nd rfl (by first | exact Or.inl rfl | exact Or.inr rfl) (pe_callB (c_lenK (K := K) rfl) (by rfl) T.b_len (by decide +kernel) (pa_cons (pe_fldK (K := K) rfl (pv 0)) pa_nil)))
      (pss_cons (ps_par (i := 3) (j := 4) (by rfl) sc.nd rfl rfl (by decide) rfl rfl (pa_cons (pe_op op_mul (pe_op op_fdiv (pv 1) (pe_callB (c_sumT (K := K) rfl rfl) (by rfl) T.b_sum (by decide +kernel) (pa_cons (pe_fldK (K := K) rfl (pv 0)) pa_nil))) (pv 2)) (pa_cons (pe_op op_mod (pv 1) (pe_callB (c_sumT (K := K) rfl rfl) (by rfl) T.b_sum (by decide +kernel) (pa_cons (pe_fldK (K := K) rfl (pv 0)) pa_nil))) pa_nil)) (by rfl))
      (pss_cons (ps_while PassesOwn.never (pt_cmpR op_ge (pv 4) (pe_ix (ix_tupK (K := K) rfl) (pe_fldK (K := K) rfl (pv 0)) (pe_op op_mod (pv 3) (pv 2)) (fun _ _ => rfl)) (nomark _)) (pss_cons (ps_aug (i := 4) sc.nd rfl (by first | exact Or.inl rfl | exact Or.inr rfl) (pe_ix (ix_tupK (K := K) rfl) (pe_fldK (K := K) rfl (pv 0)) (pe_op op_mod (pv 3) (pv 2)) (fun _ _ => rfl)) ip_sub)
      (pss_one (ps_aug (i := 3) sc.nd rfl (by first | exact Or.inl rfl | exact Or.inr rfl) pe_int ip_add))))
      (pss_one (ps_ret (pv 3))))))), ?_⟩)
  obtain ⟨p, B, d, rfl, ⟨dx, tl, kd, lv, kvs, hB⟩, ok, k⟩ := h
  have okl := ok.ls
  have hs := okl.sum
  have l1 := ok.l1
  have l2 := ok.l2
  have hr0 := Int.emod_nonneg d (b := B.ls.sum) (by omega)
  have hr1 := Int.emod_lt_of_pos d (b := B.ls.sum) (by omega)
  obtain ⟨c1, c2, c3⟩ := cntL_spec okl.l3 hr0 hr1
  walk_at "rd"
  refine r_kFld hB.i bc.cl bc.n1 rfl ?_
  walk_at "rd"
  refine r_lenT (SqT.of hB.l) ?_
  rw [List.length_map]
  walk_at "rd"
  refine r_kFld hB.i bc.cl bc.n1 rfl ?_
  walk_at "rd"
  refine r_sumT (SqT.of hB.l) ?_
  walk_at "rd"
  refine r_kFld hB.i bc.cl bc.n1 rfl ?_
  walk_at "rd"
  refine r_sumT (SqT.of hB.l) ?_
  walk_at "rd"
  refine r_while (fun m σ' H' => ∃ (j : Nat) (left x : Int), σ' = [some (.ref p), some (.int d), some (.int (B.ls.length : Int)), some (.int (d / B.ls.sum * (B.ls.length : Int) + (j : Int))), some (.int left)] ∧ H' = H ∧
      j + cntL (B.ls.drop j) left = cntL B.ls (d % B.ls.sum) ∧ j < B.ls.length ∧ B.ls[j]? = some x ∧ m = B.ls.length - j) B.ls.length ⟨0, d % B.ls.sum, _, by simp; rfl, rfl, by simp, by omega, List.getElem?_eq_getElem (by omega), by omega⟩ ?_
  rintro m σ' H' ⟨j, left, x, rfl, rfl, hc, hj, hx, rfl⟩
  have e2 : (d / B.ls.sum * (B.ls.length : Int) + (j : Int)) % (B.ls.length : Int) = (j : Int) := by
    rw [Int.add_comm, Int.add_mul_emod_self_right, Int.emod_eq_of_lt (by omega) (by omega)]
  have hx' : (B.ls.map V.int)[j]? = some (.int x) := by rw [List.getElem?_map, hx]; rfl
  rw [cntL_drop j hx] at hc
  walk_at "rd"
  refine r_kFld hB.i bc.cl bc.n1 rfl ?_
  walk_at "rd"
  refine r_ixT (SqT.of hB.l) (at_get (n := j) e2 hx') ?_
  walk_at "rd"
  refine r_kWh (fun h1 => ?_) (fun h1 => ?_)
  · have h1 := of_decide_eq_true h1
    rw [if_neg (by omega)] at hc
    walk_at "rd"
    refine r_kFld hB.i bc.cl bc.n1 rfl ?_
    walk_at "rd"
    refine r_ixT (SqT.of hB.l) (at_get (n := j) e2 hx') ?_
    walk_at "rd"
    refine ⟨B.ls.length - (j + 1), by omega, j + 1, left - x, B.ls[j + 1]'(by omega), ?_, rfl, by omega, by omega, List.getElem?_eq_getElem (by omega), rfl⟩
    simp
    omega
  · have h1 := of_decide_eq_false h1
    rw [if_pos (by omega)] at hc
    walk_at "rd"
    have e : monthL B.ls d = d / B.ls.sum * (B.ls.length : Int) + (j : Int) := by
      unfold monthL
      rw [← hc]
      simp
    rw [← e]
    exact k
end
end Wp
set_option Elab.async false
set_option linter.all false
set_option maxRecDepth 100000
set_option maxHeartbeats 4000000
namespace Wp
open PySem PySem.Spec PyProof.Rows L2
abbrev s_Book_first_at : Stmt := inClass (topS 29) 13
abbrev s_Book_due_at : Stmt := inClass (topS 29) 14
local macro_rules | `(tactic| walk_at "val") => `(tactic| assumption)
local macro_rules | `(tactic| walk_at "rd1") => `(tactic| first
  | with_reducible refine r_seq ?_ | with_reducible refine r_next ?_ | with_reducible refine r_if ?_ | with_reducible refine r_asg ?_ | with_reducible refine r_gname ?_
  | with_reducible refine r_ret ?_ | with_reducible refine r_retN ?_ | with_reducible refine r_drop ?_ | with_reducible refine r_par ?_ | with_reducible refine r_kPar ?_
  | ((with_reducible refine' r_var ?hv ?_); (case hv => exact rfl)) | with_reducible refine r_c ?_ | with_reducible refine r_nil ?_ | with_reducible refine r_cons ?_
  | with_reducible refine r_fn ?_ | with_reducible refine r_cb ?_ | with_reducible refine r_op ?_ | with_reducible refine r_un ?_ | with_reducible refine r_I0 ?_
  | with_reducible refine r_pow5 ?_ | with_reducible refine r_pow6 ?_ | with_reducible refine r_pow7 ?_ | with_reducible refine r_pow9 ?_ | with_reducible refine r_pow18 ?_ | with_reducible refine r_pow20 ?_ | with_reducible refine r_pow30 ?_
  | with_reducible refine r_isN_non ?_ | with_reducible refine r_isN_ref ?_ | with_reducible refine r_isN_int ?_ | with_reducible refine r_isN_str ?_ | with_reducible refine r_isN_bl ?_ | with_reducible refine r_notN_non ?_ | with_reducible refine r_notN_ref ?_ | with_reducible refine r_notN_int ?_ | with_reducible refine r_notN_str ?_ | with_reducible refine r_notN_bl ?_
  | ((with_reducible refine r_I ?hc ?_); (case hc => walk_at "side")) | with_reducible refine r_U ?_
  | with_reducible refine r_eqI ?_ | with_reducible refine r_neI ?_ | with_reducible refine r_eqS ?_ | with_reducible refine r_neS ?_ | with_reducible refine r_eqB ?_ | with_reducible refine r_neB ?_
  | with_reducible refine r_chain ?_ | with_reducible refine r_test ?_ | with_reducible refine r_tB ?_ | with_reducible refine r_kTest ?_ | with_reducible refine r_not ?_
  | with_reducible refine r_and ?_ | with_reducible refine r_or ?_ | with_reducible refine r_tif ?_ | with_reducible refine r_andV ?_ | with_reducible refine r_orV ?_ | with_reducible refine r_notV ?_
  | with_reducible refine r_kAndV ?_ | with_reducible refine r_kOrV ?_ | with_reducible refine r_kNotV ?_
  | with_reducible refine w_T ?_ | with_reducible refine w_F ?_ | with_reducible refine w_NT ?_ | with_reducible refine w_NF ?_
  | with_reducible refine r_tup ?_ | with_reducible refine r_lst ?_ | with_reducible refine r_fld ?_ | with_reducible refine r_prop ?_ | ((with_reducible refine' r_aug ?h1 ?_); (case h1 => exact rfl)) | with_reducible refine r_ipI ?_ | with_reducible refine r_dget ?_ | with_reducible refine r_dput ?_ | with_reducible refine r_bm ?_
  | ((with_reducible refine' r_kDGetS ?h1 ?h2 ?_); (case h1 => assumption); (case h2 => walk_at "val"))
  | ((with_reducible refine' r_kBML ?h1 ?_); (case h1 => assumption))
  | with_reducible refine r_forL ?_ | with_reducible refine r_forR1 ?_ | with_reducible refine r_forR2 ?_ | with_reducible refine r_forT ?_ | with_reducible refine r_lcL ?_ | with_reducible refine r_lcR1 ?_
  | ((with_reducible refine r_kLcG ?hw ?_); (case hw => exact rfl)) | with_reducible refine r_kLcT ?_ | with_reducible refine r_yes ?_
  | with_reducible refine r_pnil ?_ | with_reducible refine r_pcons ?_
  | with_reducible refine r_fnK ?_ | ((with_reducible refine r_kFnK ?hl ?_); (case hl => exact rfl))
  | with_reducible refine r_isi_ii ?_ | with_reducible refine r_isi_ib ?_ | with_reducible refine r_isi_bi ?_ | with_reducible refine r_isi_bb ?_ | with_reducible refine r_isi_ss ?_ | with_reducible refine r_isi_is ?_ | with_reducible refine r_isi_it ?_
  | ((with_reducible refine' r_isi_tt ?h1 ?_); (case h1 => assumption))
  | with_reducible refine r_sfld ?_ | with_reducible refine r_gnil ?_ | with_reducible refine r_gcons ?_
  | ((with_reducible refine' r_gtup ?h1 ?h2 ?_); (case h1 => exact SqT.of (by assumption)); (case h2 => exact rfl))
  | with_reducible refine r_sl ?_ | with_reducible refine r_noPart ?_ | with_reducible refine r_part ?_ | with_reducible refine r_kPart ?_ | with_reducible refine r_m1 ?_ | with_reducible refine r_kM1 ?_ | with_reducible refine r_forS ?_ | with_reducible refine r_lcS ?_ | with_reducible refine r_lcTu ?_ | with_reducible refine r_lcK ?_ | with_reducible refine r_dcL ?_ | with_reducible refine r_dcK ?_ | with_reducible refine r_lc2L ?_ | with_reducible refine r_kLc2TL ?_ | with_reducible refine r_dcEn ?_ | with_reducible refine r_gslc ?_ | with_reducible refine r_lcEn ?_ | with_reducible refine r_forET ?_ | with_reducible refine r_lenD ?_
  | ((with_reducible refine r_kDcG ?hw ?_); (case hw => exact rfl)) | with_reducible refine r_kDcT ?_
  | with_reducible refine r_fldaug ?_ | with_reducible refine r_daug ?_ | with_reducible refine r_rAdd ?_ | with_reducible refine r_rSub ?_ | with_reducible refine r_ddel ?_ | with_reducible refine r_bmF ?_ | with_reducible refine r_dget2 ?_ | with_reducible refine r_listItems ?_ | with_reducible refine r_bm0 ?_ | with_reducible refine r_lc2E ?_ | ((with_reducible refine r_kLc2G ?hw ?_); (case hw => exact rfl)) | with_reducible refine r_kLc2T ?_ | with_reducible refine r_forE ?_ | with_reducible refine r_orT ?_ | with_reducible refine r_din ?_ | with_reducible refine r_augS ?_ | with_reducible refine r_dnotin ?_ | with_reducible refine r_lcIT ?_ | with_reducible refine r_cont ?_ | with_reducible refine r_meth ?_ | with_reducible refine r_frz ?_ | with_reducible refine r_par3 ?_ | with_reducible refine r_kPar3 ?_ | with_reducible refine r_dz ?_ | with_reducible refine r_revL ?_ | with_reducible refine r_star ?_ | with_reducible refine r_int1 ?_ | with_reducible refine r_int1b ?_ | with_reducible refine r_min2 ?_ | with_reducible refine r_max2 ?_ | with_reducible refine r_gsub ?_)
local macro_rules | `(tactic| walk_at "rd") => `(tactic| repeat walk_at "rd1")
local macro_rules | `(tactic| walk_at "side") => `(tactic| first | assumption | exact Or.inr ⟨by decide, by decide⟩ | exact Or.inl ⟨by decide, by decide⟩ | (constructor <;> omega) | omega | decide | (refine Or.inl ⟨?_, ?_⟩ <;> omega) | (refine Or.inr ⟨?_, ?_⟩ <;> omega) | (refine ⟨?_, ?_, ?_⟩ <;> first | decide | omega))
def sp_first_at (C : Addr) : Sp := fun vs H Q _ => ∃ (p : Addr) (B : Bk) (m : Int), vs = [.ref p, .int m] ∧ BookAt C H p B ∧ B.Ok ∧ ∀ H', Same H H' → Q (.int (B.first m)) H'
def sp_due_at (C : Addr) : Sp := fun vs H Q _ => ∃ (p : Addr) (B : Bk) (m : Int), vs = [.ref p, .int m] ∧ BookAt C H p B ∧ B.Ok ∧ ∀ H', Same H H' → Q (.int (B.first (m + 1) + B.due)) H'
section
variable {P : Program} {w : World} {K : PySem.W.Frag} {mg : Str → Option Value} {base : Heap}
theorem ok_Book_first_at {f C : Addr} {fd : FuncData} (T : Tx K mg) (bc : BkC K C) (F : FunD K "first_at" "Book.first_at" (defArgs s_Book_first_at) (defBody s_Book_first_at) (defScope s_Book_first_at) [] [] f fd) :
    FnOk P w K mg base CX0 1 f fd ["self", "month"] (sp_first_at C) := by
  have sc : FnScope ["self", "month", "many"] ["self", "month"] (defScope s_Book_first_at) := ⟨rfl, rfl, rfl, by decide +kernel, rfl, by decide +kernel, by decide +kernel⟩
  refine F.ok sc (by rintro vs H Q E ⟨_, _, _, rfl, _⟩; rfl) (fun cdv A outer s H vs Q E hr h => ⟨_, PSs.nox ((pss_cons (ps_set (i := 2) sc.nd rfl (by first | exact Or.inl rfl | exact Or.inr rfl) (pe_callB (c_lenK (K := K) rfl) (by rfl) T.b_len (by decide +kernel) (pa_cons (pe_fldK (K := K) rfl (pv 0)) pa_nil)))
      (pss_one (ps_ret (pe_op op_add (pe_op op_mul (pe_op op_fdiv (pv 1) (pv 2)) (pe_callB (c_sumT (K := K) rfl rfl) (by rfl) T.b_sum (by decide +kernel) (pa_cons (pe_fldK (K := K) rfl (pv 0)) pa_nil))) (pe_callB (c_sumT (K := K) rfl rfl) (by rfl) T.b_sum (by decide +kernel) (pa_cons (pe_slice (sl_tupK (K := K) rfl) (pe_fldK (K := K) rfl (pv 0)) po_none (po_some (pe_op op_mod (pv 1) (pv 2)))) pa_nil))))))), ?_⟩)
  obtain ⟨p, B, m, rfl, ⟨dx, tl, kd, lv, kvs, hB⟩, ok, k⟩ := h
  have l1 := ok.l1
  have l2 := ok.l2
  have hm0 := Int.emod_nonneg m (b := (B.ls.length : Int)) (by omega)
  have hm1 := Int.emod_lt_of_pos m (b := (B.ls.length : Int)) (by omega)
  have hsum : 0 ≤ B.ls.sum ∧ B.ls.sum ≤ 1000000 := by
    have h3 := ok.l3
    generalize B.ls = l at *
    have : ∀ l : List Int, (∀ n ∈ l, 2 ≤ n ∧ n ≤ 31) → 0 ≤ l.sum ∧ l.sum ≤ 31 * (l.length : Int) := by
      intro l
      induction l with
      | nil => intro _; simp
      | cons a r ih =>
        intro h
        have h1 := ih fun n hn => h n (List.mem_cons_of_mem _ hn)
        have h2 := h a (List.mem_cons_self ..)
        simp only [List.sum_cons, List.length_cons]
        omega
    have := this l h3
    omega
  walk_at "rd"
  refine r_kFld hB.i bc.cl bc.n1 rfl ?_
  walk_at "rd"
  refine r_lenT (SqT.of hB.l) ?_
  rw [List.length_map]
  walk_at "rd"
  refine r_kFld hB.i bc.cl bc.n1 rfl ?_
  walk_at "rd"
  refine r_sumT (SqT.of hB.l) ?_
  walk_at "rd"
  refine r_kFld hB.i bc.cl bc.n1 rfl ?_
  walk_at "rd"
  refine r_slT_take (SqT.of hB.l) hm0 (by rw [List.length_map]; exact hm1) fun t H1 nt e1 ht => ?_
  rw [← List.map_take] at ht
  walk_at "rd"
  refine r_sumT (SqT.of ht) ?_
  walk_at "rd"
  exact k H1 e1
theorem ok_Book_due_at {f C : Addr} {fd : FuncData} (T : Tx K mg) (bc : BkC K C) (F : FunD K "due_at" "Book.due_at" (defArgs s_Book_due_at) (defBody s_Book_due_at) (defScope s_Book_due_at) [] [] f fd)
    (mt_Book_first_at : Dm P w K mg base CX0 1 C "first_at" (sp_first_at C)) :
    FnOk P w K mg base CX0 2 f fd ["self", "month"] (sp_due_at C) := by
  have sc : FnScope ["self", "month"] ["self", "month"] (defScope s_Book_due_at) := ⟨rfl, rfl, rfl, by decide +kernel, rfl, by decide +kernel, by decide +kernel⟩
  refine F.ok sc (by rintro vs H Q E ⟨_, _, _, rfl, _⟩; rfl) (fun cdv A outer s H vs Q E hr h => ⟨_, PSs.nox ((pss_one (ps_ret (pe_op op_add (pe_mt mt_Book_first_at (hr.mono (by decide)) pass0 (pv 0) (pa_cons (pe_op op_add (pv 1) pe_int) pa_nil)) (pe_fldK (K := K) rfl (pv 0)))))), ?_⟩)
  obtain ⟨p, B, m, rfl, ⟨dx, tl, kd, lv, kvs, hB⟩, ok, k⟩ := h
  walk_at "rd"
  refine r_kMeth hB.i rfl ?_
  walk_at "rd"
  refine ⟨p, B, m + 1, rfl, ⟨dx, tl, kd, lv, kvs, hB⟩, ok, fun H1 e1 => ?_⟩
  walk_at "rd"
  refine r_kFld (hB.keep e1).i bc.cl bc.n2 rfl ?_
  walk_at "rd"
  exact k H1 e1
end
end Wp
set_option Elab.async false
set_option linter.all false
set_option maxRecDepth 100000
set_option maxHeartbeats 4000000
namespace Wp
open PySem PySem.Spec PyProof.Rows L2
local macro_rules | `(tactic| walk_at "val") => `(tactic| assumption)
local macro_rules | `(tactic| walk_at "rd1") => `(tactic| first
  | with_reducible refine r_seq ?_ | with_reducible refine r_next ?_ | with_reducible refine r_if ?_ | with_reducible refine r_asg ?_ | with_reducible refine r_gname ?_
  | with_reducible refine r_ret ?_ | with_reducible refine r_retN ?_ | with_reducible refine r_drop ?_ | with_reducible refine r_par ?_ | with_reducible refine r_kPar ?_
  | ((with_reducible refine' r_var ?hv ?_); (case hv => exact rfl)) | with_reducible refine r_c ?_ | with_reducible refine r_nil ?_ | with_reducible refine r_cons ?_
  | with_reducible refine r_fn ?_ | with_reducible refine r_cb ?_ | with_reducible refine r_op ?_ | with_reducible refine r_un ?_ | with_reducible refine r_I0 ?_
  | with_reducible refine r_pow5 ?_ | with_reducible refine r_pow6 ?_ | with_reducible refine r_pow7 ?_ | with_reducible refine r_pow9 ?_ | with_reducible refine r_pow18 ?_ | with_reducible refine r_pow20 ?_ | with_reducible refine r_pow30 ?_
  | with_reducible refine r_isN_non ?_ | with_reducible refine r_isN_ref ?_ | with_reducible refine r_isN_int ?_ | with_reducible refine r_isN_str ?_ | with_reducible refine r_isN_bl ?_ | with_reducible refine r_notN_non ?_ | with_reducible refine r_notN_ref ?_ | with_reducible refine r_notN_int ?_ | with_reducible refine r_notN_str ?_ | with_reducible refine r_notN_bl ?_
  | ((with_reducible refine r_I ?hc ?_); (case hc => walk_at "side")) | with_reducible refine r_U ?_
  | with_reducible refine r_eqI ?_ | with_reducible refine r_neI ?_ | with_reducible refine r_eqS ?_ | with_reducible refine r_neS ?_ | with_reducible refine r_eqB ?_ | with_reducible refine r_neB ?_
  | with_reducible refine r_chain ?_ | with_reducible refine r_test ?_ | with_reducible refine r_tB ?_ | with_reducible refine r_kTest ?_ | with_reducible refine r_not ?_
  | with_reducible refine r_and ?_ | with_reducible refine r_or ?_ | with_reducible refine r_tif ?_ | with_reducible refine r_andV ?_ | with_reducible refine r_orV ?_ | with_reducible refine r_notV ?_
  | with_reducible refine r_kAndV ?_ | with_reducible refine r_kOrV ?_ | with_reducible refine r_kNotV ?_
  | with_reducible refine w_T ?_ | with_reducible refine w_F ?_ | with_reducible refine w_NT ?_ | with_reducible refine w_NF ?_
  | with_reducible refine r_tup ?_ | with_reducible refine r_lst ?_ | with_reducible refine r_fld ?_ | with_reducible refine r_prop ?_ | ((with_reducible refine' r_aug ?h1 ?_); (case h1 => exact rfl)) | with_reducible refine r_ipI ?_ | with_reducible refine r_dget ?_ | with_reducible refine r_dput ?_ | with_reducible refine r_bm ?_
  | ((with_reducible refine' r_kDGetS ?h1 ?h2 ?_); (case h1 => assumption); (case h2 => walk_at "val"))
  | ((with_reducible refine' r_kBML ?h1 ?_); (case h1 => assumption))
  | with_reducible refine r_forL ?_ | with_reducible refine r_forR1 ?_ | with_reducible refine r_forR2 ?_ | with_reducible refine r_forT ?_ | with_reducible refine r_lcL ?_ | with_reducible refine r_lcR1 ?_
  | ((with_reducible refine r_kLcG ?hw ?_); (case hw => exact rfl)) | with_reducible refine r_kLcT ?_ | with_reducible refine r_yes ?_
  | with_reducible refine r_pnil ?_ | with_reducible refine r_pcons ?_
  | with_reducible refine r_fnK ?_ | ((with_reducible refine r_kFnK ?hl ?_); (case hl => exact rfl))
  | with_reducible refine r_isi_ii ?_ | with_reducible refine r_isi_ib ?_ | with_reducible refine r_isi_bi ?_ | with_reducible refine r_isi_bb ?_ | with_reducible refine r_isi_ss ?_ | with_reducible refine r_isi_is ?_ | with_reducible refine r_isi_it ?_
  | ((with_reducible refine' r_isi_tt ?h1 ?_); (case h1 => assumption))
  | with_reducible refine r_sfld ?_ | with_reducible refine r_gnil ?_ | with_reducible refine r_gcons ?_
  | ((with_reducible refine' r_gtup ?h1 ?h2 ?_); (case h1 => exact SqT.of (by assumption)); (case h2 => exact rfl))
  | with_reducible refine r_sl ?_ | with_reducible refine r_noPart ?_ | with_reducible refine r_part ?_ | with_reducible refine r_kPart ?_ | with_reducible refine r_m1 ?_ | with_reducible refine r_kM1 ?_ | with_reducible refine r_forS ?_ | with_reducible refine r_lcS ?_ | with_reducible refine r_lcTu ?_ | with_reducible refine r_lcK ?_ | with_reducible refine r_dcL ?_ | with_reducible refine r_dcK ?_ | with_reducible refine r_lc2L ?_ | with_reducible refine r_kLc2TL ?_ | with_reducible refine r_dcEn ?_ | with_reducible refine r_gslc ?_ | with_reducible refine r_lcEn ?_ | with_reducible refine r_forET ?_ | with_reducible refine r_lenD ?_
  | ((with_reducible refine r_kDcG ?hw ?_); (case hw => exact rfl)) | with_reducible refine r_kDcT ?_
  | with_reducible refine r_fldaug ?_ | with_reducible refine r_daug ?_ | with_reducible refine r_rAdd ?_ | with_reducible refine r_rSub ?_ | with_reducible refine r_ddel ?_ | with_reducible refine r_bmF ?_ | with_reducible refine r_dget2 ?_ | with_reducible refine r_listItems ?_ | with_reducible refine r_bm0 ?_ | with_reducible refine r_lc2E ?_ | ((with_reducible refine r_kLc2G ?hw ?_); (case hw => exact rfl)) | with_reducible refine r_kLc2T ?_ | with_reducible refine r_forE ?_ | with_reducible refine r_orT ?_ | with_reducible refine r_din ?_ | with_reducible refine r_augS ?_ | with_reducible refine r_dnotin ?_ | with_reducible refine r_lcIT ?_ | with_reducible refine r_cont ?_ | with_reducible refine r_meth ?_ | with_reducible refine r_frz ?_ | with_reducible refine r_par3 ?_ | with_reducible refine r_kPar3 ?_ | with_reducible refine r_dz ?_ | with_reducible refine r_revL ?_ | with_reducible refine r_star ?_ | with_reducible refine r_int1 ?_ | with_reducible refine r_int1b ?_ | with_reducible refine r_min2 ?_ | with_reducible refine r_max2 ?_ | with_reducible refine r_gsub ?_)
local macro_rules | `(tactic| walk_at "rd") => `(tactic| repeat walk_at "rd1")
local macro_rules | `(tactic| walk_at "side") => `(tactic| first | assumption | exact Or.inr ⟨by decide, by decide⟩ | exact Or.inl ⟨by decide, by decide⟩ | (constructor <;> omega) | omega | decide | (refine Or.inl ⟨?_, ?_⟩ <;> omega) | (refine Or.inr ⟨?_, ?_⟩ <;> omega) | (refine ⟨?_, ?_, ?_⟩ <;> first | decide | omega))
def sp_rate_of (C : Addr) : Sp := fun vs H Q _ => ∃ (p : Addr) (B : Bk) (n : Str) (r : Int) (b : Bool), vs = [.ref p, .str n] ∧ BookAt C H p B ∧ (B.ks.map (·.1)).Nodup ∧ (n, r, b) ∈ B.ks ∧ Q (.int r) H
def sp_is_free (C : Addr) : Sp := fun vs H Q _ => ∃ (p : Addr) (B : Bk) (n : Str) (r : Int) (b : Bool), vs = [.ref p, .str n] ∧ BookAt C H p B ∧ (B.ks.map (·.1)).Nodup ∧ (n, r, b) ∈ B.ks ∧ Q (.bl b) H
section
variable {P : Program} {w : World} {K : PySem.W.Frag} {mg : Str → Option Value} {base : Heap}
end
end Wp
set_option Elab.async false
set_option linter.all false
set_option maxRecDepth 100000
set_option maxHeartbeats 4000000
/-! Statements and interest of the program. -/
namespace Wp
open PySem PySem.Spec PyProof.Rows L2
abbrev s_bought_by : Stmt := topS 38
abbrev s_paid_by : Stmt := topS 39
abbrev s_whole_at : Stmt := topS 41
abbrev s_spared_at : Stmt := topS 42
local macro_rules | `(tactic| walk_at "val") => `(tactic| assumption)
local macro_rules | `(tactic| walk_at "rd1") => `(tactic| first
  | with_reducible refine r_seq ?_ | with_reducible refine r_next ?_ | with_reducible refine r_if ?_ | with_reducible refine r_asg ?_ | with_reducible refine r_gname ?_
  | with_reducible refine r_ret ?_ | with_reducible refine r_retN ?_ | with_reducible refine r_drop ?_ | with_reducible refine r_par ?_ | with_reducible refine r_kPar ?_
  | ((with_reducible refine' r_var ?hv ?_); (case hv => exact rfl)) | with_reducible refine r_c ?_ | with_reducible refine r_nil ?_ | with_reducible refine r_cons ?_
  | with_reducible refine r_fn ?_ | with_reducible refine r_cb ?_ | with_reducible refine r_op ?_ | with_reducible refine r_un ?_ | with_reducible refine r_I0 ?_
  | with_reducible refine r_pow5 ?_ | with_reducible refine r_pow6 ?_ | with_reducible refine r_pow7 ?_ | with_reducible refine r_pow9 ?_ | with_reducible refine r_pow18 ?_ | with_reducible refine r_pow20 ?_ | with_reducible refine r_pow30 ?_
  | with_reducible refine r_isN_non ?_ | with_reducible refine r_isN_ref ?_ | with_reducible refine r_isN_int ?_ | with_reducible refine r_isN_str ?_ | with_reducible refine r_isN_bl ?_ | with_reducible refine r_notN_non ?_ | with_reducible refine r_notN_ref ?_ | with_reducible refine r_notN_int ?_ | with_reducible refine r_notN_str ?_ | with_reducible refine r_notN_bl ?_
  | ((with_reducible refine r_I ?hc ?_); (case hc => walk_at "side")) | with_reducible refine r_U ?_
  | with_reducible refine r_eqI ?_ | with_reducible refine r_neI ?_ | with_reducible refine r_eqS ?_ | with_reducible refine r_neS ?_ | with_reducible refine r_eqB ?_ | with_reducible refine r_neB ?_
  | with_reducible refine r_chain ?_ | with_reducible refine r_test ?_ | with_reducible refine r_tB ?_ | with_reducible refine r_kTest ?_ | with_reducible refine r_not ?_
  | with_reducible refine r_and ?_ | with_reducible refine r_or ?_ | with_reducible refine r_tif ?_ | with_reducible refine r_andV ?_ | with_reducible refine r_orV ?_ | with_reducible refine r_notV ?_
  | with_reducible refine r_kAndV ?_ | with_reducible refine r_kOrV ?_ | with_reducible refine r_kNotV ?_
  | with_reducible refine w_T ?_ | with_reducible refine w_F ?_ | with_reducible refine w_NT ?_ | with_reducible refine w_NF ?_
  | with_reducible refine r_tup ?_ | with_reducible refine r_lst ?_ | with_reducible refine r_fld ?_ | with_reducible refine r_prop ?_ | ((with_reducible refine' r_aug ?h1 ?_); (case h1 => exact rfl)) | with_reducible refine r_ipI ?_ | with_reducible refine r_dget ?_ | with_reducible refine r_dput ?_ | with_reducible refine r_bm ?_
  | ((with_reducible refine' r_kDGetS ?h1 ?h2 ?_); (case h1 => assumption); (case h2 => walk_at "val"))
  | ((with_reducible refine' r_kBML ?h1 ?_); (case h1 => assumption))
  | with_reducible refine r_forL ?_ | with_reducible refine r_forR1 ?_ | with_reducible refine r_forR2 ?_ | with_reducible refine r_forT ?_ | with_reducible refine r_lcL ?_ | with_reducible refine r_lcR1 ?_
  | ((with_reducible refine r_kLcG ?hw ?_); (case hw => exact rfl)) | with_reducible refine r_kLcT ?_ | with_reducible refine r_yes ?_
  | with_reducible refine r_pnil ?_ | with_reducible refine r_pcons ?_
  | with_reducible refine r_fnK ?_ | ((with_reducible refine r_kFnK ?hl ?_); (case hl => exact rfl))
  | with_reducible refine r_isi_ii ?_ | with_reducible refine r_isi_ib ?_ | with_reducible refine r_isi_bi ?_ | with_reducible refine r_isi_bb ?_ | with_reducible refine r_isi_ss ?_ | with_reducible refine r_isi_is ?_ | with_reducible refine r_isi_it ?_
  | ((with_reducible refine' r_isi_tt ?h1 ?_); (case h1 => assumption))
  | with_reducible refine r_sfld ?_ | with_reducible refine r_gnil ?_ | with_reducible refine r_gcons ?_
  | ((with_reducible refine' r_gtup ?h1 ?h2 ?_); (case h1 => exact SqT.of (by assumption)); (case h2 => exact rfl))
  | with_reducible refine r_sl ?_ | with_reducible refine r_noPart ?_ | with_reducible refine r_part ?_ | with_reducible refine r_kPart ?_ | with_reducible refine r_m1 ?_ | with_reducible refine r_kM1 ?_ | with_reducible refine r_forS ?_ | with_reducible refine r_lcS ?_ | with_reducible refine r_lcTu ?_ | with_reducible refine r_lcK ?_ | with_reducible refine r_dcL ?_ | with_reducible refine r_dcK ?_ | with_reducible refine r_lc2L ?_ | with_reducible refine r_kLc2TL ?_ | with_reducible refine r_dcEn ?_ | with_reducible refine r_gslc ?_ | with_reducible refine r_lcEn ?_ | with_reducible refine r_forET ?_ | with_reducible refine r_lenD ?_
  | ((with_reducible refine r_kDcG ?hw ?_); (case hw => exact rfl)) | with_reducible refine r_kDcT ?_
  | with_reducible refine r_fldaug ?_ | with_reducible refine r_daug ?_ | with_reducible refine r_rAdd ?_ | with_reducible refine r_rSub ?_ | with_reducible refine r_ddel ?_ | with_reducible refine r_bmF ?_ | with_reducible refine r_dget2 ?_ | with_reducible refine r_listItems ?_ | with_reducible refine r_bm0 ?_ | with_reducible refine r_lc2E ?_ | ((with_reducible refine r_kLc2G ?hw ?_); (case hw => exact rfl)) | with_reducible refine r_kLc2T ?_ | with_reducible refine r_forE ?_ | with_reducible refine r_orT ?_ | with_reducible refine r_din ?_ | with_reducible refine r_augS ?_ | with_reducible refine r_dnotin ?_ | with_reducible refine r_lcIT ?_ | with_reducible refine r_cont ?_ | with_reducible refine r_meth ?_ | with_reducible refine r_frz ?_ | with_reducible refine r_par3 ?_ | with_reducible refine r_kPar3 ?_ | with_reducible refine r_dz ?_ | with_reducible refine r_revL ?_ | with_reducible refine r_star ?_ | with_reducible refine r_int1 ?_ | with_reducible refine r_int1b ?_ | with_reducible refine r_min2 ?_ | with_reducible refine r_max2 ?_ | with_reducible refine r_gsub ?_)
local macro_rules | `(tactic| walk_at "rd") => `(tactic| repeat walk_at "rd1")
local macro_rules | `(tactic| walk_at "side") => `(tactic| first | assumption | exact Or.inr ⟨by decide, by decide⟩ | exact Or.inl ⟨by decide, by decide⟩ | (constructor <;> omega) | omega | decide | (refine Or.inl ⟨?_, ?_⟩ <;> omega) | (refine Or.inr ⟨?_, ?_⟩ <;> omega) | (refine ⟨?_, ?_, ?_⟩ <;> first | decide | omega))
/-- an account with what was paid -/
def PdAt (CA CB : Addr) (H : Hp) (q : Addr) (P : Pd) : Prop := ∃ (bk : Addr) (H0 : Hp) (B : Bk) (A : Ac) (ow : Int) (n : Nat), AcAt CA CB H0 H q B bk A ow n ∧ A.P = P ∧ P.length ≤ 900000
theorem PdAt.keep {CA CB q : Addr} {H H' : Hp} {P : Pd} (h : PdAt CA CB H q P) (e : Same H H') : PdAt CA CB H' q P := by
  obtain ⟨bk, H0, B, A, ow, n, h1, h2⟩ := h
  exact ⟨bk, H0, B, A, ow, n, h1.keep e, h2⟩
/-- what the functions of statements look at: a book, a course, its account -/
structure Sta (K : PySem.W.Frag) (CA CB : Addr) (H : Hp) (bk p q : Addr) (B : Bk) (rs : List CR) (e : Int) (P : Pd) : Prop where
  b : BookAt CB H bk B
  ok : B.Ok
  c : CourAt K H p rs e
  n : rs.length ≤ 200
  a : PdAt CA CB H q P
theorem Sta.keep {K : PySem.W.Frag} {CA CB bk p q : Addr} {H H' : Hp} {B : Bk} {rs : List CR} {e : Int} {P : Pd} (h : Sta K CA CB H bk p q B rs e P) (s : Same H H') : Sta K CA CB H' bk p q B rs e P :=
  ⟨h.b.keep s, h.ok, h.c.keep s, h.n, h.a.keep s⟩
def sp_bought_by (K : PySem.W.Frag) : Sp := fun vs H Q _ => ∃ (p : Addr) (rs : List CR) (e d : Int), vs = [.ref p, .int d] ∧ CourAt K H p rs e ∧ rs.length ≤ 1000 ∧ ∀ H', Same H H' → Q (.int (boughtBy rs d)) H'
def sp_paid_by (CA CB : Addr) : Sp := fun vs H Q _ => ∃ (q : Addr) (P : Pd) (d : Int), vs = [.ref q, .int d] ∧ PdAt CA CB H q P ∧ ∀ H', Same H H' → Q (.int (paidBy P d)) H'
def sp_whole_at (K : PySem.W.Frag) (CA CB : Addr) : Sp := fun vs H Q _ => ∃ (bk p q : Addr) (B : Bk) (rs : List CR) (e : Int) (P : Pd) (m : Int), vs = [.ref bk, .ref p, .ref q, .int m] ∧ Sta K CA CB H bk p q B rs e P ∧ ∀ H', Same H H' → Q (.bl (wholeB B rs P m)) H'
def sp_spared_at (K : PySem.W.Frag) (CA CB : Addr) : Sp := fun vs H Q _ => ∃ (bk p q : Addr) (B : Bk) (rs : List CR) (e : Int) (P : Pd) (m : Int), vs = [.ref bk, .ref p, .ref q, .int m] ∧ Sta K CA CB H bk p q B rs e P ∧ ∀ H', Same H H' → Q (.bl (sparedB B rs P m)) H'
def sp_begin_at (K : PySem.W.Frag) (CA CB : Addr) : Sp := fun vs H Q _ => ∃ (bk p q : Addr) (B : Bk) (rs : List CR) (e : Int) (P : Pd) (z d c : Int) (k : Str), vs = [.ref bk, .ref p, .ref q, .int z] ∧ Sta K CA CB H bk p q B rs e P ∧ 0 ≤ z ∧ rs[z.toNat]? = some (.buy d k c) ∧ k ∈ B.ks.map (·.1) ∧ ∀ H', Same H H' → Q (.int (begOf B rs P z)) H'
/-- rows of what bears: piece, begin, rate -/
inductive BAt (H : Hp) : List V → List (Tri × Int × Int) → Prop
  | nil : BAt H [] []
  | cons {t u : Addr} {x : Tri × Int × Int} {ws : List V} {xs : List (Tri × Int × Int)} : H t = some (.tup [.int x.1.1, .int x.1.2.1, .int x.1.2.2]) → H u = some (.tup [.ref t, .int x.2.1, .int x.2.2]) → BAt H ws xs → BAt H (.ref u :: ws) (x :: xs)
theorem BAt.keep {H H' : Hp} {ws : List V} {rs : List (Tri × Int × Int)} (h : BAt H ws rs) (e : ∀ t xs, H t = some (.tup xs) → H' t = some (.tup xs)) : BAt H' ws rs := by
  induction h with
  | nil => exact .nil
  | cons h1 h2 _ ih => exact .cons (e _ _ h1) (e _ _ h2) ih
theorem BAt.same {H H' : Hp} {ws : List V} {rs : List (Tri × Int × Int)} (h : BAt H ws rs) (e : Same H H') : BAt H' ws rs := h.keep fun _ _ q => e _ _ q
theorem BAt.len {H : Hp} {ws : List V} {rs : List (Tri × Int × Int)} (h : BAt H ws rs) : ws.length = rs.length := by
  induction h with
  | nil => rfl
  | cons _ _ _ ih => simp [ih]
theorem BAt.get {H : Hp} {ws : List V} {rs : List (Tri × Int × Int)} (h : BAt H ws rs) : ∀ {i : Nat} {x : V}, ws[i]? = some x → ∃ t u r, x = .ref u ∧ rs[i]? = some r ∧ H t = some (.tup [.int r.1.1, .int r.1.2.1, .int r.1.2.2]) ∧ H u = some (.tup [.ref t, .int r.2.1, .int r.2.2]) := by
  induction h with
  | nil => intro i x e; simp at e
  | @cons t u r ws rs h1 h2 _ ih =>
    intro i x e
    cases i with
    | zero => exact ⟨t, u, r, (Option.some.inj e).symm, rfl, h1, h2⟩
    | succ i =>
      obtain ⟨t', u', r', h1, h2, h3⟩ := ih (i := i) (by simpa using e)
      exact ⟨t', u', r', h1, by simpa using h2, h3⟩
theorem BAt.app {H : Hp} {ws us : List V} {rs ss : List (Tri × Int × Int)} (h : BAt H ws rs) (h2 : BAt H us ss) : BAt H (ws ++ us) (rs ++ ss) := by
  induction h with
  | nil => exact h2
  | cons h1 h2 _ ih => exact .cons h1 h2 ih
def sp_bearing_of (K : PySem.W.Frag) (CA CB : Addr) : Sp := fun vs H Q _ => ∃ (bk p q : Addr) (B : Bk) (rs : List CR) (e : Int) (P : Pd), vs = [.ref bk, .ref p, .ref q] ∧ Sta K CA CB H bk p q B rs e P ∧ (∀ t ∈ piecesL P, ∃ d k c, rs[t.1.toNat]? = some (.buy d k c) ∧ k ∈ B.ks.map (·.1) ∧ 0 ≤ t.1) ∧
  ∀ l ws H', H l = none → Same H H' → H' l = some (.lst ws) → BAt H' ws (bearOf B rs P) → Q (.ref l) H'
def sp_bearing (K : PySem.W.Frag) (CB : Addr) : Sp := fun vs H Q _ => ∃ (bk p : Addr) (B : Bk) (rs : List CR) (e : Int), vs = [.ref bk, .ref p] ∧ BookAt CB H bk B ∧ B.Ok ∧ B.LaidOk ∧ CourAt K H p rs e ∧ CourOk B rs e ∧ e ≤ 100000 ∧
  ∀ q ws H', H q = none → Same H H' → H' q = some (.lst ws) → LAt H' ws (bearL B rs (settle (rkB B) rs e)) → Q (.ref q) H'
theorem piecesL_len (P : Pd) : (piecesL P).length = P.length := by
  unfold piecesL
  rw [List.length_map, (srtK_perm _).length_eq, List.length_map]
section
variable {P : Program} {w : World} {K : PySem.W.Frag} {mg : Str → Option Value} {base : Heap}
theorem ok_bought_by {f : Addr} {fd : FuncData} (T : Tx K mg) (F : FnP K "bought_by" s_bought_by f fd) : FnOk P w K mg base CX0 2 f fd ["course", "day"] (sp_bought_by K) := by
  have sc : FnScope ["course", "day", "row"] ["course", "day"] (defScope s_bought_by) := ⟨rfl, rfl, rfl, by decide +kernel, rfl, by decide +kernel, by decide +kernel⟩
  refine F.ok sc (by rintro vs H Q E ⟨_, _, _, _, rfl, _⟩; rfl) (fun cdv A outer s H vs Q E hr h => ⟨_, PSs.nox ((pss_one (ps_ret (pe_callB (c_sumK (K := K) rfl rfl) (by rfl) T.b_sum (by decide +kernel) (pa_cons (pe_lc (own := [("row", 2)]) (by rfl) sc.nd (pi_either (pi_listK (K := K) rfl (pe_ix (ix_tupK (K := K) rfl) (pv 0) pe_int (fun _ _ => rfl))) (pi_tupK (K := K) rfl (pe_ix (ix_tupK (K := K) rfl) (pv 0) pe_int (fun _ _ => rfl)))) (blkOk_by (own := [("row", 2)]) (N := ["course", "day", "row"]) (sc := defScope s_bought_by) (by decide +kernel)) (fun _ _ _ _ _ => (pg_name (i := 2) sc.nd rfl (by first | exact Or.inl rfl | exact Or.inr rfl))) (fun _ _ _ _ _ => (pts_one (PW.pt (pw_and (pt_cmpR op_eq (pe_ix (ix_tupK (K := K) rfl) (pv 2) pe_int (fun _ _ => rfl)) (pe_glob (v := .str "buy") (by rfl) T.c_BUY.choose_spec ⟨_, rfl⟩) (nomark _)) (pw_and1 (pt_cmpR op_le (pe_ix (ix_tupK (K := K) rfl) (pv 2) pe_int (fun _ _ => rfl)) (pv 1) (nomark _))))))) (fun _ _ _ _ _ => (pe_ix (ix_tupK (K := K) rfl) (pv 2) pe_int (fun _ _ => rfl)))) pa_nil))))), ?_⟩)
  obtain ⟨p, rs, e, d, rfl, ⟨l, ws, hp, hl, hR⟩, hn, k⟩ := h
  have hlen := hR.len
  walk_at "rd"
  refine r_lcSeq (xs := ws) (c0_at rfl hp) hl (fun Da i H' => Same H H' ∧ H' Da = some (.lst (((rs.take i).filterMap (bbF d)).map V.int))) (fun Da H' _ e h => ⟨e, h⟩) (fun Da i H' h => h.1) ?_ ?_
  · rintro Da i x H' hD hx ⟨e1, hDa⟩
    obtain ⟨t, r, rfl, hr, ht⟩ := hR.get hx
    have hi := (List.getElem?_eq_some_iff.mp hr).1
    have hll : (((rs.take i).filterMap (bbF d)).map V.int).length < 1000000 := by
      have := List.length_filterMap_le (bbF d) (rs.take i)
      rw [List.length_map]
      rw [List.length_take] at this
      omega
    cases r with
    | buy d' z c =>
      have ht1 : H' t = some (.tup [.str "buy", .int d', .str z, .int c]) := e1 _ _ ht
      walk_at "rd"
      refine r_ixT (SqT.of ht1) (at_get (n := 0) rfl rfl) ?_
      walk_at "rd"
      refine w_dec (fun _ => ?_) (fun h => absurd rfl h)
      walk_at "rd"
      refine r_ixT (SqT.of ht1) (at_get (n := 1) rfl rfl) ?_
      walk_at "rd"
      refine w_dec (fun g => ?_) (fun g => ?_)
      · walk_at "rd"
        refine r_ixT (SqT.of ht1) (at_get (n := 3) rfl rfl) ?_
        refine r_kLcE hDa hll fun H2 b2 h2 => ⟨Same.mut e1 b2 hD, ?_⟩
        rw [take_more hr, List.filterMap_append, List.map_append]
        have : [CR.buy d' z c].filterMap (bbF d) = [c] := by simp [bbF, g]
        rw [this]
        exact h2
      · refine ⟨e1, ?_⟩
        rw [take_more hr, List.filterMap_append]
        have : [CR.buy d' z c].filterMap (bbF d) = [] := by simp [bbF, g]
        rw [this, List.append_nil]
        exact hDa
    | pay d' c =>
      have ht1 : H' t = some (.tup [.str "pay", .int d', .int c]) := e1 _ _ ht
      walk_at "rd"
      refine r_ixT (SqT.of ht1) (at_get (n := 0) rfl rfl) ?_
      walk_at "rd"
      refine w_dec (fun h => absurd h (by decide +kernel)) (fun _ => ?_)
      walk_at "rd"
      refine ⟨e1, ?_⟩
      rw [take_more hr, List.filterMap_append]
      have : [CR.pay d' c].filterMap (bbF d) = [] := by simp [bbF]
      rw [this, List.append_nil]
      exact hDa
  · rintro Da H' hD ⟨e1, hDa⟩
    rw [hlen, List.take_length] at hDa
    walk_at "rd"
    refine r_sum (SqL.of hDa) ?_
    exact k H' e1
theorem ok_paid_by {f CA CB : Addr} {fd : FuncData} (T : Tx K mg) (ac : AccC K CA) (F : FnP K "paid_by" s_paid_by f fd) : FnOk P w K mg base CX0 2 f fd ["account", "day"] (sp_paid_by CA CB) := by
  have sc : FnScope ["account", "day", "row", "paid_on", "cents"] ["account", "day"] (defScope s_paid_by) := ⟨rfl, rfl, rfl, by decide +kernel, rfl, by decide +kernel, by decide +kernel⟩
  refine F.ok sc (by rintro vs H Q E ⟨_, _, _, rfl, _⟩; rfl) (fun cdv A outer s H vs Q E hr h => ⟨_, PSs.nox ((pss_one (ps_ret (pe_callB (c_sumK (K := K) rfl rfl) (by rfl) T.b_sum (by decide +kernel) (pa_cons (pe_lock (pe_lc (own := [("row", 2), ("paid_on", 3), ("cents", 4)]) (by rfl) sc.nd (pi_itemsT (pe_fldK (K := K) rfl (pv 0))) (blkOk_by (own := [("row", 2), ("paid_on", 3), ("cents", 4)]) (N := ["account", "day", "row", "paid_on", "cents"]) (sc := defScope s_paid_by) (by decide +kernel)) (fun _ _ _ _ _ => (pg_tupK (K := K) (n := 2) rfl rfl (pgs_cons (pg_tupK (K := K) (n := 2) rfl rfl (pgs_cons (pg_name (i := 2) sc.nd rfl (by first | exact Or.inl rfl | exact Or.inr rfl)) (pgs_cons (pg_name (i := 3) sc.nd rfl (by first | exact Or.inl rfl | exact Or.inr rfl)) pgs_nil))) (pgs_cons (pg_name (i := 4) sc.nd rfl (by first | exact Or.inl rfl | exact Or.inr rfl)) pgs_nil)))) (fun _ _ _ _ _ => (pts_one (pt_cmpR op_le (pv 3) (pv 1) (nomark _)))) (fun _ _ _ _ _ => (pv 4)))) pa_nil))))), ?_⟩)
  obtain ⟨q, P', d, rfl, ⟨bk, H0, B, A, ow, n, ⟨dx, lf, kd, pd, lfs, kds, hA⟩, rfl, hz⟩, k⟩ := h
  walk_at "rd"
  refine r_lockDT hA.p fun od H1 hd1 ho1 hn1 => ?_
  have nqp : q ≠ pd := ne_of hA.i hA.p (by intro z; cases z)
  have i1 := ho1 _ _ hA.i nqp
  walk_at "rd"
  refine r_kFld i1 ac.cl ac.n5 rfl ?_
  refine r_kLcIT hd1 (fun Da i H' => Same H1 H' ∧ H' Da = some (.lst ((paidL (A.P.take i) d).map V.int))) (fun Da H' _ e h => ⟨e, h⟩) (fun Da i H' h => h.1 _ _ hd1) ?_ ?_
  · rintro Da i c T' kq H2 H3 hD hc ⟨e2, hDa⟩ nT e3 hkq hT
    have hil := (List.getElem?_eq_some_iff.mp hc).1
    have hDa3 := e3 _ _ hDa
    have hll : ((paidL (A.P.take i) d).map V.int).length < 1000000 := by
      unfold paidL
      rw [List.length_map, List.length_map]
      have := List.length_filter_le (fun p : (Int × Int) × Int => decide (p.1.2 ≤ d)) (A.P.take i)
      rw [List.length_take] at this
      omega
    walk_at "rd"
    refine w_dec (fun g => ?_) (fun g => ?_)
    · walk_at "rd"
      refine r_kLcE hDa3 hll fun H4 b4 h4 => ⟨Same.mut (e2.trans e3) b4 hD, ?_⟩
      have : paidL (A.P.take (i + 1)) d = paidL (A.P.take i) d ++ [c.2] := by
        unfold paidL
        rw [take_more hc, List.filter_append, List.filter_cons_of_pos (by simpa using g), List.map_append]
        rfl
      rw [this, List.map_append]
      exact h4
    · refine ⟨e2.trans e3, ?_⟩
      have : paidL (A.P.take (i + 1)) d = paidL (A.P.take i) d := by
        unfold paidL
        rw [take_more hc, List.filter_append, List.filter_cons_of_neg (by simpa using g), List.filter_nil, List.append_nil]
      rw [this]
      exact hDa3
  · rintro Da H' hD ⟨e2, hDa⟩
    rw [List.take_length] at hDa
    have hDn : Da ≠ pd := by
      rintro rfl
      rw [hd1] at hD
      cases hD
    refine r_kLock hA.p ho1 hd1 e2 fun H4 e4 o4 => ?_
    walk_at "rd"
    refine r_sum (SqL.of (o4 _ _ hDa hDn)) ?_
    exact k H4 e4
theorem ok_whole_at {f CA CB : Addr} {fd : FuncData} (T : Tx K mg) (F : FnP K "whole_at" s_whole_at f fd) (d_bought_by : Dn P w K mg base CX0 2 "bought_by" ["course", "day"] (sp_bought_by K)) (d_paid_by : Dn P w K mg base CX0 2 "paid_by" ["account", "day"] (sp_paid_by CA CB))
    (mt_Book_first_at : Dm P w K mg base CX0 1 CB "first_at" (sp_first_at CB)) (mt_Book_due_at : Dm P w K mg base CX0 2 CB "due_at" (sp_due_at CB)) : FnOk P w K mg base CX0 3 f fd ["book", "course", "account", "month"] (sp_whole_at K CA CB) := by
  have sc : FnScope ["book", "course", "account", "month"] ["book", "course", "account", "month"] (defScope s_whole_at) := ⟨rfl, rfl, rfl, by decide +kernel, rfl, by decide +kernel, by decide +kernel⟩
  refine F.ok sc (by rintro vs H Q E ⟨_, _, _, _, _, _, _, _, rfl, _⟩; rfl) (fun cdv A outer s H vs Q E hr h => ⟨_, PSs.nox ((pss_cons (ps_if (pt_cmpR op_lt (pv 3) pe_int (nomark _)) (pss_one (ps_ret pe_bl)) pss_nil)
      (pss_one (ps_ret (pe_cmpR op_ge (pe_fn d_paid_by (hr.mono (by decide)) pass0 (pa_cons (pv 2) (pa_cons (pe_mt mt_Book_due_at (hr.mono (by decide)) pass0 (pv 0) (pa_cons (pv 3) pa_nil)) pa_nil))) (pe_fn d_bought_by (hr.mono (by decide)) pass0 (pa_cons (pv 1) (pa_cons (pe_op op_sub (pe_mt mt_Book_first_at (hr.mono (by decide)) pass0 (pv 0) (pa_cons (pe_op op_add (pv 3) pe_int) pa_nil)) pe_int) pa_nil))) (nomark _)))))), ?_⟩)
  obtain ⟨bk, p, q, B, rs, e, P', m, rfl, S, k⟩ := h
  have hn := S.n
  walk_at "rd"
  refine w_dec (fun g => ?_) (fun g => ?_)
  · walk_at "rd"
    have : wholeB B rs P' m = true := by unfold wholeB; rw [decide_eq_true g]; rfl
    rw [← this]
    exact k H (Same.refl _)
  · obtain ⟨dx, tl, kd, lv, kvs, hI⟩ := id S.b
    walk_at "rd"
    refine r_kMeth hI.i rfl ?_
    walk_at "rd"
    refine ⟨bk, B, m, rfl, S.b, S.ok, fun H1 e1 => ?_⟩
    walk_at "rd"
    have S1 := S.keep e1
    refine ⟨q, P', _, rfl, S1.a, fun H2 e2 => ?_⟩
    have S2 := S1.keep e2
    obtain ⟨dx, tl, kd, lv, kvs, hI2⟩ := id S2.b
    walk_at "rd"
    refine r_kMeth hI2.i rfl ?_
    walk_at "rd"
    refine ⟨bk, B, m + 1, rfl, S2.b, S2.ok, fun H3 e3 => ?_⟩
    walk_at "rd"
    refine ⟨p, rs, e, _, rfl, (S2.keep e3).c, by omega, fun H4 e4 => ?_⟩
    walk_at "rd"
    have : wholeB B rs P' m = decide (boughtBy rs (B.first (m + 1) - 1) ≤ paidBy P' (B.first (m + 1) + B.due)) := by
      unfold wholeB
      rw [decide_eq_false g]
      rfl
    have z := k H4 (((e1.trans e2).trans e3).trans e4)
    rw [this] at z
    exact z
theorem ok_spared_at {f CA CB : Addr} {fd : FuncData} (T : Tx K mg) (F : FnP K "spared_at" s_spared_at f fd) (m_memory : Dpr P w K mg base CX0 1 CB "memory" (sp_g_memory CB)) (d_whole_at : Dn P w K mg base CX0 3 "whole_at" ["book", "course", "account", "month"] (sp_whole_at K CA CB)) :
    FnOk P w K mg base CX0 4 f fd ["book", "course", "account", "month"] (sp_spared_at K CA CB) := by
  have sc : FnScope ["book", "course", "account", "month", "back"] ["book", "course", "account", "month"] (defScope s_spared_at) := ⟨rfl, rfl, rfl, by decide +kernel, rfl, by decide +kernel, by decide +kernel⟩
  refine F.ok sc (by rintro vs H Q E ⟨_, _, _, _, _, _, _, _, rfl, _⟩; rfl) (fun cdv A outer s H vs Q E hr h => ⟨_, PSs.nox ((pss_one (ps_ret (pe_callB (c_allK (K := K) rfl rfl) (by rfl) T.b_all (by decide +kernel) (pa_cons (pe_lc (own := [("back", 4)]) (by rfl) sc.nd (pi_range1 (by rfl) T.b_range (pa_cons (pe_op op_add (pe_propA m_memory (pv 0) (hr.mono (by decide)) pass0) pe_int) pa_nil)) (blkOk_by (own := [("back", 4)]) (N := ["book", "course", "account", "month", "back"]) (sc := defScope s_spared_at) (by decide +kernel)) (fun _ _ _ _ _ => (pg_name (i := 4) sc.nd rfl (by first | exact Or.inl rfl | exact Or.inr rfl))) (fun _ _ _ _ _ => pts_nil) (fun _ _ _ _ _ => (pe_fn d_whole_at (hr.mono (by decide)) pass0 (pa_cons (pv 0) (pa_cons (pv 1) (pa_cons (pv 2) (pa_cons (pe_op op_sub (pv 3) (pv 4)) pa_nil))))))) pa_nil))))), ?_⟩)
  obtain ⟨bk, p, q, B, rs, e, P', m, rfl, S, k⟩ := h
  have m0 := S.ok.m0
  have m1 := S.ok.m1
  obtain ⟨dx, tl, kd, lv, kvs, hI⟩ := id S.b
  walk_at "rd"
  refine r_kProp hI.i ?_
  refine ⟨bk, B, rfl, S.b, ?_⟩
  walk_at "rd"
  refine r_kLcR1 (fun Da i H' => Same H H' ∧ H' Da = some (.lst (((List.range i).map fun b : Nat => wholeB B rs P' (m - (b : Int))).map V.bl))) (by omega) (fun Da H' _ e h => ⟨e, h⟩) ?_ ?_
  · rintro Da i H' hD hi ⟨e1, hDa⟩
    walk_at "rd"
    refine ⟨bk, p, q, B, rs, e, P', _, rfl, S.keep e1, fun H2 e2 => ?_⟩
    refine r_kLcE (e2 _ _ hDa) (by rw [List.length_map, List.length_map, List.length_range]; omega) fun H3 b3 h3 => ⟨Same.mut (e1.trans e2) b3 hD, ?_⟩
    rw [List.range_succ, List.map_append, List.map_append]
    exact h3
  · rintro Da H' hD ⟨e1, hDa⟩
    walk_at "rd"
    refine r_all (SqL.of hDa) ?_
    exact k H' e1
end
end Wp
set_option Elab.async false
set_option linter.all false
set_option maxRecDepth 100000
set_option maxHeartbeats 4000000
/-! Statements asked for: is_spared, word. -/
namespace Wp
open PySem PySem.Spec PyProof.Rows L2
abbrev s_is_spared : Stmt := topS 45
abbrev s_word : Stmt := topS 46
local macro_rules | `(tactic| walk_at "val") => `(tactic| assumption)
local macro_rules | `(tactic| walk_at "rd1") => `(tactic| first
  | with_reducible refine r_seq ?_ | with_reducible refine r_next ?_ | with_reducible refine r_if ?_ | with_reducible refine r_asg ?_ | with_reducible refine r_gname ?_
  | with_reducible refine r_ret ?_ | with_reducible refine r_retN ?_ | with_reducible refine r_drop ?_ | with_reducible refine r_par ?_ | with_reducible refine r_kPar ?_
  | ((with_reducible refine' r_var ?hv ?_); (case hv => exact rfl)) | with_reducible refine r_c ?_ | with_reducible refine r_nil ?_ | with_reducible refine r_cons ?_
  | with_reducible refine r_fn ?_ | with_reducible refine r_cb ?_ | with_reducible refine r_op ?_ | with_reducible refine r_un ?_ | with_reducible refine r_I0 ?_
  | with_reducible refine r_pow5 ?_ | with_reducible refine r_pow6 ?_ | with_reducible refine r_pow7 ?_ | with_reducible refine r_pow9 ?_ | with_reducible refine r_pow18 ?_ | with_reducible refine r_pow20 ?_ | with_reducible refine r_pow30 ?_
  | with_reducible refine r_isN_non ?_ | with_reducible refine r_isN_ref ?_ | with_reducible refine r_isN_int ?_ | with_reducible refine r_isN_str ?_ | with_reducible refine r_isN_bl ?_ | with_reducible refine r_notN_non ?_ | with_reducible refine r_notN_ref ?_ | with_reducible refine r_notN_int ?_ | with_reducible refine r_notN_str ?_ | with_reducible refine r_notN_bl ?_
  | ((with_reducible refine r_I ?hc ?_); (case hc => walk_at "side")) | with_reducible refine r_U ?_
  | with_reducible refine r_eqI ?_ | with_reducible refine r_neI ?_ | with_reducible refine r_eqS ?_ | with_reducible refine r_neS ?_ | with_reducible refine r_eqB ?_ | with_reducible refine r_neB ?_
  | with_reducible refine r_chain ?_ | with_reducible refine r_test ?_ | with_reducible refine r_tB ?_ | with_reducible refine r_kTest ?_ | with_reducible refine r_not ?_
  | with_reducible refine r_and ?_ | with_reducible refine r_or ?_ | with_reducible refine r_tif ?_ | with_reducible refine r_andV ?_ | with_reducible refine r_orV ?_ | with_reducible refine r_notV ?_
  | with_reducible refine r_kAndV ?_ | with_reducible refine r_kOrV ?_ | with_reducible refine r_kNotV ?_
  | with_reducible refine w_T ?_ | with_reducible refine w_F ?_ | with_reducible refine w_NT ?_ | with_reducible refine w_NF ?_
  | with_reducible refine r_tup ?_ | with_reducible refine r_lst ?_ | with_reducible refine r_fld ?_ | with_reducible refine r_prop ?_ | ((with_reducible refine' r_aug ?h1 ?_); (case h1 => exact rfl)) | with_reducible refine r_ipI ?_ | with_reducible refine r_dget ?_ | with_reducible refine r_dput ?_ | with_reducible refine r_bm ?_
  | ((with_reducible refine' r_kDGetS ?h1 ?h2 ?_); (case h1 => assumption); (case h2 => walk_at "val"))
  | ((with_reducible refine' r_kBML ?h1 ?_); (case h1 => assumption))
  | with_reducible refine r_forL ?_ | with_reducible refine r_forR1 ?_ | with_reducible refine r_forR2 ?_ | with_reducible refine r_forT ?_ | with_reducible refine r_lcL ?_ | with_reducible refine r_lcR1 ?_
  | ((with_reducible refine r_kLcG ?hw ?_); (case hw => exact rfl)) | with_reducible refine r_kLcT ?_ | with_reducible refine r_yes ?_
  | with_reducible refine r_pnil ?_ | with_reducible refine r_pcons ?_
  | with_reducible refine r_fnK ?_ | ((with_reducible refine r_kFnK ?hl ?_); (case hl => exact rfl))
  | with_reducible refine r_isi_ii ?_ | with_reducible refine r_isi_ib ?_ | with_reducible refine r_isi_bi ?_ | with_reducible refine r_isi_bb ?_ | with_reducible refine r_isi_ss ?_ | with_reducible refine r_isi_is ?_ | with_reducible refine r_isi_it ?_
  | ((with_reducible refine' r_isi_tt ?h1 ?_); (case h1 => assumption))
  | with_reducible refine r_sfld ?_ | with_reducible refine r_gnil ?_ | with_reducible refine r_gcons ?_
  | ((with_reducible refine' r_gtup ?h1 ?h2 ?_); (case h1 => exact SqT.of (by assumption)); (case h2 => exact rfl))
  | with_reducible refine r_sl ?_ | with_reducible refine r_noPart ?_ | with_reducible refine r_part ?_ | with_reducible refine r_kPart ?_ | with_reducible refine r_m1 ?_ | with_reducible refine r_kM1 ?_ | with_reducible refine r_forS ?_ | with_reducible refine r_lcS ?_ | with_reducible refine r_lcTu ?_ | with_reducible refine r_lcK ?_ | with_reducible refine r_dcL ?_ | with_reducible refine r_dcK ?_ | with_reducible refine r_lc2L ?_ | with_reducible refine r_kLc2TL ?_ | with_reducible refine r_dcEn ?_ | with_reducible refine r_gslc ?_ | with_reducible refine r_lcEn ?_ | with_reducible refine r_forET ?_ | with_reducible refine r_lenD ?_
  | ((with_reducible refine r_kDcG ?hw ?_); (case hw => exact rfl)) | with_reducible refine r_kDcT ?_
  | with_reducible refine r_fldaug ?_ | with_reducible refine r_daug ?_ | with_reducible refine r_rAdd ?_ | with_reducible refine r_rSub ?_ | with_reducible refine r_ddel ?_ | with_reducible refine r_bmF ?_ | with_reducible refine r_dget2 ?_ | with_reducible refine r_listItems ?_ | with_reducible refine r_bm0 ?_ | with_reducible refine r_lc2E ?_ | ((with_reducible refine r_kLc2G ?hw ?_); (case hw => exact rfl)) | with_reducible refine r_kLc2T ?_ | with_reducible refine r_forE ?_ | with_reducible refine r_orT ?_ | with_reducible refine r_din ?_ | with_reducible refine r_augS ?_ | with_reducible refine r_dnotin ?_ | with_reducible refine r_lcIT ?_ | with_reducible refine r_cont ?_ | with_reducible refine r_meth ?_ | with_reducible refine r_frz ?_ | with_reducible refine r_par3 ?_ | with_reducible refine r_kPar3 ?_ | with_reducible refine r_dz ?_ | with_reducible refine r_revL ?_ | with_reducible refine r_star ?_ | with_reducible refine r_int1 ?_ | with_reducible refine r_int1b ?_ | with_reducible refine r_min2 ?_ | with_reducible refine r_max2 ?_ | with_reducible refine r_gsub ?_)
local macro_rules | `(tactic| walk_at "rd") => `(tactic| repeat walk_at "rd1")
local macro_rules | `(tactic| walk_at "side") => `(tactic| first | assumption | exact Or.inr ⟨by decide, by decide⟩ | exact Or.inl ⟨by decide, by decide⟩ | (constructor <;> omega) | omega | decide | (refine Or.inl ⟨?_, ?_⟩ <;> omega) | (refine Or.inr ⟨?_, ?_⟩ <;> omega) | (refine ⟨?_, ?_, ?_⟩ <;> first | decide | omega))
def wordL (B : Bk) (rs : List CR) (e : Int) : List Bool := (List.range (monthL B.ls e + 1).toNat).map fun i : Nat => wholeB B rs (settle (rkB B) rs e) (i : Int)
def sp_is_spared (K : PySem.W.Frag) (CB : Addr) : Sp := fun vs H Q _ => ∃ (bk p : Addr) (B : Bk) (rs : List CR) (e m : Int), vs = [.ref bk, .ref p, .int m] ∧ BookAt CB H bk B ∧ B.Ok ∧ B.LaidOk ∧ CourAt K H p rs e ∧ CourOk B rs e ∧ e ≤ 100000 ∧ 0 ≤ m ∧ m ≤ 2000 ∧
  ∀ H', Same H H' → Q (.bl (sparedB B rs (settle (rkB B) rs e) m)) H'
def sp_word (K : PySem.W.Frag) (CB : Addr) : Sp := fun vs H Q _ => ∃ (bk p : Addr) (B : Bk) (rs : List CR) (e : Int), vs = [.ref bk, .ref p] ∧ BookAt CB H bk B ∧ B.Ok ∧ B.LaidOk ∧ CourAt K H p rs e ∧ CourOk B rs e ∧ e ≤ 100000 ∧
  ∀ q H', H q = none → Same H H' → H' q = some (.lst ((wordL B rs e).map V.bl)) → Q (.ref q) H'
theorem month_bnd {ls : List Int} (ok : LsOk ls) {d : Int} (h0 : 0 ≤ d) (h1 : d ≤ 100000) : 0 ≤ monthL ls d ∧ monthL ls d ≤ 500000 := by
  have hs := ok.sum
  have hr0 := Int.emod_nonneg d (b := ls.sum) (by omega)
  have hr1 := Int.emod_lt_of_pos d (b := ls.sum) (by omega)
  obtain ⟨c1, _, _⟩ := cntL_spec ok.l3 hr0 hr1
  have l2 := ok.l2
  have q0 : 0 ≤ d / ls.sum := Int.ediv_nonneg h0 (by omega)
  have q1 : d / ls.sum ≤ d := Int.ediv_le_self _ h0
  have q2 : d / ls.sum * (ls.length : Int) ≤ d / ls.sum * 4 := Int.mul_le_mul_of_nonneg_left (by omega) q0
  have q3 : 0 ≤ d / ls.sum * (ls.length : Int) := Int.mul_nonneg q0 (by omega)
  unfold monthL
  omega
section
variable {P : Program} {w : World} {K : PySem.W.Frag} {mg : Str → Option Value} {base : Heap}
theorem ok_is_spared {f CA CB : Addr} {fd : FuncData} (T : Tx K mg) (F : FnP K "is_spared" s_is_spared f fd) (d_need_account : Dn P w K mg base CX0 7 "need_account" ["book", "course"] (sp_account_of K CA CB)) (d_need_number : Dn P w K mg base CX0 3 "need_number" ["value"] sp_need_number)
    (d_spared_at : Dn P w K mg base CX0 4 "spared_at" ["book", "course", "account", "month"] (sp_spared_at K CA CB)) : FnOk P w K mg base CX0 8 f fd ["book", "course", "month"] (sp_is_spared K CB) := by
  have sc : FnScope ["book", "course", "month", "account"] ["book", "course", "month"] (defScope s_is_spared) := ⟨rfl, rfl, rfl, by decide +kernel, rfl, by decide +kernel, by decide +kernel⟩
  refine F.ok sc (by rintro vs H Q E ⟨_, _, _, _, _, _, rfl, _⟩; rfl) (fun cdv A outer s H vs Q E hr h => ⟨_, PSs.nox ((pss_cons (ps_set (i := 3) sc.nd rfl (by first | exact Or.inl rfl | exact Or.inr rfl) (pe_fn d_need_account (hr.mono (by decide)) pass0 (pa_cons (pv 0) (pa_cons (pv 1) pa_nil))))
      (pss_cons (ps_expr (pe_fn d_need_number (hr.mono (by decide)) pass0 (pa_cons (pv 2) pa_nil)))
      (pss_one (ps_ret (pe_fn d_spared_at (hr.mono (by decide)) pass0 (pa_cons (pv 0) (pa_cons (pv 1) (pa_cons (pv 3) (pa_cons (pv 2) pa_nil)))))))))), ?_⟩)
  obtain ⟨bk, p, B, rs, e, m, rfl, hB, ok, lok, hC, co, he, m0, m1, k⟩ := h
  have hn := co.n
  have fn := Fin.of (rkB B) co.v co.e he hn
  have hpl : (settle (rkB B) rs e).length ≤ 40200 := by have := fn.len; rw [piecesL_len] at this; exact this
  walk_at "rd"
  refine ⟨bk, p, B, rs, e, rfl, hB, ok, lok, hC, co, fun q H1 A1 => ?_⟩
  walk_at "rd"
  refine ⟨m, rfl, m0, m1, ?_⟩
  walk_at "rd"
  have S1 : Sta K CA CB H1 bk p q B rs e (settle (rkB B) rs e) := ⟨hB.keep A1.sm, ok, hC.keep A1.sm, hn, ⟨bk, H, B, _, 0, rs.length, A1, rfl, by omega⟩⟩
  exact ⟨bk, p, q, B, rs, e, _, m, rfl, S1, fun H2 e2 => k H2 (A1.sm.trans e2)⟩
theorem ok_word {f CA CB : Addr} {fd : FuncData} (T : Tx K mg) (F : FnP K "word" s_word f fd) (d_need_account : Dn P w K mg base CX0 7 "need_account" ["book", "course"] (sp_account_of K CA CB)) (mt_Book_month_at : Dm P w K mg base CX0 1 CB "month_at" (sp_month_at CB))
    (d_whole_at : Dn P w K mg base CX0 3 "whole_at" ["book", "course", "account", "month"] (sp_whole_at K CA CB)) : FnOk P w K mg base CX0 8 f fd ["book", "course"] (sp_word K CB) := by
  have sc : FnScope ["book", "course", "account", "month"] ["book", "course"] (defScope s_word) := ⟨rfl, rfl, rfl, by decide +kernel, rfl, by decide +kernel, by decide +kernel⟩
  refine F.ok sc (by rintro vs H Q E ⟨_, _, _, _, _, rfl, _⟩; rfl) (fun cdv A outer s H vs Q E hr h => ⟨_, PSs.nox ((pss_cons (ps_set (i := 2) sc.nd rfl (by first | exact Or.inl rfl | exact Or.inr rfl) (pe_fn d_need_account (hr.mono (by decide)) pass0 (pa_cons (pv 0) (pa_cons (pv 1) pa_nil))))
      (pss_one (ps_ret (pe_lc (own := [("month", 3)]) (by rfl) sc.nd (pi_range1 (by rfl) T.b_range (pa_cons (pe_op op_add (pe_mt mt_Book_month_at (hr.mono (by decide)) pass0 (pv 0) (pa_cons (pe_ix (ix_tupK (K := K) rfl) (pv 1) pe_int (fun _ _ => rfl)) pa_nil)) pe_int) pa_nil)) (blkOk_by (own := [("month", 3)]) (N := ["book", "course", "account", "month"]) (sc := defScope s_word) (by decide +kernel)) (fun _ _ _ _ _ => (pg_name (i := 3) sc.nd rfl (by first | exact Or.inl rfl | exact Or.inr rfl))) (fun _ _ _ _ _ => pts_nil) (fun _ _ _ _ _ => (pe_fn d_whole_at (hr.mono (by decide)) pass0 (pa_cons (pv 0) (pa_cons (pv 1) (pa_cons (pv 2) (pa_cons (pv 3) pa_nil))))))))))), ?_⟩)
  obtain ⟨bk, p, B, rs, e, rfl, hB, ok, lok, hC, co, he, k⟩ := h
  have hn := co.n
  have fn := Fin.of (rkB B) co.v co.e he hn
  have hpl : (settle (rkB B) rs e).length ≤ 40200 := by have := fn.len; rw [piecesL_len] at this; exact this
  walk_at "rd"
  refine ⟨bk, p, B, rs, e, rfl, hB, ok, lok, hC, co, fun q H1 A1 => ?_⟩
  walk_at "rd"
  have e1 := A1.sm
  obtain ⟨l, ws, hp1, hl1, hR1⟩ := hC.keep e1
  obtain ⟨dx, tl, kd, lv, kvs, hI⟩ := hB.keep e1
  have S1 : Sta K CA CB H1 bk p q B rs e (settle (rkB B) rs e) := ⟨hB.keep e1, ok, hC.keep e1, hn, ⟨bk, H, B, _, 0, rs.length, A1, rfl, by omega⟩⟩
  have d0 := (VR.days rs co.v).1
  have mb := month_bnd ok.ls (d := e) (by have := co.e; omega) he
  refine r_kMeth hI.i rfl ?_
  walk_at "rd"
  refine r_ixT (SqT.of hp1) (at_get (n := 1) rfl rfl) ?_
  walk_at "rd"
  refine ⟨bk, B, e, rfl, hB.keep e1, ok, ?_⟩
  walk_at "rd"
  refine r_kLcR1 (fun Da i H' => Same H1 H' ∧ H' Da = some (.lst (((List.range i).map fun i : Nat => wholeB B rs (settle (rkB B) rs e) (i : Int)).map V.bl))) (by omega) (fun Da H' _ e h => ⟨e, h⟩) ?_ ?_
  · rintro Da i H' hD hi ⟨e2, hDa⟩
    walk_at "rd"
    refine ⟨bk, p, q, B, rs, e, _, _, rfl, S1.keep e2, fun H2 e3 => ?_⟩
    refine r_kLcE (e3 _ _ hDa) (by rw [List.length_map, List.length_map, List.length_range]; omega) fun H3 b3 h3 => ⟨Same.mut (e2.trans e3) b3 hD, ?_⟩
    rw [List.range_succ, List.map_append, List.map_append]
    exact h3
  · rintro Da H' hD ⟨e2, hDa⟩
    walk_at "rd"
    exact k Da H' (e1.free hD) (e1.trans e2) hDa
end
end Wp
set_option Elab.async false
set_option linter.all false
set_option maxRecDepth 100000
set_option maxHeartbeats 4000000
namespace Wp
open PySem PySem.Spec PyProof.Rows L2
abbrev s__law_first : Stmt := topS 56
abbrev s__law_month : Stmt := topS 57
abbrev s__law_due : Stmt := topS 58
local macro_rules | `(tactic| walk_at "val") => `(tactic| assumption)
local macro_rules | `(tactic| walk_at "rd1") => `(tactic| first
  | with_reducible refine r_seq ?_ | with_reducible refine r_next ?_ | with_reducible refine r_if ?_ | with_reducible refine r_asg ?_ | with_reducible refine r_gname ?_
  | with_reducible refine r_ret ?_ | with_reducible refine r_retN ?_ | with_reducible refine r_drop ?_ | with_reducible refine r_par ?_ | with_reducible refine r_kPar ?_
  | ((with_reducible refine' r_var ?hv ?_); (case hv => exact rfl)) | with_reducible refine r_c ?_ | with_reducible refine r_nil ?_ | with_reducible refine r_cons ?_
  | with_reducible refine r_fn ?_ | with_reducible refine r_cb ?_ | with_reducible refine r_op ?_ | with_reducible refine r_un ?_ | with_reducible refine r_I0 ?_
  | with_reducible refine r_pow5 ?_ | with_reducible refine r_pow6 ?_ | with_reducible refine r_pow7 ?_ | with_reducible refine r_pow9 ?_ | with_reducible refine r_pow18 ?_ | with_reducible refine r_pow20 ?_ | with_reducible refine r_pow30 ?_
  | with_reducible refine r_isN_non ?_ | with_reducible refine r_isN_ref ?_ | with_reducible refine r_isN_int ?_ | with_reducible refine r_isN_str ?_ | with_reducible refine r_isN_bl ?_ | with_reducible refine r_notN_non ?_ | with_reducible refine r_notN_ref ?_ | with_reducible refine r_notN_int ?_ | with_reducible refine r_notN_str ?_ | with_reducible refine r_notN_bl ?_
  | ((with_reducible refine r_I ?hc ?_); (case hc => walk_at "side")) | with_reducible refine r_U ?_
  | with_reducible refine r_eqI ?_ | with_reducible refine r_neI ?_ | with_reducible refine r_eqS ?_ | with_reducible refine r_neS ?_ | with_reducible refine r_eqB ?_ | with_reducible refine r_neB ?_
  | with_reducible refine r_chain ?_ | with_reducible refine r_test ?_ | with_reducible refine r_tB ?_ | with_reducible refine r_kTest ?_ | with_reducible refine r_not ?_
  | with_reducible refine r_and ?_ | with_reducible refine r_or ?_ | with_reducible refine r_tif ?_ | with_reducible refine r_andV ?_ | with_reducible refine r_orV ?_ | with_reducible refine r_notV ?_
  | with_reducible refine r_kAndV ?_ | with_reducible refine r_kOrV ?_ | with_reducible refine r_kNotV ?_
  | with_reducible refine w_T ?_ | with_reducible refine w_F ?_ | with_reducible refine w_NT ?_ | with_reducible refine w_NF ?_
  | with_reducible refine r_tup ?_ | with_reducible refine r_lst ?_ | with_reducible refine r_fld ?_ | with_reducible refine r_prop ?_ | ((with_reducible refine' r_aug ?h1 ?_); (case h1 => exact rfl)) | with_reducible refine r_ipI ?_ | with_reducible refine r_dget ?_ | with_reducible refine r_dput ?_ | with_reducible refine r_bm ?_
  | ((with_reducible refine' r_kDGetS ?h1 ?h2 ?_); (case h1 => assumption); (case h2 => walk_at "val"))
  | ((with_reducible refine' r_kBML ?h1 ?_); (case h1 => assumption))
  | with_reducible refine r_forL ?_ | with_reducible refine r_forR1 ?_ | with_reducible refine r_forR2 ?_ | with_reducible refine r_forT ?_ | with_reducible refine r_lcL ?_ | with_reducible refine r_lcR1 ?_
  | ((with_reducible refine r_kLcG ?hw ?_); (case hw => exact rfl)) | with_reducible refine r_kLcT ?_ | with_reducible refine r_yes ?_
  | with_reducible refine r_pnil ?_ | with_reducible refine r_pcons ?_
  | with_reducible refine r_fnK ?_ | ((with_reducible refine r_kFnK ?hl ?_); (case hl => exact rfl))
  | with_reducible refine r_isi_ii ?_ | with_reducible refine r_isi_ib ?_ | with_reducible refine r_isi_bi ?_ | with_reducible refine r_isi_bb ?_ | with_reducible refine r_isi_ss ?_ | with_reducible refine r_isi_is ?_ | with_reducible refine r_isi_it ?_
  | ((with_reducible refine' r_isi_tt ?h1 ?_); (case h1 => assumption))
  | with_reducible refine r_sfld ?_ | with_reducible refine r_gnil ?_ | with_reducible refine r_gcons ?_
  | ((with_reducible refine' r_gtup ?h1 ?h2 ?_); (case h1 => exact SqT.of (by assumption)); (case h2 => exact rfl))
  | with_reducible refine r_sl ?_ | with_reducible refine r_noPart ?_ | with_reducible refine r_part ?_ | with_reducible refine r_kPart ?_ | with_reducible refine r_m1 ?_ | with_reducible refine r_kM1 ?_ | with_reducible refine r_forS ?_ | with_reducible refine r_lcS ?_ | with_reducible refine r_lcTu ?_ | with_reducible refine r_lcK ?_ | with_reducible refine r_dcL ?_ | with_reducible refine r_dcK ?_ | with_reducible refine r_lc2L ?_ | with_reducible refine r_kLc2TL ?_ | with_reducible refine r_dcEn ?_ | with_reducible refine r_gslc ?_ | with_reducible refine r_lcEn ?_ | with_reducible refine r_forET ?_ | with_reducible refine r_lenD ?_
  | ((with_reducible refine r_kDcG ?hw ?_); (case hw => exact rfl)) | with_reducible refine r_kDcT ?_
  | with_reducible refine r_fldaug ?_ | with_reducible refine r_daug ?_ | with_reducible refine r_rAdd ?_ | with_reducible refine r_rSub ?_ | with_reducible refine r_ddel ?_ | with_reducible refine r_bmF ?_ | with_reducible refine r_dget2 ?_ | with_reducible refine r_listItems ?_ | with_reducible refine r_bm0 ?_ | with_reducible refine r_lc2E ?_ | ((with_reducible refine r_kLc2G ?hw ?_); (case hw => exact rfl)) | with_reducible refine r_kLc2T ?_ | with_reducible refine r_forE ?_ | with_reducible refine r_orT ?_ | with_reducible refine r_din ?_ | with_reducible refine r_augS ?_ | with_reducible refine r_dnotin ?_ | with_reducible refine r_lcIT ?_ | with_reducible refine r_cont ?_ | with_reducible refine r_meth ?_ | with_reducible refine r_frz ?_ | with_reducible refine r_par3 ?_ | with_reducible refine r_kPar3 ?_ | with_reducible refine r_dz ?_ | with_reducible refine r_revL ?_ | with_reducible refine r_star ?_ | with_reducible refine r_int1 ?_ | with_reducible refine r_int1b ?_ | with_reducible refine r_min2 ?_ | with_reducible refine r_max2 ?_ | with_reducible refine r_gsub ?_)
local macro_rules | `(tactic| walk_at "rd") => `(tactic| repeat walk_at "rd1")
local macro_rules | `(tactic| walk_at "side") => `(tactic| first | assumption | exact Or.inr ⟨by decide, by decide⟩ | exact Or.inl ⟨by decide, by decide⟩ | (constructor <;> omega) | omega | decide | (refine Or.inl ⟨?_, ?_⟩ <;> omega) | (refine Or.inr ⟨?_, ?_⟩ <;> omega) | (refine ⟨?_, ?_, ?_⟩ <;> first | decide | omega))
local macro_rules | `(tactic| walk_at "val") => `(tactic| first | exact mv1 | exact mv2 | exact mv3 | exact mv4 | exact mv5 | exact mv6)
def sp_lfirst : Sp := fun vs H Q _ => ∃ (l p : Addr) (B : Bk) (m : Int), vs = [.ref p, .int m] ∧ Mdl l H p B ∧ LsOk B.ls ∧ ∀ H', Same H H' → Q (.int (firstL B.ls m)) H'
def sp_lmonth : Sp := fun vs H Q _ => ∃ (l p : Addr) (B : Bk) (d : Int), vs = [.ref p, .int d] ∧ Mdl l H p B ∧ LsOk B.ls ∧ ∀ H', Same H H' → Q (.int (monthL B.ls d)) H'
def sp_ldue : Sp := fun vs H Q _ => ∃ (l p : Addr) (B : Bk) (m : Int), vs = [.ref p, .int m] ∧ Mdl l H p B ∧ LsOk B.ls ∧ ∀ H', Same H H' → Q (.int (firstL B.ls (m + 1) + B.due)) H'
section
variable {P : Program} {w : World} {K : PySem.W.Frag} {mg : Str → Option Value} {base : Heap}
theorem ok__law_first {f : Addr} {fd : FuncData} (T : Tx K mg) (F : FnP K "_law_first" s__law_first f fd) : FnOk P w K mg base CX0 1 f fd ["_law_model_here", "_law_mon"] sp_lfirst := by
  have sc : FnScope ["_law_model_here", "_law_mon", "_law_sizes", "_law_count"] ["_law_model_here", "_law_mon"] (defScope s__law_first) := ⟨rfl, rfl, rfl, by decide +kernel, rfl, by decide +kernel, by decide +kernel⟩
  refine F.ok sc (by rintro vs H Q E ⟨_, _, _, _, rfl, _⟩; rfl) (fun cdv A outer s H vs Q E hr h => ⟨_, PSs.nox ((pss_cons (ps_set (i := 2) sc.nd rfl (by first | exact Or.inl rfl | exact Or.inr rfl) (pe_dget (hu_of hr) (pv 0) pe_str (fun _ _ => rfl)))
      (pss_cons (ps_set (i := 3) sc.nd rfl (by first | exact Or.inl rfl | exact Or.inr rfl) (pe_callB (c_lenK (K := K) rfl) (by rfl) T.b_len (by decide +kernel) (pa_cons (pv 2) pa_nil)))
      (pss_one (ps_ret (pe_op op_add (pe_op op_mul (pe_op op_fdiv (pv 1) (pv 3)) (pe_callB (c_sumK (K := K) rfl rfl) (by rfl) T.b_sum (by decide +kernel) (pa_cons (pv 2) pa_nil))) (pe_callB (c_sumK (K := K) rfl rfl) (by rfl) T.b_sum (by decide +kernel) (pa_cons (pe_slice (sl_listK (K := K) rfl) (pv 2) po_none (po_some (pe_op op_mod (pe_callTy c_int1 (by rfl) T.b_int (by decide +kernel) (pa_cons (pv 1) pa_nil)) (pv 3)))) pa_nil)))))))), ?_⟩)
  obtain ⟨l, p, B, m, rfl, ⟨ad, kd, lv, kvs, hM⟩, ok, k⟩ := h
  have hp := hM.i
  have l1 := ok.l1
  have l2 := ok.l2
  have hs := ok.sum
  have hm0 := Int.emod_nonneg m (b := (B.ls.length : Int)) (by omega)
  have hm1 := Int.emod_lt_of_pos m (b := (B.ls.length : Int)) (by omega)
  walk_at "rd"
  refine r_lenL (SqL.of hM.l) ?_
  rw [List.length_map]
  walk_at "rd"
  refine r_sum (SqL.of hM.l) ?_
  walk_at "rd"
  refine r_slL_take (SqL.of hM.l) hm0 fun t H1 nt e1 ht => ?_
  rw [← List.map_take] at ht
  walk_at "rd"
  refine r_sum (SqL.of ht) ?_
  walk_at "rd"
  exact k H1 e1
theorem ok__law_due {f : Addr} {fd : FuncData} (T : Tx K mg) (F : FnP K "_law_due" s__law_due f fd) (d__law_first : Dn P w K mg base CX0 1 "_law_first" ["_law_model_here", "_law_mon"] sp_lfirst) : FnOk P w K mg base CX0 2 f fd ["_law_model_here", "_law_mon"] sp_ldue := by
  have sc : FnScope ["_law_model_here", "_law_mon"] ["_law_model_here", "_law_mon"] (defScope s__law_due) := ⟨rfl, rfl, rfl, by decide +kernel, rfl, by decide +kernel, by decide +kernel⟩
  refine F.ok sc (by rintro vs H Q E ⟨_, _, _, _, rfl, _⟩; rfl) (fun cdv A outer s H vs Q E hr h => ⟨_, PSs.nox ((pss_one (ps_ret (pe_op op_add (pe_fn d__law_first (hr.mono (by decide)) pass0 (pa_cons (pv 0) (pa_cons (pe_op op_add (pv 1) pe_int) pa_nil))) (pe_dget (hu_of hr) (pv 0) pe_str (fun _ _ => rfl)))))), ?_⟩)
  obtain ⟨l, p, B, m, rfl, hM, ok, k⟩ := h
  walk_at "rd"
  refine ⟨l, p, B, m + 1, rfl, hM, ok, fun H1 e1 => ?_⟩
  obtain ⟨ad, kd, lv, kvs, hM1⟩ := hM.keep e1
  have hp := hM1.i
  walk_at "rd"
  exact k H1 e1
theorem ok__law_month {f : Addr} {fd : FuncData} (T : Tx K mg) (F : FnP K "_law_month" s__law_month f fd) (d__law_first : Dn P w K mg base CX0 1 "_law_first" ["_law_model_here", "_law_mon"] sp_lfirst) : FnOk P w K mg base CX0 2 f fd ["_law_model_here", "_law_date"] sp_lmonth := by
  have sc : FnScope ["_law_model_here", "_law_date", "_law_sizes", "_law_mon", "_law_k"] ["_law_model_here", "_law_date"] (defScope s__law_month) := ⟨rfl, rfl, rfl, by decide +kernel, rfl, by decide +kernel, by decide +kernel⟩
  refine F.ok sc (by rintro vs H Q E ⟨_, _, _, _, rfl, _⟩; rfl) (fun cdv A outer s H vs Q E hr h => ⟨_, PSs.nox ((pss_cons (ps_set (i := 2) sc.nd rfl (by first | exact Or.inl rfl | exact Or.inr rfl) (pe_dget (hu_of hr) (pv 0) pe_str (fun _ _ => rfl)))
      (pss_cons (ps_set (i := 3) sc.nd rfl (by first | exact Or.inl rfl | exact Or.inr rfl) (pe_op op_mul (pe_op op_fdiv (pv 1) (pe_callB (c_sumK (K := K) rfl rfl) (by rfl) T.b_sum (by decide +kernel) (pa_cons (pv 2) pa_nil))) (pe_callB (c_lenK (K := K) rfl) (by rfl) T.b_len (by decide +kernel) (pa_cons (pv 2) pa_nil))))
      (pss_cons (ps_for PassesOwn.never rfl (pi_range1 (by rfl) T.b_range (pa_cons (pe_callB (c_lenK (K := K) rfl) (by rfl) T.b_len (by decide +kernel) (pa_cons (pv 2) pa_nil)) pa_nil)) (pg_name (i := 4) sc.nd rfl (by first | exact Or.inl rfl | exact Or.inr rfl)) (pss_one (ps_set (i := 3) sc.nd rfl (by first | exact Or.inl rfl | exact Or.inr rfl) (pe_op op_add (pv 3) (pe_callTy c_int1 (by rfl) T.b_int (by decide +kernel) (pa_cons (pe_cmpR op_le (pe_fn d__law_first (hr.mono (by decide)) pass0 (pa_cons (pv 0) (pa_cons (pe_op op_add (pv 3) pe_int) pa_nil))) (pv 1) (nomark _)) pa_nil))))))
      (pss_one (ps_ret (pv 3))))))), ?_⟩)
  obtain ⟨l, p, B, d, rfl, hM0, ok, k⟩ := h
  obtain ⟨ad, kd, lv, kvs, hM⟩ := id hM0
  have hp := hM.i
  have l1 := ok.l1
  have l2 := ok.l2
  have hs := ok.sum
  have hr0 := Int.emod_nonneg d (b := B.ls.sum) (by omega)
  have hr1 := Int.emod_lt_of_pos d (b := B.ls.sum) (by omega)
  obtain ⟨c1, c2, c3⟩ := cntL_spec ok.l3 hr0 hr1
  walk_at "rd"
  refine r_sum (SqL.of hM.l) ?_
  walk_at "rd"
  refine r_lenL (SqL.of hM.l) ?_
  rw [List.length_map]
  walk_at "rd"
  refine r_lenL (SqL.of hM.l) ?_
  rw [List.length_map]
  walk_at "rd"
  refine r_kForR1 (fun i σ' H' => ∃ y, σ' = [some (.ref p), some (.int d), some (.ref ad), some (.int (d / B.ls.sum * (B.ls.length : Int) + (min i (cntL B.ls (d % B.ls.sum)) : Nat))), y] ∧ Same H H') (by omega) ⟨_, by simp; rfl, Same.refl _⟩ ?_ ?_
  · rintro i σ' H1 hi ⟨y, rfl, e1⟩
    walk_at "rd"
    refine ⟨l, p, B, _, rfl, hM0.keep e1, ok, fun H2 e2 => ?_⟩
    walk_at "rd"
    have hst := law_step ok d (min i (cntL B.ls (d % B.ls.sum))) (Nat.min_le_right _ _)
    refine ⟨some (.int (i : Int)), ?_, e1.trans e2⟩
    · rw [decide_eq_decide.mpr hst]
      have e : d / B.ls.sum * (B.ls.length : Int) + (min i (cntL B.ls (d % B.ls.sum)) : Nat) + (if decide (min i (cntL B.ls (d % B.ls.sum)) < cntL B.ls (d % B.ls.sum)) = true then 1 else 0) = d / B.ls.sum * (B.ls.length : Int) + (min (i + 1) (cntL B.ls (d % B.ls.sum)) : Nat) := by
        simp only [decide_eq_true_eq]
        split <;> omega
      rw [e]
      rfl
  · rintro σ' H1 ⟨y, rfl, e1⟩
    walk_at "rd"
    have e : d / B.ls.sum * (B.ls.length : Int) + (min (B.ls.length : Int).toNat (cntL B.ls (d % B.ls.sum)) : Nat) = monthL B.ls d := by
      unfold monthL
      rw [Int.toNat_natCast, Nat.min_eq_right (by omega)]
    rw [e]
    exact k H1 e1
end
end Wp
set_option Elab.async false
set_option linter.all false
set_option maxRecDepth 100000
set_option maxHeartbeats 4000000
/-! The law's own laying of payments. -/
namespace Wp
open PySem PySem.Spec PyProof.Rows L2
abbrev s__law_settled : Stmt := topS 63
local macro_rules | `(tactic| walk_at "val") => `(tactic| assumption)
local macro_rules | `(tactic| walk_at "rd1") => `(tactic| first
  | with_reducible refine r_seq ?_ | with_reducible refine r_next ?_ | with_reducible refine r_if ?_ | with_reducible refine r_asg ?_ | with_reducible refine r_gname ?_
  | with_reducible refine r_ret ?_ | with_reducible refine r_retN ?_ | with_reducible refine r_drop ?_ | with_reducible refine r_par ?_ | with_reducible refine r_kPar ?_
  | ((with_reducible refine' r_var ?hv ?_); (case hv => exact rfl)) | with_reducible refine r_c ?_ | with_reducible refine r_nil ?_ | with_reducible refine r_cons ?_
  | with_reducible refine r_fn ?_ | with_reducible refine r_cb ?_ | with_reducible refine r_op ?_ | with_reducible refine r_un ?_ | with_reducible refine r_I0 ?_
  | with_reducible refine r_pow5 ?_ | with_reducible refine r_pow6 ?_ | with_reducible refine r_pow7 ?_ | with_reducible refine r_pow9 ?_ | with_reducible refine r_pow18 ?_ | with_reducible refine r_pow20 ?_ | with_reducible refine r_pow30 ?_
  | with_reducible refine r_isN_non ?_ | with_reducible refine r_isN_ref ?_ | with_reducible refine r_isN_int ?_ | with_reducible refine r_isN_str ?_ | with_reducible refine r_isN_bl ?_ | with_reducible refine r_notN_non ?_ | with_reducible refine r_notN_ref ?_ | with_reducible refine r_notN_int ?_ | with_reducible refine r_notN_str ?_ | with_reducible refine r_notN_bl ?_
  | ((with_reducible refine r_I ?hc ?_); (case hc => walk_at "side")) | with_reducible refine r_U ?_
  | with_reducible refine r_eqI ?_ | with_reducible refine r_neI ?_ | with_reducible refine r_eqS ?_ | with_reducible refine r_neS ?_ | with_reducible refine r_eqB ?_ | with_reducible refine r_neB ?_
  | with_reducible refine r_chain ?_ | with_reducible refine r_test ?_ | with_reducible refine r_tB ?_ | with_reducible refine r_kTest ?_ | with_reducible refine r_not ?_
  | with_reducible refine r_and ?_ | with_reducible refine r_or ?_ | with_reducible refine r_tif ?_ | with_reducible refine r_andV ?_ | with_reducible refine r_orV ?_ | with_reducible refine r_notV ?_
  | with_reducible refine r_kAndV ?_ | with_reducible refine r_kOrV ?_ | with_reducible refine r_kNotV ?_
  | with_reducible refine w_T ?_ | with_reducible refine w_F ?_ | with_reducible refine w_NT ?_ | with_reducible refine w_NF ?_
  | with_reducible refine r_tup ?_ | with_reducible refine r_lst ?_ | with_reducible refine r_fld ?_ | with_reducible refine r_prop ?_ | ((with_reducible refine' r_aug ?h1 ?_); (case h1 => exact rfl)) | with_reducible refine r_ipI ?_ | with_reducible refine r_dget ?_ | with_reducible refine r_dput ?_ | with_reducible refine r_bm ?_
  | ((with_reducible refine' r_kDGetS ?h1 ?h2 ?_); (case h1 => assumption); (case h2 => walk_at "val"))
  | ((with_reducible refine' r_kBML ?h1 ?_); (case h1 => assumption))
  | with_reducible refine r_forL ?_ | with_reducible refine r_forR1 ?_ | with_reducible refine r_forR2 ?_ | with_reducible refine r_forT ?_ | with_reducible refine r_lcL ?_ | with_reducible refine r_lcR1 ?_
  | ((with_reducible refine r_kLcG ?hw ?_); (case hw => exact rfl)) | with_reducible refine r_kLcT ?_ | with_reducible refine r_yes ?_
  | with_reducible refine r_pnil ?_ | with_reducible refine r_pcons ?_
  | with_reducible refine r_fnK ?_ | ((with_reducible refine r_kFnK ?hl ?_); (case hl => exact rfl))
  | with_reducible refine r_isi_ii ?_ | with_reducible refine r_isi_ib ?_ | with_reducible refine r_isi_bi ?_ | with_reducible refine r_isi_bb ?_ | with_reducible refine r_isi_ss ?_ | with_reducible refine r_isi_is ?_ | with_reducible refine r_isi_it ?_
  | ((with_reducible refine' r_isi_tt ?h1 ?_); (case h1 => assumption))
  | with_reducible refine r_sfld ?_ | with_reducible refine r_gnil ?_ | with_reducible refine r_gcons ?_
  | ((with_reducible refine' r_gtup ?h1 ?h2 ?_); (case h1 => exact SqT.of (by assumption)); (case h2 => exact rfl))
  | with_reducible refine r_sl ?_ | with_reducible refine r_noPart ?_ | with_reducible refine r_part ?_ | with_reducible refine r_kPart ?_ | with_reducible refine r_m1 ?_ | with_reducible refine r_kM1 ?_ | with_reducible refine r_forS ?_ | with_reducible refine r_lcS ?_ | with_reducible refine r_lcTu ?_ | with_reducible refine r_lcK ?_ | with_reducible refine r_dcL ?_ | with_reducible refine r_dcK ?_ | with_reducible refine r_lc2L ?_ | with_reducible refine r_kLc2TL ?_ | with_reducible refine r_dcEn ?_ | with_reducible refine r_gslc ?_ | with_reducible refine r_lcEn ?_ | with_reducible refine r_forET ?_ | with_reducible refine r_lenD ?_
  | ((with_reducible refine r_kDcG ?hw ?_); (case hw => exact rfl)) | with_reducible refine r_kDcT ?_
  | with_reducible refine r_fldaug ?_ | with_reducible refine r_daug ?_ | with_reducible refine r_rAdd ?_ | with_reducible refine r_rSub ?_ | with_reducible refine r_ddel ?_ | with_reducible refine r_bmF ?_ | with_reducible refine r_dget2 ?_ | with_reducible refine r_listItems ?_ | with_reducible refine r_bm0 ?_ | with_reducible refine r_lc2E ?_ | ((with_reducible refine r_kLc2G ?hw ?_); (case hw => exact rfl)) | with_reducible refine r_kLc2T ?_ | with_reducible refine r_forE ?_ | with_reducible refine r_orT ?_ | with_reducible refine r_din ?_ | with_reducible refine r_augS ?_ | with_reducible refine r_dnotin ?_ | with_reducible refine r_lcIT ?_ | with_reducible refine r_cont ?_ | with_reducible refine r_meth ?_ | with_reducible refine r_frz ?_ | with_reducible refine r_par3 ?_ | with_reducible refine r_kPar3 ?_ | with_reducible refine r_dz ?_ | with_reducible refine r_revL ?_ | with_reducible refine r_star ?_ | with_reducible refine r_int1 ?_ | with_reducible refine r_int1b ?_ | with_reducible refine r_min2 ?_ | with_reducible refine r_max2 ?_ | with_reducible refine r_gsub ?_)
local macro_rules | `(tactic| walk_at "rd") => `(tactic| repeat walk_at "rd1")
local macro_rules | `(tactic| walk_at "side") => `(tactic| first | assumption | exact Or.inr ⟨by decide, by decide⟩ | exact Or.inl ⟨by decide, by decide⟩ | (constructor <;> omega) | omega | decide | (refine Or.inl ⟨?_, ?_⟩ <;> omega) | (refine Or.inr ⟨?_, ?_⟩ <;> omega) | (refine ⟨?_, ?_, ?_⟩ <;> first | decide | omega))
local macro_rules | `(tactic| walk_at "val") => `(tactic| first | exact mv1 | exact mv2 | exact mv3 | exact mv4 | exact mv5 | exact mv6)
def sp_settled (K : PySem.W.Frag) : Sp := fun vs H Q _ => ∃ (l p r : Addr) (B : Bk) (rs : List CR) (e : Int), vs = [.ref p, .ref r] ∧ Mdl l H p B ∧ B.LaidOk ∧ CourAt K H r rs e ∧ CourOk B rs e ∧
  ∀ t H', H t = none → Same H H' → H' t = some (.dT (encPD (settle (rkB B) rs e))) → Q (.ref t) H'
theorem r_listSeq {K : PySem.W.Frag} {H : Hp} {Q : VK} {p : Addr} {xs : List V} (h : SeqV K H p xs) (q : ∀ l H', H l = none → Same H H' → H' l = some (.lst xs) → Q (.ref l) H') : rListOf K [.ref p] H Q := h.elim (fun h => r_listL h q) (fun h => r_listT h q)
def stA (rk : Str → Int) (rs : List CR) (e : Int) (i : Nat) : Ac := if i ≤ rs.length then acOf rk (rs.take i) else (acOf rk rs).pay e (owedC rs)
theorem stA_le {rk : Str → Int} {rs : List CR} {e : Int} {i : Nat} (h : i ≤ rs.length) : stA rk rs e i = acOf rk (rs.take i) := if_pos h
theorem stA_end {rk : Str → Int} {rs : List CR} {e : Int} : stA rk rs e (rs.length + 1) = (acOf rk rs).pay e (owedC rs) := if_neg (by omega)
theorem sumO_perm {S T : List Op} (p : S.Perm T) : sumO S = sumO T := perm_sum (p.map _)
section
variable {P : Program} {w : World} {K : PySem.W.Frag} {mg : Str → Option Value} {base : Heap}
theorem ok__law_settled {f : Addr} {fd : FuncData} (T : Tx K mg) (F : FnP K "_law_settled" s__law_settled f fd) : FnOk P w K mg base CX0 3 f fd ["_law_model_here", "_law_route"] (sp_settled K) := by
  have sc : FnScope ["_law_model_here", "_law_route", "_law_open_rows", "_law_found", "_law_at", "_law_row", "_law_cents_here", "_law_later", "_law_rank", "_law_spot", "_law_many", "_law_part", "_law_one_of"] ["_law_model_here", "_law_route"] (defScope s__law_settled) := ⟨rfl, rfl, rfl, by decide +kernel, rfl, by decide +kernel, by decide +kernel⟩
  refine F.ok sc (by rintro vs H Q E ⟨_, _, _, _, _, _, rfl, _⟩; rfl) (fun cdv A outer s H vs Q E hr h => ⟨_, PSs.nox ((pss_cons (ps_par (i := 2) (j := 3) (by rfl) sc.nd rfl rfl (by decide) rfl rfl (pa_cons (pe_lst pa_nil) (pa_cons pe_dnewT pa_nil)) (by rfl))
      (pss_cons (ps_for PassesOwn.never rfl (pi_enumK (K := K) rfl (by rfl) T.b_enumerate (pa_cons (pe_op op_cat (pe_callTy (c_listK (K := K) rfl) (by rfl) T.b_list (by decide +kernel) (pa_cons (pe_ix (ix_tupK (K := K) rfl) (pv 1) pe_int (fun _ _ => rfl)) pa_nil)) (pe_lst (pa_cons (pe_tup (pa_cons pe_str (pa_cons (pe_ix (ix_tupK (K := K) rfl) (pv 1) pe_int (fun _ _ => rfl)) pa_nil))) pa_nil))) pa_nil)) (pg_tupK (K := K) (n := 2) rfl rfl (pgs_cons (pg_name (i := 4) sc.nd rfl (by first | exact Or.inl rfl | exact Or.inr rfl)) (pgs_cons (pg_name (i := 5) sc.nd rfl (by first | exact Or.inl rfl | exact Or.inr rfl)) pgs_nil))) (Evl.pss_cut (ps_if (pt_cmpR op_eq (pe_ix (ix_tupK (K := K) rfl) (pv 5) pe_int (fun _ _ => rfl)) pe_str (nomark _)) (pss_cons (ps_expr (pe_bmK (K := K) rfl PySem.F.plainAttrs_list PySem.F.slot_list_append PySem.F.type_list_append mt_append (pv 2) (pa_cons (pe_tup (pa_cons (pe_ifExp (pt_cmpR op_isN1 (pe_dget (hu_of hr) (pv 0) pe_str (fun _ _ => rfl)) pe_non (nomark _)) pe_int (pe_tix (K := K) rfl (pe_dget (hu_of hr) (pv 0) pe_str (fun _ _ => rfl)) (pa_cons (pe_ix (ix_tupK (K := K) rfl) (pv 5) pe_int (fun _ _ => rfl)) pa_nil))) (pa_cons (pv 4) (pa_cons (pe_ix (ix_tupK (K := K) rfl) (pv 5) pe_int (fun _ _ => rfl)) pa_nil)))) pa_nil)))
      (pss_one ps_continue)) pss_nil)
      (Evl.pss_cut (ps_set (i := 6) sc.nd rfl (by first | exact Or.inl rfl | exact Or.inr rfl) (pe_ifExp (pt_cmpR op_eq (pe_ix (ix_tupK (K := K) rfl) (pv 5) pe_int (fun _ _ => rfl)) pe_str (nomark _)) (pe_callB (c_sumK (K := K) rfl rfl) (by rfl) T.b_sum (by decide +kernel) (pa_cons (pe_lc (own := [("_law_one_of", 12)]) (by rfl) sc.nd (pi_listK (K := K) rfl (pv 2)) (blkOk_by (own := [("_law_one_of", 12)]) (N := ["_law_model_here", "_law_route", "_law_open_rows", "_law_found", "_law_at", "_law_row", "_law_cents_here", "_law_later", "_law_rank", "_law_spot", "_law_many", "_law_part", "_law_one_of"]) (sc := defScope s__law_settled) (by decide +kernel)) (fun _ _ _ _ _ => (pg_name (i := 12) sc.nd rfl (by first | exact Or.inl rfl | exact Or.inr rfl))) (fun _ _ _ _ _ => pts_nil) (fun _ _ _ _ _ => (pe_ix (ix_tupK (K := K) rfl) (pv 12) pe_int (fun _ _ => rfl)))) pa_nil)) (pe_ix (ix_tupK (K := K) rfl) (pv 5) pe_int (fun _ _ => rfl))))
      (pss_cons (ps_set (i := 7) sc.nd rfl (by first | exact Or.inl rfl | exact Or.inr rfl) (pe_lst pa_nil))
      (pss_cons (ps_for PassesOwn.never rfl (pi_listK (K := K) rfl (pe_callB (c_sortD (K := K) rfl hr) (by rfl) T.b_sorted (by decide +kernel) (pa_cons (pv 2) pa_nil))) (pg_tupK (K := K) (n := 3) rfl rfl (pgs_cons (pg_name (i := 8) sc.nd rfl (by first | exact Or.inl rfl | exact Or.inr rfl)) (pgs_cons (pg_name (i := 9) sc.nd rfl (by first | exact Or.inl rfl | exact Or.inr rfl)) (pgs_cons (pg_name (i := 10) sc.nd rfl (by first | exact Or.inl rfl | exact Or.inr rfl)) pgs_nil)))) (pss_cons (ps_set (i := 11) sc.nd rfl (by first | exact Or.inl rfl | exact Or.inr rfl) (pe_callB (c_min2 rfl) (by rfl) T.b_min (by decide +kernel) (pa_cons (pv 6) (pa_cons (pv 10) pa_nil))))
      (Evl.pss_cut (ps_if (pt_cmpR op_gt (pv 11) pe_int (nomark _)) (pss_one (ps_dput (hu_of hr) (pv 3) (pe_tup (pa_cons (pv 9) (pa_cons (pe_ix (ix_tupK (K := K) rfl) (pv 5) pe_int (fun _ _ => rfl)) pa_nil))) (pe_op op_add (pe_dget2 (hu_of hr) (pv 3) (pe_tup (pa_cons (pv 9) (pa_cons (pe_ix (ix_tupK (K := K) rfl) (pv 5) pe_int (fun _ _ => rfl)) pa_nil))) pe_int ⟨by rfl, by rfl, by rfl, by rfl⟩) (pv 11)) rfl)) pss_nil)
      (pss_cons (ps_set (i := 6) sc.nd rfl (by first | exact Or.inl rfl | exact Or.inr rfl) (pe_op op_sub (pv 6) (pv 11)))
      (pss_one (ps_set (i := 7) sc.nd rfl (by first | exact Or.inl rfl | exact Or.inr rfl) (pe_op op_cat (pv 7) (pe_op op_rep (pe_lst (pa_cons (pe_tup (pa_cons (pv 8) (pa_cons (pv 9) (pa_cons (pe_op op_sub (pv 10) (pv 11)) pa_nil)))) pa_nil)) (pe_callTy c_int1 (by rfl) T.b_int (by decide +kernel) (pa_cons (pe_cmpR op_lt (pv 11) (pv 10) (nomark _)) pa_nil))))))))))
      (pss_one (ps_set (i := 2) sc.nd rfl (by first | exact Or.inl rfl | exact Or.inr rfl) (pv 7))))))))
      (pss_one (ps_ret (pv 3)))))), ?_⟩)
  obtain ⟨lg, p, r, B, rs, e, rfl, hM0, lok, ⟨l, ws, hr0, hl, hR⟩, co, k⟩ := h
  have hlen := hR.len
  have hn := co.n
  have hv := co.v
  have he := co.e
  walk_at "rd"
  refine r_kLst fun ol H1 nol e1 hol => ?_
  walk_at "rd"
  refine r_dnewT fun fo H2 nfo e2 hfo => ?_
  have e12 := e1.trans e2
  have nfo0 := e1.free nfo
  walk_at "rd"
  refine r_ixT (SqT.of (e12 _ _ hr0)) (at_get (n := 0) rfl rfl) ?_
  walk_at "rd"
  refine r_listSeq (hl.same e12) fun l2 H3 nl2 e3 hl2 => ?_
  walk_at "rd"
  refine r_ixT (SqT.of (e3 _ _ (e12 _ _ hr0))) (at_get (n := 1) rfl rfl) ?_
  walk_at "rd"
  refine r_kTup fun te H4 nte e4 hte => ?_
  walk_at "rd"
  refine r_kLst fun l3 H5 nl3 e5 hl3 => ?_
  refine r_cat (e5 _ _ (e4 _ _ hl2)) hl3 (by simp; omega) fun a H6 na e6 ha => ?_
  have e26 := ((e3.trans e4).trans e5).trans e6
  have hol6 := e26 _ _ (e2 _ _ hol)
  have hfo6 := e26 _ _ hfo
  have hte6 := e6 _ _ (e5 _ _ hte)
  have noa : ol ≠ a := by
    have h5 := e5 _ _ (e4 _ _ (e3 _ _ (e2 _ _ hol)))
    exact ne_of_none h5 na
  have nfoa : fo ≠ a := ne_of_none (e5 _ _ (e4 _ _ (e3 _ _ hfo))) na
  refine r_kForE (xs := ws ++ [.ref te]) (fun i σ' H' => ∃ (ol : Addr) (os : List V) (S0 : List Op) (y4 y5 y6 y7 y8 y9 y10 y11 y12 : Option V), σ' = [some (.ref p), some (.ref r), some (.ref ol), some (.ref fo), y4, y5, y6, y7, y8, y9, y10, y11, y12] ∧ Same H H' ∧ H' a = some (.lst (ws ++ [.ref te])) ∧ H' te = some (.tup [.str "end", .int e]) ∧
      H' fo = some (.dT (encPD (stA (rkB B) rs e i).P)) ∧ H' ol = some (.lst os) ∧ TAt H' os S0 ∧ S0.Perm (stA (rkB B) rs e i).S ∧ H ol = none ∧ ol ≠ a)
    (SqL.of ha) ⟨ol, [], [], _, _, _, _, _, _, _, _, _, rfl, e12.trans e26, ha, hte6, hfo6, hol6, .nil, .nil, nol, noa⟩ (fun i σ' H' ⟨_, _, _, _, _, _, _, _, _, _, _, _, _, _, h, _⟩ => SqL.of h) ?_ ?_
  · rintro i x T' σ' H7 H8 hx ⟨ol, os, S0, y4, y5, y6, y7, y8, y9, y10, y11, y12, rfl, sm7, ha7, hte7, hfo7, hol7, hT7, pm, nol, noa⟩ nT e8 hT'
    have sm8 := sm7.trans e8
    have ha8 := e8 _ _ ha7
    have hte8 := e8 _ _ hte7
    have hfo8 := e8 _ _ hfo7
    have hol8 := e8 _ _ hol7
    have hT8 := hT7.same e8
    have hi : i ≤ rs.length := by
      have := (List.getElem?_eq_some_iff.mp hx).1
      rw [List.length_append, List.length_singleton] at this
      omega
    have hti : (rs.take i).length = i := by rw [List.length_take]; omega
    obtain ⟨sok, ssum⟩ := acOf_ok (rkB B) _ rfl (hv.take i)
    rw [hti] at sok
    have eA : stA (rkB B) rs e i = acOf (rkB B) (rs.take i) := stA_le hi
    rw [eA] at pm hfo8
    have hplen := acOf_len (rkB B) (rs.take i)
    rw [hti] at hplen
    have hii : i * i ≤ 40000 := Nat.le_trans (Nat.mul_le_mul (show i ≤ 200 by omega) (show i ≤ 200 by omega)) (by decide)
    have hol_len : os.length ≤ i := by
      have h1 := hT8.len
      have h2 := pm.length_eq
      omega
    have hxx : (∃ tr r, x = .ref tr ∧ rs[i]? = some r ∧ H8 tr = some (.tup (encCR r))) ∨ (x = .ref te ∧ i = rs.length) := by
      by_cases hlast : i = rs.length
      · rw [hlast, List.getElem?_append_right (by omega), hlen, Nat.sub_self] at hx
        exact .inr ⟨(Option.some.inj hx).symm, hlast⟩
      · rw [List.getElem?_append_left (by omega)] at hx
        obtain ⟨tr, r, h1, h2, h3⟩ := hR.get hx
        exact .inl ⟨tr, r, h1, h2, sm8 _ _ h3⟩
    have hM8 := hM0.keep sm8
    obtain ⟨ad, kd, lv, kvs, hM⟩ := id hM8
    have hpM := hM.i
    walk_at "rd"
    refine r_cut (fun σ' H' => ∃ (tr : Addr), σ' = [some (.ref p), some (.ref r), some (.ref ol), some (.ref fo), some (.int (i : Nat)), some (.ref tr), y6, y7, y8, y9, y10, y11, y12] ∧ H8 = H' ∧ ((∃ d c, rs[i]? = some (.pay d c) ∧ H8 tr = some (.tup [.str "pay", .int d, .int c])) ∨ (tr = te ∧ i = rs.length))) ?_ ?_
    · rcases hxx with ⟨tr, rr, rfl, hr, htr⟩ | ⟨rfl, hlast⟩
      · cases rr with
        | buy d z c =>
          have htr : H8 tr = some (.tup [.str "buy", .int d, .str z, .int c]) := htr
          have hzn : z ∈ B.ks.map (·.1) := (hv i _ hr).2.1
          walk_at "rd"
          refine r_ixT (SqT.of htr) (at_get (n := 0) rfl rfl) ?_
          walk_at "rd"
          refine w_dec (fun _ => ?_) (fun h => absurd rfl h)
          walk_at "rd"
          have hd := hM.d
          have hi2 := (List.getElem?_eq_some_iff.mp hr).1
          have eA1 : stA (rkB B) rs e (i + 1) = ⟨insO (rkB B z, (i : Nat), c) (acOf (rkB B) (rs.take i)).S, (acOf (rkB B) (rs.take i)).P⟩ := by
            rw [stA_le (by omega), take_more hr, acOf_snoc, hti]
            rfl
          have pm1 : (S0 ++ [(rkB B z, ((i : Nat) : Int), c)]).Perm (stA (rkB B) rs e (i + 1)).S := by
            rw [eA1]
            exact (List.perm_append_singleton _ _).trans ((pm.cons _).trans (insO_perm _ _).symm)
          cases hBl : B.laid with
          | none =>
            rw [hBl] at hd
            obtain rfl : lv = .non := hd
            have rk0 := rkB_none hBl z
            walk_at "rd"
            refine r_ixT (SqT.of htr) (at_get (n := 3) rfl rfl) ?_
            walk_at "rd"
            refine r_kTup fun t H9 nt e9 ht => ?_
            walk_at "rd"
            refine r_append (e9 _ _ hol8) (by omega) fun H10 b10 h10 => ?_
            walk_at "rd"
            have kp : ∀ u xs, H9 u = some (.tup xs) → H10 u = some (.tup xs) := fun u xs hu => b10 _ _ hu (ne_of hu (e9 _ _ hol8) (by intro z; cases z))
            have nd8 : fo ≠ ol := ne_of hfo8 hol8 (by intro z; cases z)
            refine ⟨ol, _, _, _, _, _, _, _, _, _, _, _, rfl, Same.mut (sm8.trans e9) b10 nol, b10 _ _ (e9 _ _ ha8) noa.symm, kp _ _ (e9 _ _ hte8), ?_, h10, TAt.app (hT8.keep fun u xs hu => kp _ _ (e9 _ _ hu)) (.cons (r := (rkB B z, ((i : Nat) : Int), c)) ?_ .nil), pm1, nol, noa⟩
            · rw [eA1]
              exact b10 _ _ (e9 _ _ hfo8) nd8
            · rw [rk0]
              exact kp _ _ ht
          | some ns =>
            rw [hBl] at hd
            obtain ⟨tn, rfl, htn⟩ := hd
            have rk0 := rkB_some hBl z
            have hzn2 : z ∈ ns := (lok ns hBl).mem_iff.mpr hzn
            walk_at "rd"
            refine r_kBMF htn ?_
            walk_at "rd"
            refine r_ixT (SqT.of htr) (at_get (n := 2) rfl rfl) ?_
            walk_at "rd"
            refine r_tix htn.sq hzn2 ?_
            walk_at "rd"
            refine r_ixT (SqT.of htr) (at_get (n := 3) rfl rfl) ?_
            walk_at "rd"
            refine r_kTup fun t H9 nt e9 ht => ?_
            walk_at "rd"
            refine r_append (e9 _ _ hol8) (by omega) fun H10 b10 h10 => ?_
            walk_at "rd"
            have kp : ∀ u xs, H9 u = some (.tup xs) → H10 u = some (.tup xs) := fun u xs hu => b10 _ _ hu (ne_of hu (e9 _ _ hol8) (by intro z; cases z))
            have nd8 : fo ≠ ol := ne_of hfo8 hol8 (by intro z; cases z)
            refine ⟨ol, _, _, _, _, _, _, _, _, _, _, _, rfl, Same.mut (sm8.trans e9) b10 nol, b10 _ _ (e9 _ _ ha8) noa.symm, kp _ _ (e9 _ _ hte8), ?_, h10, TAt.app (hT8.keep fun u xs hu => kp _ _ (e9 _ _ hu)) (.cons (r := (rkB B z, ((i : Nat) : Int), c)) ?_ .nil), pm1, nol, noa⟩
            · rw [eA1]
              exact b10 _ _ (e9 _ _ hfo8) nd8
            · rw [rk0]
              exact kp _ _ ht
        | pay d c =>
          have htr : H8 tr = some (.tup [.str "pay", .int d, .int c]) := htr
          walk_at "rd"
          refine r_ixT (SqT.of htr) (at_get (n := 0) rfl rfl) ?_
          walk_at "rd"
          refine w_dec (fun h => absurd h (by decide +kernel)) (fun _ => ?_)
          walk_at "rd"
          exact ⟨tr, rfl, rfl, .inl ⟨d, c, hr, htr⟩⟩
      · walk_at "rd"
        refine r_ixT (SqT.of hte8) (at_get (n := 0) rfl rfl) ?_
        walk_at "rd"
        refine w_dec (fun h => absurd h (by decide +kernel)) (fun _ => ?_)
        walk_at "rd"
        exact ⟨te, rfl, rfl, .inr ⟨rfl, hlast⟩⟩
    rintro σ' H' ⟨tr, rfl, rfl, hrow⟩
    refine r_cut (fun σ' H' => ∃ (xr : List V) (d c : Int), σ' = [some (.ref p), some (.ref r), some (.ref ol), some (.ref fo), some (.int (i : Nat)), some (.ref tr), some (.int c), y7, y8, y9, y10, y11, y12] ∧ Same H8 H' ∧ H8 tr = some (.tup xr) ∧ xr[1]? = some (.int d) ∧ 0 ≤ c ∧ c ≤ sumO (acOf (rkB B) (rs.take i)).S ∧ stA (rkB B) rs e (i + 1) = (acOf (rkB B) (rs.take i)).pay d c) ?_ ?_
    · rcases hrow with ⟨d, c, hr, htr⟩ | ⟨rfl, hlast⟩
      · have hok := hv i _ hr
        have hi2 := (List.getElem?_eq_some_iff.mp hr).1
        obtain ⟨h1, h2, h3⟩ := hok
        walk_at "rd"
        refine r_ixT (SqT.of htr) (at_get (n := 0) rfl rfl) ?_
        walk_at "rd"
        refine w_dec (fun h => absurd h (by decide +kernel)) (fun _ => ?_)
        walk_at "rd"
        refine r_ixT (SqT.of htr) (at_get (n := 2) rfl rfl) ?_
        walk_at "rd"
        refine ⟨_, d, c, rfl, Same.refl _, htr, rfl, by omega, by rw [ssum]; exact h3, ?_⟩
        rw [stA_le (by omega), take_more hr, acOf_snoc]
        rfl
      · subst hlast
        walk_at "rd"
        refine r_ixT (SqT.of hte8) (at_get (n := 0) rfl rfl) ?_
        walk_at "rd"
        refine w_dec (fun _ => ?_) (fun h => absurd rfl h)
        walk_at "rd"
        refine r_kLcL (xs := os) (fun Da i H' => Same H8 H' ∧ H' Da = some (.lst ((S0.take i).map fun o => V.int o.2.2))) (SqL.of hol8) (fun Da H' _ e h => ⟨e, h⟩) (fun Da i H' h => SqL.same h.1 (SqL.of hol8)) ?_ ?_
        · rintro Da j x H' hD hx ⟨e9, hDa⟩
          obtain ⟨t, o, rfl, ho, hto⟩ := hT8.get hx
          have hjl := (List.getElem?_eq_some_iff.mp hx).1
          have hto9 := e9 _ _ hto
          walk_at "rd"
          refine r_ixT (SqT.of hto9) (at_get (n := 2) rfl rfl) ?_
          refine r_kLcE hDa (by rw [List.length_map, List.length_take]; omega) fun H9 b9 h9 => ⟨Same.mut e9 b9 hD, ?_⟩
          rw [take_more ho, List.map_append]
          exact h9
        · rintro Da H' hD ⟨e9, hDa⟩
          rw [hT8.len, List.take_length] at hDa
          have hDa : H' Da = some (.lst ((S0.map (·.2.2)).map V.int)) := by rw [hDa, List.map_map]; rfl
          walk_at "rd"
          refine r_sum (SqL.of hDa) ?_
          walk_at "rd"
          rw [List.take_length] at ssum pm sok ⊢
          have hs : (S0.map (·.2.2)).sum = owedC rs := by
            have := sumO_perm pm
            rw [← ssum, ← this]
            rfl
          rw [hs]
          have := sumO_nonneg sok.pos
          exact ⟨_, e, owedC rs, rfl, e9, hte8, rfl, by omega, by omega, stA_end⟩
    rintro σ' H9 ⟨xr, d, c, rfl, e9, htr, hx1, c0, c1, eA1⟩
    have nd8 : fo ≠ ol := ne_of hfo8 hol8 (by intro z; cases z)
    walk_at "rd"
    refine r_kLst fun lt H10 nlt e10 hlt => ?_
    have e810 := e9.trans e10
    walk_at "rd"
    refine r_sortO (.inl (SqL.of (e810 _ _ hol8))) (hT8.same e810) pm sok.asc (by omega) fun sl ss H11 nsl e11 hsl hS11 => ?_
    have e811 := e810.trans e11
    have hssl := hS11.len
    have nlt0 : H lt = none := (sm8.trans e9).free nlt
    have nfo0' := nfo0
    refine r_kForL (xs := ss) (fun j σ' H' => ∃ (lt : Addr) (lo : List V) (y8 y9 y10 y11 y12 : Option V), σ' = [some (.ref p), some (.ref r), some (.ref ol), some (.ref fo), some (.int (i : Nat)), some (.ref tr), some (.int (((acOf (rkB B) (rs.take i)).S.take j).foldl (stepL d) ((acOf (rkB B) (rs.take i)).P, [], c)).2.2), some (.ref lt), y8, y9, y10, y11, y12] ∧ Same H H' ∧ H' a = some (.lst (ws ++ [.ref te])) ∧ H' te = some (.tup [.str "end", .int e]) ∧ H' tr = some (.tup xr) ∧
        H' sl = some (.lst ss) ∧ TAt H' ss (acOf (rkB B) (rs.take i)).S ∧ H' fo = some (.dT (encPD (((acOf (rkB B) (rs.take i)).S.take j).foldl (stepL d) ((acOf (rkB B) (rs.take i)).P, [], c)).1)) ∧ H' lt = some (.lst lo) ∧ TAt H' lo (((acOf (rkB B) (rs.take i)).S.take j).foldl (stepL d) ((acOf (rkB B) (rs.take i)).P, [], c)).2.1 ∧ H lt = none ∧ lt ≠ a ∧ lt ≠ sl)
      (SqL.of hsl) ⟨lt, [], _, _, _, _, _, rfl, sm8.trans e811, e811 _ _ ha8, e811 _ _ hte8, e811 _ _ htr, hsl, hS11, e811 _ _ hfo8, e11 _ _ hlt, .nil, nlt0, (ne_of_none (e9 _ _ ha8) nlt).symm, ne_of_none hlt nsl⟩
      (fun j σ' H' ⟨_, _, _, _, _, _, _, _, _, _, _, _, h, _⟩ => SqL.of h) ?_ ?_
    · rintro j x σ' H12 hx ⟨lt, lo, y8, y9, y10, y11, y12, rfl, sm12, ha12, hte12, htr12, hsl12, hS12, hfo12, hlt12, hT12, nlt, nla, nls⟩
      obtain ⟨t, o, rfl, ho, hto⟩ := hS12.get hx
      have hsl := stepL_len d ((acOf (rkB B) (rs.take i)).S.take j) ((acOf (rkB B) (rs.take i)).P, [], c)
      have hX1 : ((acOf (rkB B) (rs.take i)).S.take (j + 1)).foldl (stepL d) ((acOf (rkB B) (rs.take i)).P, [], c) = stepL d (((acOf (rkB B) (rs.take i)).S.take j).foldl (stepL d) ((acOf (rkB B) (rs.take i)).P, [], c)) o := by
        rw [take_more ho, List.foldl_append]
        rfl
      rw [hX1]
      revert hsl hfo12 hT12
      generalize ((acOf (rkB B) (rs.take i)).S.take j).foldl (stepL d) ((acOf (rkB B) (rs.take i)).P, [], c) = X
      rintro hfo12 hT12 hsl
      obtain ⟨hl1, hl2⟩ := hsl
      rw [List.length_take] at hl1 hl2
      dsimp only at hl1 hl2
      rw [List.length_nil] at hl1
      have hlo := hT12.len
      have nfl : fo ≠ lt := ne_of hfo12 hlt12 (by intro z; cases z)
      have nfs : fo ≠ sl := ne_of hfo12 hsl12 (by intro z; cases z)
      walk_at "rd"
      refine r_cut (fun σ' H' => σ' = [some (.ref p), some (.ref r), some (.ref ol), some (.ref fo), some (.int (i : Nat)), some (.ref tr), some (.int X.2.2), some (.ref lt), some (.int o.1), some (.int o.2.1), some (.int o.2.2), some (.int (min X.2.2 o.2.2)), y12] ∧ Same H H' ∧ H' a = some (.lst (ws ++ [.ref te])) ∧ H' te = some (.tup [.str "end", .int e]) ∧ H' tr = some (.tup xr) ∧
        H' sl = some (.lst ss) ∧ TAt H' ss (acOf (rkB B) (rs.take i)).S ∧ H' fo = some (.dT (encPD (stepL d X o).1)) ∧ H' lt = some (.lst lo) ∧ TAt H' lo X.2.1) ?_ ?_
      · walk_at "rd"
        refine w_dec (fun g => ?_) (fun g => ?_)
        · walk_at "rd"
          refine r_kDGet2T hfo12 ?_
          walk_at "rd"
          refine r_ixT (SqT.of htr12) (at_get (n := 1) rfl hx1) ?_
          walk_at "rd"
          refine r_kTup fun t1 H13 nt1 e13 ht1 => ?_
          walk_at "rd"
          refine r_kDGet2zT (e13 _ _ hfo12) ht1 ?_
          walk_at "rd"
          refine r_ixT (SqT.of (e13 _ _ htr12)) (at_get (n := 1) rfl hx1) ?_
          walk_at "rd"
          refine r_kTup fun t2 H14 nt2 e14 ht2 => ?_
          have e1214 := e13.trans e14
          have hfo14 := e1214 _ _ hfo12
          refine r_kDPutP hfo14 ht2 (by omega) fun H15 b15 p15 => ?_
          have kp : ∀ u xs, H12 u = some (.tup xs) → H15 u = some (.tup xs) := fun u xs hu => b15 _ _ (e1214 _ _ hu) (ne_of (e1214 _ _ hu) hfo14 (by intro z; cases z))
          refine ⟨rfl, Same.mut (sm12.trans e1214) b15 nfo0, b15 _ _ (e1214 _ _ ha12) nfoa.symm, kp _ _ hte12, kp _ _ htr12, b15 _ _ (e1214 _ _ hsl12) nfs.symm, hS12.keep kp, ?_, b15 _ _ (e1214 _ _ hlt12) nfl.symm, hT12.keep kp⟩
          show _ = some (HO.dT (encPD (if 0 < min X.2.2 o.2.2 then addP X.1 (o.2.1, d) (min X.2.2 o.2.2) else X.1)))
          rw [if_pos g]
          exact p15
        · walk_at "rd"
          refine ⟨rfl, sm12, ha12, hte12, htr12, hsl12, hS12, ?_, hlt12, hT12⟩
          show _ = some (HO.dT (encPD (if 0 < min X.2.2 o.2.2 then addP X.1 (o.2.1, d) (min X.2.2 o.2.2) else X.1)))
          rw [if_neg g]
          exact hfo12
      · rintro σ' H13 ⟨rfl, sm13, ha13, hte13, htr13, hsl13, hS13, hfo13, hlt13, hT13⟩
        walk_at "rd"
        refine r_kTup fun t1 H14 nt1 e14 ht1 => ?_
        walk_at "rd"
        refine r_kLst fun l1 H15 nl1 e15 hl1' => ?_
        walk_at "rd"
        refine r_rep hl1' (by split <;> omega) (by split <;> omega) (by simp) fun l2' H16 nl2' e16 hl2' => ?_
        have e1316 := (e14.trans e15).trans e16
        have hrep : (List.replicate (if decide (min X.2.2 o.2.2 < o.2.2) = true then (1 : Int) else 0).toNat [V.ref t1]).flatten = if min X.2.2 o.2.2 < o.2.2 then [V.ref t1] else [] := by
          by_cases g : min X.2.2 o.2.2 < o.2.2
          · rw [decide_eq_true g, if_pos rfl, if_pos g]; rfl
          · rw [decide_eq_false g, if_neg (by simp), if_neg g]; rfl
        rw [hrep] at hl2'
        refine r_cat (e1316 _ _ hlt13) hl2' (by split <;> simp <;> omega) fun l3' H17 nl3' e17 hl3' => ?_
        have e1317 := e1316.trans e17
        walk_at "rd"
        refine ⟨l3', _, _, _, _, _, _, rfl, sm13.trans e1317, e1317 _ _ ha13, e1317 _ _ hte13, e1317 _ _ htr13, e1317 _ _ hsl13, hS13.same e1317, e1317 _ _ hfo13, hl3', ?_, (sm13.trans e1316).free nl3', (ne_of_none (e1316 _ _ ha13) nl3').symm, (ne_of_none (e1316 _ _ hsl13) nl3').symm⟩
        refine TAt.app (hT13.same e1317) ?_
        by_cases g : min X.2.2 o.2.2 < o.2.2
        · rw [if_pos g, if_pos g]
          exact .cons (e17 _ _ (e16 _ _ (e15 _ _ ht1))) .nil
        · rw [if_neg g, if_neg g]
          exact .nil
    · rintro σ' H12 ⟨lt, lo, y8, y9, y10, y11, y12, rfl, sm12, ha12, hte12, htr12, hsl12, hS12, hfo12, hlt12, hT12, nlt, nla, nls⟩
      obtain ⟨s1, s2⟩ := stepL_pay d (acOf (rkB B) (rs.take i)).S (acOf (rkB B) (rs.take i)).P [] c sok.pos c0
      rw [hssl, List.take_length] at hfo12 hT12 ⊢
      rw [s1] at hfo12
      rw [s2, List.nil_append] at hT12
      walk_at "rd"
      refine ⟨lt, lo, _, _, _, _, _, _, _, _, _, _, rfl, sm12, ha12, hte12, ?_, hlt12, hT12, ?_, nlt, nla⟩
      · rw [eA1]; exact hfo12
      · rw [eA1]; exact .refl _
  · rintro σ' H7 ⟨ol, os, S0, y4, y5, y6, y7, y8, y9, y10, y11, y12, rfl, sm7, ha7, hte7, hfo7, hol7, hT7, pm, nol, noa⟩
    rw [List.length_append, List.length_singleton, hlen, stA_end] at hfo7
    walk_at "rd"
    exact k fo H7 nfo0 sm7 hfo7
end
end Wp
set_option Elab.async false
set_option linter.all false
set_option maxRecDepth 100000
set_option maxHeartbeats 4000000
/-! The law's own statements and interest. -/
namespace Wp
open PySem PySem.Spec PyProof.Rows L2
abbrev s__law_bought : Stmt := topS 64
abbrev s__law_settled_by : Stmt := topS 65
abbrev s__law_is_whole : Stmt := topS 66
abbrev s__law_is_spared : Stmt := topS 67
local macro_rules | `(tactic| walk_at "val") => `(tactic| assumption)
local macro_rules | `(tactic| walk_at "rd1") => `(tactic| first
  | with_reducible refine r_seq ?_ | with_reducible refine r_next ?_ | with_reducible refine r_if ?_ | with_reducible refine r_asg ?_ | with_reducible refine r_gname ?_
  | with_reducible refine r_ret ?_ | with_reducible refine r_retN ?_ | with_reducible refine r_drop ?_ | with_reducible refine r_par ?_ | with_reducible refine r_kPar ?_
  | ((with_reducible refine' r_var ?hv ?_); (case hv => exact rfl)) | with_reducible refine r_c ?_ | with_reducible refine r_nil ?_ | with_reducible refine r_cons ?_
  | with_reducible refine r_fn ?_ | with_reducible refine r_cb ?_ | with_reducible refine r_op ?_ | with_reducible refine r_un ?_ | with_reducible refine r_I0 ?_
  | with_reducible refine r_pow5 ?_ | with_reducible refine r_pow6 ?_ | with_reducible refine r_pow7 ?_ | with_reducible refine r_pow9 ?_ | with_reducible refine r_pow18 ?_ | with_reducible refine r_pow20 ?_ | with_reducible refine r_pow30 ?_
  | with_reducible refine r_isN_non ?_ | with_reducible refine r_isN_ref ?_ | with_reducible refine r_isN_int ?_ | with_reducible refine r_isN_str ?_ | with_reducible refine r_isN_bl ?_ | with_reducible refine r_notN_non ?_ | with_reducible refine r_notN_ref ?_ | with_reducible refine r_notN_int ?_ | with_reducible refine r_notN_str ?_ | with_reducible refine r_notN_bl ?_
  | ((with_reducible refine r_I ?hc ?_); (case hc => walk_at "side")) | with_reducible refine r_U ?_
  | with_reducible refine r_eqI ?_ | with_reducible refine r_neI ?_ | with_reducible refine r_eqS ?_ | with_reducible refine r_neS ?_ | with_reducible refine r_eqB ?_ | with_reducible refine r_neB ?_
  | with_reducible refine r_chain ?_ | with_reducible refine r_test ?_ | with_reducible refine r_tB ?_ | with_reducible refine r_kTest ?_ | with_reducible refine r_not ?_
  | with_reducible refine r_and ?_ | with_reducible refine r_or ?_ | with_reducible refine r_tif ?_ | with_reducible refine r_andV ?_ | with_reducible refine r_orV ?_ | with_reducible refine r_notV ?_
  | with_reducible refine r_kAndV ?_ | with_reducible refine r_kOrV ?_ | with_reducible refine r_kNotV ?_
  | with_reducible refine w_T ?_ | with_reducible refine w_F ?_ | with_reducible refine w_NT ?_ | with_reducible refine w_NF ?_
  | with_reducible refine r_tup ?_ | with_reducible refine r_lst ?_ | with_reducible refine r_fld ?_ | with_reducible refine r_prop ?_ | ((with_reducible refine' r_aug ?h1 ?_); (case h1 => exact rfl)) | with_reducible refine r_ipI ?_ | with_reducible refine r_dget ?_ | with_reducible refine r_dput ?_ | with_reducible refine r_bm ?_
  | ((with_reducible refine' r_kDGetS ?h1 ?h2 ?_); (case h1 => assumption); (case h2 => walk_at "val"))
  | ((with_reducible refine' r_kBML ?h1 ?_); (case h1 => assumption))
  | with_reducible refine r_forL ?_ | with_reducible refine r_forR1 ?_ | with_reducible refine r_forR2 ?_ | with_reducible refine r_forT ?_ | with_reducible refine r_lcL ?_ | with_reducible refine r_lcR1 ?_
  | ((with_reducible refine r_kLcG ?hw ?_); (case hw => exact rfl)) | with_reducible refine r_kLcT ?_ | with_reducible refine r_yes ?_
  | with_reducible refine r_pnil ?_ | with_reducible refine r_pcons ?_
  | with_reducible refine r_fnK ?_ | ((with_reducible refine r_kFnK ?hl ?_); (case hl => exact rfl))
  | with_reducible refine r_isi_ii ?_ | with_reducible refine r_isi_ib ?_ | with_reducible refine r_isi_bi ?_ | with_reducible refine r_isi_bb ?_ | with_reducible refine r_isi_ss ?_ | with_reducible refine r_isi_is ?_ | with_reducible refine r_isi_it ?_
  | ((with_reducible refine' r_isi_tt ?h1 ?_); (case h1 => assumption))
  | with_reducible refine r_sfld ?_ | with_reducible refine r_gnil ?_ | with_reducible refine r_gcons ?_
  | ((with_reducible refine' r_gtup ?h1 ?h2 ?_); (case h1 => exact SqT.of (by assumption)); (case h2 => exact rfl))
  | with_reducible refine r_sl ?_ | with_reducible refine r_noPart ?_ | with_reducible refine r_part ?_ | with_reducible refine r_kPart ?_ | with_reducible refine r_m1 ?_ | with_reducible refine r_kM1 ?_ | with_reducible refine r_forS ?_ | with_reducible refine r_lcS ?_ | with_reducible refine r_lcTu ?_ | with_reducible refine r_lcK ?_ | with_reducible refine r_dcL ?_ | with_reducible refine r_dcK ?_ | with_reducible refine r_lc2L ?_ | with_reducible refine r_kLc2TL ?_ | with_reducible refine r_dcEn ?_ | with_reducible refine r_gslc ?_ | with_reducible refine r_lcEn ?_ | with_reducible refine r_forET ?_ | with_reducible refine r_lenD ?_
  | ((with_reducible refine r_kDcG ?hw ?_); (case hw => exact rfl)) | with_reducible refine r_kDcT ?_
  | with_reducible refine r_fldaug ?_ | with_reducible refine r_daug ?_ | with_reducible refine r_rAdd ?_ | with_reducible refine r_rSub ?_ | with_reducible refine r_ddel ?_ | with_reducible refine r_bmF ?_ | with_reducible refine r_dget2 ?_ | with_reducible refine r_listItems ?_ | with_reducible refine r_bm0 ?_ | with_reducible refine r_lc2E ?_ | ((with_reducible refine r_kLc2G ?hw ?_); (case hw => exact rfl)) | with_reducible refine r_kLc2T ?_ | with_reducible refine r_forE ?_ | with_reducible refine r_orT ?_ | with_reducible refine r_din ?_ | with_reducible refine r_augS ?_ | with_reducible refine r_dnotin ?_ | with_reducible refine r_lcIT ?_ | with_reducible refine r_cont ?_ | with_reducible refine r_meth ?_ | with_reducible refine r_frz ?_ | with_reducible refine r_par3 ?_ | with_reducible refine r_kPar3 ?_ | with_reducible refine r_dz ?_ | with_reducible refine r_revL ?_ | with_reducible refine r_star ?_ | with_reducible refine r_int1 ?_ | with_reducible refine r_int1b ?_ | with_reducible refine r_min2 ?_ | with_reducible refine r_max2 ?_ | with_reducible refine r_gsub ?_)
local macro_rules | `(tactic| walk_at "rd") => `(tactic| repeat walk_at "rd1")
local macro_rules | `(tactic| walk_at "side") => `(tactic| first | assumption | exact Or.inr ⟨by decide, by decide⟩ | exact Or.inl ⟨by decide, by decide⟩ | (constructor <;> omega) | omega | decide | (refine Or.inl ⟨?_, ?_⟩ <;> omega) | (refine Or.inr ⟨?_, ?_⟩ <;> omega) | (refine ⟨?_, ?_, ?_⟩ <;> first | decide | omega))
local macro_rules | `(tactic| walk_at "val") => `(tactic| first | exact mv1 | exact mv2 | exact mv3 | exact mv4 | exact mv5 | exact mv6)
/-- the dict of what is paid, also while it is walked -/
def FT (H : Hp) (fo : Addr) (P : Pd) : Prop := H fo = some (.dT (encPD P)) ∨ ∃ od, H fo = some (.frz od (.dT (encPD P)))
theorem FT.keep {H H' : Hp} {fo : Addr} {P : Pd} (h : FT H fo P) (e : Same H H') : FT H' fo P := h.elim (fun h => .inl (e _ _ h)) fun ⟨od, h⟩ => .inr ⟨od, e _ _ h⟩
structure LSta (K : PySem.W.Frag) (l : Addr) (H : Hp) (p r fo : Addr) (B : Bk) (rs : List CR) (e : Int) (P : Pd) : Prop where
  m : Mdl l H p B
  ok : B.Ok
  c : CourAt K H r rs e
  n : rs.length ≤ 200
  f : FT H fo P
  nd : (P.map (·.1)).Nodup
  z : P.length ≤ 900000
theorem LSta.keep {K : PySem.W.Frag} {l p r fo : Addr} {H H' : Hp} {B : Bk} {rs : List CR} {e : Int} {P : Pd} (h : LSta K l H p r fo B rs e P) (s : Same H H') : LSta K l H' p r fo B rs e P :=
  ⟨h.m.keep s, h.ok, h.c.keep s, h.n, h.f.keep s, h.nd, h.z⟩
/-- two terms of one expression -/
def tEi (t u : TE) : TE := fun σ H Q => t σ H Q ∨ u σ H Q
theorem pe_ei {X : Cx} {e : Expr} {t u : TE} (h1 : PE X e t) (h2 : PE X e u) : PE X e (tEi t u) := ⟨fun pins s σ H Q I h => h.elim (fun h => h1.run pins s σ H Q I h) fun h => h2.run pins s σ H Q I h⟩
def sp_lsettled_by : Sp := fun vs H Q _ => ∃ (fo : Addr) (P : Pd) (d : Int), vs = [.ref fo, .int d] ∧ FT H fo P ∧ (P.map (·.1)).Nodup ∧ P.length ≤ 900000 ∧ ∀ H', Same H H' → Q (.int (paidBy P d)) H'
def sp_lis_whole (K : PySem.W.Frag) : Sp := fun vs H Q _ => ∃ (l p r fo : Addr) (B : Bk) (rs : List CR) (e : Int) (P : Pd) (m : Int), vs = [.ref p, .ref r, .ref fo, .int m] ∧ LSta K l H p r fo B rs e P ∧ ∀ H', Same H H' → Q (.bl (wholeB B rs P m)) H'
def sp_lis_spared (K : PySem.W.Frag) : Sp := fun vs H Q _ => ∃ (l p r fo : Addr) (B : Bk) (rs : List CR) (e : Int) (P : Pd) (m : Int), vs = [.ref p, .ref r, .ref fo, .int m] ∧ LSta K l H p r fo B rs e P ∧ ∀ H', Same H H' → Q (.bl (sparedB B rs P m)) H'
def sp_lbegin (K : PySem.W.Frag) : Sp := fun vs H Q _ => ∃ (l p r fo : Addr) (B : Bk) (rs : List CR) (e : Int) (P : Pd) (z d c : Int) (k : Str), vs = [.ref p, .ref r, .ref fo, .int z] ∧ LSta K l H p r fo B rs e P ∧ 0 ≤ z ∧ rs[z.toNat]? = some (.buy d k c) ∧ k ∈ B.ks.map (·.1) ∧ ∀ H', Same H H' → Q (.int (begOf B rs P z)) H'
def sp_lbearing (K : PySem.W.Frag) : Sp := fun vs H Q _ => ∃ (l p r : Addr) (B : Bk) (rs : List CR) (e : Int), vs = [.ref p, .ref r] ∧ Mdl l H p B ∧ B.Ok ∧ B.LaidOk ∧ CourAt K H r rs e ∧ CourOk B rs e ∧ e ≤ 100000 ∧
  ∀ q ws H', H q = none → Same H H' → H' q = some (.lst ws) → LAt H' ws (bearL B rs (settle (rkB B) rs e)) → Q (.ref q) H'
theorem spared_filter (B : Bk) (rs : List CR) (P : Pd) (m : Int) (n : Nat) : decide ((((List.range n).filter fun b : Nat => !wholeB B rs P (m - (b : Int))).map fun b : Nat => V.int (b : Int)) = []) = ((List.range n).map fun b : Nat => wholeB B rs P (m - (b : Int))).all id := by
  rw [Bool.eq_iff_iff, decide_eq_true_iff, List.map_eq_nil_iff, List.filter_eq_nil_iff, List.all_eq_true]
  constructor
  · intro h x hx
    obtain ⟨b, hb, rfl⟩ := List.mem_map.mp hx
    have := h b hb
    simpa using this
  · intro h b hb
    have := h _ (List.mem_map.mpr ⟨b, hb, rfl⟩)
    simpa using this
section
variable {P : Program} {w : World} {K : PySem.W.Frag} {mg : Str → Option Value} {base : Heap}
theorem ok__law_bought {f : Addr} {fd : FuncData} (T : Tx K mg) (F : FnP K "_law_bought" s__law_bought f fd) : FnOk P w K mg base CX0 2 f fd ["_law_route", "_law_date"] (sp_bought_by K) := by
  have sc : FnScope ["_law_route", "_law_date", "_law_row"] ["_law_route", "_law_date"] (defScope s__law_bought) := ⟨rfl, rfl, rfl, by decide +kernel, rfl, by decide +kernel, by decide +kernel⟩
  refine F.ok sc (by rintro vs H Q E ⟨_, _, _, _, rfl, _⟩; rfl) (fun cdv A outer s H vs Q E hr h => ⟨_, PSs.nox ((pss_one (ps_ret (pe_callB (c_sumK (K := K) rfl rfl) (by rfl) T.b_sum (by decide +kernel) (pa_cons (pe_lc (own := [("_law_row", 2)]) (by rfl) sc.nd (pi_either (pi_listK (K := K) rfl (pe_ix (ix_tupK (K := K) rfl) (pv 0) pe_int (fun _ _ => rfl))) (pi_tupK (K := K) rfl (pe_ix (ix_tupK (K := K) rfl) (pv 0) pe_int (fun _ _ => rfl)))) (blkOk_by (own := [("_law_row", 2)]) (N := ["_law_route", "_law_date", "_law_row"]) (sc := defScope s__law_bought) (by decide +kernel)) (fun _ _ _ _ _ => (pg_name (i := 2) sc.nd rfl (by first | exact Or.inl rfl | exact Or.inr rfl))) (fun _ _ _ _ _ => (pts_one (PW.pt (pw_and (pt_cmpR op_eq (pe_ix (ix_tupK (K := K) rfl) (pv 2) pe_int (fun _ _ => rfl)) pe_str (nomark _)) (pw_and1 (pt_cmpR op_le (pe_ix (ix_tupK (K := K) rfl) (pv 2) pe_int (fun _ _ => rfl)) (pv 1) (nomark _))))))) (fun _ _ _ _ _ => (pe_ix (ix_tupK (K := K) rfl) (pv 2) pe_int (fun _ _ => rfl)))) pa_nil))))), ?_⟩)
  obtain ⟨p, rs, e, d, rfl, ⟨l, ws, hp, hl, hR⟩, hn, k⟩ := h
  have hlen := hR.len
  walk_at "rd"
  refine r_lcSeq (xs := ws) (c0_at rfl hp) hl (fun Da i H' => Same H H' ∧ H' Da = some (.lst (((rs.take i).filterMap (bbF d)).map V.int))) (fun Da H' _ e h => ⟨e, h⟩) (fun Da i H' h => h.1) ?_ ?_
  · rintro Da i x H' hD hx ⟨e1, hDa⟩
    obtain ⟨t, r, rfl, hr, ht⟩ := hR.get hx
    have hi := (List.getElem?_eq_some_iff.mp hr).1
    have hll : (((rs.take i).filterMap (bbF d)).map V.int).length < 1000000 := by
      have := List.length_filterMap_le (bbF d) (rs.take i)
      rw [List.length_map]
      rw [List.length_take] at this
      omega
    cases r with
    | buy d' z c =>
      have ht1 : H' t = some (.tup [.str "buy", .int d', .str z, .int c]) := e1 _ _ ht
      walk_at "rd"
      refine r_ixT (SqT.of ht1) (at_get (n := 0) rfl rfl) ?_
      walk_at "rd"
      refine w_dec (fun _ => ?_) (fun h => absurd rfl h)
      walk_at "rd"
      refine r_ixT (SqT.of ht1) (at_get (n := 1) rfl rfl) ?_
      walk_at "rd"
      refine w_dec (fun g => ?_) (fun g => ?_)
      · walk_at "rd"
        refine r_ixT (SqT.of ht1) (at_get (n := 3) rfl rfl) ?_
        refine r_kLcE hDa hll fun H2 b2 h2 => ⟨Same.mut e1 b2 hD, ?_⟩
        rw [take_more hr, List.filterMap_append, List.map_append]
        have : [CR.buy d' z c].filterMap (bbF d) = [c] := by simp [bbF, g]
        rw [this]
        exact h2
      · refine ⟨e1, ?_⟩
        rw [take_more hr, List.filterMap_append]
        have : [CR.buy d' z c].filterMap (bbF d) = [] := by simp [bbF, g]
        rw [this, List.append_nil]
        exact hDa
    | pay d' c =>
      have ht1 : H' t = some (.tup [.str "pay", .int d', .int c]) := e1 _ _ ht
      walk_at "rd"
      refine r_ixT (SqT.of ht1) (at_get (n := 0) rfl rfl) ?_
      walk_at "rd"
      refine w_dec (fun h => absurd h (by decide +kernel)) (fun _ => ?_)
      walk_at "rd"
      refine ⟨e1, ?_⟩
      rw [take_more hr, List.filterMap_append]
      have : [CR.pay d' c].filterMap (bbF d) = [] := by simp [bbF]
      rw [this, List.append_nil]
      exact hDa
  · rintro Da H' hD ⟨e1, hDa⟩
    rw [hlen, List.take_length] at hDa
    walk_at "rd"
    refine r_sum (SqL.of hDa) ?_
    exact k H' e1
theorem ok__law_settled_by {f : Addr} {fd : FuncData} (T : Tx K mg) (F : FnP K "_law_settled_by" s__law_settled_by f fd) : FnOk P w K mg base CX0 2 f fd ["_law_found", "_law_date"] sp_lsettled_by := by
  have sc : FnScope ["_law_found", "_law_date", "_law_spot"] ["_law_found", "_law_date"] (defScope s__law_settled_by) := ⟨rfl, rfl, rfl, by decide +kernel, rfl, by decide +kernel, by decide +kernel⟩
  refine F.ok sc (by rintro vs H Q E ⟨_, _, _, rfl, _⟩; rfl) (fun cdv A outer s H vs Q E hr h => ⟨_, PSs.nox ((pss_one (ps_ret (pe_callB (c_sumK (K := K) rfl rfl) (by rfl) T.b_sum (by decide +kernel) (pa_cons (pe_ei (pe_lock (pe_lc (own := [("_law_spot", 2)]) (by rfl) sc.nd (pi_keys (pv 0)) (blkOk_by (own := [("_law_spot", 2)]) (N := ["_law_found", "_law_date", "_law_spot"]) (sc := defScope s__law_settled_by) (by decide +kernel)) (fun _ _ _ _ _ => (pg_name (i := 2) sc.nd rfl (by first | exact Or.inl rfl | exact Or.inr rfl))) (fun _ _ _ _ _ => (pts_one (pt_cmpR op_le (pe_ix (ix_tupK (K := K) rfl) (pv 2) pe_int (fun _ _ => rfl)) (pv 1) (nomark _)))) (fun _ _ _ _ _ => (pe_dget (hu_of hr) (pv 0) (pv 2) (fun _ _ => rfl))))) (pe_lc (own := [("_law_spot", 2)]) (by rfl) sc.nd (pi_keys (pv 0)) (blkOk_by (own := [("_law_spot", 2)]) (N := ["_law_found", "_law_date", "_law_spot"]) (sc := defScope s__law_settled_by) (by decide +kernel)) (fun _ _ _ _ _ => (pg_name (i := 2) sc.nd rfl (by first | exact Or.inl rfl | exact Or.inr rfl))) (fun _ _ _ _ _ => (pts_one (pt_cmpR op_le (pe_ix (ix_tupK (K := K) rfl) (pv 2) pe_int (fun _ _ => rfl)) (pv 1) (nomark _)))) (fun _ _ _ _ _ => (pe_dget (hu_of hr) (pv 0) (pv 2) (fun _ _ => rfl))))) pa_nil))))), ?_⟩)
  obtain ⟨fo, P', d, rfl, hf, nd, hz, k⟩ := h
  walk_at "rd"
  rcases hf with hf | ⟨od, hd1⟩
  · refine Or.inl ?_
    refine r_lockDT hf fun od H1 hd1 ho1 hn1 => ?_
    walk_at "rd"
    refine r_kLcKT hd1 (fun Da i H' => Same H1 H' ∧ H' Da = some (.lst ((paidL (P'.take i) d).map V.int))) (fun Da H' _ e h => ⟨e, h⟩) (fun Da i H' h => h.1 _ _ hd1) ?_ ?_
    · rintro Da i c kq H2 hD hc ⟨e2, hDa⟩ hkq
      have hil := (List.getElem?_eq_some_iff.mp hc).1
      have hll : ((paidL (P'.take i) d).map V.int).length < 1000000 := by
        unfold paidL
        rw [List.length_map, List.length_map]
        have := List.length_filter_le (fun p : (Int × Int) × Int => decide (p.1.2 ≤ d)) (P'.take i)
        rw [List.length_take] at this
        omega
      have hlk := lookP_mem nd (List.mem_of_getElem? hc)
      walk_at "rd"
      refine r_ixT (SqT.of hkq) (at_get (n := 1) rfl rfl) ?_
      walk_at "rd"
      refine w_dec (fun g => ?_) (fun g => ?_)
      · walk_at "rd"
        refine r_kDGetPF (e2 _ _ hd1) hkq hlk ?_
        refine r_kLcE hDa hll fun H4 b4 h4 => ⟨Same.mut e2 b4 hD, ?_⟩
        have : paidL (P'.take (i + 1)) d = paidL (P'.take i) d ++ [c.2] := by
          unfold paidL
          rw [take_more hc, List.filter_append, List.filter_cons_of_pos (by simpa using g), List.map_append]
          rfl
        rw [this, List.map_append]
        exact h4
      · refine ⟨e2, ?_⟩
        have : paidL (P'.take (i + 1)) d = paidL (P'.take i) d := by
          unfold paidL
          rw [take_more hc, List.filter_append, List.filter_cons_of_neg (by simpa using g), List.filter_nil, List.append_nil]
        rw [this]
        exact hDa
    · rintro Da H' hD ⟨e2, hDa⟩
      rw [List.take_length] at hDa
      have hDn : Da ≠ fo := by
        rintro rfl
        rw [hd1] at hD
        cases hD
      refine r_kLock hf ho1 hd1 e2 fun H4 e4 o4 => ?_
      walk_at "rd"
      refine r_sum (SqL.of (o4 _ _ hDa hDn)) ?_
      exact k H4 e4
  · refine Or.inr ?_
    walk_at "rd"
    refine r_kLcKT hd1 (fun Da i H' => Same H H' ∧ H' Da = some (.lst ((paidL (P'.take i) d).map V.int))) (fun Da H' _ e h => ⟨e, h⟩) (fun Da i H' h => h.1 _ _ hd1) ?_ ?_
    · rintro Da i c kq H2 hD hc ⟨e2, hDa⟩ hkq
      have hil := (List.getElem?_eq_some_iff.mp hc).1
      have hll : ((paidL (P'.take i) d).map V.int).length < 1000000 := by
        unfold paidL
        rw [List.length_map, List.length_map]
        have := List.length_filter_le (fun p : (Int × Int) × Int => decide (p.1.2 ≤ d)) (P'.take i)
        rw [List.length_take] at this
        omega
      have hlk := lookP_mem nd (List.mem_of_getElem? hc)
      walk_at "rd"
      refine r_ixT (SqT.of hkq) (at_get (n := 1) rfl rfl) ?_
      walk_at "rd"
      refine w_dec (fun g => ?_) (fun g => ?_)
      · walk_at "rd"
        refine r_kDGetPF (e2 _ _ hd1) hkq hlk ?_
        refine r_kLcE hDa hll fun H4 b4 h4 => ⟨Same.mut e2 b4 hD, ?_⟩
        have : paidL (P'.take (i + 1)) d = paidL (P'.take i) d ++ [c.2] := by
          unfold paidL
          rw [take_more hc, List.filter_append, List.filter_cons_of_pos (by simpa using g), List.map_append]
          rfl
        rw [this, List.map_append]
        exact h4
      · refine ⟨e2, ?_⟩
        have : paidL (P'.take (i + 1)) d = paidL (P'.take i) d := by
          unfold paidL
          rw [take_more hc, List.filter_append, List.filter_cons_of_neg (by simpa using g), List.filter_nil, List.append_nil]
        rw [this]
        exact hDa
    · rintro Da H' hD ⟨e2, hDa⟩
      rw [List.take_length] at hDa
      walk_at "rd"
      refine r_sum (SqL.of hDa) ?_
      exact k H' e2
theorem ok__law_is_whole {f : Addr} {fd : FuncData} (T : Tx K mg) (F : FnP K "_law_is_whole" s__law_is_whole f fd) (d__law_bought : Dn P w K mg base CX0 2 "_law_bought" ["_law_route", "_law_date"] (sp_bought_by K)) (d__law_settled_by : Dn P w K mg base CX0 2 "_law_settled_by" ["_law_found", "_law_date"] sp_lsettled_by)
    (d__law_first : Dn P w K mg base CX0 1 "_law_first" ["_law_model_here", "_law_mon"] sp_lfirst) (d__law_due : Dn P w K mg base CX0 2 "_law_due" ["_law_model_here", "_law_mon"] sp_ldue) :
    FnOk P w K mg base CX0 3 f fd ["_law_model_here", "_law_route", "_law_found", "_law_mon"] (sp_lis_whole K) := by
  have sc : FnScope ["_law_model_here", "_law_route", "_law_found", "_law_mon"] ["_law_model_here", "_law_route", "_law_found", "_law_mon"] (defScope s__law_is_whole) := ⟨rfl, rfl, rfl, by decide +kernel, rfl, by decide +kernel, by decide +kernel⟩
  refine F.ok sc (by rintro vs H Q E ⟨_, _, _, _, _, _, _, _, _, rfl, _⟩; rfl) (fun cdv A outer s H vs Q E hr h => ⟨_, PSs.nox ((pss_cons (ps_if (pt_cmpR op_lt (pv 3) pe_int (nomark _)) (pss_one (ps_ret pe_bl)) pss_nil)
      (pss_one (ps_ret (pe_cmpR op_ge (pe_fn d__law_settled_by (hr.mono (by decide)) pass0 (pa_cons (pv 2) (pa_cons (pe_fn d__law_due (hr.mono (by decide)) pass0 (pa_cons (pv 0) (pa_cons (pv 3) pa_nil))) pa_nil))) (pe_fn d__law_bought (hr.mono (by decide)) pass0 (pa_cons (pv 1) (pa_cons (pe_op op_sub (pe_fn d__law_first (hr.mono (by decide)) pass0 (pa_cons (pv 0) (pa_cons (pe_op op_add (pv 3) pe_int) pa_nil))) pe_int) pa_nil))) (nomark _)))))), ?_⟩)
  obtain ⟨l, p, r, fo, B, rs, e, P', m, rfl, S, k⟩ := h
  have hn := S.n
  walk_at "rd"
  refine w_dec (fun g => ?_) (fun g => ?_)
  · walk_at "rd"
    have : wholeB B rs P' m = true := by unfold wholeB; rw [decide_eq_true g]; rfl
    rw [← this]
    exact k H (Same.refl _)
  · walk_at "rd"
    refine ⟨l, p, B, m, rfl, S.m, S.ok.ls, fun H1 e1 => ?_⟩
    have S1 := S.keep e1
    walk_at "rd"
    refine ⟨fo, P', _, rfl, S1.f, S.nd, S.z, fun H2 e2 => ?_⟩
    have S2 := S1.keep e2
    walk_at "rd"
    refine ⟨l, p, B, m + 1, rfl, S2.m, S.ok.ls, fun H3 e3 => ?_⟩
    walk_at "rd"
    refine ⟨r, rs, e, _, rfl, (S2.keep e3).c, by omega, fun H4 e4 => ?_⟩
    walk_at "rd"
    have : wholeB B rs P' m = decide (boughtBy rs (firstL B.ls (m + 1) - 1) ≤ paidBy P' (firstL B.ls (m + 1) + B.due)) := by
      unfold wholeB
      rw [decide_eq_false g]
      rfl
    have z := k H4 (((e1.trans e2).trans e3).trans e4)
    rw [this] at z
    exact z
theorem ok__law_is_spared {f : Addr} {fd : FuncData} (T : Tx K mg) (F : FnP K "_law_is_spared" s__law_is_spared f fd) (d__law_is_whole : Dn P w K mg base CX0 3 "_law_is_whole" ["_law_model_here", "_law_route", "_law_found", "_law_mon"] (sp_lis_whole K)) :
    FnOk P w K mg base CX0 4 f fd ["_law_model_here", "_law_route", "_law_found", "_law_mon"] (sp_lis_spared K) := by
  have sc : FnScope ["_law_model_here", "_law_route", "_law_found", "_law_mon", "_law_k"] ["_law_model_here", "_law_route", "_law_found", "_law_mon"] (defScope s__law_is_spared) := ⟨rfl, rfl, rfl, by decide +kernel, rfl, by decide +kernel, by decide +kernel⟩
  refine F.ok sc (by rintro vs H Q E ⟨_, _, _, _, _, _, _, _, _, rfl, _⟩; rfl) (fun cdv A outer s H vs Q E hr h => ⟨_, PSs.nox ((pss_one (ps_ret (pe_cmpR (eqNilK (K := K) rfl hr.units) (pe_lc (own := [("_law_k", 4)]) (by rfl) sc.nd (pi_range1 (by rfl) T.b_range (pa_cons (pe_op op_add (pe_dget (hu_of hr) (pv 0) pe_str (fun _ _ => rfl)) pe_int) pa_nil)) (blkOk_by (own := [("_law_k", 4)]) (N := ["_law_model_here", "_law_route", "_law_found", "_law_mon", "_law_k"]) (sc := defScope s__law_is_spared) (by decide +kernel)) (fun _ _ _ _ _ => (pg_name (i := 4) sc.nd rfl (by first | exact Or.inl rfl | exact Or.inr rfl))) (fun _ _ _ _ _ => (pts_one (pt_not (pt_val (pe_fn d__law_is_whole (hr.mono (by decide)) pass0 (pa_cons (pv 0) (pa_cons (pv 1) (pa_cons (pv 2) (pa_cons (pe_op op_sub (pv 3) (pv 4)) pa_nil))))))))) (fun _ _ _ _ _ => (pv 4))) (pe_lst pa_nil) (nomark _))))), ?_⟩)
  obtain ⟨l, p, r, fo, B, rs, e, P', m, rfl, S, k⟩ := h
  have m0 := S.ok.m0
  have m1 := S.ok.m1
  obtain ⟨ad, kd, lv, kvs, hM⟩ := id S.m
  have hp := hM.i
  walk_at "rd"
  refine r_kLcR1 (fun Da i H' => Same H H' ∧ H' Da = some (.lst (((List.range i).filter fun b : Nat => !wholeB B rs P' (m - (b : Int))).map fun b : Nat => V.int (b : Int)))) (by omega) (fun Da H' _ e h => ⟨e, h⟩) ?_ ?_
  · rintro Da i H' hD hi ⟨e1, hDa⟩
    walk_at "rd"
    refine ⟨l, p, r, fo, B, rs, e, P', _, rfl, S.keep e1, fun H2 e2 => ?_⟩
    have hDa2 := e2 _ _ hDa
    walk_at "rd"
    refine w_nb (fun g => ?_) (fun g => ?_)
    · walk_at "rd"
      refine r_kLcE hDa2 (by rw [List.length_map]; have := List.length_filter_le (fun b : Nat => !wholeB B rs P' (m - (b : Int))) (List.range i); rw [List.length_range] at this; omega) fun H3 b3 h3 => ⟨Same.mut (e1.trans e2) b3 hD, ?_⟩
      rw [List.range_succ, List.filter_append, List.filter_cons_of_pos (by rw [g]; rfl), List.map_append]
      exact h3
    · refine ⟨e1.trans e2, ?_⟩
      rw [List.range_succ, List.filter_append, List.filter_cons_of_neg (by rw [g]; simp), List.filter_nil, List.append_nil]
      exact hDa2
  · rintro Da H' hD ⟨e1, hDa⟩
    walk_at "rd"
    refine r_kLst fun a2 H2 na2 e2 ha2 => ?_
    refine r_eqNilA (SqL.of (e2 _ _ hDa)) (SqL.of ha2) ?_
    rw [spared_filter]
    exact k H2 (e1.trans e2)
end
end Wp
set_option Elab.async false
set_option linter.all false
set_option maxRecDepth 100000
set_option maxHeartbeats 4000000
/-! The first days of months ascend. -/
namespace Wp
theorem firstL_step {ls : List Int} (ok : LsOk ls) {m : Nat} : firstL ls (m : Int) + 2 ≤ firstL ls ((m : Int) + 1) ∧ firstL ls ((m : Int) + 1) ≤ firstL ls (m : Int) + 31 := by
  have l1 := ok.l1
  have hlt : m % ls.length < ls.length := Nat.mod_lt _ (by omega)
  have em : (m : Int) = ((m / ls.length : Nat) : Int) * (ls.length : Int) + ((m % ls.length : Nat) : Int) := by
    have := Nat.div_add_mod m ls.length
    have h2 : ((ls.length * (m / ls.length) + m % ls.length : Nat) : Int) = (m : Int) := by rw [this]
    rw [Int.natCast_add, Int.natCast_mul, Int.mul_comm] at h2
    exact h2.symm
  have em1 : (m : Int) + 1 = ((m / ls.length : Nat) : Int) * (ls.length : Int) + ((m % ls.length + 1 : Nat) : Int) := by
    rw [Int.natCast_add]
    omega
  rw [em1, firstL_at' _ _ ok.l1 (by omega)]
  rw [show firstL ls (m : Int) = ((m / ls.length : Nat) : Int) * ls.sum + (ls.take (m % ls.length)).sum by
    conv => lhs; rw [em]
    exact firstL_at _ _ hlt]
  have h1 : (ls.take (m % ls.length + 1)).sum = (ls.take (m % ls.length)).sum + ls[m % ls.length] := by
    rw [List.take_succ, List.getElem?_eq_getElem hlt, List.sum_append]
    simp
  have h2 := ok.l3 _ (List.getElem_mem hlt)
  omega
theorem firstL_hi {ls : List Int} (ok : LsOk ls) : ∀ m : Nat, 0 ≤ firstL ls (m : Int) ∧ firstL ls (m : Int) ≤ 31 * (m : Int)
  | 0 => by
    have := firstL_at (ls := ls) 0 0 (by have := ok.l1; omega)
    simp at this
    rw [show ((0 : Nat) : Int) = 0 from rfl, this]
    decide
  | m + 1 => by
    have h1 := firstL_hi ok m
    have h2 := firstL_step ok (m := m)
    rw [Int.natCast_add]
    show 0 ≤ firstL ls ((m : Int) + 1) ∧ firstL ls ((m : Int) + 1) ≤ 31 * ((m : Int) + 1)
    omega
theorem firstL_mono {ls : List Int} (ok : LsOk ls) : ∀ {m n : Nat}, m ≤ n → firstL ls (m : Int) ≤ firstL ls (n : Int)
  | m, 0, h => by
    obtain rfl : m = 0 := by omega
    exact Int.le_refl _
  | m, n + 1, h => by
    by_cases e : m = n + 1
    · subst e
      exact Int.le_refl _
    · have h1 := firstL_mono ok (m := m) (n := n) (by omega)
      have h2 := firstL_step ok (m := n)
      rw [Int.natCast_add]
      show _ ≤ firstL ls ((n : Int) + 1)
      omega
theorem monthL_nonneg {ls : List Int} (ok : LsOk ls) {d : Int} (h : 0 ≤ d) : 0 ≤ monthL ls d := by
  have hs := ok.sum
  unfold monthL
  have h1 := Int.ediv_nonneg h (show 0 ≤ ls.sum by omega)
  have h2 := Int.mul_nonneg h1 (show (0 : Int) ≤ (ls.length : Int) by omega)
  omega
/-- a day between two firsts is of the first one's month -/
theorem month_unique {ls : List Int} (ok : LsOk ls) {d : Int} {m : Nat} (h0 : 0 ≤ d) (h1 : firstL ls (m : Int) ≤ d) (h2 : d < firstL ls ((m : Int) + 1)) : monthL ls d = (m : Int) := by
  have hb := month_bounds ok d
  have hn := monthL_nonneg ok h0
  obtain ⟨k, hk⟩ : ∃ k : Nat, monthL ls d = (k : Int) := ⟨(monthL ls d).toNat, by omega⟩
  rw [hk] at hb ⊢
  rcases Nat.lt_trichotomy k m with h | h | h
  · have := firstL_mono ok (m := k + 1) (n := m) (by omega)
    rw [Int.natCast_add] at this
    have : firstL ls ((k : Int) + 1) ≤ firstL ls (m : Int) := this
    omega
  · rw [h]
  · have := firstL_mono ok (m := m + 1) (n := k) (by omega)
    rw [Int.natCast_add] at this
    have : firstL ls ((m : Int) + 1) ≤ firstL ls (k : Int) := this
    omega
theorem monthL_mono {ls : List Int} (ok : LsOk ls) {a b : Int} (h0 : 0 ≤ a) (h : a ≤ b) : monthL ls a ≤ monthL ls b := by
  have ha := month_bounds ok a
  have hb := month_bounds ok b
  have hna := monthL_nonneg ok h0
  have hnb := monthL_nonneg ok (show 0 ≤ b by omega)
  obtain ⟨k, hk⟩ : ∃ k : Nat, monthL ls a = (k : Int) := ⟨(monthL ls a).toNat, by omega⟩
  obtain ⟨m, hm⟩ : ∃ m : Nat, monthL ls b = (m : Int) := ⟨(monthL ls b).toNat, by omega⟩
  rw [hk] at ha ⊢
  rw [hm] at hb ⊢
  by_cases e : k ≤ m
  · omega
  · exfalso
    have := firstL_mono ok (m := m + 1) (n := k) (by omega)
    rw [Int.natCast_add] at this
    have : firstL ls ((m : Int) + 1) ≤ firstL ls (k : Int) := this
    omega
end Wp
set_option Elab.async false
set_option linter.all false
set_option maxRecDepth 100000
set_option maxHeartbeats 4000000
/-! Sums of statements and whether they are paid: the program's and the law's. -/
namespace Wp
open PySem PySem.Spec PyProof.Rows L2
abbrev s_sum_of : Stmt := topS 43
abbrev s_is_whole : Stmt := topS 44
abbrev s__law_due_sum : Stmt := topS 69
abbrev s__law_is_whole_by_days : Stmt := topS 70
local macro_rules | `(tactic| walk_at "val") => `(tactic| assumption)
local macro_rules | `(tactic| walk_at "rd1") => `(tactic| first
  | with_reducible refine r_seq ?_ | with_reducible refine r_next ?_ | with_reducible refine r_if ?_ | with_reducible refine r_asg ?_ | with_reducible refine r_gname ?_
  | with_reducible refine r_ret ?_ | with_reducible refine r_retN ?_ | with_reducible refine r_drop ?_ | with_reducible refine r_par ?_ | with_reducible refine r_kPar ?_
  | ((with_reducible refine' r_var ?hv ?_); (case hv => exact rfl)) | with_reducible refine r_c ?_ | with_reducible refine r_nil ?_ | with_reducible refine r_cons ?_
  | with_reducible refine r_fn ?_ | with_reducible refine r_cb ?_ | with_reducible refine r_op ?_ | with_reducible refine r_un ?_ | with_reducible refine r_I0 ?_
  | with_reducible refine r_pow5 ?_ | with_reducible refine r_pow6 ?_ | with_reducible refine r_pow7 ?_ | with_reducible refine r_pow9 ?_ | with_reducible refine r_pow18 ?_ | with_reducible refine r_pow20 ?_ | with_reducible refine r_pow30 ?_
  | with_reducible refine r_isN_non ?_ | with_reducible refine r_isN_ref ?_ | with_reducible refine r_isN_int ?_ | with_reducible refine r_isN_str ?_ | with_reducible refine r_isN_bl ?_ | with_reducible refine r_notN_non ?_ | with_reducible refine r_notN_ref ?_ | with_reducible refine r_notN_int ?_ | with_reducible refine r_notN_str ?_ | with_reducible refine r_notN_bl ?_
  | ((with_reducible refine r_I ?hc ?_); (case hc => walk_at "side")) | with_reducible refine r_U ?_
  | with_reducible refine r_eqI ?_ | with_reducible refine r_neI ?_ | with_reducible refine r_eqS ?_ | with_reducible refine r_neS ?_ | with_reducible refine r_eqB ?_ | with_reducible refine r_neB ?_
  | with_reducible refine r_chain ?_ | with_reducible refine r_test ?_ | with_reducible refine r_tB ?_ | with_reducible refine r_kTest ?_ | with_reducible refine r_not ?_
  | with_reducible refine r_and ?_ | with_reducible refine r_or ?_ | with_reducible refine r_tif ?_ | with_reducible refine r_andV ?_ | with_reducible refine r_orV ?_ | with_reducible refine r_notV ?_
  | with_reducible refine r_kAndV ?_ | with_reducible refine r_kOrV ?_ | with_reducible refine r_kNotV ?_
  | with_reducible refine w_T ?_ | with_reducible refine w_F ?_ | with_reducible refine w_NT ?_ | with_reducible refine w_NF ?_
  | with_reducible refine r_tup ?_ | with_reducible refine r_lst ?_ | with_reducible refine r_fld ?_ | with_reducible refine r_prop ?_ | ((with_reducible refine' r_aug ?h1 ?_); (case h1 => exact rfl)) | with_reducible refine r_ipI ?_ | with_reducible refine r_dget ?_ | with_reducible refine r_dput ?_ | with_reducible refine r_bm ?_
  | ((with_reducible refine' r_kDGetS ?h1 ?h2 ?_); (case h1 => assumption); (case h2 => walk_at "val"))
  | ((with_reducible refine' r_kBML ?h1 ?_); (case h1 => assumption))
  | with_reducible refine r_forL ?_ | with_reducible refine r_forR1 ?_ | with_reducible refine r_forR2 ?_ | with_reducible refine r_forT ?_ | with_reducible refine r_lcL ?_ | with_reducible refine r_lcR1 ?_
  | ((with_reducible refine r_kLcG ?hw ?_); (case hw => exact rfl)) | with_reducible refine r_kLcT ?_ | with_reducible refine r_yes ?_
  | with_reducible refine r_pnil ?_ | with_reducible refine r_pcons ?_
  | with_reducible refine r_fnK ?_ | ((with_reducible refine r_kFnK ?hl ?_); (case hl => exact rfl))
  | with_reducible refine r_isi_ii ?_ | with_reducible refine r_isi_ib ?_ | with_reducible refine r_isi_bi ?_ | with_reducible refine r_isi_bb ?_ | with_reducible refine r_isi_ss ?_ | with_reducible refine r_isi_is ?_ | with_reducible refine r_isi_it ?_
  | ((with_reducible refine' r_isi_tt ?h1 ?_); (case h1 => assumption))
  | with_reducible refine r_sfld ?_ | with_reducible refine r_gnil ?_ | with_reducible refine r_gcons ?_
  | ((with_reducible refine' r_gtup ?h1 ?h2 ?_); (case h1 => exact SqT.of (by assumption)); (case h2 => exact rfl))
  | with_reducible refine r_sl ?_ | with_reducible refine r_noPart ?_ | with_reducible refine r_part ?_ | with_reducible refine r_kPart ?_ | with_reducible refine r_m1 ?_ | with_reducible refine r_kM1 ?_ | with_reducible refine r_forS ?_ | with_reducible refine r_lcS ?_ | with_reducible refine r_lcTu ?_ | with_reducible refine r_lcK ?_ | with_reducible refine r_dcL ?_ | with_reducible refine r_dcK ?_ | with_reducible refine r_lc2L ?_ | with_reducible refine r_kLc2TL ?_ | with_reducible refine r_dcEn ?_ | with_reducible refine r_gslc ?_ | with_reducible refine r_lcEn ?_ | with_reducible refine r_forET ?_ | with_reducible refine r_lenD ?_
  | ((with_reducible refine r_kDcG ?hw ?_); (case hw => exact rfl)) | with_reducible refine r_kDcT ?_
  | with_reducible refine r_fldaug ?_ | with_reducible refine r_daug ?_ | with_reducible refine r_rAdd ?_ | with_reducible refine r_rSub ?_ | with_reducible refine r_ddel ?_ | with_reducible refine r_bmF ?_ | with_reducible refine r_dget2 ?_ | with_reducible refine r_listItems ?_ | with_reducible refine r_bm0 ?_ | with_reducible refine r_lc2E ?_ | ((with_reducible refine r_kLc2G ?hw ?_); (case hw => exact rfl)) | with_reducible refine r_kLc2T ?_ | with_reducible refine r_forE ?_ | with_reducible refine r_orT ?_ | with_reducible refine r_din ?_ | with_reducible refine r_augS ?_ | with_reducible refine r_dnotin ?_ | with_reducible refine r_lcIT ?_ | with_reducible refine r_cont ?_ | with_reducible refine r_meth ?_ | with_reducible refine r_frz ?_ | with_reducible refine r_par3 ?_ | with_reducible refine r_kPar3 ?_ | with_reducible refine r_dz ?_ | with_reducible refine r_revL ?_ | with_reducible refine r_star ?_ | with_reducible refine r_int1 ?_ | with_reducible refine r_int1b ?_ | with_reducible refine r_min2 ?_ | with_reducible refine r_max2 ?_ | with_reducible refine r_gsub ?_)
local macro_rules | `(tactic| walk_at "rd") => `(tactic| repeat walk_at "rd1")
local macro_rules | `(tactic| walk_at "side") => `(tactic| first | assumption | exact Or.inr ⟨by decide, by decide⟩ | exact Or.inl ⟨by decide, by decide⟩ | (constructor <;> omega) | omega | decide | (refine Or.inl ⟨?_, ?_⟩ <;> omega) | (refine Or.inr ⟨?_, ?_⟩ <;> omega) | (refine ⟨?_, ?_, ?_⟩ <;> first | decide | omega))
def sumOf (B : Bk) (rs : List CR) (P : Pd) (m : Int) : Int := boughtBy rs (firstL B.ls (m + 1) - 1) - paidBy P (firstL B.ls (m + 1) - 1)
def goneL (P : Pd) (a b : Int) : List Int := (P.filter fun p => decide (a ≤ p.1.2) && decide (p.1.2 ≤ b)).map (·.2)
theorem gone_split (P : Pd) {a b : Int} (h : a ≤ b + 1) : paidBy P b = paidBy P (a - 1) + (goneL P a b).sum := by
  unfold paidBy paidL goneL
  induction P with
  | nil => rfl
  | cons x P ih =>
    simp only [List.filter_cons]
    by_cases h1 : x.1.2 ≤ a - 1
    · have h2 : x.1.2 ≤ b := by omega
      have h3 : ¬ a ≤ x.1.2 := by omega
      simp only [h1, h2, h3, decide_true, decide_false, Bool.false_and, if_true, List.map_cons, List.sum_cons, Bool.false_eq_true, if_false]
      omega
    · have h3 : a ≤ x.1.2 := by omega
      by_cases h2 : x.1.2 ≤ b
      · simp only [h1, h2, h3, decide_true, decide_false, Bool.true_and, if_true, List.map_cons, List.sum_cons, Bool.false_eq_true, if_false]
        omega
      · simp only [h1, h2, h3, decide_true, decide_false, Bool.true_and, Bool.false_eq_true, if_false]
        omega
theorem whole_gone {B : Bk} {rs : List CR} {P : Pd} {m : Int} (hm : 0 ≤ m) (hd : 0 ≤ B.due) : decide (sumOf B rs P m ≤ (goneL P (firstL B.ls (m + 1)) (firstL B.ls (m + 1) + B.due)).sum) = wholeB B rs P m := by
  have h := gone_split P (a := firstL B.ls (m + 1)) (b := firstL B.ls (m + 1) + B.due) (by omega)
  unfold wholeB sumOf
  rw [decide_eq_false (show ¬ m < 0 by omega), Bool.false_or]
  exact decide_eq_decide.mpr ⟨fun g => by omega, fun g => by omega⟩
def sp_sum_of (K : PySem.W.Frag) (CB : Addr) : Sp := fun vs H Q _ => ∃ (bk p : Addr) (B : Bk) (rs : List CR) (e m : Int), vs = [.ref bk, .ref p, .int m] ∧ BookAt CB H bk B ∧ B.Ok ∧ B.LaidOk ∧ CourAt K H p rs e ∧ CourOk B rs e ∧ e ≤ 100000 ∧ 0 ≤ m ∧ m ≤ 2000 ∧
  ∀ H', Same H H' → Q (.int (sumOf B rs (settle (rkB B) rs e) m)) H'
def sp_is_whole (K : PySem.W.Frag) (CB : Addr) : Sp := fun vs H Q _ => ∃ (bk p : Addr) (B : Bk) (rs : List CR) (e m : Int), vs = [.ref bk, .ref p, .int m] ∧ BookAt CB H bk B ∧ B.Ok ∧ B.LaidOk ∧ CourAt K H p rs e ∧ CourOk B rs e ∧ e ≤ 100000 ∧ 0 ≤ m ∧ m ≤ 2000 ∧
  ∀ H', Same H H' → Q (.bl (wholeB B rs (settle (rkB B) rs e) m)) H'
def sp_ldue_sum (K : PySem.W.Frag) : Sp := fun vs H Q _ => ∃ (l p r fo : Addr) (B : Bk) (rs : List CR) (e : Int) (P : Pd) (m : Int), vs = [.ref p, .ref r, .ref fo, .int m] ∧ LSta K l H p r fo B rs e P ∧ ∀ H', Same H H' → Q (.int (sumOf B rs P m)) H'
def sp_lby_days (K : PySem.W.Frag) : Sp := fun vs H Q _ => ∃ (l p r fo : Addr) (B : Bk) (rs : List CR) (e : Int) (P : Pd) (m : Int), vs = [.ref p, .ref r, .ref fo, .int m] ∧ LSta K l H p r fo B rs e P ∧ H fo = some (.dT (encPD P)) ∧ 0 ≤ m ∧ ∀ H', Same H H' → Q (.bl (wholeB B rs P m)) H'
section
variable {P : Program} {w : World} {K : PySem.W.Frag} {mg : Str → Option Value} {base : Heap}
theorem ok_sum_of {f CA CB : Addr} {fd : FuncData} (T : Tx K mg) (F : FnP K "sum_of" s_sum_of f fd) (d_need_account : Dn P w K mg base CX0 7 "need_account" ["book", "course"] (sp_account_of K CA CB)) (d_need_number : Dn P w K mg base CX0 3 "need_number" ["value"] sp_need_number)
    (mt_Book_first_at : Dm P w K mg base CX0 1 CB "first_at" (sp_first_at CB)) (d_bought_by : Dn P w K mg base CX0 2 "bought_by" ["course", "day"] (sp_bought_by K)) (d_paid_by : Dn P w K mg base CX0 2 "paid_by" ["account", "day"] (sp_paid_by CA CB)) :
    FnOk P w K mg base CX0 8 f fd ["book", "course", "month"] (sp_sum_of K CB) := by
  have sc : FnScope ["book", "course", "month", "account", "last"] ["book", "course", "month"] (defScope s_sum_of) := ⟨rfl, rfl, rfl, by decide +kernel, rfl, by decide +kernel, by decide +kernel⟩
  refine F.ok sc (by rintro vs H Q E ⟨_, _, _, _, _, _, rfl, _⟩; rfl) (fun cdv A outer s H vs Q E hr h => ⟨_, PSs.nox ((pss_cons (ps_set (i := 3) sc.nd rfl (by first | exact Or.inl rfl | exact Or.inr rfl) (pe_fn d_need_account (hr.mono (by decide)) pass0 (pa_cons (pv 0) (pa_cons (pv 1) pa_nil))))
      (pss_cons (ps_expr (pe_fn d_need_number (hr.mono (by decide)) pass0 (pa_cons (pv 2) pa_nil)))
      (pss_cons (ps_set (i := 4) sc.nd rfl (by first | exact Or.inl rfl | exact Or.inr rfl) (pe_op op_sub (pe_mt mt_Book_first_at (hr.mono (by decide)) pass0 (pv 0) (pa_cons (pe_op op_add (pv 2) pe_int) pa_nil)) pe_int))
      (pss_one (ps_ret (pe_op op_sub (pe_fn d_bought_by (hr.mono (by decide)) pass0 (pa_cons (pv 1) (pa_cons (pv 4) pa_nil))) (pe_fn d_paid_by (hr.mono (by decide)) pass0 (pa_cons (pv 3) (pa_cons (pv 4) pa_nil)))))))))), ?_⟩)
  obtain ⟨bk, p, B, rs, e, m, rfl, hB, ok, lok, hC, co, he, m0, m1, k⟩ := h
  have hn := co.n
  have fn := Fin.of (rkB B) co.v co.e he hn
  have hpl : (settle (rkB B) rs e).length ≤ 40200 := by have := fn.len; rw [piecesL_len] at this; exact this
  walk_at "rd"
  refine ⟨bk, p, B, rs, e, rfl, hB, ok, lok, hC, co, fun q H1 A1 => ?_⟩
  walk_at "rd"
  refine ⟨m, rfl, m0, m1, ?_⟩
  have S1 : Sta K CA CB H1 bk p q B rs e (settle (rkB B) rs e) := ⟨hB.keep A1.sm, ok, hC.keep A1.sm, hn, ⟨bk, H, B, _, 0, rs.length, A1, rfl, by omega⟩⟩
  obtain ⟨dx, tl, kd, lv, kvs, hI⟩ := id S1.b
  walk_at "rd"
  refine r_kMeth hI.i rfl ?_
  walk_at "rd"
  refine ⟨bk, B, m + 1, rfl, S1.b, ok, fun H2 e2 => ?_⟩
  walk_at "rd"
  refine ⟨p, rs, e, _, rfl, (S1.keep e2).c, by omega, fun H3 e3 => ?_⟩
  walk_at "rd"
  refine ⟨q, _, _, rfl, (S1.keep (e2.trans e3)).a, fun H4 e4 => ?_⟩
  walk_at "rd"
  exact k H4 (((A1.sm.trans e2).trans e3).trans e4)
theorem ok_is_whole {f CA CB : Addr} {fd : FuncData} (T : Tx K mg) (F : FnP K "is_whole" s_is_whole f fd) (d_need_account : Dn P w K mg base CX0 7 "need_account" ["book", "course"] (sp_account_of K CA CB)) (d_need_number : Dn P w K mg base CX0 3 "need_number" ["value"] sp_need_number)
    (d_whole_at : Dn P w K mg base CX0 3 "whole_at" ["book", "course", "account", "month"] (sp_whole_at K CA CB)) : FnOk P w K mg base CX0 8 f fd ["book", "course", "month"] (sp_is_whole K CB) := by
  have sc : FnScope ["book", "course", "month", "account"] ["book", "course", "month"] (defScope s_is_whole) := ⟨rfl, rfl, rfl, by decide +kernel, rfl, by decide +kernel, by decide +kernel⟩
  refine F.ok sc (by rintro vs H Q E ⟨_, _, _, _, _, _, rfl, _⟩; rfl) (fun cdv A outer s H vs Q E hr h => ⟨_, PSs.nox ((pss_cons (ps_set (i := 3) sc.nd rfl (by first | exact Or.inl rfl | exact Or.inr rfl) (pe_fn d_need_account (hr.mono (by decide)) pass0 (pa_cons (pv 0) (pa_cons (pv 1) pa_nil))))
      (pss_cons (ps_expr (pe_fn d_need_number (hr.mono (by decide)) pass0 (pa_cons (pv 2) pa_nil)))
      (pss_one (ps_ret (pe_fn d_whole_at (hr.mono (by decide)) pass0 (pa_cons (pv 0) (pa_cons (pv 1) (pa_cons (pv 3) (pa_cons (pv 2) pa_nil)))))))))), ?_⟩)
  obtain ⟨bk, p, B, rs, e, m, rfl, hB, ok, lok, hC, co, he, m0, m1, k⟩ := h
  have hn := co.n
  have fn := Fin.of (rkB B) co.v co.e he hn
  have hpl : (settle (rkB B) rs e).length ≤ 40200 := by have := fn.len; rw [piecesL_len] at this; exact this
  walk_at "rd"
  refine ⟨bk, p, B, rs, e, rfl, hB, ok, lok, hC, co, fun q H1 A1 => ?_⟩
  walk_at "rd"
  refine ⟨m, rfl, m0, m1, ?_⟩
  walk_at "rd"
  have S1 : Sta K CA CB H1 bk p q B rs e (settle (rkB B) rs e) := ⟨hB.keep A1.sm, ok, hC.keep A1.sm, hn, ⟨bk, H, B, _, 0, rs.length, A1, rfl, by omega⟩⟩
  exact ⟨bk, p, q, B, rs, e, _, m, rfl, S1, fun H2 e2 => k H2 (A1.sm.trans e2)⟩
theorem ok__law_due_sum {f : Addr} {fd : FuncData} (T : Tx K mg) (F : FnP K "_law_due_sum" s__law_due_sum f fd) (d__law_bought : Dn P w K mg base CX0 2 "_law_bought" ["_law_route", "_law_date"] (sp_bought_by K)) (d__law_settled_by : Dn P w K mg base CX0 2 "_law_settled_by" ["_law_found", "_law_date"] sp_lsettled_by)
    (d__law_first : Dn P w K mg base CX0 1 "_law_first" ["_law_model_here", "_law_mon"] sp_lfirst) :
    FnOk P w K mg base CX0 3 f fd ["_law_model_here", "_law_route", "_law_found", "_law_mon"] (sp_ldue_sum K) := by
  have sc : FnScope ["_law_model_here", "_law_route", "_law_found", "_law_mon", "_law_date"] ["_law_model_here", "_law_route", "_law_found", "_law_mon"] (defScope s__law_due_sum) := ⟨rfl, rfl, rfl, by decide +kernel, rfl, by decide +kernel, by decide +kernel⟩
  refine F.ok sc (by rintro vs H Q E ⟨_, _, _, _, _, _, _, _, _, rfl, _⟩; rfl) (fun cdv A outer s H vs Q E hr h => ⟨_, PSs.nox ((pss_cons (ps_set (i := 4) sc.nd rfl (by first | exact Or.inl rfl | exact Or.inr rfl) (pe_op op_sub (pe_fn d__law_first (hr.mono (by decide)) pass0 (pa_cons (pv 0) (pa_cons (pe_op op_add (pv 3) pe_int) pa_nil))) pe_int))
      (pss_one (ps_ret (pe_op op_sub (pe_fn d__law_bought (hr.mono (by decide)) pass0 (pa_cons (pv 1) (pa_cons (pv 4) pa_nil))) (pe_fn d__law_settled_by (hr.mono (by decide)) pass0 (pa_cons (pv 2) (pa_cons (pv 4) pa_nil)))))))), ?_⟩)
  obtain ⟨l, p, r, fo, B, rs, e, P', m, rfl, S, k⟩ := h
  have hn := S.n
  walk_at "rd"
  refine ⟨l, p, B, m + 1, rfl, S.m, S.ok.ls, fun H1 e1 => ?_⟩
  have S1 := S.keep e1
  walk_at "rd"
  refine ⟨r, rs, e, _, rfl, S1.c, by omega, fun H2 e2 => ?_⟩
  have S2 := S1.keep e2
  walk_at "rd"
  refine ⟨fo, P', _, rfl, S2.f, S.nd, S.z, fun H3 e3 => ?_⟩
  walk_at "rd"
  exact k H3 ((e1.trans e2).trans e3)
theorem ok__law_is_whole_by_days {f : Addr} {fd : FuncData} (T : Tx K mg) (F : FnP K "_law_is_whole_by_days" s__law_is_whole_by_days f fd) (d__law_first : Dn P w K mg base CX0 1 "_law_first" ["_law_model_here", "_law_mon"] sp_lfirst)
    (d__law_due : Dn P w K mg base CX0 2 "_law_due" ["_law_model_here", "_law_mon"] sp_ldue) (d__law_due_sum : Dn P w K mg base CX0 3 "_law_due_sum" ["_law_model_here", "_law_route", "_law_found", "_law_mon"] (sp_ldue_sum K)) :
    FnOk P w K mg base CX0 4 f fd ["_law_model_here", "_law_route", "_law_found", "_law_mon"] (sp_lby_days K) := by
  have sc : FnScope ["_law_model_here", "_law_route", "_law_found", "_law_mon", "_law_first_here", "_law_late", "_law_gone", "_law_spot"] ["_law_model_here", "_law_route", "_law_found", "_law_mon"] (defScope s__law_is_whole_by_days) := ⟨rfl, rfl, rfl, by decide +kernel, rfl, by decide +kernel, by decide +kernel⟩
  refine F.ok sc (by rintro vs H Q E ⟨_, _, _, _, _, _, _, _, _, rfl, _⟩; rfl) (fun cdv A outer s H vs Q E hr h => ⟨_, PSs.nox ((pss_cons (ps_asg (pe_tup (pa_cons (pe_fn d__law_first (hr.mono (by decide)) pass0 (pa_cons (pv 0) (pa_cons (pe_op op_add (pv 3) pe_int) pa_nil))) (pa_cons (pe_fn d__law_due (hr.mono (by decide)) pass0 (pa_cons (pv 0) (pa_cons (pv 3) pa_nil))) pa_nil))) (pg_tupK (K := K) (n := 2) rfl rfl (pgs_cons (pg_name (i := 4) sc.nd rfl (by first | exact Or.inl rfl | exact Or.inr rfl)) (pgs_cons (pg_name (i := 5) sc.nd rfl (by first | exact Or.inl rfl | exact Or.inr rfl)) pgs_nil))))
      (pss_cons (ps_set (i := 6) sc.nd rfl (by first | exact Or.inl rfl | exact Or.inr rfl) (pe_callB (c_sumK (K := K) rfl rfl) (by rfl) T.b_sum (by decide +kernel) (pa_cons (pe_lock (pe_lc (own := [("_law_spot", 7)]) (by rfl) sc.nd (pi_keys (pv 2)) (blkOk_by (own := [("_law_spot", 7)]) (N := ["_law_model_here", "_law_route", "_law_found", "_law_mon", "_law_first_here", "_law_late", "_law_gone", "_law_spot"]) (sc := defScope s__law_is_whole_by_days) (by decide +kernel)) (fun _ _ _ _ _ => (pg_name (i := 7) sc.nd rfl (by first | exact Or.inl rfl | exact Or.inr rfl))) (fun _ _ _ _ _ => (pts_one (pt_chain op_le op_le (pv 4) (pe_ix (ix_tupK (K := K) rfl) (pv 7) pe_int (fun _ _ => rfl)) (pv 5)))) (fun _ _ _ _ _ => (pe_dget (hu_of hr) (pv 2) (pv 7) (fun _ _ => rfl))))) pa_nil)))
      (pss_one (ps_ret (pe_cmpR op_ge (pv 6) (pe_fn d__law_due_sum (hr.mono (by decide)) pass0 (pa_cons (pv 0) (pa_cons (pv 1) (pa_cons (pv 2) (pa_cons (pv 3) pa_nil))))) (nomark _))))))), ?_⟩)
  obtain ⟨l, p, r, fo, B, rs, e, P', m, rfl, S, hf, hm, k⟩ := h
  have nd := S.nd
  have hz := S.z
  walk_at "rd"
  refine ⟨l, p, B, m + 1, rfl, S.m, S.ok.ls, fun H1 e1 => ?_⟩
  have S1 := S.keep e1
  walk_at "rd"
  refine ⟨l, p, B, m, rfl, S1.m, S.ok.ls, fun H2 e2 => ?_⟩
  walk_at "rd"
  refine r_kTup fun tt H2a ntt e2a htt => ?_
  have e2 := e2.trans e2a
  have S2 := S1.keep e2
  have hf2 := e2 _ _ (e1 _ _ hf)
  walk_at "rd"
  refine r_lockDT hf2 fun od H3 hd1 ho1 hn1 => ?_
  walk_at "rd"
  refine r_kLcKT hd1 (fun Da i H' => Same H3 H' ∧ H' Da = some (.lst ((goneL (P'.take i) (firstL B.ls (m + 1)) (firstL B.ls (m + 1) + B.due)).map V.int))) (fun Da H' _ e h => ⟨e, h⟩) (fun Da i H' h => h.1 _ _ hd1) ?_ ?_
  · rintro Da i c kq H4 hD hc ⟨e2, hDa⟩ hkq
    have hil := (List.getElem?_eq_some_iff.mp hc).1
    have hll : ((goneL (P'.take i) (firstL B.ls (m + 1)) (firstL B.ls (m + 1) + B.due)).map V.int).length < 1000000 := by
      unfold goneL
      rw [List.length_map, List.length_map]
      have := List.length_filter_le (fun p : (Int × Int) × Int => decide (firstL B.ls (m + 1) ≤ p.1.2) && decide (p.1.2 ≤ firstL B.ls (m + 1) + B.due)) (P'.take i)
      rw [List.length_take] at this
      omega
    have hlk := lookP_mem nd (List.mem_of_getElem? hc)
    have hno : ¬ (firstL B.ls (m + 1) ≤ c.1.2 ∧ c.1.2 ≤ firstL B.ls (m + 1) + B.due) → goneL (P'.take (i + 1)) (firstL B.ls (m + 1)) (firstL B.ls (m + 1) + B.due) = goneL (P'.take i) (firstL B.ls (m + 1)) (firstL B.ls (m + 1) + B.due) := fun g => by
      unfold goneL
      rw [take_more hc, List.filter_append, List.filter_cons_of_neg (by simpa using g), List.filter_nil, List.append_nil]
    walk_at "rd"
    refine r_ixT (SqT.of hkq) (at_get (n := 1) rfl rfl) ?_
    walk_at "rd"
    refine r_kChain (fun g1 => ?_) (fun g1 => ?_)
    · replace g1 := of_decide_eq_true g1
      walk_at "rd"
      refine w_dec (fun g2 => ?_) (fun g2 => ?_)
      · walk_at "rd"
        refine r_kDGetPF (e2 _ _ hd1) hkq hlk ?_
        refine r_kLcE hDa hll fun H4 b4 h4 => ⟨Same.mut e2 b4 hD, ?_⟩
        have : goneL (P'.take (i + 1)) (firstL B.ls (m + 1)) (firstL B.ls (m + 1) + B.due) = goneL (P'.take i) (firstL B.ls (m + 1)) (firstL B.ls (m + 1) + B.due) ++ [c.2] := by
          unfold goneL
          rw [take_more hc, List.filter_append, List.filter_cons_of_pos (by simpa using ⟨g1, g2⟩), List.map_append]
          rfl
        rw [this, List.map_append]
        exact h4
      · exact ⟨e2, by rw [hno (fun h => g2 h.2)]; exact hDa⟩
    · replace g1 := of_decide_eq_false g1
      walk_at "rd"
      exact ⟨e2, by rw [hno (fun h => g1 h.1)]; exact hDa⟩
  · rintro Da H' hD ⟨e3, hDa⟩
    rw [List.take_length] at hDa
    have hDn : Da ≠ fo := by
      rintro rfl
      rw [hd1] at hD
      cases hD
    refine r_kLock hf2 ho1 hd1 e3 fun H4 e4 o4 => ?_
    walk_at "rd"
    refine r_sum (SqL.of (o4 _ _ hDa hDn)) ?_
    walk_at "rd"
    refine ⟨l, p, r, fo, B, rs, e, P', m, rfl, S2.keep e4, fun H5 e5 => ?_⟩
    walk_at "rd"
    have d0 := S.ok.d0
    rw [whole_gone hm d0]
    exact k H5 (((e1.trans e2).trans e4).trans e5)
end
end Wp
set_option Elab.async false
set_option linter.all false
set_option maxRecDepth 100000
set_option maxHeartbeats 4000000
/-! Dicts from texts to ints, plain. -/
namespace Wp
open PySem PySem.Spec PyProof.Rows L2
abbrev SD := List (Str × Int)
def lookS : SD → Str → Option Int
  | [], _ => none
  | (k, c) :: r, z => if k = z then some c else lookS r z
theorem lookS_cons (k : Str) (c : Int) (r : SD) (z : Str) : lookS ((k, c) :: r) z = if k = z then some c else lookS r z := rfl
def putS (t : SD) (z : Str) (c : Int) : SD := if (t.any fun p => decide (p.1 = z)) = true then t.map (fun p => if p.1 = z then (p.1, c) else p) else t ++ [(z, c)]
def addKey (ks : List Str) (k : Str) : List Str := if k ∈ ks then ks else ks ++ [k]
theorem anyS_look : ∀ (t : SD) (z : Str), (t.any fun p => decide (p.1 = z)) = (lookS t z).isSome
  | [], z => rfl
  | (k, c) :: r, z => by
    rw [lookS_cons]
    by_cases h : k = z
    · simp [h]
    · rw [List.any_cons, anyS_look r z]
      simp [h]
theorem lookS_none : ∀ {t : SD} {z : Str}, lookS t z = none ↔ z ∉ t.map (·.1)
  | [], z => by simp [lookS]
  | (k, c) :: r, z => by
    have := lookS_none (t := r) (z := z)
    rw [lookS_cons]
    by_cases h : k = z
    · simp [h]
    · rw [if_neg h, this]
      simp
      intro _ e
      exact h e.symm
theorem putS_keys (t : SD) (z : Str) (c : Int) : (putS t z c).map (·.1) = addKey (t.map (·.1)) z := by
  unfold putS addKey
  rw [anyS_look]
  by_cases h : (lookS t z).isSome = true
  · have : z ∈ t.map (·.1) := by
      by_cases hz : z ∈ t.map (·.1)
      · exact hz
      · rw [lookS_none.mpr hz] at h
        cases h
    rw [if_pos h, if_pos this, List.map_map]
    refine List.map_congr_left fun p _ => ?_
    show (if p.1 = z then (p.1, c) else p).1 = p.1
    split <;> rfl
  · have : z ∉ t.map (·.1) := lookS_none.mp (by simpa using h)
    rw [if_neg h, if_neg this]
    simp
theorem lookS_map (c : Int) (z y : Str) : ∀ (t : SD), lookS (t.map fun p => if p.1 = z then (p.1, c) else p) y = if y = z then (lookS t z).map (fun _ => c) else lookS t y
  | [] => by simp [lookS]
  | (k, e) :: r => by
    have := lookS_map c z y r
    rw [List.map_cons]
    by_cases hk : k = z
    · subst hk
      rw [if_pos rfl, lookS_cons, lookS_cons, lookS_cons]
      by_cases hy : y = k
      · simp [hy]
      · rw [if_neg (fun z => hy z.symm), this, if_neg hy, if_neg hy, if_neg (fun z => hy z.symm)]
    · rw [if_neg hk]
      rw [lookS_cons, this, lookS_cons, lookS_cons]
      by_cases hy : y = z
      · subst hy
        rw [if_neg hk, if_pos rfl, if_pos rfl, if_neg hk]
      · rw [if_neg hy, if_neg hy]
theorem lookS_app (z : Str) (c : Int) (y : Str) : ∀ (t : SD), lookS t z = none → lookS (t ++ [(z, c)]) y = if y = z then some c else lookS t y
  | [], _ => by
    show (if z = y then some c else none) = _
    by_cases h : y = z
    · rw [if_pos h, if_pos h.symm]
    · rw [if_neg h, if_neg fun e => h e.symm]
      rfl
  | (k, e) :: r, h => by
    rw [lookS_cons] at h
    by_cases hk : k = z
    · rw [if_pos hk] at h
      cases h
    · rw [if_neg hk] at h
      have := lookS_app z c y r h
      show (if k = y then some e else lookS (r ++ [(z, c)]) y) = _
      rw [this]
      rw [lookS_cons]
      by_cases hy : k = y
      · rw [if_pos hy, if_pos hy, if_neg fun e => hk (hy.trans e)]
      · rw [if_neg hy, if_neg hy]
theorem putS_look (t : SD) (z : Str) (c : Int) (y : Str) : lookS (putS t z c) y = if y = z then some c else lookS t y := by
  unfold putS
  rw [anyS_look]
  cases h : lookS t z with
  | none => rw [if_neg (by simp), lookS_app z c y t h]
  | some v =>
    rw [if_pos (show (some v).isSome = true from rfl), lookS_map, h]
    rfl
theorem sd_of_look : ∀ {t : SD}, (t.map (·.1)).Nodup → t = (t.map (·.1)).map fun k => (k, (lookS t k).getD 0)
  | [], _ => rfl
  | (k, c) :: r, nd => by
    rw [List.map_cons, List.nodup_cons] at nd
    have ih := sd_of_look nd.2
    rw [List.map_cons, List.map_cons]
    congr 1
    · simp [lookS]
    · conv => lhs; rw [ih]
      refine List.map_congr_left fun y hy => ?_
      show (y, (lookS r y).getD 0) = (y, (if k = y then some c else lookS r y).getD 0)
      rw [if_neg fun e => nd.1 (by rw [e]; exact hy)]
end Wp
set_option Elab.async false
set_option linter.all false
set_option maxRecDepth 100000
set_option maxHeartbeats 4000000
/-! What is owed by kinds, plain. -/
namespace Wp
open PySem PySem.Spec PyProof.Rows L2
/-! sums by texts -/
def addS (t : SD) (z : Str) (c : Int) : SD := putS t z ((lookS t z).getD 0 + c)
def foldS (L : SD) : SD := L.foldl (fun t x => addS t x.1 x.2) []
def sumK (L : SD) (k : Str) : Int := ((L.filter fun x => decide (x.1 = k)).map (·.2)).sum
/-- the sum over the texts that q tells -/
def sumQ (L : SD) (q : Str → Bool) : Int := ((L.filter fun x => q x.1).map (·.2)).sum
theorem sumQ_app (L M : SD) (q : Str → Bool) : sumQ (L ++ M) q = sumQ L q + sumQ M q := by
  unfold sumQ
  rw [List.filter_append, List.map_append, List.sum_append]
theorem sumQ_snoc (L : SD) (x : Str × Int) (q : Str → Bool) : sumQ (L ++ [x]) q = sumQ L q + (if q x.1 = true then x.2 else 0) := by
  rw [sumQ_app]
  congr 1
  unfold sumQ
  by_cases h : q x.1 = true
  · rw [List.filter_cons_of_pos (by exact h), if_pos h]
    simp
  · rw [List.filter_cons_of_neg (by exact h), if_neg h]
    rfl
def keysOf (L : List Str) : List Str := L.foldl addKey []
theorem keysOf_snoc (L : List Str) (k : Str) : keysOf (L ++ [k]) = addKey (keysOf L) k := by unfold keysOf; rw [List.foldl_append]; rfl
theorem mem_keysOf : ∀ (L : List Str) (k : Str), k ∈ keysOf L ↔ k ∈ L := fun L => by
  revert L
  refine list_snoc_ind (by simp [keysOf]) fun L z ih k => ?_
  rw [keysOf_snoc]
  unfold addKey
  split
  · rename_i h
    rw [ih, List.mem_append, List.mem_singleton]
    constructor
    · exact Or.inl
    · rintro (h2 | rfl)
      · exact h2
      · exact (ih k).mp h
  · rw [List.mem_append, List.mem_append, ih]
theorem keysOf_nd : ∀ L : List Str, (keysOf L).Nodup := by
  refine list_snoc_ind List.nodup_nil fun L z ih => ?_
  rw [keysOf_snoc]
  unfold addKey
  split
  · exact ih
  · rename_i h
    rw [List.nodup_append]
    exact ⟨ih, by simp, fun a ha b hb e => h (by rw [← List.mem_singleton.mp hb, ← e]; exact ha)⟩
theorem foldS_snoc (L : SD) (x : Str × Int) : foldS (L ++ [x]) = addS (foldS L) x.1 x.2 := by unfold foldS; rw [List.foldl_append]; rfl
theorem foldS_keys : ∀ L : SD, (foldS L).map (·.1) = keysOf (L.map (·.1)) := by
  refine list_snoc_ind rfl fun L x ih => ?_
  rw [foldS_snoc, List.map_append]
  show (putS _ _ _).map _ = keysOf (_ ++ [x.1])
  rw [putS_keys, ih, keysOf_snoc]
theorem sumK_snoc (L : SD) (x : Str × Int) (k : Str) : sumK (L ++ [x]) k = sumK L k + (if x.1 = k then x.2 else 0) := by
  unfold sumK
  rw [List.filter_append, List.map_append, List.sum_append]
  by_cases h : x.1 = k
  · rw [List.filter_cons_of_pos (by simpa using h), if_pos h]
    simp
  · rw [List.filter_cons_of_neg (by simpa using h), if_neg h]
    simp
theorem sumK_app (L M : SD) (k : Str) : sumK (L ++ M) k = sumK L k + sumK M k := by
  unfold sumK
  rw [List.filter_append, List.map_append, List.sum_append]
theorem foldS_look : ∀ (L : SD) (k : Str), lookS (foldS L) k = if k ∈ L.map (·.1) then some (sumK L k) else none := fun L => by
  revert L
  refine list_snoc_ind (fun k => by simp [foldS, lookS]) fun L x ih k => ?_
  rw [foldS_snoc]
  unfold addS
  rw [putS_look, ih, ih, sumK_snoc, List.map_append, List.map_singleton]
  by_cases h : k = x.1
  · subst h
    rw [if_pos rfl, if_pos (List.mem_append_right _ (List.mem_singleton_self _)), if_pos rfl]
    congr 1
    by_cases g : x.1 ∈ L.map (·.1)
    · rw [if_pos g]; rfl
    · rw [if_neg g]
      have : sumK L x.1 = 0 := by
        unfold sumK
        rw [List.filter_eq_nil_iff.mpr fun y hy => by
          simp
          intro e
          exact g (List.mem_map.mpr ⟨y, hy, e⟩)]
        rfl
      rw [this]
      rfl
  · rw [if_neg h, if_neg (show ¬ x.1 = k from fun e => h e.symm), Int.add_zero]
    by_cases g : k ∈ L.map (·.1)
    · rw [if_pos g, if_pos (List.mem_append_left _ g)]
    · rw [if_neg g, if_neg fun z => by
        rcases List.mem_append.mp z with z | z
        · exact g z
        · exact h (List.mem_singleton.mp z)]
theorem foldS_eq (L : SD) : foldS L = (keysOf (L.map (·.1))).map fun k => (k, sumK L k) := by
  have nd : ((foldS L).map (·.1)).Nodup := by rw [foldS_keys]; exact keysOf_nd _
  have e := sd_of_look nd
  rw [foldS_keys] at e
  rw [e]
  refine List.map_congr_left fun k hk => ?_
  rw [foldS_look, if_pos ((mem_keysOf _ _).mp hk)]
  rfl
theorem keysOf_sub : ∀ (M L : List Str), (∀ k ∈ M, k ∈ L) → keysOf (L ++ M) = keysOf L := by
  refine list_snoc_ind (fun L _ => by rw [List.append_nil]) fun M z ih L h => ?_
  rw [← List.append_assoc, keysOf_snoc, ih L fun k hk => h k (List.mem_append_left _ hk)]
  unfold addKey
  rw [if_pos ((mem_keysOf _ _).mpr (h z (List.mem_append_right _ (List.mem_singleton_self z))))]
theorem sumK_perm {L M : SD} (p : L.Perm M) (k : Str) : sumK L k = sumK M k := perm_sum ((p.filter _).map _)
/-! a piece is paid no earlier than its purchase -/
theorem addP_keys {P : Pd} {z : Int × Int} {c : Int} : ∀ y ∈ (addP P z c).map (·.1), y ∈ P.map (·.1) ∨ y = z := fun y hy => by
  unfold addP at hy
  rw [putP_keys] at hy
  split at hy
  · exact .inl hy
  · rcases List.mem_append.mp hy with h | h
    · exact .inl h
    · exact .inr (List.mem_singleton.mp h)
theorem foldP_keys (d : Int) : ∀ (L : List (Int × Int)) (P : Pd), ∀ y ∈ (L.foldl (fun P x => addP P (x.1, d) x.2) P).map (·.1), y ∈ P.map (·.1) ∨ y.2 = d
  | [], P, y, h => .inl h
  | x :: L, P, y, h => by
    rcases foldP_keys d L (addP P (x.1, d) x.2) y h with h | h
    · rcases addP_keys y h with h | h
      · exact .inl h
      · exact .inr (by rw [h])
    · exact .inr h
def AftP (rs : List CR) (P : Pd) : Prop := ∀ z ∈ P.map (·.1), ∀ r, rs[z.1.toNat]? = some r → r.day ≤ z.2
theorem acOf_after {ks : List Str} (rk : Str → Int) : ∀ rs : List CR, VR ks rs → AftP rs (acOf rk rs).P := by
  refine list_snoc_ind (fun _ z h => by simp [acOf_nil] at h) fun rs r ih hv => ?_
  have hv0 : VR ks rs := by
    have := hv.take rs.length
    rwa [List.take_left] at this
  have hd := (VR.days _ hv).2
  have hl : lastDay (rs ++ [r]) = r.day := lastDay_snoc rs r
  obtain ⟨pk, _⟩ := acOf_paid rk (M := lastDay rs) rs hv0 fun x hx => ((VR.days _ hv0).2 x hx)
  have old : AftP (rs ++ [r]) (acOf rk rs).P := fun z hz x hx => by
    obtain ⟨p, hp, rfl⟩ := List.mem_map.mp hz
    have := pk.at' p hp
    rw [List.getElem?_append_left (by omega)] at hx
    exact ih hv0 _ hz x hx
  rw [acOf_snoc]
  cases r with
  | buy d k c => exact old
  | pay d c =>
    intro z hz x hx
    rcases foldP_keys d _ _ z hz with h | h
    · exact old z h x hx
    · have := (hd x (List.mem_of_getElem? hx)).2
      rw [hl] at this
      rw [h]
      exact this
theorem settle_after {ks : List Str} (rk : Str → Int) {rs : List CR} {e : Int} (hv : VR ks rs) (he : lastDay rs ≤ e) : AftP rs (settle rk rs e) := fun z hz x hx => by
  rcases foldP_keys e _ _ z hz with h | h
  · exact acOf_after rk rs hv z h x hx
  · have := ((VR.days _ hv).2 x (List.mem_of_getElem? hx)).2
    omega
/-! what is open by kinds -/
def goneP (P : Pd) (i d : Int) : Int := ((P.filter fun p => decide (p.1.1 = i ∧ p.1.2 ≤ d)).map (·.2)).sum
def opF (rs : List CR) (P : Pd) (d : Int) (j : Nat) : Option (Str × Int) := match rs[j]? with
  | some (.buy d' k c) => if d' ≤ d then some (k, c - goneP P j d) else none
  | _ => none
def openL (rs : List CR) (P : Pd) (d : Int) (n : Nat) : SD := (List.range n).filterMap (opF rs P d)
def kindAt (rs : List CR) (z : Int) : Str := match rs[z.toNat]? with
  | some (.buy _ k _) => k
  | _ => Str.empty
def ngF (rs : List CR) (d : Int) (t : Tri) : Option (Str × Int) := if t.2.1 ≤ d then some (kindAt rs t.1, -t.2.2) else none
theorem goneP_nil (i d : Int) : goneP [] i d = 0 := rfl
theorem goneP_cons (p : (Int × Int) × Int) (P : Pd) (i d : Int) : goneP (p :: P) i d = (if p.1.1 = i ∧ p.1.2 ≤ d then p.2 else 0) + goneP P i d := by
  unfold goneP
  by_cases h : p.1.1 = i ∧ p.1.2 ≤ d
  · rw [List.filter_cons_of_pos (by simpa using h), if_pos h, List.map_cons, List.sum_cons]
  · rw [List.filter_cons_of_neg (by simpa using h), if_neg h, Int.zero_add]
theorem openL_succ (rs : List CR) (P : Pd) (d : Int) (n : Nat) : openL rs P d (n + 1) = openL rs P d n ++ (opF rs P d n).toList := by
  unfold openL
  rw [List.range_succ, List.filterMap_append]
  cases h : opF rs P d n <;> simp [h]
theorem openL_kinds (rs : List CR) (P P' : Pd) (d : Int) : ∀ n : Nat, (openL rs P d n).map (·.1) = (openL rs P' d n).map (·.1)
  | 0 => rfl
  | n + 1 => by
    rw [openL_succ, openL_succ, List.map_append, List.map_append, openL_kinds rs P P' d n]
    congr 1
    unfold opF
    split
    · split <;> rfl
    · rfl
/-- each piece lies at a purchase -/
def Lies (rs : List CR) (p : (Int × Int) × Int) : Prop := 0 ≤ p.1.1 ∧ p.1.1 < rs.length ∧ ∃ d k c, rs[p.1.1.toNat]? = some (.buy d k c) ∧ d ≤ p.1.2
theorem openL_sumQ (rs : List CR) (d : Int) (q : Str → Bool) : ∀ (P : Pd), (∀ p ∈ P, Lies rs p) → sumQ (openL rs P d rs.length) q = sumQ (openL rs [] d rs.length) q - ((P.filter fun p => decide (p.1.2 ≤ d ∧ q (kindAt rs p.1.1) = true)).map (·.2)).sum
  | [], _ => by simp
  | p :: P, h => by
    have ih := openL_sumQ rs d q P fun y hy => h y (List.mem_cons_of_mem _ hy)
    obtain ⟨h0, h1, d', k', c', hr, hd⟩ := h p (List.mem_cons_self ..)
    have hk : kindAt rs p.1.1 = k' := by unfold kindAt; rw [hr]
    have step : ∀ n : Nat, sumQ (openL rs (p :: P) d n) q = sumQ (openL rs P d n) q - (if p.1.1 < (n : Int) ∧ p.1.2 ≤ d ∧ q k' = true then p.2 else 0) := fun n => by
      induction n with
      | zero =>
        rw [if_neg (by omega)]
        show sumQ [] q = sumQ [] q - 0
        omega
      | succ n ihn =>
        rw [openL_succ, openL_succ, sumQ_app, sumQ_app, ihn, Int.natCast_add]
        by_cases e : p.1.1 = (n : Int)
        · have er : rs[n]? = some (.buy d' k' c') := by rw [← hr, e]; rfl
          have o1 : opF rs (p :: P) d n = if d' ≤ d then some (k', c' - goneP (p :: P) n d) else none := by unfold opF; rw [er]
          have o2 : opF rs P d n = if d' ≤ d then some (k', c' - goneP P n d) else none := by unfold opF; rw [er]
          rw [o1, o2, goneP_cons, if_neg (show ¬ (p.1.1 < (n : Int) ∧ p.1.2 ≤ d ∧ q k' = true) from fun z => by have := z.1; omega)]
          by_cases g : d' ≤ d
          · rw [if_pos g, if_pos g]
            show _ + sumQ [(k', _)] q = _ + sumQ [(k', _)] q - _
            have one : ∀ v : Int, sumQ [(k', v)] q = if q k' = true then v else 0 := fun v => by
              have := sumQ_snoc [] (k', v) q
              rw [List.nil_append] at this
              rw [this]
              show sumQ [] q + _ = _
              rw [show sumQ [] q = 0 from rfl, Int.zero_add]
            rw [one, one]
            by_cases g2 : q k' = true
            · rw [if_pos g2, if_pos g2]
              by_cases g3 : p.1.2 ≤ d
              · rw [if_pos ⟨e, g3⟩, if_pos ⟨by omega, g3, g2⟩]
                omega
              · rw [if_neg fun z => g3 z.2, if_neg fun z => g3 z.2.1]
                omega
            · rw [if_neg g2, if_neg g2, if_neg fun z => g2 z.2.2]
              omega
          · rw [if_neg g, if_neg g, if_neg (by omega)]
            show _ + sumQ [] q = _ + sumQ [] q - 0
            omega
        · have o : opF rs (p :: P) d n = opF rs P d n := by
            unfold opF
            have ge : goneP (p :: P) n d = goneP P n d := by rw [goneP_cons, if_neg (show ¬ (p.1.1 = (n : Int) ∧ p.1.2 ≤ d) from fun z => e z.1), Int.zero_add]
            rw [ge]
          rw [o]
          have : (p.1.1 < (n : Int) + ((1 : Nat) : Int) ∧ p.1.2 ≤ d ∧ q k' = true) ↔ (p.1.1 < (n : Int) ∧ p.1.2 ≤ d ∧ q k' = true) := ⟨fun z => ⟨by omega, z.2⟩, fun z => ⟨by omega, z.2⟩⟩
          by_cases g : p.1.1 < (n : Int) ∧ p.1.2 ≤ d ∧ q k' = true
          · rw [if_pos g, if_pos (this.mpr g)]
            omega
          · rw [if_neg g, if_neg fun z => g (this.mp z)]
            omega
    rw [step, ih]
    by_cases g : p.1.2 ≤ d ∧ q (kindAt rs p.1.1) = true
    · rw [List.filter_cons_of_pos (by simpa using g), List.map_cons, List.sum_cons, if_pos ⟨h1, g.1, by rw [← hk]; exact g.2⟩]
      omega
    · rw [List.filter_cons_of_neg (by simpa using g), if_neg fun z => g ⟨z.2.1, by rw [hk]; exact z.2.2⟩]
      omega
theorem openL_sum (rs : List CR) (d : Int) (k : Str) (P : Pd) (h : ∀ p ∈ P, Lies rs p) : sumK (openL rs P d rs.length) k = sumK (openL rs [] d rs.length) k - ((P.filter fun p => decide (p.1.2 ≤ d ∧ kindAt rs p.1.1 = k)).map (·.2)).sum := by
  have := openL_sumQ rs d (fun z => decide (z = k)) P h
  simp only [decide_eq_true_eq] at this
  exact this
theorem openL_has {rs : List CR} {P : Pd} {d d' c : Int} {k : Str} : ∀ {n i : Nat}, i < n → rs[i]? = some (.buy d' k c) → d' ≤ d → k ∈ (openL rs P d n).map (·.1) := fun {n i} hi hr hd => by
  unfold openL
  refine List.mem_map.mpr ⟨(k, c - goneP P i d), List.mem_filterMap.mpr ⟨i, List.mem_range.mpr hi, ?_⟩, rfl⟩
  unfold opF
  rw [hr]
  exact if_pos hd
/-- the program's dict is the law's one -/
theorem own_eq {rs : List CR} {P : Pd} {d : Int} (nd : (P.map (·.1)).Nodup) (h : ∀ p ∈ P, Lies rs p) : foldS (openL rs [] d rs.length ++ (piecesL P).filterMap (ngF rs d)) = foldS (openL rs P d rs.length) := by
  rw [foldS_eq, foldS_eq, List.map_append, keysOf_sub, openL_kinds rs [] P d]
  · refine List.map_congr_left fun k _ => ?_
    rw [sumK_app, openL_sum rs d k P h, sumK_perm ((piecesL_perm nd).filterMap _)]
    congr 1
    have : ∀ P : Pd, sumK ((P.map fun p => (p.1.1, p.1.2, p.2)).filterMap (ngF rs d)) k = -((P.filter fun p => decide (p.1.2 ≤ d ∧ kindAt rs p.1.1 = k)).map (·.2)).sum := fun P => by
      induction P with
      | nil => rfl
      | cons p P ih =>
        rw [List.map_cons, List.filterMap_cons]
        by_cases g : p.1.2 ≤ d
        · rw [show ngF rs d (p.1.1, p.1.2, p.2) = some (kindAt rs p.1.1, -p.2) from if_pos g]
          show sumK ([(kindAt rs p.1.1, -p.2)] ++ (P.map fun p => (p.1.1, p.1.2, p.2)).filterMap (ngF rs d)) k = _
          rw [sumK_app, ih]
          have := sumK_snoc [] (kindAt rs p.1.1, -p.2) k
          rw [List.nil_append] at this
          rw [this, show sumK [] k = 0 from rfl, Int.zero_add]
          by_cases g2 : kindAt rs p.1.1 = k
          · rw [List.filter_cons_of_pos (by simpa using ⟨g, g2⟩), List.map_cons, List.sum_cons, if_pos g2]
            show -p.2 + _ = _
            omega
          · rw [List.filter_cons_of_neg (by simp [g2]), if_neg g2]
            omega
        · rw [show ngF rs d (p.1.1, p.1.2, p.2) = none from if_neg g, List.filter_cons_of_neg (by simp [g])]
          exact ih
    rw [this]
    rfl
  · intro k hk
    obtain ⟨x, hx, rfl⟩ := List.mem_map.mp hk
    obtain ⟨t, ht, he⟩ := List.mem_filterMap.mp hx
    obtain ⟨p, hp, rfl⟩ := List.mem_map.mp ((piecesL_perm nd).mem_iff.mp ht)
    obtain ⟨h0, h1, d', k', c', hr, hd⟩ := h p hp
    unfold ngF at he
    split at he
    · rename_i g
      obtain rfl := Option.some.inj he
      have hk : kindAt rs p.1.1 = k' := by unfold kindAt; rw [hr]
      show kindAt rs p.1.1 ∈ _
      rw [hk]
      exact openL_has (i := p.1.1.toNat) (by omega) hr (Int.le_trans hd g)
    · cases he
/-! what is shown -/
def valS (t : SD) (k : Str) : Int := (lookS t k).getD 0
def shownS (t : SD) : SD := ((srtS (t.map (·.1))).filter fun k => decide (0 < valS t k)).map fun k => (k, valS t k)
theorem keys_total : ∀ L : SD, ((keysOf (L.map (·.1))).map fun k => sumK L k).sum = (L.map (·.2)).sum := by
  refine list_snoc_ind rfl fun L x ih => ?_
  rw [List.map_append, List.map_append, List.sum_append, ← ih]
  show ((keysOf (_ ++ [x.1])).map _).sum = _
  rw [keysOf_snoc]
  have e : ∀ ks : List Str, ks.Nodup → (ks.map fun k => sumK (L ++ [x]) k).sum = (ks.map fun k => sumK L k).sum + (if x.1 ∈ ks then x.2 else 0) := fun ks => by
    induction ks with
    | nil => intro _; rfl
    | cons k ks ih =>
      intro nd
      rw [List.nodup_cons] at nd
      simp only [List.map_cons, List.sum_cons]
      rw [ih nd.2, sumK_snoc]
      by_cases h : x.1 = k
      · have : x.1 ∉ ks := by rw [h]; exact nd.1
        rw [if_pos h, if_neg this, if_pos (by rw [h]; exact List.mem_cons_self ..)]
        omega
      · rw [if_neg h]
        by_cases g : x.1 ∈ ks
        · rw [if_pos g, if_pos (List.mem_cons_of_mem _ g)]
          omega
        · rw [if_neg g, if_neg fun z => by
            rcases List.mem_cons.mp z with z | z
            · exact h z
            · exact g z]
          omega
  have hx : ([x].map (·.2)).sum = x.2 := by simp
  rw [hx]
  unfold addKey
  split
  · rename_i h
    rw [e _ (keysOf_nd _), if_pos h]
  · rename_i h
    rw [List.map_append, List.sum_append, e _ (keysOf_nd _), if_neg h]
    have z : sumK L x.1 = 0 := by
      unfold sumK
      rw [List.filter_eq_nil_iff.mpr fun y hy => by
        intro e
        have e := of_decide_eq_true e
        exact h ((mem_keysOf _ _).mpr (List.mem_map.mpr ⟨y, hy, e⟩))]
      rfl
    simp only [List.map_cons, List.map_nil, List.sum_cons, List.sum_nil]
    rw [sumK_snoc, z, if_pos rfl]
    omega
theorem valS_fold (L : SD) (k : Str) (h : k ∈ L.map (·.1)) : valS (foldS L) k = sumK L k := by
  unfold valS
  rw [foldS_look, if_pos h]
  rfl
theorem sumK_nonneg {L : SD} (h : ∀ x ∈ L, 0 ≤ x.2) (k : Str) : 0 ≤ sumK L k := by
  unfold sumK
  induction L with
  | nil => exact Int.le_refl _
  | cons x L ih =>
    have := ih fun y hy => h y (List.mem_cons_of_mem _ hy)
    have hx := h x (List.mem_cons_self ..)
    rw [List.filter_cons]
    split
    · rw [List.map_cons, List.sum_cons]
      omega
    · exact this
theorem shown_sum {L : SD} (h : ∀ x ∈ L, 0 ≤ x.2) : ((shownS (foldS L)).map (·.2)).sum = (L.map (·.2)).sum := by
  rw [← keys_total L]
  unfold shownS
  rw [List.map_map, foldS_keys]
  have e : ∀ ks : List Str, (∀ k ∈ ks, k ∈ L.map (·.1)) → ((ks.filter fun k => decide (0 < valS (foldS L) k)).map ((·.2) ∘ fun k => (k, valS (foldS L) k))).sum = (ks.map fun k => sumK L k).sum := fun ks => by
    induction ks with
    | nil => intro _; rfl
    | cons k ks ih =>
      intro hk
      have ih := ih fun y hy => hk y (List.mem_cons_of_mem _ hy)
      have hv := valS_fold L k (hk k (List.mem_cons_self ..))
      have h0 := sumK_nonneg h k
      by_cases g : 0 < valS (foldS L) k
      · rw [List.filter_cons_of_pos (by simpa using g), List.map_cons, List.sum_cons, ih, List.map_cons, List.sum_cons]
        show valS (foldS L) k + _ = _
        rw [hv]
      · rw [List.filter_cons_of_neg (by simpa using g), ih, List.map_cons, List.sum_cons]
        omega
  rw [e _ fun k hk => (mem_keysOf _ _).mp ((srtS_perm _).mem_iff.mp hk)]
  exact perm_sum ((srtS_perm _).map _)
theorem shown_none {L : SD} (h : ∀ x ∈ L, x.2 = 0) : shownS (foldS L) = [] := by
  unfold shownS
  rw [List.map_eq_nil_iff, List.filter_eq_nil_iff]
  intro k hk
  rw [foldS_keys] at hk
  rw [valS_fold L k ((mem_keysOf _ _).mp ((srtS_perm _).mem_iff.mp hk))]
  have : sumK L k = 0 := by
    unfold sumK
    clear hk
    induction L with
    | nil => rfl
    | cons x L ih =>
      have := ih fun y hy => h y (List.mem_cons_of_mem _ hy)
      have hx := h x (List.mem_cons_self ..)
      rw [List.filter_cons]
      split
      · rw [List.map_cons, List.sum_cons, this, hx]
        rfl
      · exact this
  rw [this]
  simp
/-! the entries -/
theorem goneP_le {P : Pd} (h : ∀ p ∈ P, 1 ≤ p.2) (i d : Int) : 0 ≤ goneP P i d ∧ goneP P i d ≤ sumAt P i := by
  induction P with
  | nil => exact ⟨Int.le_refl _, Int.le_refl _⟩
  | cons p P ih =>
    obtain ⟨h1, h2⟩ := ih fun q hq => h q (List.mem_cons_of_mem _ hq)
    have hp := h p (List.mem_cons_self ..)
    rw [goneP_cons, sumAt_cons]
    by_cases g : p.1.1 = i
    · rw [if_pos g]
      split <;> omega
    · rw [if_neg fun z => g z.1, if_neg g]
      omega
theorem goneP_all {P : Pd} {e : Int} (h : ∀ p ∈ P, p.1.2 ≤ e) (i : Int) {d : Int} (hd : e ≤ d) : goneP P i d = sumAt P i := by
  induction P with
  | nil => rfl
  | cons p P ih =>
    have := ih fun q hq => h q (List.mem_cons_of_mem _ hq)
    have hp := h p (List.mem_cons_self ..)
    rw [goneP_cons, sumAt_cons, this]
    congr 1
    by_cases g : p.1.1 = i
    · rw [if_pos g, if_pos ⟨g, by omega⟩]
    · rw [if_neg g, if_neg fun z => g z.1]
theorem openL_mem {rs : List CR} {P : Pd} {d : Int} {n : Nat} {x : Str × Int} (h : x ∈ openL rs P d n) : ∃ (j : Nat) (d' c : Int), j < n ∧ rs[j]? = some (.buy d' x.1 c) ∧ d' ≤ d ∧ x.2 = c - goneP P j d := by
  unfold openL at h
  obtain ⟨j, hj, e⟩ := List.mem_filterMap.mp h
  unfold opF at e
  split at e
  · rename_i d' k c hr
    split at e
    · rename_i g
      obtain rfl := Option.some.inj e
      exact ⟨j, d', c, List.mem_range.mp hj, hr, g, rfl⟩
    · cases e
  · cases e
theorem Fin.lies {ks : List Str} {rk : Str → Int} {rs : List CR} {e : Int} (fn : Fin rk rs e) (hv : VR ks rs) (he : lastDay rs ≤ e) : ∀ p ∈ settle rk rs e, Lies rs p := fun p hp => by
  have hm : (p.1.1, p.1.2, p.2) ∈ piecesL (settle rk rs e) := (piecesL_perm fn.ok.nd).mem_iff.mpr (List.mem_map.mpr ⟨p, hp, rfl⟩)
  obtain ⟨d, kn, n, h1, h2, h3⟩ := piece_buy fn hv hm
  have ha := fn.ok.at' p hp
  exact ⟨ha.1, ha.2, d, kn, n, h1, settle_after rk hv he p.1 (List.mem_map.mpr ⟨p, hp, rfl⟩) _ h1⟩
theorem Fin.open_nonneg {rk : Str → Int} {rs : List CR} {e d : Int} (fn : Fin rk rs e) {n : Nat} : ∀ x ∈ openL rs (settle rk rs e) d n, 0 ≤ x.2 ∧ x.2 ≤ 1000000 * 1000000 := fun x hx => by
  obtain ⟨j, d', c, _, hr, _, e2⟩ := openL_mem hx
  have hs := fn.sum j
  unfold boughtAt at hs
  rw [hr] at hs
  have hg := goneP_le (P := settle rk rs e) fn.ok.pos (j : Int) d
  have hb : sumAt (settle rk rs e) j ≤ 1000000 * 1000000 := by
    have hl := fn.len
    rw [← pieces_sum fn.ok.nd]
    have : ∀ l : List Tri, (∀ t ∈ l, t.2.2 ≤ 1000000) → (l.map (·.2.2)).sum ≤ 1000000 * (l.length : Int) := fun l => by
      induction l with
      | nil => intro _; decide
      | cons t l ih =>
        intro h
        have := ih fun y hy => h y (List.mem_cons_of_mem _ hy)
        have := h t (List.mem_cons_self ..)
        simp only [List.map_cons, List.sum_cons, List.length_cons, Int.natCast_add]
        omega
    have h1 := this ((piecesL (settle rk rs e)).filter fun t => decide (t.1 = (j : Int))) fun t ht => (fn.sml t (List.mem_filter.mp ht).1).2.2.2
    have h2 := List.length_filter_le (fun t : Tri => decide (t.1 = (j : Int))) (piecesL (settle rk rs e))
    omega
  rw [hs] at hg hb
  have hg : 0 ≤ goneP (settle rk rs e) j d ∧ goneP (settle rk rs e) j d ≤ c := hg
  have hb : c ≤ 1000000 * 1000000 := hb
  omega
theorem Fin.open_end {rk : Str → Int} {rs : List CR} {e d : Int} (fn : Fin rk rs e) (hd : e ≤ d) {n : Nat} : ∀ x ∈ openL rs (settle rk rs e) d n, x.2 = 0 := fun x hx => by
  obtain ⟨j, d', c, _, hr, _, e2⟩ := openL_mem hx
  have hs := fn.sum j
  unfold boughtAt at hs
  rw [hr] at hs
  rw [e2, goneP_all (fun p hp => (fn.ok.dy p hp).2) _ hd]
  have hs : sumAt (settle rk rs e) j = c := hs
  omega
theorem bought_open (rs : List CR) (d : Int) : ∀ n : Nat, n ≤ rs.length → boughtBy (rs.take n) d = ((openL rs [] d n).map (·.2)).sum
  | 0, _ => by simp [boughtBy, openL]
  | n + 1, h => by
    have hn : rs[n]? = some rs[n] := List.getElem?_eq_getElem (by omega)
    have ih := bought_open rs d n (by omega)
    rw [take_more hn, boughtBy_snoc, ih, openL_succ, List.map_append, List.sum_append]
    congr 1
    unfold opF
    rw [hn]
    cases hr : rs[n] with
    | buy d' k c =>
      show (bbF d (.buy d' k c)).getD 0 = ((if d' ≤ d then some (k, c - goneP [] n d) else none).toList.map (·.2)).sum
      unfold bbF
      by_cases g : d' ≤ d
      · simp [if_pos g, goneP_nil]
      · simp [if_neg g]
    | pay d' c => rfl
theorem open_total {rs : List CR} {P : Pd} {d : Int} (h : ∀ p ∈ P, Lies rs p) : ((openL rs P d rs.length).map (·.2)).sum = boughtBy rs d - paidBy P d := by
  have h1 := openL_sumQ rs d (fun _ => true) P h
  have h2 := bought_open rs d rs.length (Nat.le_refl _)
  rw [List.take_length] at h2
  have f : ∀ L : SD, sumQ L (fun _ => true) = (L.map (·.2)).sum := fun L => by
    unfold sumQ
    rw [List.filter_eq_self.mpr fun _ _ => rfl]
  rw [f, f, ← h2] at h1
  rw [h1]
  unfold paidBy paidL
  simp only [and_true]
end Wp
set_option Elab.async false
set_option linter.all false
set_option maxRecDepth 100000
set_option maxHeartbeats 4000000
/-! Statements, plain: how large, and whole behind the end. -/
namespace Wp
open PySem PySem.Spec PyProof.Rows L2
theorem sum_bnd (L : SD) (h : ∀ x ∈ L, 0 ≤ x.2 ∧ x.2 ≤ 1000000 * 1000000) : 0 ≤ (L.map (·.2)).sum ∧ (L.map (·.2)).sum ≤ 1000000 * 1000000 * (L.length : Int) := by
  induction L with
  | nil => decide
  | cons x L ih =>
    have h1 := ih fun y hy => h y (List.mem_cons_of_mem _ hy)
    have h2 := h x (List.mem_cons_self ..)
    simp only [List.map_cons, List.sum_cons, List.length_cons, Int.natCast_add]
    omega
theorem sumOf_bnd {B : Bk} {ks : List Str} {rk : Str → Int} {rs : List CR} {e m : Int} (fn : Fin rk rs e) (hv : VR ks rs) (he : lastDay rs ≤ e) (hn : rs.length ≤ 200) : (sumOf B rs (settle rk rs e) m).natAbs < 10 ^ 60 := by
  have h := open_total (d := firstL B.ls (m + 1) - 1) (fn.lies hv he)
  have h1 := sum_bnd (openL rs (settle rk rs e) (firstL B.ls (m + 1) - 1) rs.length) fun x hx => fn.open_nonneg x hx
  have hl : (openL rs (settle rk rs e) (firstL B.ls (m + 1) - 1) rs.length).length ≤ rs.length := by
    unfold openL
    have := List.length_filterMap_le (opF rs (settle rk rs e) (firstL B.ls (m + 1) - 1)) (List.range rs.length)
    rwa [List.length_range] at this
  have : (1000000000000000000000 : Nat) < 10 ^ 60 := by decide
  unfold sumOf
  omega
theorem gone_nonneg {P : Pd} (h : ∀ p ∈ P, 1 ≤ p.2) (a b : Int) : 0 ≤ (goneL P a b).sum := by
  unfold goneL
  induction P with
  | nil => exact Int.le_refl 0
  | cons x P ih =>
    have h1 := ih fun y hy => h y (List.mem_cons_of_mem _ hy)
    have h2 := h x (List.mem_cons_self ..)
    rw [List.filter_cons]
    split
    · rw [List.map_cons, List.sum_cons]
      omega
    · exact h1
theorem whole_end {B : Bk} {ks : List Str} {rk : Str → Int} {rs : List CR} {e m : Int} (fn : Fin rk rs e) (hv : VR ks rs) (he : lastDay rs ≤ e) (hd : 0 ≤ B.due) (hm : e < firstL B.ls (m + 1)) : wholeB B rs (settle rk rs e) m = true := by
  have h := open_total (d := firstL B.ls (m + 1) - 1) (fn.lies hv he)
  have h0 : ((openL rs (settle rk rs e) (firstL B.ls (m + 1) - 1) rs.length).map (·.2)).sum = 0 := by
    have : ∀ L : SD, (∀ x ∈ L, x.2 = 0) → (L.map (·.2)).sum = 0 := fun L => by
      induction L with
      | nil => intro _; rfl
      | cons x L ih =>
        intro h
        have := ih fun y hy => h y (List.mem_cons_of_mem _ hy)
        have := h x (List.mem_cons_self ..)
        simp only [List.map_cons, List.sum_cons]
        omega
    exact this _ fun x hx => fn.open_end (by omega) x hx
  have h1 := gone_split (settle rk rs e) (a := firstL B.ls (m + 1)) (b := firstL B.ls (m + 1) + B.due) (by omega)
  have h2 := gone_nonneg fn.ok.pos (firstL B.ls (m + 1)) (firstL B.ls (m + 1) + B.due)
  unfold wholeB
  rw [decide_eq_true (show boughtBy rs (firstL B.ls (m + 1) - 1) ≤ paidBy (settle rk rs e) (firstL B.ls (m + 1) + B.due) by omega), Bool.or_true]
theorem firstL_lo2 {ls : List Int} (ok : LsOk ls) : ∀ m : Nat, 2 * (m : Int) ≤ firstL ls (m : Int)
  | 0 => by have := firstL_hi ok 0; omega
  | m + 1 => by
    have h1 := firstL_lo2 ok m
    have h2 := firstL_step ok (m := m)
    rw [Int.natCast_add]
    show 2 * ((m : Int) + 1) ≤ firstL ls ((m : Int) + 1)
    omega
theorem month_half {ls : List Int} (ok : LsOk ls) {d : Int} (h : 0 ≤ d) (h2 : d ≤ 2000) : 0 ≤ monthL ls d ∧ monthL ls d ≤ 1000 := by
  have hn := monthL_nonneg ok h
  have hb := month_bounds ok d
  obtain ⟨k, hk⟩ : ∃ k : Nat, monthL ls d = (k : Int) := ⟨(monthL ls d).toNat, by omega⟩
  rw [hk] at hb ⊢
  have := firstL_lo2 ok k
  omega
/-- the marks of the law -/
def marks (B : Bk) (rs : List CR) (P : Pd) (n : Nat) : List Bool := (List.range n).map fun i : Nat => wholeB B rs P (i : Int)
theorem marks_len (B : Bk) (rs : List CR) (P : Pd) (n : Nat) : (marks B rs P n).length = n := by simp [marks]
theorem marks_snoc (B : Bk) (rs : List CR) (P : Pd) (n : Nat) : marks B rs P (n + 1) = marks B rs P n ++ [wholeB B rs P (n : Int)] := by
  unfold marks
  rw [List.range_succ, List.map_append]
  rfl
theorem six_m3 (n : Nat) (h : 3 ≤ n) (d : Nat) : HT.sIx n d (some (-3)) = n - 3 := by
  show (if (-3 : Int) < 0 then ((-3 : Int) + (n : Int)).toNat else min (-3 : Int).toNat n) = _
  rw [if_pos (by decide)]
  omega
theorem cutV_m3 (xs : List V) (h : 3 ≤ xs.length) : cutV xs none (some (-3)) = xs.take (xs.length - 3) := by
  unfold cutV
  rw [six_m3 _ h]
  rfl
theorem cutV_l3 (xs : List V) (h : 3 ≤ xs.length) : cutV xs (some (-3)) none = xs.drop (xs.length - 3) := by
  unfold cutV
  rw [six_m3 _ h, HT.sIx_none, List.take_of_length_le (by rw [List.length_drop]; omega)]
theorem marks_take (B : Bk) (rs : List CR) (P : Pd) (n : Nat) : (marks B rs P (n + 3)).take n = marks B rs P n := by
  unfold marks
  rw [← List.map_take, List.take_range, Nat.min_eq_left (by omega)]
theorem marks_end {B : Bk} {ks : List Str} {rk : Str → Int} {rs : List CR} {e : Int} (fn : Fin rk rs e) (hv : VR ks rs) (he : lastDay rs ≤ e) (ok : B.Ok) (h0 : 0 ≤ e) {n : Nat} (hn : (n : Int) = monthL B.ls e + 1) : (marks B rs (settle rk rs e) (n + 3)).drop n = [true, true, true] := by
  have hb := month_bounds ok.ls e
  have hw : ∀ i : Nat, n ≤ i → wholeB B rs (settle rk rs e) (i : Int) = true := fun i hi => by
    refine whole_end fn hv he ok.d0 ?_
    have h1 := firstL_mono ok.ls (m := n) (n := i + 1) (by omega)
    rw [hn] at h1
    rw [Int.natCast_add] at h1
    have h1 : firstL B.ls (monthL B.ls e + 1) ≤ firstL B.ls ((i : Int) + 1) := h1
    omega
  rw [marks_snoc, marks_snoc, marks_snoc, List.append_assoc, List.append_assoc, List.drop_left' (marks_len ..), hw n (by omega), hw (n + 1) (by omega), hw (n + 2) (by omega)]
  rfl
theorem word_marks {B : Bk} {rs : List CR} {e : Int} {n : Nat} (hn : (n : Int) = monthL B.ls e + 1) : wordL B rs e = marks B rs (settle (rkB B) rs e) n := by
  unfold wordL marks
  rw [← hn, Int.toNat_natCast]
/-! truths on the heap and their text -/
theorem dp_bools {K : PySem.W.Frag} {H : Hp} : ∀ bs : List Bool, DpAll K H (bs.map V.bl) (bs.map PyData.bool)
  | [] => .nil
  | b :: bs => .cons (.bl b) (dp_bools bs)
theorem sm_bools : ∀ bs : List Bool, smAll (bs.map PyData.bool) = true
  | [] => by simp [smAll]
  | b :: bs => by
    rw [List.map_cons, smAll_cons, sm_bools bs]
    simp [smI]
theorem lay_bools : ∀ bs : List Bool, PyData.canLayAll0 (bs.map PyData.bool) = true
  | [] => rfl
  | b :: bs => by
    show (PyData.canLay0 (.bool b) && PyData.canLayAll0 (bs.map PyData.bool)) = true
    rw [lay_bools bs]
    rfl
theorem dep_bools : ∀ bs : List Bool, PyData.depthAll (bs.map PyData.bool) ≤ 1
  | [] => by simp [PyData.depthAll]
  | b :: bs => by
    have := dep_bools bs
    simp only [List.map_cons, PyData.depthAll, PyData.depth]
    omega
theorem wz_bools : ∀ bs : List Bool, wzAll (bs.map PyData.bool) ≤ 100 * bs.length
  | [] => by simp [wzAll]
  | b :: bs => by
    have := wz_bools bs
    simp only [List.map_cons, wzAll, wz, List.length_cons]
    omega
theorem shp_bools (bs : List Bool) : SeqAt.shaped (.list (bs.map PyData.bool)) = true := by
  show (PyData.canLayAll0 (bs.map PyData.bool) && decide (PyData.depthAll (bs.map PyData.bool) + 1 ≤ 64)) = true
  rw [lay_bools, decide_eq_true (by have := dep_bools bs; omega)]
  rfl
section
variable {K : PySem.W.Frag} {H : Hp} {p q : Addr} {Q : VK}
theorem r_reprBs {bs : List Bool} (h : SqL K H p (bs.map V.bl)) (hz : bs.length ≤ 2000) (k : Q (.str (PyData.list (bs.map PyData.bool)).shown) H) : rRepr K [.ref p] H Q := by
  refine r_repr (d := .list (bs.map PyData.bool)) (.lst h (dp_bools bs)) ?_ ?_ ?_ k
  · simpa [smI] using sm_bools bs
  · have := dep_bools bs
    simp only [PyData.depth]
    omega
  · have := wz_bools bs
    simp only [wz]
    omega
theorem r_reprIBB {i : Int} {a b : Bool} (h : SqL K H p [.int i, .bl a, .bl b]) (hi : i.natAbs < 10 ^ 60) (k : Q (.str (PyData.list [.int i, .bool a, .bool b]).shown) H) : rRepr K [.ref p] H Q := by
  refine r_repr (d := .list [.int i, .bool a, .bool b]) (.lst h (.cons (.int i) (.cons (.bl a) (.cons (.bl b) .nil)))) ?_ ?_ ?_ k
  · simp [smI, smAll_cons, smAll, hi]
  · simp [PyData.depth, PyData.depthAll]
  · simp [wz, wzAll]
theorem r_neBs {as bs : List Bool} (h1 : SqL K H p (as.map V.bl)) (h2 : SqL K H q (bs.map V.bl)) (e : as = bs) (k : Q (.bl false) H) : rNeD K (.ref p) (.ref q) H Q := by
  subst e
  exact r_neD_eq (d := .list (as.map PyData.bool)) (.lst h1 (dp_bools as)) (.lst h2 (dp_bools as)) (shp_bools as) k
end
end Wp
set_option Elab.async false
set_option linter.all false
set_option maxRecDepth 100000
set_option maxHeartbeats 4000000
namespace Wp
open PySem PySem.Spec PyProof.Rows L2
abbrev s_Book_parts_told : Stmt := inClass (topS 29) 8
abbrev s_Book_with_part : Stmt := inClass (topS 29) 9
local macro_rules | `(tactic| walk_at "val") => `(tactic| assumption)
local macro_rules | `(tactic| walk_at "rd1") => `(tactic| first
  | with_reducible refine r_seq ?_ | with_reducible refine r_next ?_ | with_reducible refine r_if ?_ | with_reducible refine r_asg ?_ | with_reducible refine r_gname ?_
  | with_reducible refine r_ret ?_ | with_reducible refine r_retN ?_ | with_reducible refine r_drop ?_ | with_reducible refine r_par ?_ | with_reducible refine r_kPar ?_
  | ((with_reducible refine' r_var ?hv ?_); (case hv => exact rfl)) | with_reducible refine r_c ?_ | with_reducible refine r_nil ?_ | with_reducible refine r_cons ?_
  | with_reducible refine r_fn ?_ | with_reducible refine r_cb ?_ | with_reducible refine r_op ?_ | with_reducible refine r_un ?_ | with_reducible refine r_I0 ?_
  | with_reducible refine r_pow5 ?_ | with_reducible refine r_pow6 ?_ | with_reducible refine r_pow7 ?_ | with_reducible refine r_pow9 ?_ | with_reducible refine r_pow18 ?_ | with_reducible refine r_pow20 ?_ | with_reducible refine r_pow30 ?_
  | with_reducible refine r_isN_non ?_ | with_reducible refine r_isN_ref ?_ | with_reducible refine r_isN_int ?_ | with_reducible refine r_isN_str ?_ | with_reducible refine r_isN_bl ?_ | with_reducible refine r_notN_non ?_ | with_reducible refine r_notN_ref ?_ | with_reducible refine r_notN_int ?_ | with_reducible refine r_notN_str ?_ | with_reducible refine r_notN_bl ?_
  | ((with_reducible refine r_I ?hc ?_); (case hc => walk_at "side")) | with_reducible refine r_U ?_
  | with_reducible refine r_eqI ?_ | with_reducible refine r_neI ?_ | with_reducible refine r_eqS ?_ | with_reducible refine r_neS ?_ | with_reducible refine r_eqB ?_ | with_reducible refine r_neB ?_
  | with_reducible refine r_chain ?_ | with_reducible refine r_test ?_ | with_reducible refine r_tB ?_ | with_reducible refine r_kTest ?_ | with_reducible refine r_not ?_
  | with_reducible refine r_and ?_ | with_reducible refine r_or ?_ | with_reducible refine r_tif ?_ | with_reducible refine r_andV ?_ | with_reducible refine r_orV ?_ | with_reducible refine r_notV ?_
  | with_reducible refine r_kAndV ?_ | with_reducible refine r_kOrV ?_ | with_reducible refine r_kNotV ?_
  | with_reducible refine w_T ?_ | with_reducible refine w_F ?_ | with_reducible refine w_NT ?_ | with_reducible refine w_NF ?_
  | with_reducible refine r_tup ?_ | with_reducible refine r_lst ?_ | with_reducible refine r_fld ?_ | with_reducible refine r_prop ?_ | ((with_reducible refine' r_aug ?h1 ?_); (case h1 => exact rfl)) | with_reducible refine r_ipI ?_ | with_reducible refine r_dget ?_ | with_reducible refine r_dput ?_ | with_reducible refine r_bm ?_
  | ((with_reducible refine' r_kDGetS ?h1 ?h2 ?_); (case h1 => assumption); (case h2 => walk_at "val"))
  | ((with_reducible refine' r_kBML ?h1 ?_); (case h1 => assumption))
  | with_reducible refine r_forL ?_ | with_reducible refine r_forR1 ?_ | with_reducible refine r_forR2 ?_ | with_reducible refine r_forT ?_ | with_reducible refine r_lcL ?_ | with_reducible refine r_lcR1 ?_
  | ((with_reducible refine r_kLcG ?hw ?_); (case hw => exact rfl)) | with_reducible refine r_kLcT ?_ | with_reducible refine r_yes ?_
  | with_reducible refine r_pnil ?_ | with_reducible refine r_pcons ?_
  | with_reducible refine r_fnK ?_ | ((with_reducible refine r_kFnK ?hl ?_); (case hl => exact rfl))
  | with_reducible refine r_isi_ii ?_ | with_reducible refine r_isi_ib ?_ | with_reducible refine r_isi_bi ?_ | with_reducible refine r_isi_bb ?_ | with_reducible refine r_isi_ss ?_ | with_reducible refine r_isi_is ?_ | with_reducible refine r_isi_it ?_
  | ((with_reducible refine' r_isi_tt ?h1 ?_); (case h1 => assumption))
  | with_reducible refine r_sfld ?_ | with_reducible refine r_gnil ?_ | with_reducible refine r_gcons ?_
  | ((with_reducible refine' r_gtup ?h1 ?h2 ?_); (case h1 => exact SqT.of (by assumption)); (case h2 => exact rfl))
  | with_reducible refine r_sl ?_ | with_reducible refine r_noPart ?_ | with_reducible refine r_part ?_ | with_reducible refine r_kPart ?_ | with_reducible refine r_m1 ?_ | with_reducible refine r_kM1 ?_ | with_reducible refine r_forS ?_ | with_reducible refine r_lcS ?_ | with_reducible refine r_lcTu ?_ | with_reducible refine r_lcK ?_ | with_reducible refine r_dcL ?_ | with_reducible refine r_dcK ?_ | with_reducible refine r_lc2L ?_ | with_reducible refine r_kLc2TL ?_ | with_reducible refine r_dcEn ?_ | with_reducible refine r_gslc ?_ | with_reducible refine r_lcEn ?_ | with_reducible refine r_forET ?_ | with_reducible refine r_lenD ?_
  | ((with_reducible refine r_kDcG ?hw ?_); (case hw => exact rfl)) | with_reducible refine r_kDcT ?_
  | with_reducible refine r_fldaug ?_ | with_reducible refine r_daug ?_ | with_reducible refine r_rAdd ?_ | with_reducible refine r_rSub ?_ | with_reducible refine r_ddel ?_ | with_reducible refine r_bmF ?_ | with_reducible refine r_dget2 ?_ | with_reducible refine r_listItems ?_ | with_reducible refine r_bm0 ?_ | with_reducible refine r_lc2E ?_ | ((with_reducible refine r_kLc2G ?hw ?_); (case hw => exact rfl)) | with_reducible refine r_kLc2T ?_ | with_reducible refine r_forE ?_ | with_reducible refine r_orT ?_ | with_reducible refine r_din ?_ | with_reducible refine r_augS ?_ | with_reducible refine r_dnotin ?_ | with_reducible refine r_lcIT ?_ | with_reducible refine r_cont ?_ | with_reducible refine r_meth ?_ | with_reducible refine r_frz ?_ | with_reducible refine r_par3 ?_ | with_reducible refine r_kPar3 ?_ | with_reducible refine r_dz ?_ | with_reducible refine r_revL ?_ | with_reducible refine r_star ?_ | with_reducible refine r_int1 ?_ | with_reducible refine r_int1b ?_ | with_reducible refine r_min2 ?_ | with_reducible refine r_max2 ?_ | with_reducible refine r_gsub ?_)
local macro_rules | `(tactic| walk_at "rd") => `(tactic| repeat walk_at "rd1")
local macro_rules | `(tactic| walk_at "side") => `(tactic| first | assumption | exact Or.inr ⟨by decide, by decide⟩ | exact Or.inl ⟨by decide, by decide⟩ | (constructor <;> omega) | omega | decide | (refine Or.inl ⟨?_, ?_⟩ <;> omega) | (refine Or.inr ⟨?_, ?_⟩ <;> omega) | (refine ⟨?_, ?_, ?_⟩ <;> first | decide | omega))
local macro_rules | `(tactic| walk_at "val") => `(tactic| first | exact wv1 | exact wv2 | exact wv3 | exact wv4 | exact wv5 | exact wv6)
def sp_parts_told (C : Addr) : Sp := fun vs H Q _ => ∃ (p dx tl kd : Addr) (B : Bk) (lv : V) (kvs : List (Key × V)), vs = [.ref p] ∧ BookIn C H p B dx tl kd lv kvs ∧
  ∀ t H', H t = none → Same H H' → H' t = some (.tup [.ref tl, .int B.due, .ref kd, .int B.mem, .str B.beg, lv]) → Q (.ref t) H'
/-- what a part put otherwise makes of a book -/
inductive WP (H : Hp) (B : Bk) : Str → V → Bk → Prop
  | ls {a : Addr} {ls : List Int} : LsAt H a ls → WP H B "lengths" (.ref a) { B with ls := ls }
  | due (d : Int) : WP H B "due" (.int d) { B with due := d }
  | ks {a : Addr} {kvs : List (Key × V)} {ks : List (Str × Int × Bool)} : H a = some (.dK kvs) → KAt H kvs ks → WP H B "kinds" (.ref a) { B with ks := ks }
  | mem (m : Int) : WP H B "memory" (.int m) { B with mem := m }
  | beg (s : Str) : WP H B "begins" (.str s) { B with beg := s }
  | laid {lv : V} {o : Option (List Str)} : LaidV H o lv → WP H B "laid" lv { B with laid := o }
theorem WP.keep {H H' : Hp} {B B' : Bk} {n : Str} {v : V} (h : WP H B n v B') (e : Same H H') : WP H' B n v B' := by
  cases h with
  | ls h => exact .ls (h.keep e)
  | due d => exact .due d
  | ks h1 h2 => exact .ks (e _ _ h1) (h2.keepT e)
  | mem m => exact .mem m
  | beg s => exact .beg s
  | laid h => exact .laid (h.keep fun t o xs ht => e _ _ ht)
theorem WP.name {H : Hp} {B B' : Bk} {n : Str} {v : V} (h : WP H B n v B') : n ∈ (["lengths", "due", "kinds", "memory", "begins", "laid"] : List Str) := by cases h <;> simp
def sp_with_part (C : Addr) : Sp := fun vs H Q _ => ∃ (p : Addr) (B B' : Bk) (n : Str) (v : V), vs = [.ref p, .str n, v] ∧ BookAt C H p B ∧ WP H B n v B' ∧ B'.Ok ∧ B'.LaidOk ∧
  ∀ q H' ks, H q = none → Same H H' → ks.Perm B'.ks → sortedS (ks.map (·.1)) = true → BookAt C H' q { B' with ks := ks } → Q (.ref q) H'
section
variable {P : Program} {w : World} {K : PySem.W.Frag} {mg : Str → Option Value} {base : Heap}
theorem ok_Book_parts_told {f C : Addr} {fd : FuncData} (T : Tx K mg) (bc : BkC K C) (F : FunD K "parts_told" "Book.parts_told" (defArgs s_Book_parts_told) (defBody s_Book_parts_told) (defScope s_Book_parts_told) [] [] f fd) :
    FnOk P w K mg base CX0 1 f fd ["self"] (sp_parts_told C) := by
  have sc : FnScope ["self"] ["self"] (defScope s_Book_parts_told) := ⟨rfl, rfl, rfl, by decide +kernel, rfl, by decide +kernel, by decide +kernel⟩
  refine F.ok sc (by rintro vs H Q E ⟨_, _, _, _, _, _, _, rfl, _⟩; rfl) (fun cdv A outer s H vs Q E hr h => ⟨_, PSs.nox ((pss_one (ps_ret (pe_tup (pa_cons (pe_fldK (K := K) rfl (pv 0)) (pa_cons (pe_fldK (K := K) rfl (pv 0)) (pa_cons (pe_fldK (K := K) rfl (pv 0)) (pa_cons (pe_fldK (K := K) rfl (pv 0)) (pa_cons (pe_fldK (K := K) rfl (pv 0)) (pa_cons (pe_fldK (K := K) rfl (pv 0)) pa_nil)))))))))), ?_⟩)
  obtain ⟨p, dx, tl, kd, B, lv, kvs, rfl, hB, k⟩ := h
  walk_at "rd"
  refine r_kFld hB.i bc.cl bc.n1 rfl ?_
  walk_at "rd"
  refine r_kFld hB.i bc.cl bc.n2 rfl ?_
  walk_at "rd"
  refine r_kFld hB.i bc.cl bc.n3 rfl ?_
  walk_at "rd"
  refine r_kFld hB.i bc.cl bc.n4 rfl ?_
  walk_at "rd"
  refine r_kFld hB.i bc.cl bc.n5 rfl ?_
  walk_at "rd"
  refine r_kFld hB.i bc.cl bc.n6 rfl ?_
  walk_at "rd"
  exact r_kTup k
theorem ok_Book_with_part {f C : Addr} {fd : FuncData} (T : Tx K mg) (F : FunD K "with_part" "Book.with_part" (defArgs s_Book_with_part) (defBody s_Book_with_part) (defScope s_Book_with_part) [] [] f fd)
    (mt_Book_parts_told : Dm P w K mg base CX0 1 C "parts_told" (sp_parts_told C)) (mk_Book : Dc P w K mg base CX0 5 "Book" (sp_Book C)) :
    FnOk P w K mg base CX0 7 f fd ["self", "part", "value"] (sp_with_part C) := by
  have sc : FnScope ["self", "part", "value", "found"] ["self", "part", "value"] (defScope s_Book_with_part) := ⟨rfl, rfl, rfl, by decide +kernel, rfl, by decide +kernel, by decide +kernel⟩
  refine F.ok sc (by rintro vs H Q E ⟨_, _, _, _, _, rfl, _⟩; rfl) (fun cdv A outer s H vs Q E hr h => ⟨_, PSs.nox ((pss_cons (ps_if (PW.pt (pw_or (pt_not (pt_val (pe_callB (c_isiK (K := K) rfl) (by rfl) T.b_isinstance (by decide +kernel) (pa_cons (pv 1) (pa_cons (pe_bltn (v := .ty "str") (by rfl) T.b_str (by decide +kernel) rfl) pa_nil))))) (pw_or1 (pt_cmpR (notIn_seqK (K := K) rfl) (pv 1) (pe_glob (v := .ref (He.ga K "PARTS")) (by rfl) T.g_PARTS rfl) (by rfl))))) (pss_one ps_never) pss_nil)
      (pss_cons (ps_set (i := 3) sc.nd rfl (by first | exact Or.inl rfl | exact Or.inr rfl) (pe_dictZip (K := K) rfl (by rfl) (by rfl) T.b_dict (by rfl) T.b_zip (pa_cons (pe_glob (v := .ref (He.ga K "PARTS")) (by rfl) T.g_PARTS rfl) (pa_cons (pe_mt0 mt_Book_parts_told (hr.mono (by decide)) pass0 (pv 0)) pa_nil))))
      (Evl.pss_cut (ps_dput (hu_of hr) (pv 3) (pv 1) (pv 2) rfl)
      (pss_one (ps_ret (pe_mk mk_Book (hr.mono (by decide)) pass0 (pa_cons (pe_dget (hu_of hr) (pv 3) pe_str (fun _ _ => rfl)) (pa_cons (pe_dget (hu_of hr) (pv 3) pe_str (fun _ _ => rfl)) (pa_cons (pe_dget (hu_of hr) (pv 3) pe_str (fun _ _ => rfl)) (pa_cons (pe_dget (hu_of hr) (pv 3) pe_str (fun _ _ => rfl)) (pa_cons (pe_dget (hu_of hr) (pv 3) pe_str (fun _ _ => rfl)) (pa_cons (pe_dget (hu_of hr) (pv 3) pe_str (fun _ _ => rfl)) pa_nil))))))))))))), ?_⟩)
  obtain ⟨p, B, B', n, v, rfl, ⟨dx, tl, kd, lv, kvs, hB⟩, hW, ok', lok', k⟩ := h
  walk_at "rd"
  refine r_notInTS (xs := ["lengths", "due", "kinds", "memory", "begins", "laid"]) (T.t_PARTS H) ?_
  rw [decide_eq_true hW.name]
  walk_at "rd"
  refine r_kMeth hB.i rfl ?_
  walk_at "rd"
  refine ⟨p, dx, tl, kd, B, _, kvs, rfl, hB, fun t H1 nt e1 ht => ?_⟩
  walk_at "rd"
  refine r_kDZ (ks := wks) (T.t_PARTS H1) (SqT.of ht) rfl (by decide) wks_nd fun d H2 nd e2 hd => ?_
  rw [wz_zip] at hd
  have e02 := e1.trans e2
  have nd0 : H d = none := e1.free nd
  walk_at "rd"
  refine r_cut (fun σ' H' => σ' = [some (.ref p), some (.str n), some v, some (.ref d)] ∧ Same H H' ∧ ∃ (a' kd' : Addr) (lv' : V) (kvs' : List (Key × V)), H' d = some (.dK (wkv (.ref a') (.int B'.due) (.ref kd') (.int B'.mem) (.str B'.beg) lv')) ∧ LaidV H' B'.laid lv' ∧ LsAt H' a' B'.ls ∧ H' kd' = some (.dK kvs') ∧ KAt H' kvs' B'.ks) ?_ ?_
  · walk_at "rd"
    refine r_kDPutS hd (show 6 < 1000000 by decide) fun H3 b3 h3 => ?_
    have e03 : Same H H3 := Same.mut e02 b3 nd0
    have hB3 := hB.keep e03
    have hl3 : LsAt H3 tl B.ls := .inr hB3.l
    refine ⟨rfl, e03, ?_⟩
    cases hW with
    | ls h =>
      rw [wp1] at h3
      exact ⟨_, kd, lv, kvs, h3, hB3.d, h.keep e03, hB3.k, hB3.a⟩
    | due d' =>
      rw [wp2] at h3
      exact ⟨tl, kd, lv, kvs, h3, hB3.d, hl3, hB3.k, hB3.a⟩
    | ks h1 h2 =>
      rw [wp3] at h3
      exact ⟨tl, _, lv, _, h3, hB3.d, hl3, e03 _ _ h1, h2.keepT e03⟩
    | mem m =>
      rw [wp4] at h3
      exact ⟨tl, kd, lv, kvs, h3, hB3.d, hl3, hB3.k, hB3.a⟩
    | beg s =>
      rw [wp5] at h3
      exact ⟨tl, kd, lv, kvs, h3, hB3.d, hl3, hB3.k, hB3.a⟩
    | laid h =>
      rw [wp6] at h3
      exact ⟨tl, kd, _, kvs, h3, h.keep (fun t o xs ht => e03 _ _ ht), hl3, hB3.k, hB3.a⟩
  rintro σ' H3 ⟨rfl, e03, a', kd', lv', kvs', hd3, hlv', ha', hkd', hK'⟩
  walk_at "rd"
  exact ⟨a', kd', B', lv', kvs', rfl, ok', lok', hlv', ha', hkd', hK', fun q H4 ks nq e4 p1 p2 hB4 => k q H4 ks (e03.free nq) (e03.trans e4) p1 p2 hB4⟩
end
end Wp
set_option Elab.async false
set_option linter.all false
set_option maxRecDepth 100000
set_option maxHeartbeats 4000000
/-! dict(a list of pairs). -/
namespace Wp
open PySem PySem.Spec PyProof.Rows L2
def rDictP (K : PySem.W.Frag) : List V → Hp → VK → Prop := fun xs H Q => ∃ (a : Addr) (ps : List Addr) (kvs : List (Key × V)), xs = [.ref a] ∧ SqL K H a (ps.map V.ref) ∧ Paired (fun p kv => SqT K H p [kV kv.1, kv.2]) ps kvs ∧ ∀ p, H p = none → Q (.ref p) (upd H p (.dK (mergeK [] kvs)))
theorem c_dictP {X : Cx} {K : PySem.W.Frag} (h : X.K = K) (hc : X.calm = true) : CallR X (.type "dict") (rDictP K) := by
  subst h
  exact call_dictP hc
theorem pairedApp {α β : Type} {R : α → β → Prop} {as cs : List α} {bs ds : List β} (h : Paired R as bs) (h2 : Paired R cs ds) : Paired R (as ++ cs) (bs ++ ds) := by
  induction h with
  | nil => exact h2
  | cons h _ ih => exact .cons h ih
theorem pairedImp {α β : Type} {R S : α → β → Prop} {as : List α} {bs : List β} (h : Paired R as bs) (f : ∀ a b, R a b → S a b) : Paired S as bs := by
  induction h with
  | nil => exact .nil
  | cons h _ ih => exact .cons (f _ _ h) ih
section
variable {K : PySem.W.Frag} {H : Hp} {Q : VK} {a : Addr}
theorem r_dictP {ps : List Addr} {kvs : List (Key × V)} (h : H a = some (.lst (ps.map V.ref))) (hp : Paired (fun (p : Addr) (kv : Key × V) => H p = some (.tup [kV kv.1, kv.2])) ps kvs) (nd : (kvs.map (·.1)).Nodup) (q : ∀ p H', H p = none → Same H H' → H' p = some (.dK kvs) → Q (.ref p) H') : rDictP K [.ref a] H Q :=
  ⟨a, ps, kvs, rfl, SqL.of h, pairedImp hp fun _ _ e => SqT.of e, fun p hp => q p _ hp (Same.new hp) (by rw [mergeK_nil nd]; exact upd_same)⟩
end
end Wp
set_option Elab.async false
set_option linter.all false
set_option maxRecDepth 100000
set_option maxHeartbeats 4000000
/-! The law's own change of a model, and of a book by with_part. -/
namespace Wp
open PySem PySem.Spec PyProof.Rows L2
abbrev s__law_changed : Stmt := topS 68
local macro_rules | `(tactic| walk_at "val") => `(tactic| assumption)
local macro_rules | `(tactic| walk_at "rd1") => `(tactic| first
  | with_reducible refine r_seq ?_ | with_reducible refine r_next ?_ | with_reducible refine r_if ?_ | with_reducible refine r_asg ?_ | with_reducible refine r_gname ?_
  | with_reducible refine r_ret ?_ | with_reducible refine r_retN ?_ | with_reducible refine r_drop ?_ | with_reducible refine r_par ?_ | with_reducible refine r_kPar ?_
  | ((with_reducible refine' r_var ?hv ?_); (case hv => exact rfl)) | with_reducible refine r_c ?_ | with_reducible refine r_nil ?_ | with_reducible refine r_cons ?_
  | with_reducible refine r_fn ?_ | with_reducible refine r_cb ?_ | with_reducible refine r_op ?_ | with_reducible refine r_un ?_ | with_reducible refine r_I0 ?_
  | with_reducible refine r_pow5 ?_ | with_reducible refine r_pow6 ?_ | with_reducible refine r_pow7 ?_ | with_reducible refine r_pow9 ?_ | with_reducible refine r_pow18 ?_ | with_reducible refine r_pow20 ?_ | with_reducible refine r_pow30 ?_
  | with_reducible refine r_isN_non ?_ | with_reducible refine r_isN_ref ?_ | with_reducible refine r_isN_int ?_ | with_reducible refine r_isN_str ?_ | with_reducible refine r_isN_bl ?_ | with_reducible refine r_notN_non ?_ | with_reducible refine r_notN_ref ?_ | with_reducible refine r_notN_int ?_ | with_reducible refine r_notN_str ?_ | with_reducible refine r_notN_bl ?_
  | ((with_reducible refine r_I ?hc ?_); (case hc => walk_at "side")) | with_reducible refine r_U ?_
  | with_reducible refine r_eqI ?_ | with_reducible refine r_neI ?_ | with_reducible refine r_eqS ?_ | with_reducible refine r_neS ?_ | with_reducible refine r_eqB ?_ | with_reducible refine r_neB ?_
  | with_reducible refine r_chain ?_ | with_reducible refine r_test ?_ | with_reducible refine r_tB ?_ | with_reducible refine r_kTest ?_ | with_reducible refine r_not ?_
  | with_reducible refine r_and ?_ | with_reducible refine r_or ?_ | with_reducible refine r_tif ?_ | with_reducible refine r_andV ?_ | with_reducible refine r_orV ?_ | with_reducible refine r_notV ?_
  | with_reducible refine r_kAndV ?_ | with_reducible refine r_kOrV ?_ | with_reducible refine r_kNotV ?_
  | with_reducible refine w_T ?_ | with_reducible refine w_F ?_ | with_reducible refine w_NT ?_ | with_reducible refine w_NF ?_
  | with_reducible refine r_tup ?_ | with_reducible refine r_lst ?_ | with_reducible refine r_fld ?_ | with_reducible refine r_prop ?_ | ((with_reducible refine' r_aug ?h1 ?_); (case h1 => exact rfl)) | with_reducible refine r_ipI ?_ | with_reducible refine r_dget ?_ | with_reducible refine r_dput ?_ | with_reducible refine r_bm ?_
  | ((with_reducible refine' r_kDGetS ?h1 ?h2 ?_); (case h1 => assumption); (case h2 => walk_at "val"))
  | ((with_reducible refine' r_kBML ?h1 ?_); (case h1 => assumption))
  | with_reducible refine r_forL ?_ | with_reducible refine r_forR1 ?_ | with_reducible refine r_forR2 ?_ | with_reducible refine r_forT ?_ | with_reducible refine r_lcL ?_ | with_reducible refine r_lcR1 ?_
  | ((with_reducible refine r_kLcG ?hw ?_); (case hw => exact rfl)) | with_reducible refine r_kLcT ?_ | with_reducible refine r_yes ?_
  | with_reducible refine r_pnil ?_ | with_reducible refine r_pcons ?_
  | with_reducible refine r_fnK ?_ | ((with_reducible refine r_kFnK ?hl ?_); (case hl => exact rfl))
  | with_reducible refine r_isi_ii ?_ | with_reducible refine r_isi_ib ?_ | with_reducible refine r_isi_bi ?_ | with_reducible refine r_isi_bb ?_ | with_reducible refine r_isi_ss ?_ | with_reducible refine r_isi_is ?_ | with_reducible refine r_isi_it ?_
  | ((with_reducible refine' r_isi_tt ?h1 ?_); (case h1 => assumption))
  | with_reducible refine r_sfld ?_ | with_reducible refine r_gnil ?_ | with_reducible refine r_gcons ?_
  | ((with_reducible refine' r_gtup ?h1 ?h2 ?_); (case h1 => exact SqT.of (by assumption)); (case h2 => exact rfl))
  | with_reducible refine r_sl ?_ | with_reducible refine r_noPart ?_ | with_reducible refine r_part ?_ | with_reducible refine r_kPart ?_ | with_reducible refine r_m1 ?_ | with_reducible refine r_kM1 ?_ | with_reducible refine r_forS ?_ | with_reducible refine r_lcS ?_ | with_reducible refine r_lcTu ?_ | with_reducible refine r_lcK ?_ | with_reducible refine r_dcL ?_ | with_reducible refine r_dcK ?_ | with_reducible refine r_lc2L ?_ | with_reducible refine r_kLc2TL ?_ | with_reducible refine r_dcEn ?_ | with_reducible refine r_gslc ?_ | with_reducible refine r_lcEn ?_ | with_reducible refine r_forET ?_ | with_reducible refine r_lenD ?_
  | ((with_reducible refine r_kDcG ?hw ?_); (case hw => exact rfl)) | with_reducible refine r_kDcT ?_
  | with_reducible refine r_fldaug ?_ | with_reducible refine r_daug ?_ | with_reducible refine r_rAdd ?_ | with_reducible refine r_rSub ?_ | with_reducible refine r_ddel ?_ | with_reducible refine r_bmF ?_ | with_reducible refine r_dget2 ?_ | with_reducible refine r_listItems ?_ | with_reducible refine r_bm0 ?_ | with_reducible refine r_lc2E ?_ | ((with_reducible refine r_kLc2G ?hw ?_); (case hw => exact rfl)) | with_reducible refine r_kLc2T ?_ | with_reducible refine r_forE ?_ | with_reducible refine r_orT ?_ | with_reducible refine r_din ?_ | with_reducible refine r_augS ?_ | with_reducible refine r_dnotin ?_ | with_reducible refine r_lcIT ?_ | with_reducible refine r_cont ?_ | with_reducible refine r_meth ?_ | with_reducible refine r_frz ?_ | with_reducible refine r_par3 ?_ | with_reducible refine r_kPar3 ?_ | with_reducible refine r_dz ?_ | with_reducible refine r_revL ?_ | with_reducible refine r_star ?_ | with_reducible refine r_int1 ?_ | with_reducible refine r_int1b ?_ | with_reducible refine r_min2 ?_ | with_reducible refine r_max2 ?_ | with_reducible refine r_gsub ?_)
local macro_rules | `(tactic| walk_at "rd") => `(tactic| repeat walk_at "rd1")
local macro_rules | `(tactic| walk_at "side") => `(tactic| first | assumption | exact Or.inr ⟨by decide, by decide⟩ | exact Or.inl ⟨by decide, by decide⟩ | (constructor <;> omega) | omega | decide | (refine Or.inl ⟨?_, ?_⟩ <;> omega) | (refine Or.inr ⟨?_, ?_⟩ <;> omega) | (refine ⟨?_, ?_, ?_⟩ <;> first | decide | omega))
local macro_rules | `(tactic| walk_at "val") => `(tactic| first | exact mv1 | exact mv2 | exact mv3 | exact mv4 | exact mv5 | exact mv6)
def sp_changed (C : Addr) : Sp := fun vs H Q _ => ∃ (st l c p q : Addr) (cs : List Int) (n : Int) (B : Bk), vs = [.ref st, .ref p, .ref q] ∧ n ≤ 8796093022208 ∧ DS st l c cs n H ∧ Two C l H p q B ∧
  ∀ t p' q' B' H', H' t = some (.tup [.ref p', .ref q']) → Two C l H' p' q' B' → B'.ks.map (·.1) = B.ks.map (·.1) → DS st l c cs (n + 200) H' → Kp st l H H' → Q (.ref t) H'
theorem DS.butNe {st l c p : Addr} {cs : List Int} {B : Int} {H H' : Hp} (D : DS st l c cs B H) (n1 : p ≠ st) (n2 : p ≠ l) (n3 : p ≠ c) (b : But p H H') : DS st l c cs B H' := by
  obtain ⟨⟨r, t, hr, h0, h1, h⟩, ⟨zs, hz, h2⟩, h3, n⟩ := D
  exact ⟨⟨r, t, hr, h0, h1, b _ _ h n1.symm⟩, ⟨zs, hz, b _ _ h2 n2.symm⟩, b _ _ h3 n3.symm, n⟩
section
variable {P : Program} {w : World} {K : PySem.W.Frag} {mg : Str → Option Value} {base : Heap}
theorem ok__law_changed {f C : Addr} {fd : FuncData} (T : Tx K mg) (F : FnP K "_law_changed" s__law_changed f fd)
    (d__law_take : Dn P w K mg base CX0 2 "_law_take" ["_law_state", "_law_size"] sp_take) (d__law_pick : Dn P w K mg base CX0 3 "_law_pick" ["_law_state", "_law_some_here"] sp_pick) (d__law_some : Dn P w K mg base CX0 3 "_law_some" ["_law_state", "_law_some_here", "_law_many"] sp_some)
    (mt_Book_with_part : Dm P w K mg base CX0 7 C "with_part" (sp_with_part C)) :
    FnOk P w K mg base CX0 9 f fd ["_law_state", "_law_model_here", "_law_made_here"] (sp_changed C) := by
  have sc : FnScope ["_law_state", "_law_model_here", "_law_made_here", "_law_found", "_law_field", "_law_low", "_law_label"] ["_law_state", "_law_model_here", "_law_made_here"] (defScope s__law_changed) := ⟨rfl, rfl, rfl, by decide +kernel, rfl, by decide +kernel, by decide +kernel⟩
  refine F.ok sc (by rintro vs H Q E ⟨_, _, _, _, _, _, _, _, rfl, _⟩; rfl) (fun cdv A outer s H vs Q E hr h => ⟨_, PSs.nox ((pss_cons (ps_par (i := 3) (j := 4) (by rfl) sc.nd rfl rfl (by decide) rfl rfl (pa_cons (pe_callTy c_dictD (by rfl) T.b_dict (by decide +kernel) (pa_cons (pv 1) pa_nil)) (pa_cons (pe_fn d__law_pick (hr.mono (by decide)) pass0 (pa_cons (pv 0) (pa_cons (pe_lst (pa_cons pe_str (pa_cons pe_str (pa_cons pe_str (pa_cons pe_str (pa_cons pe_str (pa_cons pe_str pa_nil))))))) pa_nil))) pa_nil)) (by rfl))
      (pss_cons (ps_if (pt_cmpR op_eq (pv 4) pe_str (nomark _)) (pss_cons (ps_set (i := 5) sc.nd rfl (by first | exact Or.inl rfl | exact Or.inr rfl) (pe_callB (c_max2 rfl) (by rfl) T.b_max (by decide +kernel) (pa_cons pe_int (pa_cons (pe_op op_add (pe_dget (hu_of hr) (pv 1) pe_str (fun _ _ => rfl)) pe_int) pa_nil))))
      (pss_one (ps_dput (hu_of hr) (pv 3) (pv 4) (pe_fn d__law_pick (hr.mono (by decide)) pass0 (pa_cons (pv 0) (pa_cons (pe_lst (pa_cons (pe_lst (pa_cons pe_int pa_nil)) (pa_cons (pe_lst (pa_cons pe_int (pa_cons (pv 5) (pa_cons pe_int pa_nil)))) (pa_cons (pe_lst (pa_cons (pe_callB (c_maxK (K := K) rfl rfl) (by rfl) T.b_max (by decide +kernel) (pa_cons (pe_dget (hu_of hr) (pv 1) pe_str (fun _ _ => rfl)) pa_nil)) pa_nil)) (pa_cons (pe_revLK (K := K) rfl (pe_dget (hu_of hr) (pv 1) pe_str (fun _ _ => rfl))) pa_nil))))) pa_nil))) rfl))) (pss_one (ps_if (pt_cmpR op_eq (pv 4) pe_str (nomark _)) (pss_one (ps_dput (hu_of hr) (pv 3) (pv 4) (pe_fn d__law_take (hr.mono (by decide)) pass0 (pa_cons (pv 0) (pa_cons (pe_callB (c_minK (K := K) rfl rfl) (by rfl) T.b_min (by decide +kernel) (pa_cons (pe_dget (hu_of hr) (pv 1) pe_str (fun _ _ => rfl)) pa_nil)) pa_nil))) rfl)) (pss_one (ps_if (pt_cmpR op_eq (pv 4) pe_str (nomark _)) (pss_one (ps_dput (hu_of hr) (pv 3) (pv 4) (pe_callTy (c_dictP (K := K) rfl rfl) (by rfl) T.b_dict (by decide +kernel) (pa_cons (pe_lock (pe_lc (own := [("_law_label", 6)]) (by rfl) sc.nd (pi_keys (pe_dget (hu_of hr) (pv 1) pe_str (fun _ _ => rfl))) (blkOk_by (own := [("_law_label", 6)]) (N := ["_law_state", "_law_model_here", "_law_made_here", "_law_found", "_law_field", "_law_low", "_law_label"]) (sc := defScope s__law_changed) (by decide +kernel)) (fun _ _ _ _ _ => (pg_name (i := 6) sc.nd rfl (by first | exact Or.inl rfl | exact Or.inr rfl))) (fun _ _ _ _ _ => pts_nil) (fun _ _ _ _ _ => (pe_tup (pa_cons (pv 6) (pa_cons (pe_tup (pa_cons (pe_fn d__law_take (hr.mono (by decide)) pass0 (pa_cons (pv 0) (pa_cons pe_int pa_nil))) (pa_cons (pe_cmpR op_eq (pe_fn d__law_take (hr.mono (by decide)) pass0 (pa_cons (pv 0) (pa_cons pe_int pa_nil))) pe_int (nomark _)) pa_nil))) pa_nil)))))) pa_nil)) rfl)) (pss_one (ps_if (pt_cmpR op_eq (pv 4) pe_str (nomark _)) (pss_one (ps_dput (hu_of hr) (pv 3) (pv 4) (pe_fn d__law_take (hr.mono (by decide)) pass0 (pa_cons (pv 0) (pa_cons pe_int pa_nil))) rfl)) (pss_one (ps_if (pt_cmpR op_eq (pv 4) pe_str (nomark _)) (pss_one (ps_dput (hu_of hr) (pv 3) (pv 4) (pe_ifExp (pt_cmpR op_eq (pe_dget (hu_of hr) (pv 1) pe_str (fun _ _ => rfl)) pe_str (nomark _)) pe_str pe_str) rfl)) (pss_one (ps_dput (hu_of hr) (pv 3) (pv 4) (pe_fn d__law_pick (hr.mono (by decide)) pass0 (pa_cons (pv 0) (pa_cons (pe_lst (pa_cons pe_non (pa_cons (pe_callTy (c_tupleF (K := K) rfl) (by rfl) T.b_tuple (by decide +kernel) (pa_cons (pe_fn d__law_some (hr.mono (by decide)) pass0 (pa_cons (pv 0) (pa_cons (pe_callTy (c_listD rfl) (by rfl) T.b_list (by decide +kernel) (pa_cons (pe_dget (hu_of hr) (pv 1) pe_str (fun _ _ => rfl)) pa_nil)) (pa_cons pe_int pa_nil)))) pa_nil)) pa_nil))) pa_nil))) rfl)))))))))))
      (pss_one (ps_ret (pe_tup (pa_cons (pv 3) (pa_cons (pe_mt mt_Book_with_part (hr.mono (by decide)) pass0 (pv 2) (pa_cons (pv 4) (pa_cons (pe_dget (hu_of hr) (pv 3) (pv 4) (fun _ _ => rfl)) pa_nil))) pa_nil)))))))), ?_⟩)
  obtain ⟨st, l, c, p, q, cs, n, B, rfl, hn, D, ⟨⟨ad, kd, lv, kvs, hM⟩, ok, lok, ks0, pm0, hBk⟩, k⟩ := h
  have l1 := ok.l1
  have l2 := ok.l2
  have hd0 := ok.d0
  have d31 := ok.due31
  have hp := hM.i
  walk_at "rd"
  refine r_dictD hM.i fun fo H1 nfo e1 hfo => ?_
  walk_at "rd"
  refine r_kLst fun l1' H2 nl1 e2 hl1' => ?_
  walk_at "rd"
  refine u_pick (D.keep e1) (by omega) nl1 e2 hl1' (by simp) (by simp) fun i x H3 hx D3 k3 => ?_
  obtain ⟨s, rfl, hs⟩ := strs_get (xs := ["lengths", "due", "kinds", "memory", "begins", "laid"]) hx
  have hs := List.mem_of_getElem? hs
  have k03 : Kp st l H H3 := (Kp.of e1).trans k3
  have M3 := hM.kp k03 D
  have nfo1 : fo ≠ st := D.nst nfo
  have nfo2 : fo ≠ l := D.nl nfo
  have hfo3 := k3 _ _ hfo nfo1 nfo2
  have hp3 := M3.i
  have hn' : (kvs.map fun kv => kV kv.1) = (B.ks.map (·.1)).map V.str := by
    have e := congrArg (List.map kV) hM.a.keys
    rw [List.map_map, List.map_map] at e
    exact e
  have ks1 := ok.kn.lo
  have ks2 := ok.kn.hi
  simp only [List.mem_cons, List.not_mem_nil, or_false] at hs
  rcases hs with rfl | rfl | rfl | rfl | rfl | rfl
  · -- lengths
    walk_at "rd"
    refine w_dec (fun _ => ?_) (fun h => absurd rfl h)
    walk_at "rd"
    refine r_kLst fun b1 H4 nb1 e4 hb1 => ?_
    walk_at "rd"
    refine r_kLst fun b2 H5 nb2 e5 hb2 => ?_
    have M5 := (M3.keep e4).keep e5
    have hp5 := M5.i
    walk_at "rd"
    refine r_maxI (SqL.of M5.l) (by omega) fun mx hmx hmax => ?_
    walk_at "rd"
    refine r_kLst fun b3 H6 nb3 e6 hb3 => ?_
    have M6 := M5.keep e6
    have hp6 := M6.i
    walk_at "rd"
    refine r_kRevL (SqL.of M6.l) fun b4 H7 nb4 e7 hb4 => ?_
    rw [← List.map_reverse] at hb4
    walk_at "rd"
    refine r_kLst fun b5 H8 nb5 e8 hb5 => ?_
    have e38 := (((e4.trans e5).trans e6).trans e7).trans e8
    walk_at "rd"
    have nb5' := (((e4.trans e5).trans e6).trans e7).free nb5
    refine ⟨st, l, c, b5, cs, _, _, rfl, (by omega : _ ≤ (35184372088832 : Int)), D3.keep e38, hb5, by simp, by simp, D3.nl nb5', fun i2 x2 H9 hx2 D9 k9 => ?_⟩
    have hmx2 := ok.l3 mx hmx
    have hmx3 := ok.d1 mx hmx
    have k09 := (k03.trans (Kp.of e38)).trans k9
    have lift : ∀ {u : Addr} {o : HO}, H3 u = none → H8 u = some o → H9 u = some o := fun {u o} n3 hu => k9 _ _ hu (D3.nst n3) (D3.nl n3)
    have hx' : ∃ (la : Addr) (ls : List Int), x2 = .ref la ∧ H9 la = some (.lst (ls.map V.int)) ∧ la ≠ l ∧ 1 ≤ ls.length ∧ ls.length ≤ 4 ∧ ∀ z ∈ ls, 2 ≤ z ∧ z ≤ 31 ∧ B.due < z := by
      match i2, hx2 with
      | 0, hx2 =>
        obtain rfl := (Option.some.inj hx2).symm
        exact ⟨b1, [31], rfl, lift nb1 (e8 _ _ (e7 _ _ (e6 _ _ (e5 _ _ hb1)))), D3.nl nb1, by simp, by simp, fun z hz => by rw [List.mem_singleton.mp hz]; omega⟩
      | 1, hx2 =>
        obtain rfl := (Option.some.inj hx2).symm
        refine ⟨b2, [31, max 2 (B.due + 1), 31], rfl, lift (e4.free nb2) (e8 _ _ (e7 _ _ (e6 _ _ hb2))), D3.nl (e4.free nb2), by simp, by simp, fun z hz => ?_⟩
        simp only [List.mem_cons, List.not_mem_nil, or_false] at hz
        omega
      | 2, hx2 =>
        obtain rfl := (Option.some.inj hx2).symm
        exact ⟨b3, [mx], rfl, lift ((e4.trans e5).free nb3) (e8 _ _ (e7 _ _ hb3)), D3.nl ((e4.trans e5).free nb3), by simp, by simp, fun z hz => by rw [List.mem_singleton.mp hz]; omega⟩
      | 3, hx2 =>
        obtain rfl := (Option.some.inj hx2).symm
        have n4 := ((e4.trans e5).trans e6).free nb4
        refine ⟨b4, B.ls.reverse, rfl, lift n4 (e8 _ _ hb4), D3.nl n4, by simp; omega, by simp; omega, fun z hz => ?_⟩
        have hz := List.mem_reverse.mp hz
        have := ok.l3 z hz
        have := ok.d1 z hz
        omega
      | n + 4, hx2 => simp at hx2
    obtain ⟨la, ls, rfl, hla, nla, ls1, ls2, ls3⟩ := hx'
    have hfo9 := k9 _ _ (e38 _ _ hfo3) nfo1 nfo2
    walk_at "rd"
    refine r_kDPutS hfo9 (by rw [mkv_len]; decide) fun H10 b10 h10 => ?_
    rw [mq1] at h10
    have K10 := k09.mut b10 nfo
    have M10 := hM.kp K10 D
    have B10 := hBk.kp K10 D
    have hla10 := b10 _ _ hla (ne_of hla hfo9 (by intro z; cases z))
    obtain ⟨_, _, _, _, _, i10⟩ := id B10
    have oka : ({ B with ls := ls } : Bk).Ok := ⟨ls1, ls2, fun x hx => ⟨(ls3 x hx).1, (ls3 x hx).2.1⟩, ok.d0, fun x hx => (ls3 x hx).2.2, ok.kn, ok.m0, ok.m1, ok.bg⟩
    have lka : ({ B with ls := ls } : Bk).LaidOk := fun ns h => lok ns h
    walk_at "rd"
    refine r_kMeth i10.i rfl ?_
    walk_at "rd"
    refine ⟨q, { B with ks := ks0 }, { B with ks := ks0, ls := ls }, "lengths", .ref la, rfl, B10, WP.ls (B := { B with ks := ks0 }) (.inl hla10), oka.perm pm0, lka.perm pm0, fun q2 H11 ks nq e11 pm so hB2 => ?_⟩
    walk_at "rd"
    refine r_kTup fun t H12 nt e12 ht => ?_
    have e1012 := e11.trans e12
    exact k t fo q2 { B with ls := ls } H12 ht ⟨⟨la, kd, lv, kvs, MdlIn.keep ⟨h10, hla10, nla, M10.k, M10.a, M10.d⟩ e1012⟩, oka, lka, ks, pm.trans pm0, hB2.keep e12⟩ rfl (((D9.but D nfo b10).keep e1012).mono (by omega)) (K10.trans (Kp.of e1012))
  · -- due
    walk_at "rd"
    refine w_dec (fun h => absurd h (by decide +kernel)) (fun _ => ?_)
    walk_at "rd"
    refine w_dec (fun _ => ?_) (fun h => absurd rfl h)
    walk_at "rd"
    refine r_minI (SqL.of M3.l) (by omega) fun mn hmn hmin => ?_
    have hmn2 := ok.l3 mn hmn
    walk_at "rd"
    refine u_take D3 (by omega) (by omega) (by omega) fun y H4 y0 y1 D4 k4 => ?_
    have hfo4 := k4 _ _ hfo3 nfo1 nfo2
    walk_at "rd"
    refine r_kDPutS hfo4 (by rw [mkv_len]; decide) fun H10 b10 h10 => ?_
    rw [mq5] at h10
    have K10 := (k03.trans k4).mut b10 nfo
    have M10 := hM.kp K10 D
    have B10 := hBk.kp K10 D
    obtain ⟨_, _, _, _, _, i10⟩ := id B10
    have oka : ({ B with due := y } : Bk).Ok := ⟨ok.l1, ok.l2, ok.l3, y0, fun x hx => by have := hmin x hx; show y < x; omega, ok.kn, ok.m0, ok.m1, ok.bg⟩
    have lka : ({ B with due := y } : Bk).LaidOk := fun ns h => lok ns h
    walk_at "rd"
    refine r_kMeth i10.i rfl ?_
    walk_at "rd"
    refine ⟨q, { B with ks := ks0 }, { B with ks := ks0, due := y }, "due", .int y, rfl, B10, WP.due (B := { B with ks := ks0 }) _, oka.perm pm0, lka.perm pm0, fun q2 H11 ks nq e11 pm so hB2 => ?_⟩
    walk_at "rd"
    refine r_kTup fun t H12 nt e12 ht => ?_
    have e1012 := e11.trans e12
    exact k t fo q2 { B with due := y } H12 ht ⟨⟨ad, kd, lv, kvs, MdlIn.keep ⟨h10, M10.l, hM.n, M10.k, M10.a, M10.d⟩ e1012⟩, oka, lka, ks, pm.trans pm0, hB2.keep e12⟩ rfl (((D4.but D nfo b10).keep e1012).mono (by omega)) (K10.trans (Kp.of e1012))
  · -- kinds
    walk_at "rd"
    refine w_dec (fun h => absurd h (by decide +kernel)) (fun _ => ?_)
    walk_at "rd"
    refine w_dec (fun h => absurd h (by decide +kernel)) (fun _ => ?_)
    walk_at "rd"
    refine w_dec (fun _ => ?_) (fun h => absurd rfl h)
    walk_at "rd"
    have nk1 : kd ≠ st := M3.a.nst M3.k D3
    have nk2 : kd ≠ l := D3.nld M3.k fun xs z => by cases z
    have nk3 : kd ≠ c := ne_of M3.k D3.cl (by intro z; cases z)
    have nkp : kd ≠ p := by
      rintro rfl
      have h1 := M3.k
      rw [hp3] at h1
      injection h1 with h1
      injection h1 with h1
      obtain ⟨t', h⟩ := M3.a.all (Sum.inr ("memory" : Str), .int B.mem) (by rw [← h1]; simp [mkv])
      cases h
    refine r_lockD M3.k fun od H4 hd4 ho4 hn4 => ?_
    have D4 := D3.butNe nk1 nk2 nk3 ho4
    have hp4 := ho4 _ _ hp3 nkp.symm
    walk_at "rd"
    refine r_kLcK hd4 (fun Da i H' => ∃ (ps : List Addr) (kv2 : List (Key × V)) (ks2 : List (Str × Int × Bool)), H' Da = some (.lst (ps.map V.ref)) ∧ ps.length = i ∧ Paired (fun (p : Addr) (kv : Key × V) => H' p = some (.tup [kV kv.1, kv.2])) ps kv2 ∧ KAt H' kv2 ks2 ∧ ks2.map (·.1) = (B.ks.take i).map (·.1) ∧ (∀ k ∈ ks2, 0 ≤ k.2.1 ∧ k.2.1 ≤ 1000) ∧
        DS st l c cs (n + 10 + 2 * (i : Int)) H' ∧ Kp st l H4 H')
      (fun Da H' nD e h => ⟨[], [], [], h, rfl, .nil, .nil, rfl, fun k hk => (by cases hk), (D4.keep e).mono (by omega), Kp.of e⟩) (fun Da i H' h => by
        obtain ⟨_, _, _, _, _, _, _, _, _, _, kk⟩ := h
        exact kk _ _ hd4 nk1 nk2) ?_ ?_
    · rintro Da i key v H' nD hi ⟨ps, kv2, ks2, hDa, hpl, hPa, hK, hnm, hrt, D5, k5⟩
      obtain ⟨nm, r0, f0, t0, rfl, rfl, ht0, hks⟩ := M3.a.get hi
      have hil := (List.getElem?_eq_some_iff.mp hks).1
      have nDs := D4.nst nD
      have nDl := D4.nl nD
      walk_at "rd"
      refine u_take D5 (by omega) (by omega) (by omega) fun y1 H6 y10 y11 D6 k6 => ?_
      walk_at "rd"
      refine u_take D6 (by omega) (by omega) (by omega) fun y2 H7 y20 y21 D7 k7 => ?_
      have k57 := k6.trans k7
      walk_at "rd"
      refine r_kTup fun t1 H8 nt1 e8 ht1 => ?_
      walk_at "rd"
      refine r_kTup fun t2 H9 nt2 e9 ht2 => ?_
      have e79 := e8.trans e9
      have hDa9 := e79 _ _ (k57 _ _ hDa nDs nDl)
      refine r_kLcE hDa9 (by rw [List.length_map]; omega) fun H10 b10 h10 => ?_
      have kp : ∀ u xs, H9 u = some (.tup xs) → H10 u = some (.tup xs) := fun u xs hu => b10 _ _ hu (ne_of hu hDa9 (by intro z; cases z))
      have kp2 : ∀ u xs, H' u = some (.tup xs) → H10 u = some (.tup xs) := fun u xs hu => kp _ _ (e79 _ _ (k57.tups D5 _ _ hu))
      refine ⟨ps ++ [t2], kv2 ++ [(Sum.inr nm, .ref t1)], ks2 ++ [(nm, y1, decide (y2 = 0))], by rw [List.map_append]; exact h10, by simp [hpl], ?_, (hK.keep kp2).snoc (kp _ _ (e9 _ _ ht1)), ?_, ?_, ?_, ?_⟩
      · exact pairedApp (pairedImp hPa fun a b h => kp2 _ _ h) (.cons (kp _ _ ht2) .nil)
      · rw [List.map_append, hnm, take_more hks, List.map_append]
        rfl
      · intro k hk
        rcases List.mem_append.mp hk with hk | hk
        · exact hrt k hk
        · rw [List.mem_singleton.mp hk]
          exact ⟨y10, by show y1 ≤ 1000; omega⟩
      · refine ((D7.keep e79).but D4 nD b10).mono ?_
        rw [Int.natCast_add]; omega
      · exact ((k5.trans k57).trans (Kp.of e79)).mut b10 nD
    · rintro Da H5 nD ⟨ps, kv2, ks2, hDa, hpl, hPa, hK, hnm, hrt, D5, k5⟩
      have hkl := hM.a.len
      rw [hkl, List.take_length] at hnm
      have nDk : Da ≠ kd := by
        rintro rfl
        rw [hd4] at nD
        cases nD
      have hd5 := k5 _ _ hd4 nk1 nk2
      refine ⟨hd5, ?_⟩
      have u6 : ∀ b o, H5 b = some o → b ≠ kd → upd H5 kd (.dK kvs) b = some o := fun b o hb hne => by rw [upd_ne hne]; exact hb
      have u6k : upd H5 kd (.dK kvs) kd = some (.dK kvs) := upd_same
      have tp6 : ∀ u xs, H5 u = some (.tup xs) → upd H5 kd (.dK kvs) u = some (.tup xs) := fun u xs hu => u6 _ _ hu (ne_of hu hd5 (by intro z; cases z))
      generalize upd H5 kd (.dK kvs) = H6 at u6 u6k tp6 ⊢
      have k06 : Kp st l H3 H6 := fun b o hb n1 n2 => by
        by_cases hbk : b = kd
        · subst hbk
          rw [M3.k] at hb
          rw [← hb]
          exact u6k
        · exact u6 _ _ (k5 _ _ (ho4 _ _ hb hbk) n1 n2) hbk
      have D6 : DS st l c cs (n + 10 + 2 * (kvs.length : Int)) H6 := D5.butNe nk1 nk2 nk3 (fun b o hb hne => u6 b o hb hne)
      walk_at "rd"
      have hnd2 : (kv2.map (·.1)).Nodup := by
        rw [hK.keys, hnm]
        exact List.Pairwise.map _ (fun a b h z => h (Sum.inr.inj z)) ok.kn.nm.nd
      refine ⟨Da, ps, kv2, rfl, SqL.of (u6 _ _ hDa nDk), pairedImp hPa fun a b h => SqT.of (tp6 _ _ h), fun nk2' hnk => ?_⟩
      rw [mergeK_nil hnd2]
      have e7 : Same H6 (upd H6 nk2' (.dK kv2)) := Same.new hnk
      have hk7 : upd H6 nk2' (.dK kv2) nk2' = some (.dK kv2) := upd_same
      generalize upd H6 nk2' (.dK kv2) = H7 at e7 hk7 ⊢
      have hfo7 := e7 _ _ (k06 _ _ hfo3 nfo1 nfo2)
      have nkf : nk2' ≠ fo := (ne_of_none (k06 _ _ hfo3 nfo1 nfo2) hnk).symm
      walk_at "rd"
      refine r_kDPutS hfo7 (by rw [mkv_len]; decide) fun H10 b10 h10 => ?_
      rw [mq2] at h10
      have K10 := ((k03.trans k06).trans (Kp.of e7)).mut b10 nfo
      have M10 := hM.kp K10 D
      have B10 := hBk.kp K10 D
      have hk10 := b10 _ _ hk7 nkf
      have tp10 : ∀ u xs, H7 u = some (.tup xs) → H10 u = some (.tup xs) := fun u xs hu => b10 _ _ hu (ne_of hu hfo7 (by intro z; cases z))
      have A10 : KAt H10 kv2 ks2 := hK.keep fun u xs hu => tp10 _ _ (e7 _ _ (tp6 _ _ hu))
      obtain ⟨_, _, _, _, _, i10⟩ := id B10
      have hl2 : ks2.length = B.ks.length := by
        have := congrArg List.length hnm
        rwa [List.length_map, List.length_map] at this
      have oka : ({ B with ks := ks2 } : Bk).Ok := ⟨ok.l1, ok.l2, ok.l3, ok.d0, ok.d1, ⟨by show 1 ≤ ks2.length; omega, by show ks2.length ≤ 6; omega, by show NamesOk (ks2.map (·.1)); rw [hnm]; exact ok.kn.nm, hrt⟩, ok.m0, ok.m1, ok.bg⟩
      have lka : ({ B with ks := ks2 } : Bk).LaidOk := fun ns h => by
        show ns.Perm (ks2.map (·.1))
        rw [hnm]
        exact lok ns h
      walk_at "rd"
      refine r_kMeth i10.i rfl ?_
      walk_at "rd"
      refine ⟨q, { B with ks := ks0 }, { B with ks := ks2 }, "kinds", .ref nk2', rfl, B10, WP.ks (B := { B with ks := ks0 }) hk10 A10, oka, lka, fun q2 H11 ks nq e11 pm so hB2 => ?_⟩
      walk_at "rd"
      refine r_kTup fun t H12 nt e12 ht => ?_
      have e1012 := e11.trans e12
      exact k t fo q2 { B with ks := ks2 } H12 ht ⟨⟨ad, nk2', lv, kv2, MdlIn.keep ⟨h10, M10.l, hM.n, hk10, A10, M10.d⟩ e1012⟩, oka, lka, ks, pm, hB2.keep e12⟩ hnm ((((D6.keep e7).but D nfo b10).keep e1012).mono (by omega)) (K10.trans (Kp.of e1012))
  · -- memory
    walk_at "rd"
    refine w_dec (fun h => absurd h (by decide +kernel)) (fun _ => ?_)
    walk_at "rd"
    refine w_dec (fun h => absurd h (by decide +kernel)) (fun _ => ?_)
    walk_at "rd"
    refine w_dec (fun h => absurd h (by decide +kernel)) (fun _ => ?_)
    walk_at "rd"
    refine w_dec (fun _ => ?_) (fun h => absurd rfl h)
    walk_at "rd"
    refine u_take D3 (by omega) (by omega) (by omega) fun y H4 y0 y1 D4 k4 => ?_
    have hfo4 := k4 _ _ hfo3 nfo1 nfo2
    walk_at "rd"
    refine r_kDPutS hfo4 (by rw [mkv_len]; decide) fun H10 b10 h10 => ?_
    rw [mq4] at h10
    have K10 := (k03.trans k4).mut b10 nfo
    have M10 := hM.kp K10 D
    have B10 := hBk.kp K10 D
    obtain ⟨_, _, _, _, _, i10⟩ := id B10
    have oka : ({ B with mem := y } : Bk).Ok := ⟨ok.l1, ok.l2, ok.l3, ok.d0, ok.d1, ok.kn, y0, by show y ≤ 2; omega, ok.bg⟩
    have lka : ({ B with mem := y } : Bk).LaidOk := fun ns h => lok ns h
    walk_at "rd"
    refine r_kMeth i10.i rfl ?_
    walk_at "rd"
    refine ⟨q, { B with ks := ks0 }, { B with ks := ks0, mem := y }, "memory", .int y, rfl, B10, WP.mem (B := { B with ks := ks0 }) _, oka.perm pm0, lka.perm pm0, fun q2 H11 ks nq e11 pm so hB2 => ?_⟩
    walk_at "rd"
    refine r_kTup fun t H12 nt e12 ht => ?_
    have e1012 := e11.trans e12
    exact k t fo q2 { B with mem := y } H12 ht ⟨⟨ad, kd, lv, kvs, MdlIn.keep ⟨h10, M10.l, hM.n, M10.k, M10.a, M10.d⟩ e1012⟩, oka, lka, ks, pm.trans pm0, hB2.keep e12⟩ rfl (((D4.but D nfo b10).keep e1012).mono (by omega)) (K10.trans (Kp.of e1012))
  · -- begins
    walk_at "rd"
    refine w_dec (fun h => absurd h (by decide +kernel)) (fun _ => ?_)
    walk_at "rd"
    refine w_dec (fun h => absurd h (by decide +kernel)) (fun _ => ?_)
    walk_at "rd"
    refine w_dec (fun h => absurd h (by decide +kernel)) (fun _ => ?_)
    walk_at "rd"
    refine w_dec (fun h => absurd h (by decide +kernel)) (fun _ => ?_)
    walk_at "rd"
    refine w_dec (fun _ => ?_) (fun h => absurd rfl h)
    walk_at "rd"
    refine w_dec (fun hb => ?_) (fun hb => ?_)
    · walk_at "rd"
      refine r_kDPutS hfo3 (by rw [mkv_len]; decide) fun H10 b10 h10 => ?_
      rw [mq6] at h10
      have K10 := k03.mut b10 nfo
      have M10 := hM.kp K10 D
      have B10 := hBk.kp K10 D
      obtain ⟨_, _, _, _, _, i10⟩ := id B10
      have oka : ({ B with beg := "day" } : Bk).Ok := ⟨ok.l1, ok.l2, ok.l3, ok.d0, ok.d1, ok.kn, ok.m0, ok.m1, .inl rfl⟩
      have lka : ({ B with beg := "day" } : Bk).LaidOk := fun ns h => lok ns h
      walk_at "rd"
      refine r_kMeth i10.i rfl ?_
      walk_at "rd"
      refine ⟨q, { B with ks := ks0 }, { B with ks := ks0, beg := "day" }, "begins", .str "day", rfl, B10, WP.beg (B := { B with ks := ks0 }) _, oka.perm pm0, lka.perm pm0, fun q2 H11 ks nq e11 pm so hB2 => ?_⟩
      walk_at "rd"
      refine r_kTup fun t H12 nt e12 ht => ?_
      have e1012 := e11.trans e12
      exact k t fo q2 { B with beg := "day" } H12 ht ⟨⟨ad, kd, lv, kvs, MdlIn.keep ⟨h10, M10.l, hM.n, M10.k, M10.a, M10.d⟩ e1012⟩, oka, lka, ks, pm.trans pm0, hB2.keep e12⟩ rfl (((D3.but D nfo b10).keep e1012).mono (by omega)) (K10.trans (Kp.of e1012))
    · walk_at "rd"
      refine r_kDPutS hfo3 (by rw [mkv_len]; decide) fun H10 b10 h10 => ?_
      rw [mq6] at h10
      have K10 := k03.mut b10 nfo
      have M10 := hM.kp K10 D
      have B10 := hBk.kp K10 D
      obtain ⟨_, _, _, _, _, i10⟩ := id B10
      have oka : ({ B with beg := "statement" } : Bk).Ok := ⟨ok.l1, ok.l2, ok.l3, ok.d0, ok.d1, ok.kn, ok.m0, ok.m1, .inr rfl⟩
      have lka : ({ B with beg := "statement" } : Bk).LaidOk := fun ns h => lok ns h
      walk_at "rd"
      refine r_kMeth i10.i rfl ?_
      walk_at "rd"
      refine ⟨q, { B with ks := ks0 }, { B with ks := ks0, beg := "statement" }, "begins", .str "statement", rfl, B10, WP.beg (B := { B with ks := ks0 }) _, oka.perm pm0, lka.perm pm0, fun q2 H11 ks nq e11 pm so hB2 => ?_⟩
      walk_at "rd"
      refine r_kTup fun t H12 nt e12 ht => ?_
      have e1012 := e11.trans e12
      exact k t fo q2 { B with beg := "statement" } H12 ht ⟨⟨ad, kd, lv, kvs, MdlIn.keep ⟨h10, M10.l, hM.n, M10.k, M10.a, M10.d⟩ e1012⟩, oka, lka, ks, pm.trans pm0, hB2.keep e12⟩ rfl (((D3.but D nfo b10).keep e1012).mono (by omega)) (K10.trans (Kp.of e1012))
  · -- laid
    walk_at "rd"
    refine w_dec (fun h => absurd h (by decide +kernel)) (fun _ => ?_)
    walk_at "rd"
    refine w_dec (fun h => absurd h (by decide +kernel)) (fun _ => ?_)
    walk_at "rd"
    refine w_dec (fun h => absurd h (by decide +kernel)) (fun _ => ?_)
    walk_at "rd"
    refine w_dec (fun h => absurd h (by decide +kernel)) (fun _ => ?_)
    walk_at "rd"
    refine w_dec (fun h => absurd h (by decide +kernel)) (fun _ => ?_)
    walk_at "rd"
    refine r_listD M3.k fun l2 H5 nl2 e5 hl2 => ?_
    rw [hn'] at hl2
    walk_at "rd"
    refine ⟨st, l, c, l2, cs, _, 6, _, rfl, (by omega : _ ≤ (17592186044416 : Int)), D3.keep e5, hl2, by rw [List.length_map, List.length_map]; omega, by omega, by omega, fun t1 ys rest H6 nt1 pm hyl ht1 D6 k6 => ?_⟩
    have hrest : rest = [] := by
      have := pm.length_eq
      rw [List.length_append, List.length_map, List.length_map] at this
      rw [List.length_map, List.length_map] at hyl
      exact List.eq_nil_of_length_eq_zero (by omega)
    subst hrest
    rw [List.append_nil] at pm
    obtain ⟨ns, pn, rfl⟩ := perm_lift V.str ys (B.ks.map (·.1)) pm
    walk_at "rd"
    refine r_tupF (SqL.of ht1) fun tl H7 ntl e7 htl => ?_
    walk_at "rd"
    refine r_kLst fun b5 H8 nb5 e8 hb5 => ?_
    have htl8 := htl.same e8
    have e68 := e7.trans e8
    walk_at "rd"
    have k38 := ((Kp.of e5).trans k6).trans (Kp.of e68)
    refine ⟨st, l, c, b5, cs, _, _, rfl, (by omega : _ ≤ (35184372088832 : Int)), D6.keep e68, hb5, by simp, by simp, D6.nl (e7.free nb5), fun i2 x2 H9 hx2 D9 k9 => ?_⟩
    have k39 := k38.trans k9
    have hfo9 := k39 _ _ hfo3 nfo1 nfo2
    have htl9 : FrzT H9 tl (ns.map V.str) := htl8.keep fun t o xs h => k9.frzs (D6.keep e68) t o xs h
    have hx' : ∃ o : Option (List Str), LaidV H9 o x2 ∧ ∀ ns', o = some ns' → ns'.Perm (B.ks.map (·.1)) := by
      match i2, hx2 with
      | 0, hx2 =>
        obtain rfl := (Option.some.inj hx2).symm
        exact ⟨none, rfl, fun _ h => by cases h⟩
      | 1, hx2 =>
        obtain rfl := (Option.some.inj hx2).symm
        exact ⟨some ns, ⟨tl, rfl, htl9⟩, fun ns' h => by obtain rfl := Option.some.inj h; exact pn⟩
      | n + 2, hx2 => simp at hx2
    obtain ⟨o, hlv, hpn⟩ := hx'
    walk_at "rd"
    refine r_kDPutS hfo9 (by rw [mkv_len]; decide) fun H10 b10 h10 => ?_
    rw [mq3] at h10
    have fz10 : ∀ u o xs, H9 u = some (.frz o (.tup xs)) → H10 u = some (.frz o (.tup xs)) := fun u o xs hu => b10 _ _ hu (ne_of hu hfo9 (by intro z; cases z))
    have hlv10 := hlv.keep fz10
    have K10 := (k03.trans k39).mut b10 nfo
    have M10 := hM.kp K10 D
    have B10 := hBk.kp K10 D
    obtain ⟨_, _, _, _, _, i10⟩ := id B10
    have oka : ({ B with laid := o } : Bk).Ok := ⟨ok.l1, ok.l2, ok.l3, ok.d0, ok.d1, ok.kn, ok.m0, ok.m1, ok.bg⟩
    have lka : ({ B with laid := o } : Bk).LaidOk := fun ns' h => hpn ns' h
    walk_at "rd"
    refine r_kMeth i10.i rfl ?_
    walk_at "rd"
    refine ⟨q, { B with ks := ks0 }, { B with ks := ks0, laid := o }, "laid", x2, rfl, B10, WP.laid (B := { B with ks := ks0 }) hlv10, oka.perm pm0, lka.perm pm0, fun q2 H11 ks nq e11 pm2 so hB2 => ?_⟩
    walk_at "rd"
    refine r_kTup fun t H12 nt e12 ht => ?_
    have e1012 := e11.trans e12
    exact k t fo q2 { B with laid := o } H12 ht ⟨⟨ad, kd, x2, kvs, MdlIn.keep ⟨h10, M10.l, hM.n, M10.k, M10.a, hlv10⟩ e1012⟩, oka, lka, ks, pm2.trans pm0, hB2.keep e12⟩ rfl (((D9.but D nfo b10).keep e1012).mono (by omega)) (K10.trans (Kp.of e1012))
end
end Wp
set_option Elab.async false
set_option linter.all false
set_option maxRecDepth 100000
set_option maxHeartbeats 4000000
/-! The law's own routes: days, cents, rows. -/
namespace Wp
open PySem PySem.Spec PyProof.Rows L2
abbrev s__law_next_date : Stmt := topS 59
abbrev s__law_cents : Stmt := topS 60
abbrev s__law_rows : Stmt := topS 61
abbrev s__law_path : Stmt := topS 62
local macro_rules | `(tactic| walk_at "val") => `(tactic| assumption)
local macro_rules | `(tactic| walk_at "rd1") => `(tactic| first
  | with_reducible refine r_seq ?_ | with_reducible refine r_next ?_ | with_reducible refine r_if ?_ | with_reducible refine r_asg ?_ | with_reducible refine r_gname ?_
  | with_reducible refine r_ret ?_ | with_reducible refine r_retN ?_ | with_reducible refine r_drop ?_ | with_reducible refine r_par ?_ | with_reducible refine r_kPar ?_
  | ((with_reducible refine' r_var ?hv ?_); (case hv => exact rfl)) | with_reducible refine r_c ?_ | with_reducible refine r_nil ?_ | with_reducible refine r_cons ?_
  | with_reducible refine r_fn ?_ | with_reducible refine r_cb ?_ | with_reducible refine r_op ?_ | with_reducible refine r_un ?_ | with_reducible refine r_I0 ?_
  | with_reducible refine r_pow5 ?_ | with_reducible refine r_pow6 ?_ | with_reducible refine r_pow7 ?_ | with_reducible refine r_pow9 ?_ | with_reducible refine r_pow18 ?_ | with_reducible refine r_pow20 ?_ | with_reducible refine r_pow30 ?_
  | with_reducible refine r_isN_non ?_ | with_reducible refine r_isN_ref ?_ | with_reducible refine r_isN_int ?_ | with_reducible refine r_isN_str ?_ | with_reducible refine r_isN_bl ?_ | with_reducible refine r_notN_non ?_ | with_reducible refine r_notN_ref ?_ | with_reducible refine r_notN_int ?_ | with_reducible refine r_notN_str ?_ | with_reducible refine r_notN_bl ?_
  | ((with_reducible refine r_I ?hc ?_); (case hc => walk_at "side")) | with_reducible refine r_U ?_
  | with_reducible refine r_eqI ?_ | with_reducible refine r_neI ?_ | with_reducible refine r_eqS ?_ | with_reducible refine r_neS ?_ | with_reducible refine r_eqB ?_ | with_reducible refine r_neB ?_
  | with_reducible refine r_chain ?_ | with_reducible refine r_test ?_ | with_reducible refine r_tB ?_ | with_reducible refine r_kTest ?_ | with_reducible refine r_not ?_
  | with_reducible refine r_and ?_ | with_reducible refine r_or ?_ | with_reducible refine r_tif ?_ | with_reducible refine r_andV ?_ | with_reducible refine r_orV ?_ | with_reducible refine r_notV ?_
  | with_reducible refine r_kAndV ?_ | with_reducible refine r_kOrV ?_ | with_reducible refine r_kNotV ?_
  | with_reducible refine w_T ?_ | with_reducible refine w_F ?_ | with_reducible refine w_NT ?_ | with_reducible refine w_NF ?_
  | with_reducible refine r_tup ?_ | with_reducible refine r_lst ?_ | with_reducible refine r_fld ?_ | with_reducible refine r_prop ?_ | ((with_reducible refine' r_aug ?h1 ?_); (case h1 => exact rfl)) | with_reducible refine r_ipI ?_ | with_reducible refine r_dget ?_ | with_reducible refine r_dput ?_ | with_reducible refine r_bm ?_
  | ((with_reducible refine' r_kDGetS ?h1 ?h2 ?_); (case h1 => assumption); (case h2 => walk_at "val"))
  | ((with_reducible refine' r_kBML ?h1 ?_); (case h1 => assumption))
  | with_reducible refine r_forL ?_ | with_reducible refine r_forR1 ?_ | with_reducible refine r_forR2 ?_ | with_reducible refine r_forT ?_ | with_reducible refine r_lcL ?_ | with_reducible refine r_lcR1 ?_
  | ((with_reducible refine r_kLcG ?hw ?_); (case hw => exact rfl)) | with_reducible refine r_kLcT ?_ | with_reducible refine r_yes ?_
  | with_reducible refine r_pnil ?_ | with_reducible refine r_pcons ?_
  | with_reducible refine r_fnK ?_ | ((with_reducible refine r_kFnK ?hl ?_); (case hl => exact rfl))
  | with_reducible refine r_isi_ii ?_ | with_reducible refine r_isi_ib ?_ | with_reducible refine r_isi_bi ?_ | with_reducible refine r_isi_bb ?_ | with_reducible refine r_isi_ss ?_ | with_reducible refine r_isi_is ?_ | with_reducible refine r_isi_it ?_
  | ((with_reducible refine' r_isi_tt ?h1 ?_); (case h1 => assumption))
  | with_reducible refine r_sfld ?_ | with_reducible refine r_gnil ?_ | with_reducible refine r_gcons ?_
  | ((with_reducible refine' r_gtup ?h1 ?h2 ?_); (case h1 => exact SqT.of (by assumption)); (case h2 => exact rfl))
  | with_reducible refine r_sl ?_ | with_reducible refine r_noPart ?_ | with_reducible refine r_part ?_ | with_reducible refine r_kPart ?_ | with_reducible refine r_m1 ?_ | with_reducible refine r_kM1 ?_ | with_reducible refine r_forS ?_ | with_reducible refine r_lcS ?_ | with_reducible refine r_lcTu ?_ | with_reducible refine r_lcK ?_ | with_reducible refine r_dcL ?_ | with_reducible refine r_dcK ?_ | with_reducible refine r_lc2L ?_ | with_reducible refine r_kLc2TL ?_ | with_reducible refine r_dcEn ?_ | with_reducible refine r_gslc ?_ | with_reducible refine r_lcEn ?_ | with_reducible refine r_forET ?_ | with_reducible refine r_lenD ?_
  | ((with_reducible refine r_kDcG ?hw ?_); (case hw => exact rfl)) | with_reducible refine r_kDcT ?_
  | with_reducible refine r_fldaug ?_ | with_reducible refine r_daug ?_ | with_reducible refine r_rAdd ?_ | with_reducible refine r_rSub ?_ | with_reducible refine r_ddel ?_ | with_reducible refine r_bmF ?_ | with_reducible refine r_dget2 ?_ | with_reducible refine r_listItems ?_ | with_reducible refine r_bm0 ?_ | with_reducible refine r_lc2E ?_ | ((with_reducible refine r_kLc2G ?hw ?_); (case hw => exact rfl)) | with_reducible refine r_kLc2T ?_ | with_reducible refine r_forE ?_ | with_reducible refine r_orT ?_ | with_reducible refine r_din ?_ | with_reducible refine r_augS ?_ | with_reducible refine r_dnotin ?_ | with_reducible refine r_lcIT ?_ | with_reducible refine r_cont ?_ | with_reducible refine r_meth ?_ | with_reducible refine r_frz ?_ | with_reducible refine r_par3 ?_ | with_reducible refine r_kPar3 ?_ | with_reducible refine r_dz ?_ | with_reducible refine r_revL ?_ | with_reducible refine r_star ?_ | with_reducible refine r_int1 ?_ | with_reducible refine r_int1b ?_ | with_reducible refine r_min2 ?_ | with_reducible refine r_max2 ?_ | with_reducible refine r_gsub ?_)
local macro_rules | `(tactic| walk_at "rd") => `(tactic| repeat walk_at "rd1")
local macro_rules | `(tactic| walk_at "side") => `(tactic| first | assumption | exact Or.inr ⟨by decide, by decide⟩ | exact Or.inl ⟨by decide, by decide⟩ | (constructor <;> omega) | omega | decide | (refine Or.inl ⟨?_, ?_⟩ <;> omega) | (refine Or.inr ⟨?_, ?_⟩ <;> omega) | (refine ⟨?_, ?_, ?_⟩ <;> first | decide | omega))
local macro_rules | `(tactic| walk_at "val") => `(tactic| first | exact mv1 | exact mv2 | exact mv3 | exact mv4 | exact mv5 | exact mv6)
def sp_next_date : Sp := fun vs H Q _ => ∃ (st l c p : Addr) (cs : List Int) (n d : Int) (B : Bk), vs = [.ref st, .ref p, .int d] ∧ n ≤ 17592186044416 ∧ DS st l c cs n H ∧ Mdl l H p B ∧ B.Ok ∧
  ∀ d' H', d ≤ d' → d' ≤ d + 100 → DS st l c cs (n + 3) H' → Kp st l H H' → Q (.int d') H'
def sp_cents : Sp := fun vs H Q _ => ∃ (st l c : Addr) (cs : List Int) (n m : Int), vs = [.ref st, .int m] ∧ n ≤ 17592186044416 ∧ DS st l c cs n H ∧ 1 ≤ m ∧ m ≤ 1000000 ∧
  ∀ d' H', 1 ≤ d' → d' ≤ 1000000 → DS st l c cs (n + 3) H' → Kp st l H H' → Q (.int d') H'
def sp_rows : Sp := fun vs H Q _ => ∃ (st l c p : Addr) (cs : List Int) (n many most : Int) (B : Bk), vs = [.ref st, .ref p, .int many, .int most] ∧ n ≤ 8796093022208 ∧ DS st l c cs n H ∧ Mdl l H p B ∧ B.Ok ∧ 0 ≤ many ∧ many ≤ 100 ∧ 1 ≤ most ∧ most ≤ 1000000 ∧
  ∀ t fo ws rs H', H fo = none → H' t = some (.tup [.ref fo, .int (lastDay rs)]) → H' fo = some (.lst ws) → RAt H' ws rs → VR (B.ks.map (·.1)) rs → (lastDay rs ≤ 1900 ∧ lastDay rs ≤ 100 * many) → (rs.length : Int) ≤ many → DS st l c cs (n + 2050) H' → Kp st l H H' → Q (.ref t) H'
def sp_path : Sp := fun vs H Q _ => ∃ (st l c p : Addr) (cs : List Int) (n many most : Int) (B : Bk), vs = [.ref st, .ref p, .int many, .int most] ∧ n ≤ 8796093022208 ∧ DS st l c cs n H ∧ Mdl l H p B ∧ B.Ok ∧ 0 ≤ many ∧ many ≤ 100 ∧ 1 ≤ most ∧ most ≤ 1000000 ∧
  ∀ t rs e H', RtAt l H' t rs e → VR (B.ks.map (·.1)) rs → lastDay rs ≤ e → (e ≤ 2000 ∧ e ≤ 100 * many + 200) → (rs.length : Int) ≤ many → DS st l c cs (n + 2100) H' → Kp st l H H' → Q (.ref t) H'
theorem w_alt {p : Prop} {ip : Decidable p} {cb : TT} {σ : L2.St} {H : Hp} {QB : Bool → Hp → Prop} {X : Prop} (R : Hp → Prop) (els : ∀ H', R H' → QB false H') (q : (∀ H', R H' → QB false H') → (if decide p = true then cb σ H QB else X)) : if decide p = true then cb σ H QB else X := q els
section
variable {P : Program} {w : World} {K : PySem.W.Frag} {mg : Str → Option Value} {base : Heap}
theorem ok__law_next_date {f : Addr} {fd : FuncData} (T : Tx K mg) (F : FnP K "_law_next_date" s__law_next_date f fd)
    (d__law_take : Dn P w K mg base CX0 2 "_law_take" ["_law_state", "_law_size"] sp_take) (d__law_pick : Dn P w K mg base CX0 3 "_law_pick" ["_law_state", "_law_some_here"] sp_pick)
    (d__law_first : Dn P w K mg base CX0 1 "_law_first" ["_law_model_here", "_law_mon"] sp_lfirst) (d__law_month : Dn P w K mg base CX0 2 "_law_month" ["_law_model_here", "_law_date"] sp_lmonth) (d__law_due : Dn P w K mg base CX0 2 "_law_due" ["_law_model_here", "_law_mon"] sp_ldue) :
    FnOk P w K mg base CX0 4 f fd ["_law_state", "_law_model_here", "_law_date"] sp_next_date := by
  have sc : FnScope ["_law_state", "_law_model_here", "_law_date", "_law_mon", "_law_near"] ["_law_state", "_law_model_here", "_law_date"] (defScope s__law_next_date) := ⟨rfl, rfl, rfl, by decide +kernel, rfl, by decide +kernel, by decide +kernel⟩
  refine F.ok sc (by rintro vs H Q E ⟨_, _, _, _, _, _, _, _, rfl, _⟩; rfl) (fun cdv A outer s H vs Q E hr h => ⟨_, PSs.nox ((pss_cons (ps_set (i := 3) sc.nd rfl (by first | exact Or.inl rfl | exact Or.inr rfl) (pe_fn d__law_month (hr.mono (by decide)) pass0 (pa_cons (pv 1) (pa_cons (pv 2) pa_nil))))
      (pss_cons (ps_set (i := 4) sc.nd rfl (by first | exact Or.inl rfl | exact Or.inr rfl) (pe_lst (pa_cons (pv 2) (pa_cons (pe_op op_add (pv 2) pe_int) (pa_cons (pe_op op_add (pv 2) (pe_fn d__law_take (hr.mono (by decide)) pass0 (pa_cons (pv 0) (pa_cons pe_int pa_nil)))) (pa_cons (pe_op op_add (pv 2) (pe_fn d__law_take (hr.mono (by decide)) pass0 (pa_cons (pv 0) (pa_cons pe_int pa_nil)))) (pa_cons (pe_fn d__law_first (hr.mono (by decide)) pass0 (pa_cons (pv 1) (pa_cons (pe_op op_add (pv 3) pe_int) pa_nil))) pa_nil)))))))
      (pss_cons (ps_set (i := 4) sc.nd rfl (by first | exact Or.inl rfl | exact Or.inr rfl) (pe_op op_cat (pv 4) (pe_lst (pa_cons (pe_op op_sub (pe_fn d__law_first (hr.mono (by decide)) pass0 (pa_cons (pv 1) (pa_cons (pe_op op_add (pv 3) pe_int) pa_nil))) pe_int) (pa_cons (pe_fn d__law_due (hr.mono (by decide)) pass0 (pa_cons (pv 1) (pa_cons (pv 3) pa_nil))) (pa_cons (pe_op op_add (pe_fn d__law_due (hr.mono (by decide)) pass0 (pa_cons (pv 1) (pa_cons (pv 3) pa_nil))) pe_int) pa_nil))))))
      (pss_one (ps_ret (pe_fn d__law_pick (hr.mono (by decide)) pass0 (pa_cons (pv 0) (pa_cons (pe_op op_cat (pe_op op_cat (pe_op op_rep (pe_lst (pa_cons (pv 2) pa_nil)) pe_int) (pv 4)) (pe_lst (pa_cons (pe_callB (c_max2 rfl) (by rfl) T.b_max (by decide +kernel) (pa_cons (pv 2) (pa_cons (pe_fn d__law_due (hr.mono (by decide)) pass0 (pa_cons (pv 1) (pa_cons (pe_op op_sub (pv 3) pe_int) pa_nil))) pa_nil))) pa_nil))) pa_nil))))))))), ?_⟩)
  obtain ⟨st, l, c, p, cs, n, d, B, rfl, hn, D, hM, ok, k⟩ := h
  have okl := ok.ls
  have mb := month_bounds okl d
  have d31 := ok.due31
  have d0 := ok.d0
  walk_at "rd"
  refine ⟨l, p, B, d, rfl, hM, okl, fun H1 e1 => ?_⟩
  walk_at "rd"
  refine u_take (D.keep e1) (by omega) (by omega) (by omega) fun y1 H2 y10 y11 D2 k2 => ?_
  walk_at "rd"
  refine u_take D2 (by omega) (by omega) (by omega) fun y2 H3 y20 y21 D3 k3 => ?_
  have k03 := ((Kp.of e1).trans k2).trans k3
  have M3 := hM.kp k03 D
  walk_at "rd"
  refine ⟨l, p, B, _, rfl, M3, okl, fun H4 e4 => ?_⟩
  walk_at "rd"
  refine r_kLst fun a1 H5 na1 e5 ha1 => ?_
  walk_at "rd"
  have e35 := e4.trans e5
  refine ⟨l, p, B, _, rfl, M3.keep e35, okl, fun H6 e6 => ?_⟩
  walk_at "rd"
  refine ⟨l, p, B, _, rfl, (M3.keep e35).keep e6, okl, fun H7 e7 => ?_⟩
  walk_at "rd"
  refine ⟨l, p, B, _, rfl, ((M3.keep e35).keep e6).keep e7, okl, fun H8 e8 => ?_⟩
  walk_at "rd"
  refine r_kLst fun a2 H9 na2 e9 ha2 => ?_
  have e59 := ((e6.trans e7).trans e8).trans e9
  refine r_cat (e59 _ _ ha1) ha2 (by simp) fun a3 H10 na3 e10 ha3 => ?_
  walk_at "rd"
  refine r_kLst fun a4 H11 na4 e11 ha4 => ?_
  walk_at "rd"
  refine r_rep ha4 (by decide) (by decide) (by simp) fun a5 H12 na5 e12 ha5 => ?_
  walk_at "rd"
  refine r_cat ha5 (e12 _ _ (e11 _ _ ha3)) (show 4 + 8 ≤ 1000000 by decide) fun a6 H13 na6 e13 ha6 => ?_
  have e313 := ((((e35.trans e59).trans e10).trans e11).trans e12).trans e13
  have em : monthL B.ls d - 1 + 1 = monthL B.ls d := by omega
  walk_at "rd"
  refine ⟨l, p, B, _, rfl, M3.keep e313, okl, fun H14 e14 => ?_⟩
  walk_at "rd"
  refine r_kLst fun a7 H15 na7 e15 ha7 => ?_
  refine r_cat (e15 _ _ (e14 _ _ ha6)) ha7 (show 12 + 1 ≤ 1000000 by decide) fun a8 H16 na8 e16 ha8 => ?_
  rw [em] at ha8
  have e315 := (e313.trans e14).trans e15
  walk_at "rd"
  refine u_pick D3 (by omega) (e315.free na8) (e315.trans e16) ha8 (by simp) (by simp) fun i x H17 hx D17 k17 => ?_
  have hx : [V.int d, .int d, .int d, .int d, .int d, .int (d + 1), .int (d + y1), .int (d + y2), .int (firstL B.ls (monthL B.ls d + 1)), .int (firstL B.ls (monthL B.ls d + 1) - 1), .int (firstL B.ls (monthL B.ls d + 1) + B.due), .int (firstL B.ls (monthL B.ls d + 1) + B.due + 1), .int (max d (firstL B.ls (monthL B.ls d) + B.due))][i]? = some x := hx
  obtain ⟨z, rfl, z0, z1⟩ := IntsIn.get (lo := d) (hi := d + 100) (by simp only [IntsIn, V.int.injEq, exists_eq_left', and_true]; omega) hx
  exact k z H17 z0 z1 (D17.mono (by omega)) (k03.trans k17)
theorem ok__law_cents {f : Addr} {fd : FuncData} (T : Tx K mg) (F : FnP K "_law_cents" s__law_cents f fd)
    (d__law_take : Dn P w K mg base CX0 2 "_law_take" ["_law_state", "_law_size"] sp_take) (d__law_pick : Dn P w K mg base CX0 3 "_law_pick" ["_law_state", "_law_some_here"] sp_pick) :
    FnOk P w K mg base CX0 4 f fd ["_law_state", "_law_most"] sp_cents := by
  have sc : FnScope ["_law_state", "_law_most"] ["_law_state", "_law_most"] (defScope s__law_cents) := ⟨rfl, rfl, rfl, by decide +kernel, rfl, by decide +kernel, by decide +kernel⟩
  refine F.ok sc (by rintro vs H Q E ⟨_, _, _, _, _, _, rfl, _⟩; rfl) (fun cdv A outer s H vs Q E hr h => ⟨_, PSs.nox ((pss_one (ps_ret (pe_fn d__law_pick (hr.mono (by decide)) pass0 (pa_cons (pv 0) (pa_cons (pe_lst (pa_cons pe_int (pa_cons pe_int (pa_cons pe_int (pa_cons (pe_op op_add pe_int (pe_fn d__law_take (hr.mono (by decide)) pass0 (pa_cons (pv 0) (pa_cons pe_int pa_nil)))) (pa_cons (pe_op op_add pe_int (pe_fn d__law_take (hr.mono (by decide)) pass0 (pa_cons (pv 0) (pa_cons (pv 1) pa_nil)))) pa_nil)))))) pa_nil)))))), ?_⟩)
  obtain ⟨st, l, c, cs, n, m, rfl, hn, D, m1, m2, k⟩ := h
  walk_at "rd"
  refine u_take D (by omega) (by omega) (by omega) fun y1 H2 y10 y11 D2 k2 => ?_
  walk_at "rd"
  refine u_take D2 (by omega) (by omega) (by omega) fun y2 H3 y20 y21 D3 k3 => ?_
  walk_at "rd"
  refine r_kLst fun a1 H5 na1 e5 ha1 => ?_
  walk_at "rd"
  refine u_pick D3 (by omega) na1 e5 ha1 (by simp) (by simp) fun i x H6 hx D6 k6 => ?_
  obtain ⟨z, rfl, z0, z1⟩ := IntsIn.get (lo := 1) (hi := 1000000) (by simp only [IntsIn, V.int.injEq, exists_eq_left', and_true]; omega) hx
  exact k z H6 z0 z1 (D6.mono (by omega)) ((k2.trans k3).trans k6)
theorem ok__law_rows {f : Addr} {fd : FuncData} (T : Tx K mg) (F : FnP K "_law_rows" s__law_rows f fd)
    (d__law_take : Dn P w K mg base CX0 2 "_law_take" ["_law_state", "_law_size"] sp_take) (d__law_pick : Dn P w K mg base CX0 3 "_law_pick" ["_law_state", "_law_some_here"] sp_pick)
    (d__law_next_date : Dn P w K mg base CX0 4 "_law_next_date" ["_law_state", "_law_model_here", "_law_date"] sp_next_date) (d__law_cents : Dn P w K mg base CX0 4 "_law_cents" ["_law_state", "_law_most"] sp_cents) :
    FnOk P w K mg base CX0 5 f fd ["_law_state", "_law_model_here", "_law_many", "_law_most"] sp_rows := by
  have sc : FnScope ["_law_state", "_law_model_here", "_law_many", "_law_most", "_law_found", "_law_date", "_law_open_sum", "_law_k", "_law_part"] ["_law_state", "_law_model_here", "_law_many", "_law_most"] (defScope s__law_rows) := ⟨rfl, rfl, rfl, by decide +kernel, rfl, by decide +kernel, by decide +kernel⟩
  refine F.ok sc (by rintro vs H Q E ⟨_, _, _, _, _, _, _, _, _, rfl, _⟩; rfl) (fun cdv A outer s H vs Q E hr h => ⟨_, PSs.nox ((pss_cons (ps_par3 (i := 4) (j := 5) (l := 6) (by rfl) sc.nd rfl rfl rfl (by decide) (by decide) (by decide) rfl rfl rfl (pa_cons (pe_lst pa_nil) (pa_cons pe_int (pa_cons pe_int pa_nil))) (by rfl))
      (pss_cons (ps_for PassesOwn.never rfl (pi_range1 (by rfl) T.b_range (pa_cons (pe_fn d__law_take (hr.mono (by decide)) pass0 (pa_cons (pv 0) (pa_cons (pe_op op_add (pv 2) pe_int) pa_nil))) pa_nil)) (pg_name (i := 7) sc.nd rfl (by first | exact Or.inl rfl | exact Or.inr rfl)) (pss_cons (ps_set (i := 5) sc.nd rfl (by first | exact Or.inl rfl | exact Or.inr rfl) (pe_callB (c_min2 rfl) (by rfl) T.b_min (by decide +kernel) (pa_cons pe_int (pa_cons (pe_fn d__law_next_date (hr.mono (by decide)) pass0 (pa_cons (pv 0) (pa_cons (pv 1) (pa_cons (pv 5) pa_nil)))) pa_nil))))
      (pss_one (ps_if (PW.pt (pw_and (pt_cmpR op_gt (pv 6) pe_int (nomark _)) (pw_and1 (pt_cmpR op_eq (pe_fn d__law_take (hr.mono (by decide)) pass0 (pa_cons (pv 0) (pa_cons pe_int pa_nil))) pe_int (nomark _))))) (pss_cons (ps_set (i := 8) sc.nd rfl (by first | exact Or.inl rfl | exact Or.inr rfl) (pe_fn d__law_pick (hr.mono (by decide)) pass0 (pa_cons (pv 0) (pa_cons (pe_lst (pa_cons (pv 6) (pa_cons (pe_callB (c_max2 rfl) (by rfl) T.b_max (by decide +kernel) (pa_cons pe_int (pa_cons (pe_op op_sub (pv 6) pe_int) pa_nil))) (pa_cons pe_int (pa_cons (pe_op op_add pe_int (pe_fn d__law_take (hr.mono (by decide)) pass0 (pa_cons (pv 0) (pa_cons (pv 6) pa_nil)))) pa_nil))))) pa_nil))))
      (pss_cons (ps_set (i := 8) sc.nd rfl (by first | exact Or.inl rfl | exact Or.inr rfl) (pe_callB (c_min2 rfl) (by rfl) T.b_min (by decide +kernel) (pa_cons (pe_op op_pow pe_int pe_int) (pa_cons (pv 8) pa_nil))))
      (pss_cons (ps_expr (pe_bmK (K := K) rfl PySem.F.plainAttrs_list PySem.F.slot_list_append PySem.F.type_list_append mt_append (pv 4) (pa_cons (pe_tup (pa_cons pe_str (pa_cons (pv 5) (pa_cons (pv 8) pa_nil)))) pa_nil)))
      (pss_one (ps_set (i := 6) sc.nd rfl (by first | exact Or.inl rfl | exact Or.inr rfl) (pe_op op_sub (pv 6) (pv 8))))))) (pss_cons (ps_set (i := 8) sc.nd rfl (by first | exact Or.inl rfl | exact Or.inr rfl) (pe_fn d__law_cents (hr.mono (by decide)) pass0 (pa_cons (pv 0) (pa_cons (pv 3) pa_nil))))
      (pss_cons (ps_expr (pe_bmK (K := K) rfl PySem.F.plainAttrs_list PySem.F.slot_list_append PySem.F.type_list_append mt_append (pv 4) (pa_cons (pe_tup (pa_cons pe_str (pa_cons (pv 5) (pa_cons (pe_fn d__law_pick (hr.mono (by decide)) pass0 (pa_cons (pv 0) (pa_cons (pe_callTy (c_listD rfl) (by rfl) T.b_list (by decide +kernel) (pa_cons (pe_dget (hu_of hr) (pv 1) pe_str (fun _ _ => rfl)) pa_nil)) pa_nil))) (pa_cons (pv 8) pa_nil))))) pa_nil)))
      (pss_one (ps_set (i := 6) sc.nd rfl (by first | exact Or.inl rfl | exact Or.inr rfl) (pe_op op_add (pv 6) (pv 8))))))))))
      (pss_one (ps_ret (pe_tup (pa_cons (pv 4) (pa_cons (pv 5) pa_nil)))))))), ?_⟩)
  obtain ⟨st, l, c, p, cs, n, many, most, B, rfl, hn, D, hM, ok, m0, m1, t0, t1, k⟩ := h
  walk_at "rd"
  refine r_kLst fun fo H1 nfo e1 hfo => ?_
  walk_at "rd"
  refine u_take (D.keep e1) (by omega) (by omega) (by omega) fun j H2 j0 j1 D2 k2 => ?_
  have nf1 := D.nst nfo
  have nf2 := D.nl nfo
  have hn' : ∀ {kvs : List (Key × V)} {H : Hp}, KAt H kvs B.ks → (kvs.map fun kv => kV kv.1) = (B.ks.map (·.1)).map V.str := fun h => by
    have e := congrArg (List.map kV) h.keys
    rw [List.map_map, List.map_map] at e
    exact e
  refine r_kForR1 (fun i σ' H' => ∃ (ws : List V) (rs : List CR) (o : Int) (y7 y8 : Option V), σ' = [some (.ref st), some (.ref p), some (.int many), some (.int most), some (.ref fo), some (.int (lastDay rs)), some (.int o), y7, y8] ∧
      H' fo = some (.lst ws) ∧ RAt H' ws rs ∧ VR (B.ks.map (·.1)) rs ∧ rs.length = i ∧ owedC rs = o ∧ 0 ≤ lastDay rs ∧ (lastDay rs ≤ 1900 ∧ lastDay rs ≤ 100 * (i : Int)) ∧ 0 ≤ o ∧ o ≤ 1000000 * (i : Int) ∧ DS st l c cs (n + 1 + 20 * (i : Int)) H' ∧ Kp st l H H') (by omega)
    ⟨[], [], 0, _, _, rfl, k2 _ _ hfo nf1 nf2, .nil, VR.nil _, rfl, rfl, by decide, ⟨by decide, by decide⟩, by decide, by decide, D2.mono (by omega), (Kp.of e1).trans k2⟩ ?_ ?_
  · rintro i σ' H3 hi ⟨ws, rs, o, y7, y8, rfl, hfo3, hR, hv, hrl, ho, d0, d1, o0, o1, D3, k3⟩
    have hwl := hR.len
    have M3 := hM.kp k3 D
    walk_at "rd"
    refine ⟨st, l, c, p, cs, _, _, B, rfl, (by omega : _ ≤ (17592186044416 : Int)), D3, M3, ok, fun d' H4 d'0 d'1 D4 k4 => ?_⟩
    walk_at "rd"
    have hfo4 := k4 _ _ hfo3 nf1 nf2
    have hR4 := hR.keep (k4.tups D3)
    have k04 := k3.trans k4
    refine w_alt (fun H' => DS st l c cs (n + 1 + 20 * (i : Int) + 6) H' ∧ Kp st l H4 H') ?_ ?_
    · rintro H5 ⟨D5, k5⟩
      have k05 := k04.trans k5
      have M5 := hM.kp k05 D
      obtain ⟨ad, kd, lv, kvs, hM5⟩ := id M5
      have hfo5 := k5 _ _ hfo4 nf1 nf2
      walk_at "rd"
      refine ⟨st, l, c, cs, _, most, rfl, (by omega : _ ≤ (17592186044416 : Int)), D5, t0, t1, fun z H6 z0 z1 D6 k6 => ?_⟩
      have hfo6 := k6 _ _ hfo5 nf1 nf2
      have M6 := hM5.kp k6 D5
      have hp6 := M6.i
      walk_at "rd"
      refine r_listD M6.k fun la H7 nla e7 hla => ?_
      rw [hn' M6.a] at hla
      walk_at "rd"
      have k1 := ok.kn.lo
      have k2 := ok.kn.hi
      refine u_pick D6 (by omega) nla e7 hla (fun z => by have h := congrArg List.length z; rw [List.length_map, List.length_map, List.length_nil] at h; omega) (by rw [List.length_map, List.length_map]; omega) fun i1 x H8 hx D8 k8 => ?_
      obtain ⟨lab, rfl, hlab⟩ := strs_get hx
      have mlab := List.mem_of_getElem? hlab
      walk_at "rd"
      refine r_kTup fun t H9 nt e9 ht => ?_
      have hfo9 := e9 _ _ (k8 _ _ hfo6 nf1 nf2)
      walk_at "rd"
      refine r_append hfo9 (by omega) fun H10 b10 h10 => ?_
      walk_at "rd"
      have kp : ∀ u xs, H4 u = some (.tup xs) → H10 u = some (.tup xs) := fun u xs hu => by
        have h9 := e9 _ _ (k8.tups D6 _ _ (k6.tups D5 _ _ (k5.tups D4 _ _ hu)))
        exact b10 _ _ h9 (ne_of h9 hfo9 (by intro z; cases z))
      have ht10 : H10 t = some (.tup (encCR (.buy (min 1900 d') lab z))) := b10 _ _ ht (ne_of ht hfo9 (by intro z; cases z))
      refine ⟨_, rs ++ [.buy (min 1900 d') lab z], o + z, _, _, by rw [lastDay_snoc]; rfl, h10, (hR4.keep kp).snoc ht10, hv.snoc (show okRow _ _ _ (.buy (min 1900 d') lab z) from ⟨by omega, mlab, z0, z1⟩), by simp [hrl], by rw [owedC_snoc, ho]; rfl, ?_, ?_, by omega, ?_, ?_, ?_⟩
      · rw [lastDay_snoc]; show 0 ≤ min 1900 d'; omega
      · rw [lastDay_snoc]; exact ⟨show min 1900 d' ≤ 1900 by omega, show min 1900 d' ≤ 100 * ((i + 1 : Nat) : Int) by rw [Int.natCast_add]; omega⟩
      · rw [Int.natCast_add]; omega
      · refine (((D8.keep e9).but D nfo b10)).mono ?_
        rw [Int.natCast_add]; omega
      · exact (((k05.trans k6).trans k8).trans (Kp.of e9)).mut b10 nfo
    · intro els
      refine w_dec (fun c1 => ?_) (fun c1 => els H4 ⟨D4.mono (by omega), Kp.refl⟩)
      walk_at "rd"
      refine u_take D4 (by omega) (by omega) (by omega) fun y H5 y0 y1 D5 k5 => ?_
      walk_at "rd"
      refine w_dec (fun c2 => ?_) (fun c2 => els H5 ⟨D5.mono (by omega), k5⟩)
      have k05 := k04.trans k5
      have hfo5 := k5 _ _ hfo4 nf1 nf2
      walk_at "rd"
      refine u_take D5 (by omega) (by omega) (by omega) fun y2 H6 y20 y21 D6 k6 => ?_
      walk_at "rd"
      refine r_kLst fun a1 H7 na1 e7 ha1 => ?_
      walk_at "rd"
      refine u_pick D6 (by omega) na1 e7 ha1 (by simp) (by simp) fun i1 x H8 hx D8 k8 => ?_
      obtain ⟨z, rfl, z0, z1⟩ := IntsIn.get (lo := 1) (hi := o) (by simp only [IntsIn, V.int.injEq, exists_eq_left', and_true]; omega) hx
      have hfo8 := k8 _ _ (k6 _ _ hfo5 nf1 nf2) nf1 nf2
      walk_at "rd"
      refine r_kTup fun t H9 nt e9 ht => ?_
      have hfo9 := e9 _ _ hfo8
      walk_at "rd"
      refine r_append hfo9 (by omega) fun H10 b10 h10 => ?_
      walk_at "rd"
      have kp : ∀ u xs, H4 u = some (.tup xs) → H10 u = some (.tup xs) := fun u xs hu => by
        have h9 := e9 _ _ (k8.tups D6 _ _ (k6.tups D5 _ _ (k5.tups D4 _ _ hu)))
        exact b10 _ _ h9 (ne_of h9 hfo9 (by intro z; cases z))
      have ht10 : H10 t = some (.tup (encCR (.pay (min 1900 d') (min 1000000 z)))) := b10 _ _ ht (ne_of ht hfo9 (by intro z; cases z))
      refine ⟨_, rs ++ [.pay (min 1900 d') (min 1000000 z)], o - min 1000000 z, _, _, by rw [lastDay_snoc]; rfl, h10, (hR4.keep kp).snoc ht10, hv.snoc (show okRow _ _ _ (.pay (min 1900 d') (min 1000000 z)) from ⟨by omega, by omega, by omega⟩), by simp [hrl], by rw [owedC_snoc, ho]; simp only [CR.sum]; omega, ?_, ?_, by omega, ?_, ?_, ?_⟩
      · rw [lastDay_snoc]; show 0 ≤ min 1900 d'; omega
      · rw [lastDay_snoc]; exact ⟨show min 1900 d' ≤ 1900 by omega, show min 1900 d' ≤ 100 * ((i + 1 : Nat) : Int) by rw [Int.natCast_add]; omega⟩
      · rw [Int.natCast_add]; omega
      · refine (((D8.keep e9).but D nfo b10)).mono ?_
        rw [Int.natCast_add]; omega
      · exact (((k05.trans k6).trans k8).trans (Kp.of e9)).mut b10 nfo
  · rintro σ' H3 ⟨ws, rs, o, y7, y8, rfl, hfo3, hR, hv, hrl, ho, d0, d1, o0, o1, D3, k3⟩
    walk_at "rd"
    refine r_kTup fun t H4 nt e4 ht => ?_
    exact k t fo ws rs H4 nfo ht (e4 _ _ hfo3) (hR.same e4) hv ⟨d1.1, by have := d1.2; omega⟩ (by omega) ((D3.keep e4).mono (by omega)) (k3.trans (Kp.of e4))
theorem ok__law_path {f : Addr} {fd : FuncData} (T : Tx K mg) (F : FnP K "_law_path" s__law_path f fd)
    (d__law_next_date : Dn P w K mg base CX0 4 "_law_next_date" ["_law_state", "_law_model_here", "_law_date"] sp_next_date) (d__law_rows : Dn P w K mg base CX0 5 "_law_rows" ["_law_state", "_law_model_here", "_law_many", "_law_most"] sp_rows) :
    FnOk P w K mg base CX0 6 f fd ["_law_state", "_law_model_here", "_law_many", "_law_most"] sp_path := by
  have sc : FnScope ["_law_state", "_law_model_here", "_law_many", "_law_most", "_law_found", "_law_date"] ["_law_state", "_law_model_here", "_law_many", "_law_most"] (defScope s__law_path) := ⟨rfl, rfl, rfl, by decide +kernel, rfl, by decide +kernel, by decide +kernel⟩
  refine F.ok sc (by rintro vs H Q E ⟨_, _, _, _, _, _, _, _, _, rfl, _⟩; rfl) (fun cdv A outer s H vs Q E hr h => ⟨_, PSs.nox ((pss_cons (ps_asg (pe_fn d__law_rows (hr.mono (by decide)) pass0 (pa_cons (pv 0) (pa_cons (pv 1) (pa_cons (pv 2) (pa_cons (pv 3) pa_nil))))) (pg_tupK (K := K) (n := 2) rfl rfl (pgs_cons (pg_name (i := 4) sc.nd rfl (by first | exact Or.inl rfl | exact Or.inr rfl)) (pgs_cons (pg_name (i := 5) sc.nd rfl (by first | exact Or.inl rfl | exact Or.inr rfl)) pgs_nil))))
      (pss_one (ps_ret (pe_tup (pa_cons (pv 4) (pa_cons (pe_callB (c_min2 rfl) (by rfl) T.b_min (by decide +kernel) (pa_cons pe_int (pa_cons (pe_fn d__law_next_date (hr.mono (by decide)) pass0 (pa_cons (pv 0) (pa_cons (pv 1) (pa_cons (pe_fn d__law_next_date (hr.mono (by decide)) pass0 (pa_cons (pv 0) (pa_cons (pv 1) (pa_cons (pv 5) pa_nil)))) pa_nil)))) pa_nil))) pa_nil))))))), ?_⟩)
  obtain ⟨st, l, c, p, cs, n, many, most, B, rfl, hn, D, hM, ok, m0, m1, t0, t1, k⟩ := h
  walk_at "rd"
  refine ⟨st, l, c, p, cs, n, many, most, B, rfl, hn, D, hM, ok, m0, m1, t0, t1, fun t fo ws rs H1 nfo ht hfo hR hv d1 hl D1 k1 => ?_⟩
  have nf1 := D.nst nfo
  have nf2 := D.nl nfo
  walk_at "rd"
  refine ⟨st, l, c, p, cs, _, _, B, rfl, (by omega : _ ≤ (17592186044416 : Int)), D1, hM.kp k1 D, ok, fun d2 H2 d20 d21 D2 k2 => ?_⟩
  walk_at "rd"
  refine ⟨st, l, c, p, cs, _, _, B, rfl, (by omega : _ ≤ (17592186044416 : Int)), D2, (hM.kp k1 D).kp k2 D1, ok, fun d3 H3 d30 d31 D3 k3 => ?_⟩
  walk_at "rd"
  refine r_kTup fun t' H4 nt e4 ht' => ?_
  have hfo4 := e4 _ _ (k3 _ _ (k2 _ _ hfo nf1 nf2) nf1 nf2)
  have hR4 : RAt H4 ws rs := (hR.keep fun u xs hu => k3.tups D2 _ _ (k2.tups D1 _ _ hu)).same e4
  exact k t' rs _ H4 ⟨fo, ws, ht', hfo4, nf2, hR4⟩ hv (by omega) ⟨by omega, by omega⟩ hl ((D3.keep e4).mono (by omega)) (((k1.trans k2).trans k3).trans (Kp.of e4))
end
end Wp
set_option Elab.async false
set_option linter.all false
set_option maxRecDepth 100000
set_option maxHeartbeats 4000000
/-! Values that are None or a number. -/
namespace Wp
open PySem PySem.Spec PyProof.Rows L2
abbrev oV : Option Int → V
  | none => .non
  | some x => .int x
abbrev nV : Option Nat → V
  | none => .non
  | some n => .int (n : Int)
section
variable {H : Hp} {Q : VK}
theorem r_neO {o : Option Int} (q : Q (.bl false) H) : rNe (oV o) (oV o) H Q := by
  refine ⟨by cases o <;> rfl, ?_⟩
  rw [decide_eq_true rfl]
  exact q
theorem r_eqO {o : Option Int} (q : Q (.bl true) H) : rEq (oV o) (oV o) H Q := by
  refine ⟨by cases o <;> rfl, ?_⟩
  rw [decide_eq_true rfl]
  exact q
end
def keep1 {α : Type} (l : List α) : List α := l
theorem keep1_rel {vs : List V} {us : List Value} (r : Vals vs us) : Vals (keep1 vs) (keep1 us) := r
def dO : Option Int → PyData
  | none => .none
  | some x => .int x
section
variable {K : PySem.W.Frag} {H : Hp} {o : Option Int} {Q : VK}
theorem dpO : Dp K H (oV o) (dO o) := by
  cases o with
  | none => exact .non
  | some x => exact .int x
theorem smO (h : ∀ x, o = some x → 1 ≤ x ∧ x ≤ 1000000000) : smI (dO o) = true := by
  cases o with
  | none => rfl
  | some x =>
    have := h x rfl
    simp only [dO, smI, decide_eq_true_eq]
    exact Nat.lt_of_le_of_lt (show x.natAbs ≤ 1000000000 by omega) (by decide)
theorem depO : (dO o).depth ≤ 60 := by
  cases o <;> simp [dO, PyData.depth]
theorem wzO : wz (dO o) ≤ 16777216 := by
  cases o <;> simp [dO, wz]
/-- repr of great numbers -/
theorem r_reprB (h : ∀ x, o = some x → x.natAbs < 10 ^ 400) (q : Q (.str (dO o).shown) H) : rRepr K [oV o] H Q := by
  refine ⟨oV o, dO o, rfl, dpO, ?_, depO, ?_, by cases o <;> rfl, q⟩
  · cases o with
    | none => rfl
    | some x =>
      have e := h x rfl
      simp only [dO, PyData.showable, decide_eq_true_eq]
      by_cases h0 : x.natAbs = 0
      · rw [h0]
        decide
      · exact (Nat.log2_lt h0).mpr (Nat.lt_of_lt_of_le e (by decide +kernel))
  · cases o with
    | none => exact Nat.le_trans (shown_wz (dO none) rfl) (Nat.le_trans (wzO (o := none)) (by rw [sizeLine_eq]; decide))
    | some x =>
      have e := int_text_length_le10 (k := 400) (by decide) (h x rfl)
      simp only [dO, PyData.shown]
      rw [PySem.ofString_length, sizeLine_eq]
      exact Nat.le_trans e (by decide)
end
end Wp
set_option Elab.async false
set_option linter.all false
set_option maxRecDepth 100000
set_option maxHeartbeats 4000000
namespace Wp
open PySem PySem.Spec PyProof.Rows L2
abbrev s_law : Stmt := topS 71
local macro_rules | `(tactic| walk_at "val") => `(tactic| assumption)
local macro_rules | `(tactic| walk_at "rd1") => `(tactic| first
  | with_reducible refine r_seq ?_ | with_reducible refine r_next ?_ | with_reducible refine r_if ?_ | with_reducible refine r_asg ?_ | with_reducible refine r_gname ?_
  | with_reducible refine r_ret ?_ | with_reducible refine r_retN ?_ | with_reducible refine r_drop ?_ | with_reducible refine r_par ?_ | with_reducible refine r_kPar ?_
  | ((with_reducible refine' r_var ?hv ?_); (case hv => exact rfl)) | with_reducible refine r_c ?_ | with_reducible refine r_nil ?_ | with_reducible refine r_cons ?_
  | with_reducible refine r_fn ?_ | with_reducible refine r_cb ?_ | with_reducible refine r_op ?_ | with_reducible refine r_un ?_ | with_reducible refine r_I0 ?_
  | with_reducible refine r_pow5 ?_ | with_reducible refine r_pow6 ?_ | with_reducible refine r_pow7 ?_ | with_reducible refine r_pow9 ?_ | with_reducible refine r_pow18 ?_ | with_reducible refine r_pow20 ?_ | with_reducible refine r_pow30 ?_
  | with_reducible refine r_isN_non ?_ | with_reducible refine r_isN_ref ?_ | with_reducible refine r_isN_int ?_ | with_reducible refine r_isN_str ?_ | with_reducible refine r_isN_bl ?_ | with_reducible refine r_notN_non ?_ | with_reducible refine r_notN_ref ?_ | with_reducible refine r_notN_int ?_ | with_reducible refine r_notN_str ?_ | with_reducible refine r_notN_bl ?_
  | ((with_reducible refine r_I ?hc ?_); (case hc => walk_at "side")) | with_reducible refine r_U ?_
  | with_reducible refine r_eqI ?_ | with_reducible refine r_neI ?_ | with_reducible refine r_eqS ?_ | with_reducible refine r_neS ?_ | with_reducible refine r_eqB ?_ | with_reducible refine r_neB ?_
  | with_reducible refine r_chain ?_ | with_reducible refine r_test ?_ | with_reducible refine r_tB ?_ | with_reducible refine r_kTest ?_ | with_reducible refine r_not ?_
  | with_reducible refine r_and ?_ | with_reducible refine r_or ?_ | with_reducible refine r_tif ?_ | with_reducible refine r_andV ?_ | with_reducible refine r_orV ?_ | with_reducible refine r_notV ?_
  | with_reducible refine r_kAndV ?_ | with_reducible refine r_kOrV ?_ | with_reducible refine r_kNotV ?_
  | with_reducible refine w_T ?_ | with_reducible refine w_F ?_ | with_reducible refine w_NT ?_ | with_reducible refine w_NF ?_
  | with_reducible refine r_tup ?_ | with_reducible refine r_lst ?_ | with_reducible refine r_fld ?_ | with_reducible refine r_prop ?_ | ((with_reducible refine' r_aug ?h1 ?_); (case h1 => exact rfl)) | with_reducible refine r_ipI ?_ | with_reducible refine r_dget ?_ | with_reducible refine r_dput ?_ | with_reducible refine r_bm ?_
  | ((with_reducible refine' r_kDGetS ?h1 ?h2 ?_); (case h1 => assumption); (case h2 => walk_at "val"))
  | ((with_reducible refine' r_kBML ?h1 ?_); (case h1 => assumption))
  | with_reducible refine r_forL ?_ | with_reducible refine r_forR1 ?_ | with_reducible refine r_forR2 ?_ | with_reducible refine r_forT ?_ | with_reducible refine r_lcL ?_ | with_reducible refine r_lcR1 ?_
  | ((with_reducible refine r_kLcG ?hw ?_); (case hw => exact rfl)) | with_reducible refine r_kLcT ?_ | with_reducible refine r_yes ?_
  | with_reducible refine r_pnil ?_ | with_reducible refine r_pcons ?_
  | with_reducible refine r_fnK ?_ | ((with_reducible refine r_kFnK ?hl ?_); (case hl => exact rfl))
  | with_reducible refine r_isi_ii ?_ | with_reducible refine r_isi_ib ?_ | with_reducible refine r_isi_bi ?_ | with_reducible refine r_isi_bb ?_ | with_reducible refine r_isi_ss ?_ | with_reducible refine r_isi_is ?_ | with_reducible refine r_isi_it ?_
  | ((with_reducible refine' r_isi_tt ?h1 ?_); (case h1 => assumption))
  | with_reducible refine r_sfld ?_ | with_reducible refine r_gnil ?_ | with_reducible refine r_gcons ?_
  | ((with_reducible refine' r_gtup ?h1 ?h2 ?_); (case h1 => exact SqT.of (by assumption)); (case h2 => exact rfl))
  | with_reducible refine r_sl ?_ | with_reducible refine r_noPart ?_ | with_reducible refine r_part ?_ | with_reducible refine r_kPart ?_ | with_reducible refine r_m1 ?_ | with_reducible refine r_kM1 ?_ | with_reducible refine r_forS ?_ | with_reducible refine r_lcS ?_ | with_reducible refine r_lcTu ?_ | with_reducible refine r_lcK ?_ | with_reducible refine r_dcL ?_ | with_reducible refine r_dcK ?_ | with_reducible refine r_lc2L ?_ | with_reducible refine r_kLc2TL ?_ | with_reducible refine r_dcEn ?_ | with_reducible refine r_gslc ?_ | with_reducible refine r_lcEn ?_ | with_reducible refine r_forET ?_ | with_reducible refine r_lenD ?_
  | ((with_reducible refine r_kDcG ?hw ?_); (case hw => exact rfl)) | with_reducible refine r_kDcT ?_
  | with_reducible refine r_fldaug ?_ | with_reducible refine r_daug ?_ | with_reducible refine r_rAdd ?_ | with_reducible refine r_rSub ?_ | with_reducible refine r_ddel ?_ | with_reducible refine r_bmF ?_ | with_reducible refine r_dget2 ?_ | with_reducible refine r_listItems ?_ | with_reducible refine r_bm0 ?_ | with_reducible refine r_lc2E ?_ | ((with_reducible refine r_kLc2G ?hw ?_); (case hw => exact rfl)) | with_reducible refine r_kLc2T ?_ | with_reducible refine r_forE ?_ | with_reducible refine r_orT ?_ | with_reducible refine r_din ?_ | with_reducible refine r_augS ?_ | with_reducible refine r_dnotin ?_ | with_reducible refine r_lcIT ?_ | with_reducible refine r_cont ?_ | with_reducible refine r_meth ?_ | with_reducible refine r_frz ?_ | with_reducible refine r_par3 ?_ | with_reducible refine r_kPar3 ?_ | with_reducible refine r_dz ?_ | with_reducible refine r_revL ?_ | with_reducible refine r_star ?_ | with_reducible refine r_int1 ?_ | with_reducible refine r_int1b ?_ | with_reducible refine r_min2 ?_ | with_reducible refine r_max2 ?_ | with_reducible refine r_gsub ?_)
local macro_rules | `(tactic| walk_at "rd") => `(tactic| repeat walk_at "rd1")
local macro_rules | `(tactic| walk_at "side") => `(tactic| first | assumption | exact Or.inr ⟨by decide, by decide⟩ | exact Or.inl ⟨by decide, by decide⟩ | (constructor <;> omega) | omega | decide | (refine Or.inl ⟨?_, ?_⟩ <;> omega) | (refine Or.inr ⟨?_, ?_⟩ <;> omega) | (refine ⟨?_, ?_, ?_⟩ <;> first | decide | omega))
section
variable {P : Program} {w : World} {K : PySem.W.Frag} {mg : Str → Option Value} {base : Heap}
theorem ok_law {f C : Addr} {fd : FuncData} (T : Tx K mg) (F : FnP K "law" s_law f fd)
    (d__law_begun : Dn P w K mg base CX0 1 "_law_begun" ["_law_script"] (sp_begun K)) (d__law_take : Dn P w K mg base CX0 2 "_law_take" ["_law_state", "_law_size"] sp_take) (d__law_pick : Dn P w K mg base CX0 3 "_law_pick" ["_law_state", "_law_some_here"] sp_pick)
    (d__law_model : Dn P w K mg base CX0 5 "_law_model" ["_law_state", "_law_many", "_law_is_laid"] sp_model) (d__law_made : Dn P w K mg base CX0 7 "_law_made" ["_law_model_here"] (sp_made C))
    (d__law_month : Dn P w K mg base CX0 2 "_law_month" ["_law_model_here", "_law_date"] sp_lmonth)
    (d__law_path : Dn P w K mg base CX0 6 "_law_path" ["_law_state", "_law_model_here", "_law_many", "_law_most"] sp_path) (d__law_settled : Dn P w K mg base CX0 3 "_law_settled" ["_law_model_here", "_law_route"] (sp_settled K))
    (d__law_is_whole : Dn P w K mg base CX0 3 "_law_is_whole" ["_law_model_here", "_law_route", "_law_found", "_law_mon"] (sp_lis_whole K)) (d__law_is_spared : Dn P w K mg base CX0 4 "_law_is_spared" ["_law_model_here", "_law_route", "_law_found", "_law_mon"] (sp_lis_spared K))
    (d__law_changed : Dn P w K mg base CX0 9 "_law_changed" ["_law_state", "_law_model_here", "_law_made_here"] (sp_changed C))
    (d__law_due_sum : Dn P w K mg base CX0 3 "_law_due_sum" ["_law_model_here", "_law_route", "_law_found", "_law_mon"] (sp_ldue_sum K)) (d__law_is_whole_by_days : Dn P w K mg base CX0 4 "_law_is_whole_by_days" ["_law_model_here", "_law_route", "_law_found", "_law_mon"] (sp_lby_days K))
    (d_sum_of : Dn P w K mg base CX0 8 "sum_of" ["book", "course", "month"] (sp_sum_of K C)) (d_is_whole : Dn P w K mg base CX0 8 "is_whole" ["book", "course", "month"] (sp_is_whole K C)) (d_is_spared : Dn P w K mg base CX0 8 "is_spared" ["book", "course", "month"] (sp_is_spared K C)) (d_word : Dn P w K mg base CX0 8 "word" ["book", "course"] (sp_word K C))
    (k_sum_of_month_course_book : Dq P w K mg base CX0 8 "sum_of" ["month", "course", "book"] rev3 (sp_sum_of K C)) (k_is_whole_month_course_book : Dq P w K mg base CX0 8 "is_whole" ["month", "course", "book"] rev3 (sp_is_whole K C)) (k_is_spared_month_course_book : Dq P w K mg base CX0 8 "is_spared" ["month", "course", "book"] rev3 (sp_is_spared K C))
    (k_word_course_book : Dq P w K mg base CX0 8 "word" ["course", "book"] swap2 (sp_word K C)) :
    FnG P w K mg base CX0 10 f fd ["_law_script"] (spLaw K) := by
  have sc : FnScope ["_law_script", "_law_state", "_law_turn", "_law_model_here", "_law_made_here", "_law_route", "_law_found", "_law_marks", "_law_mon", "_law_due_here", "_law_listed", "_law_seen", "_law_other", "_law_twin", "_law_later", "_law_k"] ["_law_script"] (defScope s_law) := ⟨rfl, rfl, rfl, by decide +kernel, rfl, by decide +kernel, by decide +kernel⟩
  refine F.okG sc (by rintro vs H Q E ⟨_, _, rfl, _⟩; rfl) (fun cdv A outer s H vs Q E hr hG h => ⟨_, PSs.nox ((pss_cons (ps_set (i := 1) sc.nd rfl (by first | exact Or.inl rfl | exact Or.inr rfl) (pe_fn d__law_begun (hr.mono (by decide)) pass0 (pa_cons (pv 0) pa_nil)))
      (pss_cons (ps_for PassesOwn.never rfl (pi_range1 (by rfl) T.b_range (pa_cons (pe_op op_add pe_int (pe_callB (c_min2 rfl) (by rfl) T.b_min (by decide +kernel) (pa_cons (pe_callB (c_lenK (K := K) rfl) (by rfl) T.b_len (by decide +kernel) (pa_cons (pv 0) pa_nil)) (pa_cons pe_int pa_nil)))) pa_nil)) (pg_name (i := 2) sc.nd rfl (by first | exact Or.inl rfl | exact Or.inr rfl)) (pss_cons (ps_set (i := 3) sc.nd rfl (by first | exact Or.inl rfl | exact Or.inr rfl) (pe_fn d__law_model (hr.mono (by decide)) pass0 (pa_cons (pv 1) (pa_cons pe_int (pa_cons pe_bl pa_nil)))))
      (pss_cons (ps_asg (pe_tup (pa_cons (pe_fn d__law_made (hr.mono (by decide)) pass0 (pa_cons (pv 3) pa_nil)) (pa_cons (pe_fn d__law_path (hr.mono (by decide)) pass0 (pa_cons (pv 1) (pa_cons (pv 3) (pa_cons pe_int (pa_cons (pe_fn d__law_pick (hr.mono (by decide)) pass0 (pa_cons (pv 1) (pa_cons (pe_lst (pa_cons pe_int (pa_cons pe_int (pa_cons (pe_op op_pow pe_int pe_int) pa_nil)))) pa_nil))) pa_nil))))) pa_nil))) (pg_tupK (K := K) (n := 2) rfl rfl (pgs_cons (pg_name (i := 4) sc.nd rfl (by first | exact Or.inl rfl | exact Or.inr rfl)) (pgs_cons (pg_name (i := 5) sc.nd rfl (by first | exact Or.inl rfl | exact Or.inr rfl)) pgs_nil))))
      (pss_cons (ps_par (i := 6) (j := 7) (by rfl) sc.nd rfl rfl (by decide) rfl rfl (pa_cons (pe_fn d__law_settled (hr.mono (by decide)) pass0 (pa_cons (pv 3) (pa_cons (pv 5) pa_nil))) (pa_cons (pe_lst pa_nil) pa_nil)) (by rfl))
      (pss_cons (ps_for PassesOwn.never rfl (pi_range1 (by rfl) T.b_range (pa_cons (pe_op op_add (pe_fn d__law_month (hr.mono (by decide)) pass0 (pa_cons (pv 3) (pa_cons (pe_ix (ix_tupK (K := K) rfl) (pv 5) pe_int (fun _ _ => rfl)) pa_nil))) pe_int) pa_nil)) (pg_name (i := 8) sc.nd rfl (by first | exact Or.inl rfl | exact Or.inr rfl)) (pss_cons (ps_set (i := 9) sc.nd rfl (by first | exact Or.inl rfl | exact Or.inr rfl) (pe_lst (pa_cons (pe_fn d__law_due_sum (hr.mono (by decide)) pass0 (pa_cons (pv 3) (pa_cons (pv 5) (pa_cons (pv 6) (pa_cons (pv 8) pa_nil))))) (pa_cons (pe_fn d__law_is_whole_by_days (hr.mono (by decide)) pass0 (pa_cons (pv 3) (pa_cons (pv 5) (pa_cons (pv 6) (pa_cons (pv 8) pa_nil))))) pa_nil))))
      (pss_cons (ps_expr (pe_bmK (K := K) rfl PySem.F.plainAttrs_list PySem.F.slot_list_append PySem.F.type_list_append mt_append (pv 9) (pa_cons (pe_fn d__law_is_spared (hr.mono (by decide)) pass0 (pa_cons (pv 3) (pa_cons (pv 5) (pa_cons (pv 6) (pa_cons (pv 8) pa_nil))))) pa_nil)))
      (pss_cons (ps_set (i := 10) sc.nd rfl (by first | exact Or.inl rfl | exact Or.inr rfl) (pe_lst (pa_cons (pe_fn d_sum_of (hr.mono (by decide)) pass0 (pa_cons (pv 4) (pa_cons (pv 5) (pa_cons (pv 8) pa_nil)))) (pa_cons (pe_fn d_is_whole (hr.mono (by decide)) pass0 (pa_cons (pv 4) (pa_cons (pv 5) (pa_cons (pv 8) pa_nil)))) (pa_cons (pe_fn d_is_spared (hr.mono (by decide)) pass0 (pa_cons (pv 4) (pa_cons (pv 5) (pa_cons (pv 8) pa_nil)))) pa_nil)))))
      (pss_cons (ps_if (PW.pt (pw_or (pt_cmpR op_ne (pe_callB (c_reprK (K := K) rfl hG hr) (by rfl) T.b_repr (by decide +kernel) (pa_cons (pv 10) pa_nil)) (pe_callB (c_reprK (K := K) rfl hG hr) (by rfl) T.b_repr (by decide +kernel) (pa_cons (pv 9) pa_nil)) (nomark _)) (pw_or1 (pt_cmpR op_ne (pe_ix (ix_listK (K := K) rfl) (pv 9) pe_int (fun _ _ => rfl)) (pe_fn d__law_is_whole (hr.mono (by decide)) pass0 (pa_cons (pv 3) (pa_cons (pv 5) (pa_cons (pv 6) (pa_cons (pv 8) pa_nil))))) (nomark _))))) (pss_one (ps_ret pe_bl)) pss_nil)
      (pss_cons (ps_expr (pe_bmK (K := K) rfl PySem.F.plainAttrs_list PySem.F.slot_list_append PySem.F.type_list_append mt_append (pv 7) (pa_cons (pe_ix (ix_listK (K := K) rfl) (pv 9) pe_int (fun _ _ => rfl)) pa_nil)))
      (pss_cons (ps_set (i := 10) sc.nd rfl (by first | exact Or.inl rfl | exact Or.inr rfl) (pe_lst (pa_cons (pe_fnK0 k_sum_of_month_course_book (hr.mono (by decide)) pass0 (pk_cons (pv 8) (pk_cons (pv 5) (pk_cons (pv 4) pk_nil)))) (pa_cons (pe_fnK0 k_is_whole_month_course_book (hr.mono (by decide)) pass0 (pk_cons (pv 8) (pk_cons (pv 5) (pk_cons (pv 4) pk_nil)))) pa_nil))))
      (pss_one (ps_if (pt_cmpR op_ne (pe_callB (c_reprK (K := K) rfl hG hr) (by rfl) T.b_repr (by decide +kernel) (pa_cons (pe_op op_cat (pv 10) (pe_lst (pa_cons (pe_fnK0 k_is_spared_month_course_book (hr.mono (by decide)) pass0 (pk_cons (pv 8) (pk_cons (pv 5) (pk_cons (pv 4) pk_nil)))) pa_nil))) pa_nil)) (pe_callB (c_reprK (K := K) rfl hG hr) (by rfl) T.b_repr (by decide +kernel) (pa_cons (pv 9) pa_nil)) (nomark _)) (pss_one (ps_ret pe_bl)) pss_nil)))))))))
      (pss_cons (ps_par (i := 10) (j := 11) (by rfl) sc.nd rfl rfl (by decide) rfl rfl (pa_cons (pe_fn d_word (hr.mono (by decide)) pass0 (pa_cons (pv 4) (pa_cons (pv 5) pa_nil))) (pa_cons (pe_callB (c_reprK (K := K) rfl hG hr) (by rfl) T.b_repr (by decide +kernel) (pa_cons (pv 5) pa_nil)) pa_nil)) (by rfl))
      (pss_cons (ps_if (PW.pt (pw_or (pt_cmpR op_ne (pe_callB (c_reprK (K := K) rfl hG hr) (by rfl) T.b_repr (by decide +kernel) (pa_cons (pv 10) pa_nil)) (pe_callB (c_reprK (K := K) rfl hG hr) (by rfl) T.b_repr (by decide +kernel) (pa_cons (pe_slice (sl_listK (K := K) rfl) (pv 7) po_none (po_some (pe_un un_neg pe_int))) pa_nil)) (nomark _)) (pw_or1 (pt_cmpR (neDK (K := K) rfl hr.units) (pe_slice (sl_listK (K := K) rfl) (pv 7) (po_some (pe_un un_neg pe_int)) po_none) (pe_op op_rep (pe_lst (pa_cons pe_bl pa_nil)) pe_int) (nomark _))))) (pss_one (ps_ret pe_bl)) pss_nil)
      (pss_cons (ps_expr (pe_bmK (K := K) rfl PySem.F.plainAttrs_list PySem.F.slot_list_append PySem.F.type_list_append mt_append (pv 10) (pa_cons pe_non pa_nil)))
      (pss_cons (ps_if (PW.pt (pw_or (pt_cmpR op_ne (pe_callB (c_reprK (K := K) rfl hG hr) (by rfl) T.b_repr (by decide +kernel) (pa_cons (pe_fnK0 k_word_course_book (hr.mono (by decide)) pass0 (pk_cons (pv 5) (pk_cons (pv 4) pk_nil))) pa_nil)) (pe_callB (c_reprK (K := K) rfl hG hr) (by rfl) T.b_repr (by decide +kernel) (pa_cons (pe_slice (sl_listK (K := K) rfl) (pv 7) po_none (po_some (pe_un un_neg pe_int))) pa_nil)) (nomark _)) (pw_or1 (pt_cmpR op_ne (pe_callB (c_reprK (K := K) rfl hG hr) (by rfl) T.b_repr (by decide +kernel) (pa_cons (pv 5) pa_nil)) (pv 11) (nomark _))))) (pss_one (ps_ret pe_bl)) pss_nil)
      (pss_cons (ps_asg (pe_fn d__law_changed (hr.mono (by decide)) pass0 (pa_cons (pv 1) (pa_cons (pv 3) (pa_cons (pv 4) pa_nil)))) (pg_tupK (K := K) (n := 2) rfl rfl (pgs_cons (pg_name (i := 12) sc.nd rfl (by first | exact Or.inl rfl | exact Or.inr rfl)) (pgs_cons (pg_name (i := 13) sc.nd rfl (by first | exact Or.inl rfl | exact Or.inr rfl)) pgs_nil))))
      (pss_cons (ps_asg (pe_tup (pa_cons (pe_fn d__law_settled (hr.mono (by decide)) pass0 (pa_cons (pv 12) (pa_cons (pv 5) pa_nil))) (pa_cons (pe_fn d__law_take (hr.mono (by decide)) pass0 (pa_cons (pv 1) (pa_cons (pe_callB (c_lenK (K := K) rfl) (by rfl) T.b_len (by decide +kernel) (pa_cons (pv 7) pa_nil)) pa_nil))) pa_nil))) (pg_tupK (K := K) (n := 2) rfl rfl (pgs_cons (pg_name (i := 14) sc.nd rfl (by first | exact Or.inl rfl | exact Or.inr rfl)) (pgs_cons (pg_name (i := 8) sc.nd rfl (by first | exact Or.inl rfl | exact Or.inr rfl)) pgs_nil))))
      (pss_cons (ps_setLc (i := 9) (own := [("_law_k", 15)]) (by rfl) sc.nd rfl rfl (sw_true rfl rfl rfl (by decide +kernel)) (pi_range1 (by rfl) T.b_range (pa_cons (pe_op op_add (pe_fn d__law_month (hr.mono (by decide)) pass0 (pa_cons (pv 12) (pa_cons (pe_ix (ix_tupK (K := K) rfl) (pv 5) pe_int (fun _ _ => rfl)) pa_nil))) pe_int) pa_nil)) (blkOk_by (own := [("_law_k", 15)]) (N := ["_law_script", "_law_state", "_law_turn", "_law_model_here", "_law_made_here", "_law_route", "_law_found", "_law_marks", "_law_mon", "_law_due_here", "_law_listed", "_law_seen", "_law_other", "_law_twin", "_law_later", "_law_k"]) (sc := defScope s_law) (by decide +kernel)) (fun _ _ _ _ _ => (pg_name (i := 15) sc.nd rfl (by first | exact Or.inl rfl | exact Or.inr rfl))) (fun _ _ _ _ _ => pts_nil) (fun _ _ _ _ _ => (pe_fn d__law_is_whole (hr.mono (by decide)) pass0 (pa_cons (pv 12) (pa_cons (pv 5) (pa_cons (pv 14) (pa_cons (pv 15) pa_nil)))))))
      (pss_cons (ps_if (PW.pt (pw_or (pt_cmpR op_ne (pe_callB (c_reprK (K := K) rfl hG hr) (by rfl) T.b_repr (by decide +kernel) (pa_cons (pe_fn d_word (hr.mono (by decide)) pass0 (pa_cons (pv 13) (pa_cons (pv 5) pa_nil))) pa_nil)) (pe_callB (c_reprK (K := K) rfl hG hr) (by rfl) T.b_repr (by decide +kernel) (pa_cons (pv 9) pa_nil)) (nomark _)) (pw_or1 (pt_cmpR op_ne (pe_fn d_sum_of (hr.mono (by decide)) pass0 (pa_cons (pv 13) (pa_cons (pv 5) (pa_cons (pv 8) pa_nil)))) (pe_fn d__law_due_sum (hr.mono (by decide)) pass0 (pa_cons (pv 12) (pa_cons (pv 5) (pa_cons (pv 14) (pa_cons (pv 8) pa_nil))))) (nomark _))))) (pss_one (ps_ret pe_bl)) pss_nil)
      (pss_one (ps_if (pt_cmpR op_ne (pe_fn d_is_spared (hr.mono (by decide)) pass0 (pa_cons (pv 13) (pa_cons (pv 5) (pa_cons (pv 8) pa_nil)))) (pe_fn d__law_is_spared (hr.mono (by decide)) pass0 (pa_cons (pv 12) (pa_cons (pv 5) (pa_cons (pv 14) (pa_cons (pv 8) pa_nil))))) (nomark _)) (pss_one (ps_ret pe_bl)) pss_nil)))))))))))))))
      (pss_one (ps_ret pe_bl))))), ?_⟩)
  obtain ⟨a, cs, rfl, hS, hlen, k⟩ := h
  walk_at "rd"
  refine ⟨a, cs, rfl, hS, hlen, fun st l c H1 nst nl nc e1 D1 => ?_⟩
  walk_at "rd"
  have hS2 : SqL K H1 a (cs.map V.int) := SqL.kp hS e1 nst nl (Kp.refl)
  refine r_lenL hS2 ?_
  walk_at "rd"
  refine r_kForR1 (fun i σ' H' => ∃ (x2 x3 x4 x5 x6 x7 x8 x9 x10 x11 x12 x13 x14 x15 : Option V), σ' = [some (.ref a), some (.ref st), x2, x3, x4, x5, x6, x7, x8, x9, x10, x11, x12, x13, x14, x15] ∧ DS st l c cs (3000 * (i : Int)) H') (by rw [List.length_map]; omega) ⟨_, _, _, _, _, _, _, _, _, _, _, _, _, _, rfl, D1.mono (by omega)⟩ ?_ ?_
  · rintro i0 σ' H3 hi ⟨x2, x3, x4, x5, x6, x7, x8, x9, x10, x11, x12, x13, x14, x15, rfl, D3⟩
    have hi2 : (i0 : Int) ≤ 100 := by
      rw [List.length_map] at hi
      omega
    walk_at "rd"
    refine ⟨st, l, c, cs, _, 6, true, rfl, by omega, D3, by decide, by decide, fun p B H4 np ok lok hM4 D4 k4 => ?_⟩
    walk_at "rd"
    refine ⟨l, p, B, rfl, ok, lok, hM4, fun q H5 ks nq e5 pm so hBk5 => ?_⟩
    have okp : ({ B with ks := ks } : Bk).Ok := ok.perm pm
    have lokp : ({ B with ks := ks } : Bk).LaidOk := lok.perm pm
    have nd := ok.kn.nm.nd
    have D5 := D4.keep e5
    have T5 : Two C l H5 p q B := ⟨hM4.keep e5, ok, lok, ks, pm, hBk5⟩
    walk_at "rd"
    refine r_kLst fun a2 H6 na2 e6 ha2 => ?_
    walk_at "rd"
    refine u_pick D5 (by omega) na2 e6 ha2 (by simp) (by simp) fun i2 x2 H7 hx2 D7 k7 => ?_
    obtain ⟨most, rfl, ms0, ms1⟩ := IntsIn.get (lo := 1) (hi := 1000000) (by simp [IntsIn]) hx2
    have T7 := T5.kp k7 D5
    walk_at "rd"
    refine ⟨st, l, c, p, cs, _, 14, most, B, rfl, (by omega : _ ≤ (8796093022208 : Int)), D7, T7.m, ok, by decide, by decide, ms0, ms1, fun r rs e H8 hR8 hv hle ⟨he2, he3⟩ hrl D8 k8 => ?_⟩
    have T8 := T7.kp k8 D7
    have hnr : rs.length ≤ 200 := by omega
    have he4 : e ≤ 100000 := by omega
    have co : CourOk B rs e := ⟨hv, hle, hnr⟩
    have fn := Fin.of (rkB B) hv hle he4 hnr
    have hd0 := VR.days rs hv
    have he0 : 0 ≤ e := by omega
    have cop : CourOk { B with ks := ks } rs e := ⟨hv.perm pm, hle, hnr⟩
    have hBp : ∀ {H' : Hp}, Same H8 H' → BookAt C H' q { B with ks := ks } := fun kk => ((hBk5.kp k7 D5).kp k8 D7).keep kk
    have C8 : CourAt K H8 r rs e := hR8.cour
    have hpl : (settle (rkB B) rs e).length ≤ 40200 := by have := fn.len; rw [piecesL_len] at this; exact this
    have h60 : (1000000 : Nat) < 10 ^ 60 := by decide
    have e60 : e.natAbs < 10 ^ 60 := by omega
    have rsm := hv.small ok.kn.nm.ok (by omega) (by omega)
    obtain ⟨mo0, mo1⟩ := month_half ok.ls he0 he2
    obtain ⟨lr, ws, hrt8, hrl8, hRA8⟩ := id C8
    walk_at "rd"
    refine r_kTup fun t8 H8a nt8 e8a ht8 => ?_
    walk_at "rd"
    refine ⟨l, p, r, B, rs, e, rfl, T8.m.keep e8a, lok, C8.keep e8a, co, fun fo H9 nfo e9a hfo => ?_⟩
    have e9 := e8a.trans e9a
    walk_at "rd"
    refine r_kLst fun mk H10 nmk e10 hmk => ?_
    have e911 := e10
    have S9 : LSta K l H9 p r fo B rs e (settle (rkB B) rs e) := ⟨T8.m.keep e9, ok, C8.keep e9, hnr, .inl hfo, fn.ok.nd, by omega⟩
    have hsb : ∀ i : Int, (sumOf B rs (settle (rkB B) rs e) i).natAbs < 10 ^ 60 := fun i => sumOf_bnd fn hv hle hnr
    have hrt9 := e9 _ _ hrt8
    walk_at "rd"
    refine r_ixT (SqT.of (e911 _ _ hrt9)) (at_get (n := 1) rfl rfl) ?_
    walk_at "rd"
    refine ⟨l, p, B, e, rfl, S9.m.keep e911, ok.ls, fun H12 e12 => ?_⟩
    have e912 := e911.trans e12
    walk_at "rd"
    refine r_kForR1 (fun i σ' H' => ∃ (y8 y9 y10 : Option V), σ' = [some (.ref a), some (.ref st), some (.int (i0 : Int)), some (.ref p), some (.ref q), some (.ref r), some (.ref fo), some (.ref mk), y8, y9, y10, x11, x12, x13, x14, x15] ∧ Same H9 H' ∧ H' mk = some (.lst ((marks B rs (settle (rkB B) rs e) i).map V.bl)))
      (by omega) ⟨_, _, _, rfl, e912, e12 _ _ hmk⟩ ?_ ?_
    · rintro i σ' H13 hi3 ⟨y8, y9, y10, rfl, e13, hmk13⟩
      have hi4 : (i : Int) < monthL B.ls e + 4 := by omega
      have hml := marks_len B rs (settle (rkB B) rs e) i
      walk_at "rd"
      refine ⟨l, p, r, fo, B, rs, e, _, (i : Int), rfl, S9.keep e13, fun H14 e14 => ?_⟩
      have e914 := e13.trans e14
      walk_at "rd"
      refine ⟨l, p, r, fo, B, rs, e, _, (i : Int), rfl, S9.keep e914, e914 _ _ hfo, by omega, fun H15 e15 => ?_⟩
      have e915 := e914.trans e15
      walk_at "rd"
      refine r_kLst fun du H16 ndu e16 hdu => ?_
      have e916 := e915.trans e16
      walk_at "rd"
      refine ⟨l, p, r, fo, B, rs, e, _, (i : Int), rfl, S9.keep e916, fun H17 e17 => ?_⟩
      have e917 := e916.trans e17
      walk_at "rd"
      refine r_append (e17 _ _ hdu) (by simp) fun H18 b18 hdu18 => ?_
      have e1518 := Same.mut (e16.trans e17) b18 ndu
      have e918 := e915.trans e1518
      have e1318 := (e14.trans e15).trans e1518
      walk_at "rd"
      refine ⟨q, r, { B with ks := ks }, rs, e, (i : Int), rfl, hBp (e9.trans e918), okp, lokp, C8.keep (e9.trans e918), cop, he4, by omega, by omega, fun H19 e19 => ?_⟩
      have e919 := e918.trans e19
      walk_at "rd"
      refine ⟨q, r, { B with ks := ks }, rs, e, (i : Int), rfl, hBp (e9.trans e919), okp, lokp, C8.keep (e9.trans e919), cop, he4, by omega, by omega, fun H20 e20 => ?_⟩
      have e920 := e919.trans e20
      walk_at "rd"
      refine ⟨q, r, { B with ks := ks }, rs, e, (i : Int), rfl, hBp (e9.trans e920), okp, lokp, C8.keep (e9.trans e920), cop, he4, by omega, by omega, fun H21 e21 => ?_⟩
      have e921 := e920.trans e21
      walk_at "rd"
      refine r_kLst fun li H22 nli e22 hli => ?_
      have e1822 := ((e19.trans e20).trans e21).trans e22
      have hdu22 := e1822 _ _ hdu18
      walk_at "rd"
      refine r_reprIBB (SqL.of hli) (hsb _) ?_
      walk_at "rd"
      refine r_reprIBB (SqL.of hdu22) (hsb _) ?_
      walk_at "rd"
      refine w_ndec (fun h => absurd rfl h) (fun _ => ?_)
      walk_at "rd"
      refine r_ixL (SqL.of hdu22) (at_get (n := 1) rfl rfl) ?_
      walk_at "rd"
      have e1322 := e1318.trans e1822
      refine ⟨l, p, r, fo, B, rs, e, _, (i : Int), rfl, S9.keep (e13.trans e1322), fun H23 e23 => ?_⟩
      walk_at "rd"
      refine w_ndec (fun h => absurd rfl h) (fun _ => ?_)
      have e1323 := e1322.trans e23
      have hdu23 := e23 _ _ hdu22
      have hmk23 := e1323 _ _ hmk13
      walk_at "rd"
      refine r_ixL (SqL.of hdu23) (at_get (n := 1) rfl rfl) ?_
      walk_at "rd"
      refine r_append hmk23 (by rw [List.length_map, hml]; omega) fun H24 b24 hmk24 => ?_
      have e924 := Same.mut (e13.trans e1323) b24 nmk
      have hdm : du ≠ mk := (ne_of_none (((e14.trans e15)) _ _ hmk13) ndu).symm
      have hdu24 := b24 _ _ hdu23 hdm
      rw [← List.map_singleton, ← List.map_append, ← marks_snoc] at hmk24
      walk_at "rd"
      refine ⟨q, r, { B with ks := ks }, rs, e, (i : Int), rfl, hBp (e9.trans e924), okp, lokp, C8.keep (e9.trans e924), cop, he4, by omega, by omega, fun H25 e25 => ?_⟩
      have e925 := e924.trans e25
      walk_at "rd"
      refine ⟨q, r, { B with ks := ks }, rs, e, (i : Int), rfl, hBp (e9.trans e925), okp, lokp, C8.keep (e9.trans e925), cop, he4, by omega, by omega, fun H26 e26 => ?_⟩
      have e926 := e925.trans e26
      walk_at "rd"
      refine r_kLst fun lj H27 nlj e27 hlj => ?_
      have e927 := e926.trans e27
      walk_at "rd"
      refine ⟨q, r, { B with ks := ks }, rs, e, (i : Int), rfl, hBp (e9.trans e927), okp, lokp, C8.keep (e9.trans e927), cop, he4, by omega, by omega, fun H28 e28 => ?_⟩
      walk_at "rd"
      refine r_kLst fun lm H29 nlm e29 hlm => ?_
      walk_at "rd"
      refine r_cat (e29 _ _ (e28 _ _ hlj)) hlm (by simp) fun ln H30 nln e30 hln => ?_
      have e2430 := ((e25.trans e26).trans e27).trans ((e28.trans e29).trans e30)
      walk_at "rd"
      refine r_reprIBB (SqL.of hln) (hsb _) ?_
      walk_at "rd"
      refine r_reprIBB (SqL.of (e2430 _ _ hdu24)) (hsb _) ?_
      walk_at "rd"
      refine w_ndec (fun h => absurd rfl h) (fun _ => ?_)
      walk_at "rd"
      exact ⟨_, _, _, rfl, e924.trans e2430, e2430 _ _ hmk24⟩
    rintro σ' H13 ⟨y8, y9, y10, rfl, e13, hmk13⟩
    walk_at "rd"
    obtain ⟨n, hn⟩ : ∃ n : Nat, (n : Int) = monthL B.ls e + 1 := ⟨(monthL B.ls e + 1).toNat, by omega⟩
    have hn3 : (monthL B.ls e + 4).toNat = n + 3 := by omega
    rw [hn3] at hmk13
    have hml := marks_len B rs (settle (rkB B) rs e) (n + 3)
    have hmt := marks_take B rs (settle (rkB B) rs e) n
    have hme := marks_end fn hv hle ok he0 hn
    have hwd := word_marks (B := B) (rs := rs) hn
    have hwd2 : wordL { B with ks := ks } rs e = marks B rs (settle (rkB B) rs e) n := hwd
    refine ⟨q, r, { B with ks := ks }, rs, e, rfl, hBp (e9.trans e13), okp, lokp, C8.keep (e9.trans e13), cop, he4, fun wq H14 nwq e14 hwq => ?_⟩
    rw [hwd2] at hwq
    have e914 := e13.trans e14
    walk_at "rd"
    refine r_reprRt (hR8.keep (e9.trans e914)) rsm e60 (by omega) ?_
    have e15 := Same.refl H14
    have hmk15 := e14 _ _ hmk13
    have e915 := e914.trans e15
    walk_at "rd"
    refine r_reprBs (SqL.of hwq) (by rw [marks_len]; omega) ?_
    walk_at "rd"
    refine r_slL (SqL.of hmk15) fun sq H16 nsq e16 hsq => ?_
    rw [cutV_m3 _ (by rw [List.length_map, hml]; omega), List.length_map, hml, Nat.add_sub_cancel, ← List.map_take, hmt] at hsq
    walk_at "rd"
    refine r_reprBs (SqL.of hsq) (by rw [marks_len]; omega) ?_
    walk_at "rd"
    refine w_ndec (fun h => absurd rfl h) (fun _ => ?_)
    walk_at "rd"
    have hmk16 := e16 _ _ hmk15
    refine r_slL (SqL.of hmk16) fun s3 H17 ns3 e17 hs3 => ?_
    rw [cutV_l3 _ (by rw [List.length_map, hml]; omega), List.length_map, hml, Nat.add_sub_cancel, ← List.map_drop, hme] at hs3
    walk_at "rd"
    refine r_kLst fun t1 H18 nt1 e18 ht1 => ?_
    walk_at "rd"
    refine r_rep ht1 (by decide) (by decide) (by simp) fun t3 H19 nt3 e19 ht3 => ?_
    walk_at "rd"
    refine r_neBs (as := [true, true, true]) (bs := [true, true, true]) (SqL.of (e19 _ _ (e18 _ _ hs3))) (SqL.of ht3) rfl ?_
    have e1419 := e16.trans ((e17.trans e18).trans e19)
    have hwq19 := e1419 _ _ hwq
    have e1319 := e14.trans e1419
    walk_at "rd"
    refine r_append hwq19 (by rw [List.length_map, marks_len]; omega) fun H20 b20 hwq20 => ?_
    have e1320 := Same.mut e1319 b20 nwq
    have e920 := e13.trans e1320
    have hmk20 := e1320 _ _ hmk13
    walk_at "rd"
    refine ⟨q, r, { B with ks := ks }, rs, e, rfl, hBp (e9.trans e920), okp, lokp, C8.keep (e9.trans e920), cop, he4, fun wr H21 nwr e21 hwr => ?_⟩
    rw [hwd2] at hwr
    walk_at "rd"
    refine r_reprBs (SqL.of hwr) (by rw [marks_len]; omega) ?_
    walk_at "rd"
    have hmk21 := e21 _ _ hmk20
    refine r_slL (SqL.of hmk21) fun sr H22 nsr e22 hsr => ?_
    rw [cutV_m3 _ (by rw [List.length_map, hml]; omega), List.length_map, hml, Nat.add_sub_cancel, ← List.map_take, hmt] at hsr
    walk_at "rd"
    refine r_reprBs (SqL.of hsr) (by rw [marks_len]; omega) ?_
    walk_at "rd"
    refine w_ndec (fun h => absurd rfl h) (fun _ => ?_)
    have e922 := (e920.trans e21).trans e22
    have e822 := e9.trans e922
    walk_at "rd"
    refine r_reprRt (hR8.keep e822) rsm e60 (by omega) ?_
    walk_at "rd"
    refine w_ndec (fun h => absurd rfl h) (fun _ => ?_)
    have D22 := D8.keep e822
    have hmk22 := e22 _ _ hmk21
    walk_at "rd"
    refine ⟨st, l, c, p, q, cs, _, B, rfl, (by omega : _ ≤ (8796093022208 : Int)), D22, T8.keep e822, fun tp p2 q2 B2 H23 htp T23 hnm D23 k23 => ?_⟩
    have hR23 := (hR8.keep e822).kp k23 D22
    have D9 := D8.keep e9
    have hmk23 := k23 _ _ hmk22 (D9.nst nmk) (D9.nl nmk)
    have hv2 : VR (B2.ks.map (·.1)) rs := by rw [hnm]; exact hv
    have co2 : CourOk B2 rs e := ⟨hv2, hle, hnr⟩
    have fn2 := Fin.of (rkB B2) hv2 hle (by omega) hnr
    have hpl2 : (settle (rkB B2) rs e).length ≤ 40200 := by have := fn2.len; rw [piecesL_len] at this; exact this
    walk_at "rd"
    refine ⟨l, p2, r, B2, rs, e, rfl, T23.m, T23.lo, hR23.cour, co2, fun f2 H24 nf2 e24 hf2 => ?_⟩
    have D24 := D23.keep e24
    walk_at "rd"
    refine r_lenL (SqL.of (e24 _ _ hmk23)) ?_
    rw [List.length_map, hml]
    walk_at "rd"
    refine u_take D24 (by omega) (by omega) (by omega) fun z H25 z0 z1 D25 k25 => ?_
    have T25 := (T23.keep e24).kp k25 D24
    obtain ⟨ks2, pm2, hB2⟩ := id T25.b
    have co2p : CourOk { B2 with ks := ks2 } rs e := ⟨hv2.perm pm2, hle, hnr⟩
    have hR25 := (hR23.keep e24).kp k25 D24
    have hf25 := k25 _ _ hf2 (D23.nst nf2) (D23.nl nf2)
    have S25 : LSta K l H25 p2 r f2 B2 rs e (settle (rkB B2) rs e) := ⟨T25.m, T25.o, hR25.cour, hnr, .inl hf25, fn2.ok.nd, by omega⟩
    obtain ⟨mp0, mp1⟩ := month_half T25.o.ls he0 he2
    obtain ⟨n2, hn2⟩ : ∃ n : Nat, (n : Int) = monthL B2.ls e + 1 := ⟨(monthL B2.ls e + 1).toNat, by omega⟩
    have hwd3 : wordL { B2 with ks := ks2 } rs e = marks B2 rs (settle (rkB B2) rs e) n2 := word_marks (B := B2) (rs := rs) hn2
    obtain ⟨lr5, ws5, hrt25, hrl25, hRA25⟩ := id S25.c
    walk_at "rd"
    refine r_kTup fun tu H25b ntu e25b htu => ?_
    replace S25 := S25.keep e25b
    replace hrt25 := e25b _ _ hrt25
    replace hB2 := hB2.keep e25b
    replace D25 := D25.keep e25b
    walk_at "rd"
    refine r_ixT (SqT.of hrt25) (at_get (n := 1) rfl rfl) ?_
    walk_at "rd"
    refine ⟨l, p2, B2, e, rfl, S25.m, T25.o.ls, fun H26 e26 => ?_⟩
    walk_at "rd"
    refine r_kLcR1 (fun Da i H' => Same H26 H' ∧ H' Da = some (.lst ((marks B2 rs (settle (rkB B2) rs e) i).map V.bl))) (by omega) (fun Da H' _ e h => ⟨e, h⟩) ?_ ?_
    · rintro Da i H' hD hi ⟨e27, hDa⟩
      walk_at "rd"
      refine ⟨l, p2, r, f2, B2, rs, e, _, (i : Int), rfl, S25.keep (e26.trans e27), fun H2 e3 => ?_⟩
      refine r_kLcE (e3 _ _ hDa) (by rw [List.length_map, marks_len]; omega) fun H3 b3 h3 => ⟨Same.mut (e27.trans e3) b3 hD, ?_⟩
      rw [marks_snoc, List.map_append]
      exact h3
    rintro du2 H27 ndu2 ⟨e27, hdu2⟩
    have hn22 : (monthL B2.ls e + 1).toNat = n2 := by omega
    rw [hn22] at hdu2
    have e2527 := e26.trans e27
    walk_at "rd"
    refine ⟨q2, r, { B2 with ks := ks2 }, rs, e, rfl, hB2.keep e2527, T25.o.perm pm2, T25.lo.perm pm2, (S25.keep e2527).c, co2p, he4, fun wt H28 nwt e28 hwt => ?_⟩
    rw [hwd3] at hwt
    walk_at "rd"
    refine r_reprBs (SqL.of hwt) (by rw [marks_len]; omega) ?_
    walk_at "rd"
    refine r_reprBs (SqL.of (e28 _ _ hdu2)) (by rw [marks_len]; omega) ?_
    walk_at "rd"
    refine w_ndec (fun h => absurd rfl h) (fun _ => ?_)
    have e2528 := e2527.trans e28
    walk_at "rd"
    refine ⟨q2, r, { B2 with ks := ks2 }, rs, e, z, rfl, hB2.keep e2528, T25.o.perm pm2, T25.lo.perm pm2, (S25.keep e2528).c, co2p, he4, z0, by omega, fun H29 e29 => ?_⟩
    have e2529 := e2528.trans e29
    walk_at "rd"
    refine ⟨l, p2, r, f2, B2, rs, e, _, z, rfl, S25.keep e2529, fun H30 e30 => ?_⟩
    walk_at "rd"
    refine w_ndec (fun h => absurd rfl h) (fun _ => ?_)
    have e2530 := e2529.trans e30
    walk_at "rd"
    refine ⟨q2, r, { B2 with ks := ks2 }, rs, e, z, rfl, hB2.keep e2530, T25.o.perm pm2, T25.lo.perm pm2, (S25.keep e2530).c, co2p, he4, z0, by omega, fun H31 e31 => ?_⟩
    have e2531 := e2530.trans e31
    walk_at "rd"
    refine ⟨l, p2, r, f2, B2, rs, e, _, z, rfl, S25.keep e2531, fun H32 e32 => ?_⟩
    walk_at "rd"
    refine w_ndec (fun h => absurd rfl h) (fun _ => ?_)
    walk_at "rd"
    exact ⟨_, _, _, _, _, _, _, _, _, _, _, _, _, _, rfl, (D25.keep (e2531.trans e32)).mono (by rw [Int.natCast_add]; omega)⟩
  · rintro σ' H3 ⟨x2, x3, x4, x5, x6, x7, x8, x9, x10, x11, x12, x13, x14, x15, rfl, D3⟩
    walk_at "rd"
    exact k H3
end
end Wp
set_option Elab.async false
set_option linter.all false
set_option maxRecDepth 100000
set_option maxHeartbeats 0
namespace Wp
open PySem PySem.Spec PyProof.Rows L2
theorem factsL {P : Program} {w : World} {K : PySem.W.Frag} {h : Heap} {mg : Str → Option Value} {f : Addr} (X : K.In h) (G : h.Ns mainGlobals mg) (hfa : mg ("law" : Str) = some (.ref f)) (c : He.SaysD faL fnL K) (ex : exB K = true) (gg : ∀ d ∈ gsL, PropOf K (He.ga K d.c) d.f (He.ma K (He.ga K d.c) d.f) (gAd K d.c d.f) ∧ ∃ fd, FunD K d.f d.qual d.params d.body d.scope [] [] (gAd K d.c d.f) fd) :
    ∃ fd : FuncData, (∀ (s : Shared) (v : Value), BindsTo s fd ⟨[v], []⟩ [("_law_script", v)]) ∧ ∀ base : Heap, K.In base → base.Ns mainGlobals mg → FnG P w K mg base CX0 10 f fd ["_law_script"] (spLaw K) := by
  obtain ⟨fd__law_begun, F__law_begun⟩ := c.def_ 0 (d := D__law_begun) rfl
  obtain ⟨fd__law_mixed, F__law_mixed⟩ := c.def_ 1 (d := D__law_mixed) rfl
  obtain ⟨fd__law_take, F__law_take⟩ := c.def_ 2 (d := D__law_take) rfl
  obtain ⟨fd__law_pick, F__law_pick⟩ := c.def_ 3 (d := D__law_pick) rfl
  obtain ⟨fd__law_names, F__law_names⟩ := c.def_ 4 (d := D__law_names) rfl
  obtain ⟨fd__law_some, F__law_some⟩ := c.def_ 5 (d := D__law_some) rfl
  obtain ⟨fd_is_number, F_is_number⟩ := c.def_ 6 (d := D_is_number) rfl
  obtain ⟨fd_is_number_in, F_is_number_in⟩ := c.def_ 7 (d := D_is_number_in) rfl
  obtain ⟨fd_is_list, F_is_list⟩ := c.def_ 8 (d := D_is_list) rfl
  obtain ⟨fd_is_name, F_is_name⟩ := c.def_ 9 (d := D_is_name) rfl
  obtain ⟨fd_are_lengths, F_are_lengths⟩ := c.def_ 10 (d := D_are_lengths) rfl
  obtain ⟨fd_is_kind, F_is_kind⟩ := c.def_ 11 (d := D_is_kind) rfl
  obtain ⟨fd_are_kinds, F_are_kinds⟩ := c.def_ 12 (d := D_are_kinds) rfl
  obtain ⟨fd_is_order, F_is_order⟩ := c.def_ 13 (d := D_is_order) rfl
  obtain ⟨fd_Book___init__, F_Book___init__⟩ := c.def_ 14 (d := D_Book___init__) rfl
  obtain ⟨fd_Book_parts_told, F_Book_parts_told⟩ := c.def_ 15 (d := D_Book_parts_told) rfl
  obtain ⟨fd_Book_with_part, F_Book_with_part⟩ := c.def_ 16 (d := D_Book_with_part) rfl
  obtain ⟨fd_need_book, F_need_book⟩ := c.def_ 17 (d := D_need_book) rfl
  obtain ⟨fd_Account___init__, F_Account___init__⟩ := c.def_ 18 (d := D_Account___init__) rfl
  obtain ⟨fd_Account_buy, F_Account_buy⟩ := c.def_ 19 (d := D_Account_buy) rfl
  obtain ⟨fd_Account_next_row, F_Account_next_row⟩ := c.def_ 20 (d := D_Account_next_row) rfl
  obtain ⟨fd_Account_pay, F_Account_pay⟩ := c.def_ 21 (d := D_Account_pay) rfl
  obtain ⟨fd_is_row, F_is_row⟩ := c.def_ 22 (d := D_is_row) rfl
  obtain ⟨fd_account_of, F_account_of⟩ := c.def_ 23 (d := D_account_of) rfl
  obtain ⟨fd_need_account, F_need_account⟩ := c.def_ 24 (d := D_need_account) rfl
  obtain ⟨fd_need_number, F_need_number⟩ := c.def_ 25 (d := D_need_number) rfl
  obtain ⟨fd_Book_month_at, F_Book_month_at⟩ := c.def_ 26 (d := D_Book_month_at) rfl
  obtain ⟨fd_Book_first_at, F_Book_first_at⟩ := c.def_ 27 (d := D_Book_first_at) rfl
  obtain ⟨fd_Book_due_at, F_Book_due_at⟩ := c.def_ 28 (d := D_Book_due_at) rfl
  obtain ⟨fd_bought_by, F_bought_by⟩ := c.def_ 29 (d := D_bought_by) rfl
  obtain ⟨fd_paid_by, F_paid_by⟩ := c.def_ 30 (d := D_paid_by) rfl
  obtain ⟨fd_whole_at, F_whole_at⟩ := c.def_ 31 (d := D_whole_at) rfl
  obtain ⟨fd_spared_at, F_spared_at⟩ := c.def_ 32 (d := D_spared_at) rfl
  obtain ⟨fd_sum_of, F_sum_of⟩ := c.def_ 33 (d := D_sum_of) rfl
  obtain ⟨fd_is_whole, F_is_whole⟩ := c.def_ 34 (d := D_is_whole) rfl
  obtain ⟨fd_is_spared, F_is_spared⟩ := c.def_ 35 (d := D_is_spared) rfl
  obtain ⟨fd_word, F_word⟩ := c.def_ 36 (d := D_word) rfl
  obtain ⟨fd__law_model, F__law_model⟩ := c.def_ 37 (d := D__law_model) rfl
  obtain ⟨fd__law_made, F__law_made⟩ := c.def_ 38 (d := D__law_made) rfl
  obtain ⟨fd__law_first, F__law_first⟩ := c.def_ 39 (d := D__law_first) rfl
  obtain ⟨fd__law_month, F__law_month⟩ := c.def_ 40 (d := D__law_month) rfl
  obtain ⟨fd__law_due, F__law_due⟩ := c.def_ 41 (d := D__law_due) rfl
  obtain ⟨fd__law_next_date, F__law_next_date⟩ := c.def_ 42 (d := D__law_next_date) rfl
  obtain ⟨fd__law_cents, F__law_cents⟩ := c.def_ 43 (d := D__law_cents) rfl
  obtain ⟨fd__law_rows, F__law_rows⟩ := c.def_ 44 (d := D__law_rows) rfl
  obtain ⟨fd__law_path, F__law_path⟩ := c.def_ 45 (d := D__law_path) rfl
  obtain ⟨fd__law_settled, F__law_settled⟩ := c.def_ 46 (d := D__law_settled) rfl
  obtain ⟨fd__law_bought, F__law_bought⟩ := c.def_ 47 (d := D__law_bought) rfl
  obtain ⟨fd__law_settled_by, F__law_settled_by⟩ := c.def_ 48 (d := D__law_settled_by) rfl
  obtain ⟨fd__law_is_whole, F__law_is_whole⟩ := c.def_ 49 (d := D__law_is_whole) rfl
  obtain ⟨fd__law_is_spared, F__law_is_spared⟩ := c.def_ 50 (d := D__law_is_spared) rfl
  obtain ⟨fd__law_changed, F__law_changed⟩ := c.def_ 51 (d := D__law_changed) rfl
  obtain ⟨fd__law_due_sum, F__law_due_sum⟩ := c.def_ 52 (d := D__law_due_sum) rfl
  obtain ⟨fd__law_is_whole_by_days, F__law_is_whole_by_days⟩ := c.def_ 53 (d := D__law_is_whole_by_days) rfl
  obtain ⟨fd_law, F_law⟩ := c.def_ 54 (d := D_law) rfl
  obtain ⟨pr_Book_memory, fd_Book_memory, F_Book_memory⟩ := gg G_Book_memory (List.mem_of_getElem? (i := 0) rfl)
  obtain ⟨pr_Book_laid, fd_Book_laid, F_Book_laid⟩ := gg G_Book_laid (List.mem_of_getElem? (i := 1) rfl)
  have e := hfa.symm.trans (He.glo_ok X G (c.fact 44 (f := .glo "law") rfl))
  cases e
  have ex12 : (insB K (He.ga K "Book") && He.tupB K "PARTS" [.str "lengths", .str "due", .str "kinds", .str "memory", .str "begins", .str "laid"]) = true := ex
  have tup_PARTS := (He.ba ex12).2
  have T : Tx K mg := { b_all := He.free_ok X G (c.fact 52 (f := .free "all") rfl), b_bool := He.free_ok X G (c.fact 53 (f := .free "bool") rfl), b_dict := He.free_ok X G (c.fact 54 (f := .free "dict") rfl), b_enumerate := He.free_ok X G (c.fact 55 (f := .free "enumerate") rfl), b_int := He.free_ok X G (c.fact 56 (f := .free "int") rfl), b_isinstance := He.free_ok X G (c.fact 57 (f := .free "isinstance") rfl), b_len := He.free_ok X G (c.fact 58 (f := .free "len") rfl), b_list := He.free_ok X G (c.fact 59 (f := .free "list") rfl), b_max := He.free_ok X G (c.fact 60 (f := .free "max") rfl), b_min := He.free_ok X G (c.fact 61 (f := .free "min") rfl), b_range := He.free_ok X G (c.fact 62 (f := .free "range") rfl), b_repr := He.free_ok X G (c.fact 63 (f := .free "repr") rfl), b_sorted := He.free_ok X G (c.fact 64 (f := .free "sorted") rfl), b_str := He.free_ok X G (c.fact 65 (f := .free "str") rfl), b_sum := He.free_ok X G (c.fact 66 (f := .free "sum") rfl), b_super := He.free_ok X G (c.fact 67 (f := .free "super") rfl), b_tuple := He.free_ok X G (c.fact 68 (f := .free "tuple") rfl), b_zip := He.free_ok X G (c.fact 69 (f := .free "zip") rfl), c_BUY := He.str_ok X G (c.fact 70 (f := .str "BUY" "buy") rfl), c_DAY := He.str_ok X G (c.fact 71 (f := .str "DAY" "day") rfl), c_LETTERS := He.str_ok X G (c.fact 72 (f := .str "LETTERS" "abcdefghijklmnopqrstuvwxyz") rfl), c_LONGEST := He.int_ok X G (c.fact 73 (f := .int "LONGEST" 31) rfl), c_MOST_DAY := He.int_ok X G (c.fact 74 (f := .int "MOST_DAY" 2000) rfl), c_MOST_KINDS := He.int_ok X G (c.fact 75 (f := .int "MOST_KINDS" 6) rfl), c_MOST_LENGTHS := He.int_ok X G (c.fact 76 (f := .int "MOST_LENGTHS" 4) rfl), c_MOST_MEMORY := He.int_ok X G (c.fact 77 (f := .int "MOST_MEMORY" 2) rfl), c_MOST_NAME := He.int_ok X G (c.fact 78 (f := .int "MOST_NAME" 8) rfl), c_MOST_RATE := He.int_ok X G (c.fact 79 (f := .int "MOST_RATE" 1000) rfl), g_PARTS := He.glo_ok X G (c.fact 80 (f := .glo "PARTS") rfl), t_PARTS := fun H => He.tupB_ok tup_PARTS H, c_PAY := He.str_ok X G (c.fact 81 (f := .str "PAY" "pay") rfl), c_SHORTEST := He.int_ok X G (c.fact 82 (f := .int "SHORTEST" 2) rfl), c_STATEMENT := He.str_ok X G (c.fact 83 (f := .str "STATEMENT" "statement") rfl), g_CreditError := He.glo_ok X G (c.fact 45 (f := .glo "CreditError") rfl), g_BadBook := He.glo_ok X G (c.fact 46 (f := .glo "BadBook") rfl), g_BadPart := He.glo_ok X G (c.fact 47 (f := .glo "BadPart") rfl), g_BadCourse := He.glo_ok X G (c.fact 48 (f := .glo "BadCourse") rfl), g_BadNumber := He.glo_ok X G (c.fact 49 (f := .glo "BadNumber") rfl), g_Book := He.glo_ok X G (c.fact 50 (f := .glo "Book") rfl), g_Account := He.glo_ok X G (c.fact 51 (f := .glo "Account") rfl) }
  have clBook := He.cls_ok (c.fact 84 (f := .cls "Book") rfl)
  have mkBook := He.mkr_ok (c.fact 85 (f := .mkr "Book") rfl)
  have insBook := insB_ok clBook (He.ba ex12).1
  have bcBook : BkC K (He.ga K "Book") := ⟨clBook, He.noat_ok (c.fact 86 (f := .noat "Book" "b_lengths") rfl), He.noat_ok (c.fact 87 (f := .noat "Book" "b_due") rfl), He.noat_ok (c.fact 88 (f := .noat "Book" "b_kinds") rfl), He.noat_ok (c.fact 89 (f := .noat "Book" "b_memory") rfl), He.noat_ok (c.fact 90 (f := .noat "Book" "b_begins") rfl), He.noat_ok (c.fact 91 (f := .noat "Book" "b_laid") rfl)⟩
  obtain ⟨bds, bvs, bBook'⟩ := FunD.binds1 (ps := ["self", "lengths", "due", "kinds", "memory", "begins", "laid"]) F_Book___init__ 7 3 (List.cons_ne_nil _ _) rfl (fun T' kV doc pm an cdv ct us its h1 h2 => match us, its, h1, h2 with | [_, _, _, _, _, _, _], [_, _, _], _, _ => ⟨_, rfl, rfl⟩)
  have bBook : Binds K fd_Book___init__ ["self", "lengths", "due", "kinds", "memory", "begins", "laid"] [] := by cases bvs; exact bBook'
  have clAccount := He.cls_ok (c.fact 92 (f := .cls "Account") rfl)
  have mkAccount := He.mkr_ok (c.fact 93 (f := .mkr "Account") rfl)
  have ac : AccC K (He.ga K "Account") := ⟨clAccount, He.noat_ok (c.fact 94 (f := .noat "Account" "a_book") rfl), He.noat_ok (c.fact 95 (f := .noat "Account" "a_left") rfl), He.noat_ok (c.fact 96 (f := .noat "Account" "a_kinds") rfl), He.noat_ok (c.fact 97 (f := .noat "Account" "a_owed") rfl), He.noat_ok (c.fact 98 (f := .noat "Account" "a_paid") rfl)⟩
  have bAccount : Binds K fd_Account___init__ ["self", "book"] [] := FunD.bindsN F_Account___init__ fun _ _ _ _ _ _ us hl => match us, hl with | [_, _], _ => rfl
  have b := FunD.bindsA (ps := ["_law_script"]) F_law fun _ _ _ _ _ _ us hl => match us, hl with | [_], _ => rfl
  refine ⟨fd_law, fun s v => b s [v] rfl, fun base inB nsB => ?_⟩
  have m_memory : Dpr P w K mg base CX0 1 (He.ga K "Book") "memory" (sp_g_memory (He.ga K "Book")) := ⟨⟨_, _, _, _, pr_Book_memory, ok_Book_memory T bcBook F_Book_memory, FunD.bindsN F_Book_memory fun _ _ _ _ _ _ us hl => match us, hl with | [_], _ => rfl⟩, clBook⟩
  have m_laid : Dpr P w K mg base CX0 1 (He.ga K "Book") "laid" (sp_g_laid (He.ga K "Book")) := ⟨⟨_, _, _, _, pr_Book_laid, ok_Book_laid T bcBook F_Book_laid, FunD.bindsN F_Book_laid fun _ _ _ _ _ _ us hl => match us, hl with | [_], _ => rfl⟩, clBook⟩
  have d__law_begun : Dn P w K mg base CX0 1 "_law_begun" ["_law_script"] (sp_begun K) := ⟨⟨_, ok__law_begun T F__law_begun, FunD.bindsN F__law_begun fun _ _ _ _ _ _ us hl => match us, hl with | [_], _ => rfl⟩, He.glo_ok X G (c.fact 0 (f := .glo "_law_begun") rfl), F__law_begun.kp⟩
  have d__law_mixed : Dn P w K mg base CX0 1 "_law_mixed" ["_law_state"] sp_mixed := ⟨⟨_, ok__law_mixed T F__law_mixed, FunD.bindsN F__law_mixed fun _ _ _ _ _ _ us hl => match us, hl with | [_], _ => rfl⟩, He.glo_ok X G (c.fact 1 (f := .glo "_law_mixed") rfl), F__law_mixed.kp⟩
  have d__law_take : Dn P w K mg base CX0 2 "_law_take" ["_law_state", "_law_size"] sp_take := ⟨⟨_, ok__law_take T F__law_take d__law_mixed, FunD.bindsN F__law_take fun _ _ _ _ _ _ us hl => match us, hl with | [_, _], _ => rfl⟩, He.glo_ok X G (c.fact 2 (f := .glo "_law_take") rfl), F__law_take.kp⟩
  have d__law_pick : Dn P w K mg base CX0 3 "_law_pick" ["_law_state", "_law_some_here"] sp_pick := ⟨⟨_, ok__law_pick T F__law_pick d__law_take, FunD.bindsN F__law_pick fun _ _ _ _ _ _ us hl => match us, hl with | [_, _], _ => rfl⟩, He.glo_ok X G (c.fact 3 (f := .glo "_law_pick") rfl), F__law_pick.kp⟩
  have d__law_pickS : Dn P w K mg base CX0 3 "_law_pick" ["_law_state", "_law_some_here"] sp_pickS := ⟨⟨_, ok__law_pickS T F__law_pick d__law_take, FunD.bindsN F__law_pick fun _ _ _ _ _ _ us hl => match us, hl with | [_, _], _ => rfl⟩, d__law_pick.gm, d__law_pick.kp⟩
  have d__law_names : Dn P w K mg base CX0 4 "_law_names" ["_law_state", "_law_many"] sp_names := ⟨⟨_, ok__law_names T F__law_names d__law_take d__law_pick d__law_pickS, FunD.bindsN F__law_names fun _ _ _ _ _ _ us hl => match us, hl with | [_, _], _ => rfl⟩, He.glo_ok X G (c.fact 4 (f := .glo "_law_names") rfl), F__law_names.kp⟩
  have d__law_some : Dn P w K mg base CX0 3 "_law_some" ["_law_state", "_law_some_here", "_law_many"] sp_some := ⟨⟨_, ok__law_some T F__law_some d__law_take, FunD.bindsN F__law_some fun _ _ _ _ _ _ us hl => match us, hl with | [_, _, _], _ => rfl⟩, He.glo_ok X G (c.fact 5 (f := .glo "_law_some") rfl), F__law_some.kp⟩
  have d_is_number : Dn P w K mg base CX0 1 "is_number" ["value"] (sp_is_number K) := ⟨⟨_, ok_is_number T F_is_number, FunD.bindsN F_is_number fun _ _ _ _ _ _ us hl => match us, hl with | [_], _ => rfl⟩, He.glo_ok X G (c.fact 6 (f := .glo "is_number") rfl), F_is_number.kp⟩
  have d_is_number_in : Dn P w K mg base CX0 2 "is_number_in" ["value", "least", "most"] (sp_is_number_in K) := ⟨⟨_, ok_is_number_in T F_is_number_in d_is_number, FunD.bindsN F_is_number_in fun _ _ _ _ _ _ us hl => match us, hl with | [_, _, _], _ => rfl⟩, He.glo_ok X G (c.fact 7 (f := .glo "is_number_in") rfl), F_is_number_in.kp⟩
  have d_is_list : Dn P w K mg base CX0 1 "is_list" ["value"] (sp_is_list K) := ⟨⟨_, ok_is_list T F_is_list, FunD.bindsN F_is_list fun _ _ _ _ _ _ us hl => match us, hl with | [_], _ => rfl⟩, He.glo_ok X G (c.fact 8 (f := .glo "is_list") rfl), F_is_list.kp⟩
  have d_is_name : Dn P w K mg base CX0 1 "is_name" ["value"] sp_is_name := ⟨⟨_, ok_is_name T F_is_name, FunD.bindsN F_is_name fun _ _ _ _ _ _ us hl => match us, hl with | [_], _ => rfl⟩, He.glo_ok X G (c.fact 9 (f := .glo "is_name") rfl), F_is_name.kp⟩
  have d_are_lengths : Dn P w K mg base CX0 3 "are_lengths" ["value"] (sp_are_lengths K) := ⟨⟨_, ok_are_lengths T F_are_lengths d_is_list d_is_number_in, FunD.bindsN F_are_lengths fun _ _ _ _ _ _ us hl => match us, hl with | [_], _ => rfl⟩, He.glo_ok X G (c.fact 10 (f := .glo "are_lengths") rfl), F_are_lengths.kp⟩
  have d_is_kind : Dn P w K mg base CX0 3 "is_kind" ["value"] sp_is_kind := ⟨⟨_, ok_is_kind T F_is_kind d_is_number_in, FunD.bindsN F_is_kind fun _ _ _ _ _ _ us hl => match us, hl with | [_], _ => rfl⟩, He.glo_ok X G (c.fact 11 (f := .glo "is_kind") rfl), F_is_kind.kp⟩
  have d_are_kinds : Dn P w K mg base CX0 4 "are_kinds" ["value"] sp_are_kinds := ⟨⟨_, ok_are_kinds T F_are_kinds d_is_name d_is_kind, FunD.bindsN F_are_kinds fun _ _ _ _ _ _ us hl => match us, hl with | [_], _ => rfl⟩, He.glo_ok X G (c.fact 12 (f := .glo "are_kinds") rfl), F_are_kinds.kp⟩
  have d_is_order : Dn P w K mg base CX0 2 "is_order" ["names", "value"] sp_is_order := ⟨⟨_, ok_is_order T F_is_order d_is_name, FunD.bindsN F_is_order fun _ _ _ _ _ _ us hl => match us, hl with | [_, _], _ => rfl⟩, He.glo_ok X G (c.fact 13 (f := .glo "is_order") rfl), F_is_order.kp⟩
  have mk_Book : Dc P w K mg base CX0 5 "Book" (sp_Book (He.ga K "Book")) := ⟨⟨_, _, _, _, [], [], mkBook, ok_Book_init T bcBook F_Book___init__ d_is_number_in d_are_lengths d_are_kinds d_is_order, bBook, .nil, fun vs H Q E z => imp_Book vs H Q E z⟩, T.g_Book⟩
  have mt_Book_parts_told : Dm P w K mg base CX0 1 (He.ga K "Book") "parts_told" (sp_parts_told (He.ga K "Book")) := ⟨⟨_, _, _, He.meth_ok (c.fact 99 (f := .meth "Book" "parts_told") rfl), ok_Book_parts_told T bcBook F_Book_parts_told, FunD.bindsN F_Book_parts_told fun _ _ _ _ _ _ us hl => match us, hl with | [_], _ => rfl⟩, clBook⟩
  have mt_Book_with_part : Dm P w K mg base CX0 7 (He.ga K "Book") "with_part" (sp_with_part (He.ga K "Book")) := ⟨⟨_, _, _, He.meth_ok (c.fact 100 (f := .meth "Book" "with_part") rfl), ok_Book_with_part T F_Book_with_part mt_Book_parts_told mk_Book, FunD.bindsN F_Book_with_part fun _ _ _ _ _ _ us hl => match us, hl with | [_, _, _], _ => rfl⟩, clBook⟩
  have d_need_book : Dn P w K mg base CX0 1 "need_book" ["value"] (sp_need_book (He.ga K "Book")) := ⟨⟨_, ok_need_book T insBook F_need_book, FunD.bindsN F_need_book fun _ _ _ _ _ _ us hl => match us, hl with | [_], _ => rfl⟩, He.glo_ok X G (c.fact 14 (f := .glo "need_book") rfl), F_need_book.kp⟩
  have mk_Account : Dc P w K mg base CX0 1 "Account" (sp_Account (He.ga K "Account") (He.ga K "Book")) := ⟨⟨_, _, _, _, [], [], mkAccount, ok_Account_init T ac F_Account___init__, bAccount, .nil, fun vs H Q E z => imp_Account vs H Q E z⟩, T.g_Account⟩
  have mt_Account_buy : Dm P w K mg base CX0 1 (He.ga K "Account") "buy" (sp_buy (He.ga K "Account") (He.ga K "Book")) := ⟨⟨_, _, _, He.meth_ok (c.fact 101 (f := .meth "Account" "buy") rfl), ok_Account_buy T ac F_Account_buy, FunD.bindsN F_Account_buy fun _ _ _ _ _ _ us hl => match us, hl with | [_, _, _, _], _ => rfl⟩, clAccount⟩
  have mt_Account_next_row : Dm P w K mg base CX0 3 (He.ga K "Account") "next_row" (sp_next_row (He.ga K "Account") (He.ga K "Book")) := ⟨⟨_, _, _, He.meth_ok (c.fact 102 (f := .meth "Account" "next_row") rfl), ok_Account_next_row T ac F_Account_next_row m_laid, FunD.bindsN F_Account_next_row fun _ _ _ _ _ _ us hl => match us, hl with | [_], _ => rfl⟩, clAccount⟩
  have mt_Account_pay : Dm P w K mg base CX0 4 (He.ga K "Account") "pay" (sp_pay (He.ga K "Account") (He.ga K "Book")) := ⟨⟨_, _, _, He.meth_ok (c.fact 103 (f := .meth "Account" "pay") rfl), ok_Account_pay T ac F_Account_pay mt_Account_next_row, FunD.bindsN F_Account_pay fun _ _ _ _ _ _ us hl => match us, hl with | [_, _, _], _ => rfl⟩, clAccount⟩
  have d_is_row : Dn P w K mg base CX0 2 "is_row" ["book", "value", "day", "owed"] (sp_is_row (He.ga K "Book")) := ⟨⟨_, ok_is_row T bcBook F_is_row d_is_number, FunD.bindsN F_is_row fun _ _ _ _ _ _ us hl => match us, hl with | [_, _, _, _], _ => rfl⟩, He.glo_ok X G (c.fact 15 (f := .glo "is_row") rfl), F_is_row.kp⟩
  have d_account_of : Dn P w K mg base CX0 6 "account_of" ["book", "course"] (sp_account_of K (He.ga K "Account") (He.ga K "Book")) := ⟨⟨_, ok_account_of T ac F_account_of d_is_number d_is_list d_is_row mk_Account mt_Account_buy mt_Account_pay, FunD.bindsN F_account_of fun _ _ _ _ _ _ us hl => match us, hl with | [_, _], _ => rfl⟩, He.glo_ok X G (c.fact 16 (f := .glo "account_of") rfl), F_account_of.kp⟩
  have d_need_account : Dn P w K mg base CX0 7 "need_account" ["book", "course"] (sp_account_of K (He.ga K "Account") (He.ga K "Book")) := ⟨⟨_, ok_need_account T F_need_account d_need_book d_account_of, FunD.bindsN F_need_account fun _ _ _ _ _ _ us hl => match us, hl with | [_, _], _ => rfl⟩, He.glo_ok X G (c.fact 17 (f := .glo "need_account") rfl), F_need_account.kp⟩
  have d_need_number : Dn P w K mg base CX0 3 "need_number" ["value"] sp_need_number := ⟨⟨_, ok_need_number T F_need_number d_is_number_in, FunD.bindsN F_need_number fun _ _ _ _ _ _ us hl => match us, hl with | [_], _ => rfl⟩, He.glo_ok X G (c.fact 18 (f := .glo "need_number") rfl), F_need_number.kp⟩
  have mt_Book_month_at : Dm P w K mg base CX0 1 (He.ga K "Book") "month_at" (sp_month_at (He.ga K "Book")) := ⟨⟨_, _, _, He.meth_ok (c.fact 104 (f := .meth "Book" "month_at") rfl), ok_Book_month_at T bcBook F_Book_month_at, FunD.bindsN F_Book_month_at fun _ _ _ _ _ _ us hl => match us, hl with | [_, _], _ => rfl⟩, clBook⟩
  have mt_Book_first_at : Dm P w K mg base CX0 1 (He.ga K "Book") "first_at" (sp_first_at (He.ga K "Book")) := ⟨⟨_, _, _, He.meth_ok (c.fact 105 (f := .meth "Book" "first_at") rfl), ok_Book_first_at T bcBook F_Book_first_at, FunD.bindsN F_Book_first_at fun _ _ _ _ _ _ us hl => match us, hl with | [_, _], _ => rfl⟩, clBook⟩
  have mt_Book_due_at : Dm P w K mg base CX0 2 (He.ga K "Book") "due_at" (sp_due_at (He.ga K "Book")) := ⟨⟨_, _, _, He.meth_ok (c.fact 106 (f := .meth "Book" "due_at") rfl), ok_Book_due_at T bcBook F_Book_due_at mt_Book_first_at, FunD.bindsN F_Book_due_at fun _ _ _ _ _ _ us hl => match us, hl with | [_, _], _ => rfl⟩, clBook⟩
  have d_bought_by : Dn P w K mg base CX0 2 "bought_by" ["course", "day"] (sp_bought_by K) := ⟨⟨_, ok_bought_by T F_bought_by , FunD.bindsN F_bought_by fun _ _ _ _ _ _ us hl => match us, hl with | [_, _], _ => rfl⟩, He.glo_ok X G (c.fact 19 (f := .glo "bought_by") rfl), F_bought_by.kp⟩
  have d_paid_by : Dn P w K mg base CX0 2 "paid_by" ["account", "day"] (sp_paid_by (He.ga K "Account") (He.ga K "Book")) := ⟨⟨_, ok_paid_by T ac F_paid_by, FunD.bindsN F_paid_by fun _ _ _ _ _ _ us hl => match us, hl with | [_, _], _ => rfl⟩, He.glo_ok X G (c.fact 20 (f := .glo "paid_by") rfl), F_paid_by.kp⟩
  have d_whole_at : Dn P w K mg base CX0 3 "whole_at" ["book", "course", "account", "month"] (sp_whole_at K (He.ga K "Account") (He.ga K "Book")) := ⟨⟨_, ok_whole_at T F_whole_at d_bought_by d_paid_by mt_Book_first_at mt_Book_due_at, FunD.bindsN F_whole_at fun _ _ _ _ _ _ us hl => match us, hl with | [_, _, _, _], _ => rfl⟩, He.glo_ok X G (c.fact 21 (f := .glo "whole_at") rfl), F_whole_at.kp⟩
  have d_spared_at : Dn P w K mg base CX0 4 "spared_at" ["book", "course", "account", "month"] (sp_spared_at K (He.ga K "Account") (He.ga K "Book")) := ⟨⟨_, ok_spared_at T F_spared_at m_memory d_whole_at, FunD.bindsN F_spared_at fun _ _ _ _ _ _ us hl => match us, hl with | [_, _, _, _], _ => rfl⟩, He.glo_ok X G (c.fact 22 (f := .glo "spared_at") rfl), F_spared_at.kp⟩
  have d_sum_of : Dn P w K mg base CX0 8 "sum_of" ["book", "course", "month"] (sp_sum_of K (He.ga K "Book")) := ⟨⟨_, ok_sum_of T F_sum_of d_need_account d_need_number mt_Book_first_at d_bought_by d_paid_by, FunD.bindsN F_sum_of fun _ _ _ _ _ _ us hl => match us, hl with | [_, _, _], _ => rfl⟩, He.glo_ok X G (c.fact 23 (f := .glo "sum_of") rfl), F_sum_of.kp⟩
  have d_is_whole : Dn P w K mg base CX0 8 "is_whole" ["book", "course", "month"] (sp_is_whole K (He.ga K "Book")) := ⟨⟨_, ok_is_whole T F_is_whole d_need_account d_need_number d_whole_at, FunD.bindsN F_is_whole fun _ _ _ _ _ _ us hl => match us, hl with | [_, _, _], _ => rfl⟩, He.glo_ok X G (c.fact 24 (f := .glo "is_whole") rfl), F_is_whole.kp⟩
  have d_is_spared : Dn P w K mg base CX0 8 "is_spared" ["book", "course", "month"] (sp_is_spared K (He.ga K "Book")) := ⟨⟨_, ok_is_spared T F_is_spared d_need_account d_need_number d_spared_at, FunD.bindsN F_is_spared fun _ _ _ _ _ _ us hl => match us, hl with | [_, _, _], _ => rfl⟩, He.glo_ok X G (c.fact 25 (f := .glo "is_spared") rfl), F_is_spared.kp⟩
  have d_word : Dn P w K mg base CX0 8 "word" ["book", "course"] (sp_word K (He.ga K "Book")) := ⟨⟨_, ok_word T F_word d_need_account mt_Book_month_at d_whole_at, FunD.bindsN F_word fun _ _ _ _ _ _ us hl => match us, hl with | [_, _], _ => rfl⟩, He.glo_ok X G (c.fact 26 (f := .glo "word") rfl), F_word.kp⟩
  have k_sum_of_month_course_book : Dq P w K mg base CX0 8 "sum_of" ["month", "course", "book"] rev3 (sp_sum_of K (He.ga K "Book")) := ⟨⟨_, ["book", "course", "month"], _, ok_sum_of T F_sum_of d_need_account d_need_number mt_Book_first_at d_bought_by d_paid_by, kbn_of F_sum_of rev3_rel fun _ _ _ _ _ _ ws hl => match ws, hl with | [_, _, _], _ => rfl⟩, He.glo_ok X G (c.fact 23 (f := .glo "sum_of") rfl), F_sum_of.kp⟩
  have k_is_whole_month_course_book : Dq P w K mg base CX0 8 "is_whole" ["month", "course", "book"] rev3 (sp_is_whole K (He.ga K "Book")) := ⟨⟨_, ["book", "course", "month"], _, ok_is_whole T F_is_whole d_need_account d_need_number d_whole_at, kbn_of F_is_whole rev3_rel fun _ _ _ _ _ _ ws hl => match ws, hl with | [_, _, _], _ => rfl⟩, He.glo_ok X G (c.fact 24 (f := .glo "is_whole") rfl), F_is_whole.kp⟩
  have k_is_spared_month_course_book : Dq P w K mg base CX0 8 "is_spared" ["month", "course", "book"] rev3 (sp_is_spared K (He.ga K "Book")) := ⟨⟨_, ["book", "course", "month"], _, ok_is_spared T F_is_spared d_need_account d_need_number d_spared_at, kbn_of F_is_spared rev3_rel fun _ _ _ _ _ _ ws hl => match ws, hl with | [_, _, _], _ => rfl⟩, He.glo_ok X G (c.fact 25 (f := .glo "is_spared") rfl), F_is_spared.kp⟩
  have k_word_course_book : Dq P w K mg base CX0 8 "word" ["course", "book"] swap2 (sp_word K (He.ga K "Book")) := ⟨⟨_, ["book", "course"], _, ok_word T F_word d_need_account mt_Book_month_at d_whole_at, kbn_of F_word swap2_rel fun _ _ _ _ _ _ ws hl => match ws, hl with | [_, _], _ => rfl⟩, He.glo_ok X G (c.fact 26 (f := .glo "word") rfl), F_word.kp⟩
  have d__law_model : Dn P w K mg base CX0 5 "_law_model" ["_law_state", "_law_many", "_law_is_laid"] sp_model := ⟨⟨_, ok__law_model T F__law_model d__law_take d__law_pick d__law_names d__law_some, FunD.bindsN F__law_model fun _ _ _ _ _ _ us hl => match us, hl with | [_, _, _], _ => rfl⟩, He.glo_ok X G (c.fact 27 (f := .glo "_law_model") rfl), F__law_model.kp⟩
  have d__law_made : Dn P w K mg base CX0 7 "_law_made" ["_law_model_here"] (sp_made (He.ga K "Book")) := ⟨⟨_, ok__law_made T F__law_made mk_Book, FunD.bindsN F__law_made fun _ _ _ _ _ _ us hl => match us, hl with | [_], _ => rfl⟩, He.glo_ok X G (c.fact 28 (f := .glo "_law_made") rfl), F__law_made.kp⟩
  have d__law_first : Dn P w K mg base CX0 1 "_law_first" ["_law_model_here", "_law_mon"] sp_lfirst := ⟨⟨_, ok__law_first T F__law_first , FunD.bindsN F__law_first fun _ _ _ _ _ _ us hl => match us, hl with | [_, _], _ => rfl⟩, He.glo_ok X G (c.fact 29 (f := .glo "_law_first") rfl), F__law_first.kp⟩
  have d__law_month : Dn P w K mg base CX0 2 "_law_month" ["_law_model_here", "_law_date"] sp_lmonth := ⟨⟨_, ok__law_month T F__law_month d__law_first, FunD.bindsN F__law_month fun _ _ _ _ _ _ us hl => match us, hl with | [_, _], _ => rfl⟩, He.glo_ok X G (c.fact 30 (f := .glo "_law_month") rfl), F__law_month.kp⟩
  have d__law_due : Dn P w K mg base CX0 2 "_law_due" ["_law_model_here", "_law_mon"] sp_ldue := ⟨⟨_, ok__law_due T F__law_due d__law_first, FunD.bindsN F__law_due fun _ _ _ _ _ _ us hl => match us, hl with | [_, _], _ => rfl⟩, He.glo_ok X G (c.fact 31 (f := .glo "_law_due") rfl), F__law_due.kp⟩
  have d__law_next_date : Dn P w K mg base CX0 4 "_law_next_date" ["_law_state", "_law_model_here", "_law_date"] sp_next_date := ⟨⟨_, ok__law_next_date T F__law_next_date d__law_take d__law_pick d__law_first d__law_month d__law_due, FunD.bindsN F__law_next_date fun _ _ _ _ _ _ us hl => match us, hl with | [_, _, _], _ => rfl⟩, He.glo_ok X G (c.fact 32 (f := .glo "_law_next_date") rfl), F__law_next_date.kp⟩
  have d__law_cents : Dn P w K mg base CX0 4 "_law_cents" ["_law_state", "_law_most"] sp_cents := ⟨⟨_, ok__law_cents T F__law_cents d__law_take d__law_pick, FunD.bindsN F__law_cents fun _ _ _ _ _ _ us hl => match us, hl with | [_, _], _ => rfl⟩, He.glo_ok X G (c.fact 33 (f := .glo "_law_cents") rfl), F__law_cents.kp⟩
  have d__law_rows : Dn P w K mg base CX0 5 "_law_rows" ["_law_state", "_law_model_here", "_law_many", "_law_most"] sp_rows := ⟨⟨_, ok__law_rows T F__law_rows d__law_take d__law_pick d__law_next_date d__law_cents, FunD.bindsN F__law_rows fun _ _ _ _ _ _ us hl => match us, hl with | [_, _, _, _], _ => rfl⟩, He.glo_ok X G (c.fact 34 (f := .glo "_law_rows") rfl), F__law_rows.kp⟩
  have d__law_path : Dn P w K mg base CX0 6 "_law_path" ["_law_state", "_law_model_here", "_law_many", "_law_most"] sp_path := ⟨⟨_, ok__law_path T F__law_path d__law_next_date d__law_rows, FunD.bindsN F__law_path fun _ _ _ _ _ _ us hl => match us, hl with | [_, _, _, _], _ => rfl⟩, He.glo_ok X G (c.fact 35 (f := .glo "_law_path") rfl), F__law_path.kp⟩
  have d__law_settled : Dn P w K mg base CX0 3 "_law_settled" ["_law_model_here", "_law_route"] (sp_settled K) := ⟨⟨_, ok__law_settled T F__law_settled , FunD.bindsN F__law_settled fun _ _ _ _ _ _ us hl => match us, hl with | [_, _], _ => rfl⟩, He.glo_ok X G (c.fact 36 (f := .glo "_law_settled") rfl), F__law_settled.kp⟩
  have d__law_bought : Dn P w K mg base CX0 2 "_law_bought" ["_law_route", "_law_date"] (sp_bought_by K) := ⟨⟨_, ok__law_bought T F__law_bought , FunD.bindsN F__law_bought fun _ _ _ _ _ _ us hl => match us, hl with | [_, _], _ => rfl⟩, He.glo_ok X G (c.fact 37 (f := .glo "_law_bought") rfl), F__law_bought.kp⟩
  have d__law_settled_by : Dn P w K mg base CX0 2 "_law_settled_by" ["_law_found", "_law_date"] sp_lsettled_by := ⟨⟨_, ok__law_settled_by T F__law_settled_by , FunD.bindsN F__law_settled_by fun _ _ _ _ _ _ us hl => match us, hl with | [_, _], _ => rfl⟩, He.glo_ok X G (c.fact 38 (f := .glo "_law_settled_by") rfl), F__law_settled_by.kp⟩
  have d__law_is_whole : Dn P w K mg base CX0 3 "_law_is_whole" ["_law_model_here", "_law_route", "_law_found", "_law_mon"] (sp_lis_whole K) := ⟨⟨_, ok__law_is_whole T F__law_is_whole d__law_bought d__law_settled_by d__law_first d__law_due, FunD.bindsN F__law_is_whole fun _ _ _ _ _ _ us hl => match us, hl with | [_, _, _, _], _ => rfl⟩, He.glo_ok X G (c.fact 39 (f := .glo "_law_is_whole") rfl), F__law_is_whole.kp⟩
  have d__law_is_spared : Dn P w K mg base CX0 4 "_law_is_spared" ["_law_model_here", "_law_route", "_law_found", "_law_mon"] (sp_lis_spared K) := ⟨⟨_, ok__law_is_spared T F__law_is_spared d__law_is_whole, FunD.bindsN F__law_is_spared fun _ _ _ _ _ _ us hl => match us, hl with | [_, _, _, _], _ => rfl⟩, He.glo_ok X G (c.fact 40 (f := .glo "_law_is_spared") rfl), F__law_is_spared.kp⟩
  have d__law_changed : Dn P w K mg base CX0 9 "_law_changed" ["_law_state", "_law_model_here", "_law_made_here"] (sp_changed (He.ga K "Book")) := ⟨⟨_, ok__law_changed T F__law_changed d__law_take d__law_pick d__law_some mt_Book_with_part, FunD.bindsN F__law_changed fun _ _ _ _ _ _ us hl => match us, hl with | [_, _, _], _ => rfl⟩, He.glo_ok X G (c.fact 41 (f := .glo "_law_changed") rfl), F__law_changed.kp⟩
  have d__law_due_sum : Dn P w K mg base CX0 3 "_law_due_sum" ["_law_model_here", "_law_route", "_law_found", "_law_mon"] (sp_ldue_sum K) := ⟨⟨_, ok__law_due_sum T F__law_due_sum d__law_bought d__law_settled_by d__law_first, FunD.bindsN F__law_due_sum fun _ _ _ _ _ _ us hl => match us, hl with | [_, _, _, _], _ => rfl⟩, He.glo_ok X G (c.fact 42 (f := .glo "_law_due_sum") rfl), F__law_due_sum.kp⟩
  have d__law_is_whole_by_days : Dn P w K mg base CX0 4 "_law_is_whole_by_days" ["_law_model_here", "_law_route", "_law_found", "_law_mon"] (sp_lby_days K) := ⟨⟨_, ok__law_is_whole_by_days T F__law_is_whole_by_days d__law_first d__law_due d__law_due_sum, FunD.bindsN F__law_is_whole_by_days fun _ _ _ _ _ _ us hl => match us, hl with | [_, _, _, _], _ => rfl⟩, He.glo_ok X G (c.fact 43 (f := .glo "_law_is_whole_by_days") rfl), F__law_is_whole_by_days.kp⟩
  exact ok_law T F_law d__law_begun d__law_take d__law_pick d__law_model d__law_made d__law_month d__law_path d__law_settled d__law_is_whole d__law_is_spared d__law_changed d__law_due_sum d__law_is_whole_by_days d_sum_of d_is_whole d_is_spared d_word k_sum_of_month_course_book k_is_whole_month_course_book k_is_spared_month_course_book k_word_course_book
end Wp
open PySem PySem.W PySem.Calls PyProof.Rows
set_option maxRecDepth 100000 in
set_option maxHeartbeats 0 in
theorem PySem.Challenge.cw_wholepaid_k10_statements_holds : PySem.Challenge.rw_wholepaid_k10_statements.Holds := by
  w_on; o_law
  refine HandSHeadRun.head_any (r := Wp.Rw) (q := view Wp.Rw.prog [71]) (H := Wp.hkL) (ob := Wp.obL) (M := 16000) (loose := Wp.looseL) (d := HandSHeadRun.topDef Wp.Rw.prog 71) (kwd := []) Wp.obL_eq
    (by kernel_rfl) (fun s => by kernel_rfl) Wp.runL (by kernel_rfl) (by kernel_rfl) (by kernel_rfl) (by rfl) (by first | assumption | decide +kernel) (by decide +kernel) ⟨rfl, rfl, rfl, rfl, rfl, by decide +kernel⟩ ?hw ?hc
  case hw => w_witness2
  case hc =>
    refine Wp.walk_ofG (l := PySem.Challenge.rw_wholepaid_k10_statements) (n := 63) (k := 10) (x := "_law_script") (CX := L2.CX0) rfl (by decide) (by kernel_rfl) ⟨rfl, by decide, by decide⟩ ?F (fun _ _ _ _ z => z)
    intro w mg fa h Y G hmg0
    obtain ⟨K, inK, cX⟩ := Y
    have hmg : mg ("law" : PySem.Str) = some (.ref fa) := by
      have e : (HandSHeadRun.topDef Wp.Rw.prog 71).name = ("law" : PySem.Str) := by kernel_rfl
      rw [← e]
      exact hmg0
    obtain ⟨fd, hb, hF⟩ := Wp.factsL (P := (PySem.Challenge.rw_wholepaid_k10_statements).prog) (w := w) inK G hmg cX.x.t.d cX.x.more cX.g
    exact ⟨K, fd, Wp.spLaw K, inK, hb, fun H a zs hl _ hS => ⟨a, zs, rfl, hS, hl, fun _ => rfl⟩, hF⟩
